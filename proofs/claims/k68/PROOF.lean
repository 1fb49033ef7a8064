import PyProof.Rows.All
import Wide.All
import OpenK.AllK
import Wide.FinOn
import HandS.ForMost
import HandS.Words
import HandS.WordsExc
import HandS.Defaults
import HandS.Exc
import HandS.Wide
import HandS.Walk
import HandS.TupAny
import HandS.TupMul
import HandS.Style
import HandS.Deep
import HandS.IsInst
import HandS.Conv
import HandS.DictComp
import HandS.Property
import HandS.TryMany
import HandS.TupLe
import HandS.Star
import HandS.List
import HandS.TupLen
import HandS.Small
import HandS.ExcInit
import HandS.ClsMeth
import HandS.ExcField
import HandS.Base
import HandS.Call
import HandS.Head0
import HandS.Head1
import HandS.Head2
import HandS.HeadEnd
import HandS.HeadHook1
import HandS.HeadHook2
import HandS.HeadWalk
import PySem.Challenge.RW_weighedtrees_k68_bounded_refused
set_option Elab.async false
set_option linter.all false
set_option maxRecDepth 100000
set_option maxHeartbeats 0
/-! The abstract machine: values, syntax, evaluation. -/
namespace AM
open PySem

/-- a value: tuples, frozen lists, dicts and objects by their content; ref: a cell of the machine's heap -/
inductive AV where
  | non | bl (b : Bool) | int (i : Int) | str (x : Str)
  | tup (xs : List AV) | lst (xs : List AV) | dct (t : Bool) (kvs : List (AV × AV))
  | obj (c : Nat) (fs : List (Nat × AV)) | ref (n : Nat) | scr (ns : List Int)
  /-- a tuple of the module -/
  | ktup (xs : List AV)
  deriving Inhabited
/-- what a slot of a frame holds -/
inductive Sl where
  | emp | val (v : AV) | own (v : AV) | exc (c : Nat) (fs : List (Nat × AV))
structure AX where
  c : Nat
  fs : List (Nat × AV)
abbrev AH := List AV
abbrev Fr := List Sl
inductive R (α : Type) where
  | ok (a : α) (h : AH) | err (x : AX) (h : AH) | stk
def R.bnd {α β : Type} (r : R α) (f : α → AH → R β) : R β := match r with
  | .ok a h => f a h
  | .err x h => .err x h
  | .stk => .stk

/-! ### equality of values as keys -/
mutual
def AV.same : AV → AV → Bool
  | .non, .non => true
  | .bl a, .bl b => a == b
  | .int a, .int b => decide (a = b)
  | .str a, .str b => decide (a = b)
  | .tup xs, .tup ys => AV.sames xs ys
  | _, _ => false
def AV.sames : List AV → List AV → Bool
  | [], [] => true
  | x :: xs, y :: ys => AV.same x y && AV.sames xs ys
  | _, _ => false
end
/-- a key of a dict: an int, a text; a tuple of such -/
def isK : AV → Bool
  | .int _ => true
  | .str _ => true
  | _ => false
def isKT : AV → Bool
  | .tup xs => xs.all isK
  | _ => false
def dGet : List (AV × AV) → AV → Option AV
  | [], _ => none
  | (k, v) :: r, q => if AV.same k q then some v else dGet r q
def dPut (kvs : List (AV × AV)) (q v : AV) : List (AV × AV) :=
  if (kvs.any fun p => AV.same p.1 q) = true then kvs.map (fun p => if AV.same p.1 q = true then (p.1, v) else p) else kvs ++ [(q, v)]
def fGet : List (Nat × AV) → Nat → Option AV
  | [], _ => none
  | (k, v) :: r, q => if k = q then some v else fGet r q
def fPut : List (Nat × AV) → Nat → AV → List (Nat × AV)
  | [], q, v => [(q, v)]
  | (k, u) :: r, q, v => if k = q then (q, v) :: r else (k, u) :: fPut r q v

/-! ### data -/
mutual
def dat : AV → Option PyData
  | .non => some .none
  | .bl b => some (.bool b)
  | .int i => some (.int i)
  | .str x => some (.str x)
  | .tup xs => (dats xs).map .tuple
  | .lst xs => (dats xs).map .list
  | .scr ns => some (.list (ns.map .int))
  | .ktup xs => (dats xs).map .tuple
  | _ => none
def dats : List AV → Option (List PyData)
  | [] => some []
  | x :: xs => match dat x, dats xs with
    | some d, some ds => some (d :: ds)
    | _, _ => none
end

/-! ### syntax -/
inductive BOp where | add | sub | mul | fdiv | mod | pow
  deriving DecidableEq
inductive COp where | eq | ne | lt | le | gt | ge | is_ | isnot | in_ | notin
  deriving DecidableEq
inductive Ty where | int | bool | str | tuple | list | dict | cls (c : Nat)
  deriving DecidableEq
inductive BI where | len | int | str | max | min | all | sum | tuple | list | dict | repr | sorted
  deriving DecidableEq
mutual
inductive Ex where
  | bad
  | var (i : Nat) | peek (i : Nat)
  | con (v : AV)
  | glo (j : Nat)
  | bop (o : BOp) (a b : Ex) | neg (a : Ex)
  | cmp (o : COp) (a b : Ex) | chain (o p : COp) (a b c : Ex)
  | and_ (a b : Ex) | or_ (a b : Ex) | not_ (a : Ex)
  | ite (c a b : Ex)
  | tup (es : List Ex) | lst (es : List Ex) | star (e : Ex)
  | lstR (es : List Ex)
  | dsp (kvs : List Ex) | dnew (t : Bool)
  | sub (a i : Ex) | slc (a lo hi : Ex) | rev (a : Ex)
  | attr (a : Ex) (f : Nat) | prop (a : Ex) (f : Nat)
  | call (f : Nat) (es : List Ex) | mk (c : Nat) (es : List Ex) | meth (a : Ex) (m : Nat) (es : List Ex)
  | bi (b : BI) (es : List Ex)
  | isi (a : Ex) (ts : List Ty)
  | get (a k d : Ex)
  | lc (vs : List Nat) (e : Ex) (g : Tg) (i : Ex) (c : Ex)
  | lc2 (vs ws : List Nat) (e : Ex) (g : Tg) (i : Ex) (g2 : Tg) (i2 : Ex)
  | dc (vs : List Nat) (k v : Ex) (g : Tg) (i : Ex) (c : Ex)
  | rng (a b : Ex) | enu (a : Ex) | seq (a : Ex)
inductive Tg where
  | bad
  | name (i : Nat) (m : Bool)
  | sub (b k : Ex) | attr (b : Ex) (f : Nat)
  | tup (ts : List Tg)
end
inductive St where
  | bad
  | fz (is : List Nat) (s : St)
  | expr (e : Ex) | asg (t : Tg) (e : Ex) | par (ts : List Tg) (es : List Ex)
  | aug (i : Nat) (o : BOp) (e : Ex)
  | app (b : Ex) (e : Ex)
  | ret (e : Ex) | retN
  | ife (c : Ex) (a b : List St) | whl (c : Ex) (b : List St) | for_ (t : Tg) (i : Ex) (b : List St)
  | brk | cnt | pass
  | raise (c f : Nat) (e : Ex)
  | try_ (b : List St) (hs : List (Nat × Nat × List St))

/-! ### the program -/
structure FD where
  np : Nat
  ns : Nat
  body : List St
structure CD where
  isRef : Bool
  init : Nat
  meths : List (Nat × Nat)
  props : List (Nat × Nat)
structure Prg where
  fns : List FD
  cls : List CD
  cons : List AV
  nex : Nat

/-! ### values under operators -/
def szOk (n : Nat) : Bool := decide (n ≤ 10000000)
def mulOk (i j : Int) : Bool := decide (i.natAbs.log2 + j.natAbs.log2 < 100000000)
def addV : AV → AV → Option AV
  | .int i, .int j => some (.int (i + j))
  | .str x, .str y => if szOk (x.length + y.length) = true then some (.str (x ++ y)) else none
  | .tup xs, .tup ys => if szOk (xs.length + ys.length) = true then some (.tup (xs ++ ys)) else none
  | .lst xs, .lst ys => if szOk (xs.length + ys.length) = true then some (.lst (xs ++ ys)) else none
  | _, _ => none
def subV : AV → AV → Option AV
  | .int i, .int j => some (.int (i - j))
  | _, _ => none
def repOk (n : Nat) (k : Int) : Bool := szOk (n * k.toNat) && (decide (-(2 ^ 63) ≤ k) && decide (k < 2 ^ 63))
def mulV : AV → AV → Option AV
  | .int i, .int j => if mulOk i j = true then some (.int (i * j)) else none
  | .lst xs, .int k => if repOk xs.length k = true then some (.lst (List.replicate k.toNat xs).flatten) else none
  | .tup xs, .int k => if repOk xs.length k = true then some (.tup (List.replicate k.toNat xs).flatten) else none
  | _, _ => none
def divOk (i j : Int) : Bool := decide (0 < j) && !Builtin.divisionGoesByPylong i j
def fdvV : AV → AV → Option AV
  | .int i, .int j => if divOk i j = true then some (.int (i / j)) else none
  | _, _ => none
def modV : AV → AV → Option AV
  | .int i, .int j => if decide (0 < j) = true then some (.int (i % j)) else none
  | _, _ => none
def powOk (i j : Int) : Bool := decide (0 ≤ j) && (decide (j ≤ 1000) && decide (i.natAbs < 2 ^ 64))
def powV : AV → AV → Option AV
  | .int i, .int j => if powOk i j = true then some (.int (i ^ j.toNat)) else none
  | _, _ => none
def bopV : BOp → AV → AV → Option AV
  | .add => addV
  | .sub => subV
  | .mul => mulV
  | .fdiv => fdvV
  | .mod => modV
  | .pow => powV
/-- n += e -/
def augV : BOp → AV → AV → Option AV
  | .add, .int i, .int j => some (.int (i + j))
  | .sub, .int i, .int j => some (.int (i - j))
  | _, _, _ => none
def eqAV (a b : AV) : Option Bool := match dat a, dat b with
  | some d, some e => if SeqAt.shaped d = true ∧ SeqAt.shaped e = true then some (PyData.eqv d e) else none
  | _, _ => none
def isFlat : AV → Bool
  | .non => true
  | .bl _ => true
  | .int _ => true
  | .str _ => true
  | _ => false
def toV : AV → L2.V
  | .bl b => .bl b
  | .int i => .int i
  | .str x => .str x
  | _ => .non
def keyOk (t : Bool) (k : AV) : Bool := match t with
  | true => isKT k
  | false => isK k
def inAV : AV → AV → Option Bool
  | x, .lst ys => (match dat x, dats ys with
    | some d, some ds => if SeqAt.shaped d = true ∧ SeqAt.shaped (.list ds) = true then some (ds.any fun z => PyData.eqv z d) else none
    | _, _ => none)
  | x, .tup ys => if isFlat x = true ∧ ys.all isFlat = true then some (L2.inV (toV x) (ys.map toV)) else none
  | x, .ktup ys => if isFlat x = true ∧ ys.all isFlat = true then some (L2.inV (toV x) (ys.map toV)) else none
  | x, .dct t kvs => if keyOk t x = true then some (dGet kvs x).isSome else none
  | .str ⟨⟨[c]⟩⟩, .str y => some (decide (c ∈ y.cps.toList))
  | _, _ => none
def isNon : AV → Bool
  | .non => true
  | _ => false
def isAV : AV → AV → Option Bool
  | a, .non => some (isNon a)
  | .bl a, .bl b => some (decide (a = b))
  | _, _ => none
def cmpV : COp → AV → AV → Option Bool
  | .eq, a, b => eqAV a b
  | .ne, a, b => (eqAV a b).map (!·)
  | .lt, .int i, .int j => some (decide (i < j))
  | .le, .int i, .int j => some (decide (i ≤ j))
  | .gt, .int i, .int j => some (decide (j < i))
  | .ge, .int i, .int j => some (decide (j ≤ i))
  | .is_, a, b => isAV a b
  | .isnot, a, b => (isAV a b).map (!·)
  | .in_, a, b => inAV a b
  | .notin, a, b => (inAV a b).map (!·)
  | _, _, _ => none
def tyAV (h : AH) : AV → Ty → Option Bool
  | .non, _ => some false
  | .bl _, t => some (t = .bool || t = .int)
  | .int _, t => some (t = .int)
  | .str _, t => some (t = .str)
  | .tup _, t => some (t = .tuple)
  | .lst _, t => some (t = .list)
  | .dct _ _, t => some (t = .dict)
  | .scr _, t => some (t = .list)
  | .ktup _, t => some (t = .tuple)
  | .obj c _, t => some (t = .cls c)
  | .ref n, t => (match h[n]? with
    | some (.obj c _) => some (t = .cls c)
    | some (.lst _) => some (t = .list)
    | _ => none)
def tysAV (h : AH) (v : AV) : List Ty → Option Bool
  | [] => some false
  | t :: ts => match tyAV h v t, tysAV h v ts with
    | some a, some b => some (a || b)
    | _, _ => none
def subAV : AV → AV → Option AV
  | .tup xs, .int i => L2.atI xs i
  | .lst xs, .int i => L2.atI xs i
  | .scr ns, .int i => (L2.atI ns i).map .int
  | .ktup xs, .int i => L2.atI xs i
  | .str x, .int i => if szOk x.length = true then (L2.atI x.cps.toList i).map fun c => .str ⟨#[c]⟩ else none
  | .dct t kvs, k => if keyOk t k = true then dGet kvs k else none
  | _, _ => none
def cutA {α : Type} (xs : List α) (lo hi : Option Int) : List α := (xs.drop (HT.sIx xs.length 0 lo)).take (HT.sIx xs.length xs.length hi - HT.sIx xs.length 0 lo)
def optI : AV → Option (Option Int)
  | .non => some none
  | .int i => some (some i)
  | _ => none
def slcAV (x lo hi : AV) : Option AV := match optI lo, optI hi with
  | some l, some u => (match x with
    | .tup xs => some (.tup (cutA xs l u))
    | .lst xs => some (.lst (cutA xs l u))
    | _ => none)
  | _, _ => none
def revAV : AV → Option AV
  | .tup xs => some (.tup xs.reverse)
  | .lst xs => some (.lst xs.reverse)
  | _ => none
def itmAV : AV → Option (List AV)
  | .lst xs => some xs
  | .tup xs => some xs
  | .dct _ _ => none
  | .str x => some (x.cps.toList.map fun c => .str ⟨#[c]⟩)
  | _ => none
def allBl : List AV → Option Bool
  | [] => some true
  | .bl b :: r => (allBl r).map (b && ·)
  | _ => none
def sumInt : List AV → Option Int
  | [] => some 0
  | .int i :: r => (sumInt r).map (i + ·)
  | _ => none
def pairsOf : List AV → Option (List (AV × AV))
  | [] => some []
  | .tup [k, v] :: r => (pairsOf r).map ((k, v) :: ·)
  | _ => none
def biV : BI → List AV → Option AV
  | .len, [.lst xs] => some (.int xs.length)
  | .len, [.tup xs] => some (.int xs.length)
  | .len, [.ktup xs] => some (.int xs.length)
  | .len, [.scr xs] => some (.int xs.length)
  | .len, [.str x] => if szOk x.length = true then some (.int x.length) else none
  | .len, [.dct _ kvs] => some (.int kvs.length)
  | .int, [.int i] => some (.int i)
  | .int, [.bl b] => some (.int (if b then 1 else 0))
  | .str, [.int i] => if i.natAbs.log2 < 1920 then some (.str (toString i)) else none
  | .max, [.int i, .int j] => some (.int (if j > i then j else i))
  | .min, [.int i, .int j] => some (.int (if j < i then j else i))
  | .all, [.lst xs] => (allBl xs).map .bl
  | .sum, [.lst xs] => (sumInt xs).map .int
  | .tuple, [.lst xs] => some (.tup xs)
  | .tuple, [.tup xs] => some (.tup xs)
  | .list, [.lst xs] => some (.lst xs)
  | .list, [.tup xs] => some (.lst xs)
  | .dict, [.dct t kvs] => some (.dct t kvs)
  | .repr, [v] => (match dat v with
    | some d => if PyData.showable d = true ∧ szOk d.shown.length = true ∧ decide (d.depth ≤ 64) = true then some (.str d.shown) else none
    | none => none)
  | _, _ => none
def opt {α : Type} (o : Option α) (h : AH) : R α := match o with
  | some a => .ok a h
  | none => .stk
/-- nothing may be raised here -/
def R.calm {α : Type} : R α → R α
  | .err _ _ => .stk
  | r => r
def lcLoop (f : AV → AH → R (Option AV)) : List AV → AH → R (List AV)
  | [], h => .ok [] h
  | x :: xs, h => (f x h).bnd fun o h => (lcLoop f xs h).bnd fun r h => .ok (match o with
    | some v => v :: r
    | none => r) h
def lcLoop2 (f : AV → AH → R (List AV)) : List AV → AH → R (List AV)
  | [], h => .ok [] h
  | x :: xs, h => (f x h).bnd fun o h => (lcLoop2 f xs h).bnd fun r h => .ok (o ++ r) h
def dcLoop (f : AV → AH → R (Option (AV × AV))) : List AV → List (AV × AV) → AH → R (List (AV × AV))
  | [], acc, h => .ok acc h
  | x :: xs, acc, h => (f x h).bnd fun o h => dcLoop f xs (match o with
    | some p => dPut acc p.1 p.2
    | none => acc) h
mutual
def bindT : Tg → AV → Fr → Option Fr
  | .name i _, v, σ => some (σ.set i (.val v))
  | .tup ts, .tup vs, σ => bindTs ts vs σ
  | _, _, _ => none
def bindTs : List Tg → List AV → Fr → Option Fr
  | [], [], σ => some σ
  | t :: ts, v :: vs, σ => (bindT t v σ).bind fun σ => bindTs ts vs σ
  | _, _, _ => none
end
mutual
def slotsT : Tg → List Nat
  | .name i _ => [i]
  | .tup ts => slotsTs ts
  | _ => []
def slotsTs : List Tg → List Nat
  | [] => []
  | t :: ts => slotsT t ++ slotsTs ts
end
def wipeA (σ : Fr) : List Nat → Fr
  | [] => σ
  | i :: r => (wipeA σ r).set i .emp
def asBl : AV → Option Bool
  | .bl b => some b
  | _ => none
def rngL (a : Int) (n : Nat) : List AV := (List.range n).map fun i => .int (a + (i : Nat))
def enuL (xs : List AV) : List AV := xs.zipIdx.map fun p => .tup [.int (p.2 : Nat), p.1]
def smallI (i : Int) : Bool := decide (-(2 ^ 62) ≤ i ∧ i < 2 ^ 62)
/-- the object that a value is, or stands for -/
def objOf (h : AH) : AV → Option (Nat × List (Nat × AV))
  | .obj c fs => some (c, fs)
  | .ref n => (match h[n]? with
    | some (.obj c fs) => some (c, fs)
    | _ => none)
  | _ => none
def deref (h : AH) : AV → AV
  | .ref n => (match h[n]? with
    | some (.lst xs) => .lst xs
    | _ => .ref n)
  | v => v
def excOf (σ : Fr) : Ex → Option (List (Nat × AV))
  | .peek i => (match σ[i]? with
    | some (.exc _ fs) => some fs
    | _ => none)
  | _ => none

def isiOk (n : Nat) (h : AH) (x : AV) : Bool := match objOf h x with
  | some o => decide (o.1 < n)
  | none => true
section
variable (P : Prg) (cal : Nat → List AV → AH → R AV) (ini : Nat → Nat → List AV → AH → R AV)
mutual
def evE : Ex → Fr → AH → R AV
  | .bad, _, _ => .stk
  | .var i, σ, h => (match σ[i]? with
    | some (.val v) => .ok v h
    | _ => .stk)
  | .peek i, σ, h => (match σ[i]? with
    | some (.val v) => .ok v h
    | some (.own v) => .ok v h
    | _ => .stk)
  | .con v, _, h => .ok v h
  | .glo j, _, h => opt P.cons[j]? h
  | .bop o a b, σ, h => (evE a σ h).bnd fun x h => (evE b σ h).bnd fun y h => opt (bopV o x y) h
  | .neg a, σ, h => (evE a σ h).bnd fun x h => (match x with
    | .int i => .ok (.int (-i)) h
    | _ => .stk)
  | .cmp o a b, σ, h => (evE a σ h).bnd fun x h => (evE b σ h).bnd fun y h => (opt (cmpV o x y) h).bnd fun c h => .ok (.bl c) h
  | .chain o p a b c, σ, h => (evE a σ h).bnd fun x h => (evE b σ h).bnd fun y h => (opt (cmpV o x y) h).bnd fun k h =>
    if k = true then (evE c σ h).bnd fun z h => (opt (cmpV p y z) h).bnd fun k h => .ok (.bl k) h else .ok (.bl false) h
  | .and_ a b, σ, h => (evE a σ h).bnd fun x h => (opt (asBl x) h).bnd fun c h => if c = true then evE b σ h else .ok (.bl false) h
  | .or_ a b, σ, h => (evE a σ h).bnd fun x h => (opt (asBl x) h).bnd fun c h => if c = true then .ok (.bl true) h else evE b σ h
  | .not_ a, σ, h => (evE a σ h).bnd fun x h => (opt (asBl x) h).bnd fun c h => .ok (.bl (!c)) h
  | .ite c a b, σ, h => (evE c σ h).bnd fun x h => (opt (asBl x) h).bnd fun c h => if c = true then evE a σ h else evE b σ h
  | .tup es, σ, h => (evL es σ h).bnd fun vs h => if szOk vs.length = true then .ok (.tup vs) h else .stk
  | .lst es, σ, h => (evL es σ h).bnd fun vs h => if szOk vs.length = true then .ok (.lst vs) h else .stk
  | .star _, _, _ => .stk
  | .lstR es, σ, h => (evL es σ h).bnd fun vs h => if szOk vs.length = true then .ok (.ref h.length) (h ++ [.lst vs]) else .stk
  | .dsp kvs, σ, h => (evD kvs σ h).bnd fun kvs h => if kvs.all (fun p => isK p.1) = true ∧ decide (kvs.length ≤ 15) = true then .ok (.dct false (kvs.foldl (fun d p => dPut d p.1 p.2) [])) h else .stk
  | .dnew t, _, h => .ok (.dct t []) h
  | .sub a i, σ, h => (evE a σ h).bnd fun x h => (evE i σ h).bnd fun y h => opt (subAV (deref h x) y) h
  | .slc a lo hi, σ, h => (evE a σ h).bnd fun x h => (evE lo σ h).bnd fun l h => (evE hi σ h).bnd fun u h => opt (slcAV x l u) h
  | .rev a, σ, h => (evE a σ h).bnd fun x h => opt (revAV x) h
  | .attr a f, σ, h => (match excOf σ a with
    | some fs => opt (fGet fs f) h
    | none => (evE a σ h).bnd fun x h => (opt (objOf h x) h).bnd fun o h => if o.1 < P.cls.length then opt (fGet o.2 f) h else .stk)
  | .prop a f, σ, h => (evE a σ h).bnd fun x h => (opt (objOf h x) h).bnd fun o h => (opt ((P.cls[o.1]?.map (·.props)).bind fun ps => ps.lookup f) h).bnd fun g h => cal g [x] h
  | .call f es, σ, h => (evL es σ h).bnd fun vs h => cal f vs h
  | .mk c es, σ, h => (evL es σ h).bnd fun vs h => (match P.cls[c]? with
    | some C => (match C.isRef with
      | true => (cal C.init (.ref h.length :: vs) (h ++ [.obj c []])).bnd fun r h' => (match r with
        | .non => .ok (.ref h.length) h'
        | _ => .stk)
      | false => ini c C.init vs h)
    | none => .stk)
  | .meth a m es, σ, h => (evE a σ h).bnd fun x h => (opt (objOf h x) h).bnd fun o h => (opt ((P.cls[o.1]?.map (·.meths)).bind fun ms => ms.lookup m) h).bnd fun g h => (evL es σ h).bnd fun vs h => cal g (x :: vs) h
  | .bi b es, σ, h => (evL es σ h).bnd fun vs h => opt (biV b vs) h
  | .isi a ts, σ, h => (evE a σ h).bnd fun x h => if isiOk P.cls.length h x = true then opt ((tysAV h x ts).map .bl) h else .stk
  | .get a k d, σ, h => (evE a σ h).bnd fun x h => (evE k σ h).bnd fun y h => (evE d σ h).bnd fun z h => (match x with
    | .dct t kvs => if keyOk t y = true then .ok ((dGet kvs y).getD z) h else .stk
    | _ => .stk)
  | .lc ws e g i c, σ, h => ((evI i σ h).bnd fun xs h => lcLoop (fun x h => match bindT g x (wipeA σ ws) with
      | some σ' => (evE c σ' h).bnd fun b h => (opt (asBl b) h).bnd fun b h => if b = true then (evE e σ' h).bnd fun v h => .ok (some v) h else .ok none h
      | none => .stk) xs h).calm.bnd fun vs h => if szOk vs.length = true then .ok (.lst vs) h else .stk
  | .lc2 ws ws2 e g i g2 i2, σ, h => ((evI i σ h).bnd fun xs h => lcLoop2 (fun x h => match bindT g x (wipeA σ ws) with
      | some σ' => (evI i2 σ' h).bnd fun ys h => lcLoop (fun y h => match bindT g2 y σ' with
        | some σ2 => (evE e σ2 h).bnd fun v h => .ok (some v) h
        | none => .stk) ys h
      | none => .stk) xs h).calm.bnd fun vs h => if szOk vs.length = true then .ok (.lst vs) h else .stk
  | .dc ws k v g i c, σ, h => ((evI i σ h).bnd fun xs h => dcLoop (fun x h => match bindT g x (wipeA σ ws) with
      | some σ' => (evE c σ' h).bnd fun b h => (opt (asBl b) h).bnd fun b h => if b = true then (evE k σ' h).bnd fun kv h => (evE v σ' h).bnd fun vv h => if isKT kv = true then .ok (some (kv, vv)) h else .stk else .ok none h
      | none => .stk) xs [] h).calm.bnd fun kvs h => if szOk kvs.length = true then .ok (.dct true kvs) h else .stk
  | .rng _ _, _, _ => .stk
  | .enu _, _, _ => .stk
  | .seq _, _, _ => .stk
def evL : List Ex → Fr → AH → R (List AV)
  | [], _, h => .ok [] h
  | .star e :: r, σ, h => (evE e σ h).bnd fun v h => (match v with
    | .tup xs => (evL r σ h).bnd fun vs h => .ok (xs ++ vs) h
    | .lst xs => (evL r σ h).bnd fun vs h => .ok (xs ++ vs) h
    | _ => .stk)
  | e :: r, σ, h => (evE e σ h).bnd fun v h => (evL r σ h).bnd fun vs h => .ok (v :: vs) h
def evD : List Ex → Fr → AH → R (List (AV × AV))
  | [], _, h => .ok [] h
  | k :: v :: r, σ, h => (evE k σ h).bnd fun a h => (evE v σ h).bnd fun b h => (evD r σ h).bnd fun r h => .ok ((a, b) :: r) h
  | _, _, _ => .stk
def evI : Ex → Fr → AH → R (List AV)
  | .rng a b, σ, h => (evE a σ h).bnd fun x h => (evE b σ h).bnd fun y h => (match x, y with
    | .int i, .int j => if smallI i = true ∧ smallI j = true then .ok (rngL i (j - i).toNat) h else .stk
    | _, _ => .stk)
  | .enu a, σ, h => (evE a σ h).bnd fun x h => (match x with
    | .tup xs => .ok (enuL xs) h
    | .lst xs => .ok (enuL xs) h
    | _ => .stk)
  | .seq e, σ, h => (evE e σ h).bnd fun x h => opt (itmAV x) h
  | _, _, _ => .stk
end

/-! ### statements -/
inductive Out where
  | nx (σ : Fr) (h : AH) | bk (σ : Fr) (h : AH) | ct (σ : Fr) (h : AH)
  | rt (v : AV) (σ : Fr) (h : AH) | er (x : AX) (σ : Fr) (h : AH) | stk
def R.out {α : Type} (r : R α) (σ : Fr) (f : α → AH → Out) : Out := match r with
  | .ok a h => f a h
  | .err x h => .er x σ h
  | .stk => .stk
def Out.then_ (o : Out) (f : Fr → AH → Out) : Out := match o with
  | .nx σ h => f σ h
  | o => o
def fzS (σ : Fr) (i : Nat) : Fr := match σ[i]? with
  | some (.own v) => σ.set i (.val v)
  | _ => σ
/-- a new list, dict, object: its own -/
def isFresh : Ex → Bool
  | .lst _ => true
  | .dsp _ => true
  | .dnew _ => true
  | .lc _ _ _ _ _ => true
  | .lc2 _ _ _ _ _ _ _ => true
  | .dc _ _ _ _ _ _ => true
  | .mk _ _ => true
  | .bi .list _ => true
  | .bi .dict _ => true
  | _ => false
def isCont : AV → Bool
  | .lst _ => true
  | .dct _ _ => true
  | .obj _ _ => true
  | _ => false
def putS (σ : Fr) (i : Nat) (m fr : Bool) (v : AV) : Fr := σ.set i (if m = true ∧ fr = true ∧ isCont v = true then .own v else .val v)
/-- a[k] = v of what a is -/
def stSub (a k v : AV) : Option AV := match a, k with
  | .lst xs, .int i => (L2.ixN xs.length i).map fun j => .lst (xs.set j v)
  | .dct t kvs, k => if keyOk t k = true ∧ szOk kvs.length = true then some (.dct t (dPut kvs k v)) else none
  | _, _ => none
def stAttr (n : Nat) (a : AV) (f : Nat) (v : AV) : Option AV := match a with
  | .obj c fs => if decide (c < n ∧ fs.length < 900) = true then some (.obj c (fPut fs f v)) else none
  | _ => none
/-- where a store goes: an own slot, or a cell -/
inductive Pl where | slot (i : Nat) | cell (n : Nat)
def place (b : Ex) (σ : Fr) (h : AH) : R Pl := match b with
  | .peek i => (match σ[i]? with
    | some (.own _) => .ok (.slot i) h
    | some (.val (.ref n)) => .ok (.cell n) h
    | _ => .stk)
  | _ => .stk
def Pl.put (p : Pl) (f : AV → Option AV) (σ : Fr) (h : AH) : Out := match p with
  | .slot i => (match σ[i]? with
    | some (.own v) => (match f v with
      | some v' => .nx (σ.set i (.own v')) h
      | none => .stk)
    | _ => .stk)
  | .cell n => (match h[n]? with
    | some v => (match f v with
      | some v' => .nx σ (h.set n v')
      | none => .stk)
    | none => .stk)
def Pl.isL (p : Pl) (σ : Fr) (h : AH) : Bool := match p with
  | .slot i => (match σ[i]? with
    | some (.own (.lst _)) => true
    | _ => false)
  | .cell n => (match h[n]? with
    | some (.lst _) => true
    | _ => false)
def stApp (y : AV) : AV → Option AV
  | .lst xs => if szOk xs.length = true then some (.lst (xs ++ [y])) else none
  | _ => none
mutual
def stT : Tg → Bool → AV → Fr → AH → Out
  | .bad, _, _, _, _ => .stk
  | .name i m, fr, v, σ, h => .nx (putS σ i m fr v) h
  | .sub b k, _, v, σ, h => (place b σ h).out σ fun p h => (evE P cal ini k σ h).out σ fun k h => p.put (fun a => stSub a k v) σ h
  | .attr b f, _, v, σ, h => (place b σ h).out σ fun p h => p.put (fun a => stAttr P.cls.length a f v) σ h
  | .tup ts, _, v, σ, h => (match v with
    | .tup vs => if vs.length = ts.length then stTs ts vs σ h else .stk
    | _ => .stk)
def stTs : List Tg → List AV → Fr → AH → Out
  | [], [], σ, h => .nx σ h
  | t :: ts, v :: vs, σ, h => (stT t false v σ h).then_ fun σ h => stTs ts vs σ h
  | _, _, _, _ => .stk
end
def stPar : List Tg → List (AV × Bool) → Fr → AH → Out
  | [], [], σ, h => .nx σ h
  | t :: ts, p :: ps, σ, h => (stT P cal ini t p.2 p.1 σ h).then_ fun σ h => stPar ts ps σ h
  | _, _, _, _ => .stk
def forL (f : AV → Fr → AH → Out) : List AV → Fr → AH → Out
  | [], σ, h => .nx σ h
  | x :: xs, σ, h => (match f x σ h with
    | .nx σ h => forL f xs σ h
    | .ct σ h => forL f xs σ h
    | .bk σ h => .nx σ h
    | o => o)
def whlL (c : Fr → AH → R Bool) (b : Fr → AH → Out) : Nat → Fr → AH → Out
  | 0, _, _ => .stk
  | n + 1, σ, h => (c σ h).out σ fun k h => if k = true then (match b σ h with
    | .nx σ h => whlL c b n σ h
    | .ct σ h => whlL c b n σ h
    | .bk σ h => .nx σ h
    | o => o) else .nx σ h
def noExc (σ : Fr) : Bool := σ.all fun z => match z with
  | .exc _ _ => false
  | _ => true
/-- the most turns of a while -/
def fuel : Nat := 10000000
mutual
def exS : St → Fr → AH → Out
  | .bad, _, _ => .stk
  | .fz is s, σ, h => exS s (is.foldl fzS σ) h
  | .expr e, σ, h => (evE P cal ini e σ h).out σ fun _ h => .nx σ h
  | .asg t e, σ, h => (evE P cal ini e σ h).out σ fun v h => stT P cal ini t (isFresh e) v σ h
  | .par ts es, σ, h => (evL P cal ini es σ h).out σ fun vs h => stPar P cal ini ts (vs.zip (es.map isFresh)) σ h
  | .aug i o e, σ, h => (match σ[i]? with
    | some (.val x) => (evE P cal ini e σ h).out σ fun y h => (opt (augV o x y) h).out σ fun z h => .nx (σ.set i (.val z)) h
    | _ => .stk)
  | .app b e, σ, h => (place b σ h).out σ fun p h => if p.isL σ h = true then (evE P cal ini e σ h).out σ fun y h => p.put (stApp y) σ h else .stk
  | .ret e, σ, h => (evE P cal ini e σ h).out σ fun v h => .rt v σ h
  | .retN, σ, h => .rt .non σ h
  | .ife c a b, σ, h => (evE P cal ini c σ h).out σ fun x h => (opt (asBl x) h).out σ fun k h => if k = true then exL a σ h else exL b σ h
  | .whl c b, σ, h => whlL (fun σ h => (evE P cal ini c σ h).bnd fun x h => opt (asBl x) h) (fun σ h => exL b σ h) fuel σ h
  | .for_ t i b, σ, h => (evI P cal ini i σ h).out σ fun xs h => forL (fun x σ h => match bindT t x σ with
    | some σ => exL b σ h
    | none => .stk) xs σ h
  | .brk, σ, h => .bk σ h
  | .cnt, σ, h => .ct σ h
  | .pass, σ, h => .nx σ h
  | .raise c f e, σ, h => (evE P cal ini e σ h).out σ fun v h => .er ⟨c, [(f, v)]⟩ σ h
  | .try_ b hs, σ, h => (match exL b σ h with
    | .er x σ h => exH hs x σ h
    | o => o)
def exL : List St → Fr → AH → Out
  | [], σ, h => .nx σ h
  | s :: r, σ, h => (exS s σ h).then_ fun σ h => exL r σ h
def exH : List (Nat × Nat × List St) → AX → Fr → AH → Out
  | [], x, σ, h => .er x σ h
  | (c, i, b) :: r, x, σ, h => if P.cls.length ≤ x.c ∧ x.c < P.nex then (if x.c = c then (match exL b (σ.set i (.exc x.c x.fs)) h with
    | .nx σ h => if noExc (σ.set i .emp) = true then .nx (σ.set i .emp) h else .stk
    | .bk σ h => if noExc (σ.set i .emp) = true then .bk (σ.set i .emp) h else .stk
    | .ct σ h => if noExc (σ.set i .emp) = true then .ct (σ.set i .emp) h else .stk
    | .rt v σ h => if noExc (σ.set i .emp) = true then .rt v (σ.set i .emp) h else .stk
    | _ => .stk) else exH r x σ h) else .stk
end
end
def frame0 (n : Nat) (vs : List AV) : Fr := vs.map .val ++ List.replicate (n - vs.length) .emp
def iniEnd : Out → R AV
  | .nx σ h => (match (σ[0]? : Option Sl) with
    | some (.own v) => .ok v h
    | _ => .stk)
  | .er x _ h => .err x h
  | _ => .stk
def calEnd : Out → R AV
  | .nx _ h => .ok .non h
  | .rt v _ h => .ok v h
  | .er x _ h => .err x h
  | _ => .stk
def runI (P : Prg) (cal : Nat → List AV → AH → R AV) (ini : Nat → Nat → List AV → AH → R AV) (c f : Nat) (vs : List AV) (h : AH) : R AV := match P.fns[f]? with
  | some F => if vs.length + 1 = F.np then iniEnd (exL P cal ini F.body (.own (.obj c []) :: (frame0 (F.ns - 1) vs)) h) else .stk
  | none => .stk
def runF (P : Prg) (cal : Nat → List AV → AH → R AV) (ini : Nat → Nat → List AV → AH → R AV) (f : Nat) (vs : List AV) (h : AH) : R AV := match P.fns[f]? with
  | some F => if vs.length = F.np then calEnd (exL P cal ini F.body (frame0 F.ns vs) h) else .stk
  | none => .stk
mutual
def calA (P : Prg) : Nat → Nat → List AV → AH → R AV
  | 0, _, _, _ => .stk
  | k + 1, f, vs, h => runF P (calA P k) (iniA P k) f vs h
def iniA (P : Prg) : Nat → Nat → Nat → List AV → AH → R AV
  | 0, _, _, _, _ => .stk
  | k + 1, c, f, vs, h => runI P (calA P k) (iniA P k) c f vs h
end
end AM
/-! The relation of the machine's states to the layer's. -/
namespace AM
open PySem PySem.Spec PyProof.Rows L2

structure Wd where
  mu : List Addr
  F : Addr → Prop
/-- where the classes stand, how the fields are called -/
structure Nm where
  cadr : Nat → Addr
  fnm : Nat → Str
  con : List (Addr × List V)

def keyK : AV → Key → Prop
  | .int i, .inl j => i = j
  | .str x, .inr y => x = y
  | _, _ => False
def keyKs : List AV → List Key → Prop
  | [], [] => True
  | x :: xs, k :: ks => keyK x k ∧ keyKs xs ks
  | _, _ => False
def keyT : AV → List Key → Prop
  | .tup xs, ks => keyKs xs ks
  | _, _ => False
section
variable (K : PySem.W.Frag) (T : Nm)
mutual
def RA (W : Wd) (H : Hp) : AV → V → Prop
  | .non, v => v = .non
  | .bl b, v => v = .bl b
  | .int i, v => v = .int i
  | .str x, v => v = .str x
  | .tup xs, v => ∃ p vs, v = .ref p ∧ H p = some (.tup vs) ∧ RAs W H xs vs
  | .lst xs, v => ∃ p vs, v = .ref p ∧ W.F p ∧ H p = some (.lst vs) ∧ RAs W H xs vs
  | .scr ns, v => ∃ p, v = .ref p ∧ ((∃ o, H p = some (.frz o (.lst (ns.map V.int)))) ∨ ∃ (o : Obj) (its : Array Value) (n : Nat), K.lookup p = some o ∧ o.cls = .type "list" ∧ o.dict = none ∧ o.data = .seq its n ∧ its.size ≤ sizeLine ∧ Vals (ns.map V.int) its.toList)
  | .ktup xs, v => ∃ (p : Addr) (vs : List V) (o : Obj) (its : Array Value) (n : Nat), v = .ref p ∧ (K.lookup p = some o ∧ o.cls = .type "tuple" ∧ o.data = .seq its n ∧ its.size ≤ sizeLine ∧ Vals vs its.toList) ∧ RAs W H xs vs
  | .dct false kvs, v => ∃ p, v = .ref p ∧ W.F p ∧ ∃ kv, Rd H p (.dK kv) ∧ RKs W H kvs kv
  | .dct true kvs, v => ∃ p, v = .ref p ∧ W.F p ∧ ∃ kv, Rd H p (.dT kv) ∧ RTs W H kvs kv
  | .obj c fs, v => ∃ p dx vs, v = .ref p ∧ W.F p ∧ H p = some (.ins (T.cadr c) dx vs) ∧ RFs W H fs vs
  | .ref n, v => ∃ a, W.mu[n]? = some a ∧ v = .ref a
def RAs (W : Wd) (H : Hp) : List AV → List V → Prop
  | [], vs => vs = []
  | x :: xs, vs => ∃ v r, vs = v :: r ∧ RA W H x v ∧ RAs W H xs r
def RKs (W : Wd) (H : Hp) : List (AV × AV) → List (Key × V) → Prop
  | [], vs => vs = []
  | (a, x) :: xs, vs => ∃ k v r, vs = (k, v) :: r ∧ keyK a k ∧ RA W H x v ∧ RKs W H xs r
def RTs (W : Wd) (H : Hp) : List (AV × AV) → List (List Key × V) → Prop
  | [], vs => vs = []
  | (a, x) :: xs, vs => ∃ k v r, vs = (k, v) :: r ∧ keyT a k ∧ RA W H x v ∧ RTs W H xs r
def RFs (W : Wd) (H : Hp) : List (Nat × AV) → List (Str × V) → Prop
  | [], vs => vs = []
  | (f, x) :: xs, vs => ∃ v r, vs = (T.fnm f, v) :: r ∧ RA W H x v ∧ RFs W H xs r
end
/-- what an own slot, a cell holds -/
def RC (W : Wd) (H : Hp) : AV → Addr → Prop
  | .lst xs, p => ∃ vs, H p = some (.lst vs) ∧ RAs K T W H xs vs
  | .dct false kvs, p => ∃ kv, H p = some (.dK kv) ∧ RKs K T W H kvs kv
  | .dct true kvs, p => ∃ kv, H p = some (.dT kv) ∧ RTs K T W H kvs kv
  | .obj c fs, p => ∃ dx vs, H p = some (.ins (T.cadr c) dx vs) ∧ RFs K T W H fs vs
  | _, _ => False
/-- borrowed: a value, or what an own slot holds -/
def RB (W : Wd) (H : Hp) (x : AV) (v : V) : Prop := RA K T W H x v ∨ ∃ p, v = .ref p ∧ p ∉ W.mu ∧ RC K T W H x p
end

/-- what values lean on is kept -/
structure Mo (W : Wd) (H : Hp) (W' : Wd) (H' : Hp) : Prop where
  mu : ∀ (n : Nat) (a : Addr), W.mu[n]? = some a → W'.mu[n]? = some a
  F : ∀ a, W.F a → W'.F a
  tup : ∀ a xs, H a = some (.tup xs) → H' a = some (.tup xs)
  frl : ∀ a o xs, H a = some (.frz o (.lst xs)) → H' a = some (.frz o (.lst xs))
  lst : ∀ a xs, W.F a → H a = some (.lst xs) → H' a = some (.lst xs)
  rd : ∀ a u, W.F a → Rd H a u → Rd H' a u
  ins : ∀ a C dx fs, W.F a → H a = some (.ins C dx fs) → H' a = some (.ins C dx fs)
section
variable {K : PySem.W.Frag} {T : Nm} {W W' : Wd} {H H' : Hp}
mutual
theorem RA.mono (m : Mo W H W' H') : ∀ {x : AV} {v : V}, RA K T W H x v → RA K T W' H' x v
  | .non, v, h => by unfold RA at h ⊢; exact h
  | .bl b, v, h => by unfold RA at h ⊢; exact h
  | .int i, v, h => by unfold RA at h ⊢; exact h
  | .str x, v, h => by unfold RA at h ⊢; exact h
  | .tup xs, v, h => by
    unfold RA at h ⊢
    obtain ⟨p, vs, e, h1, h2⟩ := h
    exact ⟨p, vs, e, m.tup _ _ h1, RAs.mono m h2⟩
  | .lst xs, v, h => by
    unfold RA at h ⊢
    obtain ⟨p, vs, e, h1, h3, h2⟩ := h
    exact ⟨p, vs, e, m.F _ h1, m.lst _ _ h1 h3, RAs.mono m h2⟩
  | .scr ns, v, h => by
    unfold RA at h ⊢
    obtain ⟨p, e, h1⟩ := h
    refine ⟨p, e, ?_⟩
    rcases h1 with ⟨o, h1⟩ | h1
    · exact .inl ⟨o, m.frl _ _ _ h1⟩
    · exact .inr h1
  | .ktup xs, v, h => by
    unfold RA at h ⊢
    obtain ⟨p, vs, o, its, n, e, h1, h2⟩ := h
    exact ⟨p, vs, o, its, n, e, h1, RAs.mono m h2⟩
  | .dct false kvs, v, h => by
    unfold RA at h ⊢
    obtain ⟨p, e, h1, kv, h2, h3⟩ := h
    exact ⟨p, e, m.F _ h1, kv, m.rd _ _ h1 h2, RKs.mono m h3⟩
  | .dct true kvs, v, h => by
    unfold RA at h ⊢
    obtain ⟨p, e, h1, kv, h2, h3⟩ := h
    exact ⟨p, e, m.F _ h1, kv, m.rd _ _ h1 h2, RTs.mono m h3⟩
  | .obj c fs, v, h => by
    unfold RA at h ⊢
    obtain ⟨p, dx, vs, e, h1, h2, h3⟩ := h
    exact ⟨p, dx, vs, e, m.F _ h1, m.ins _ _ _ _ h1 h2, RFs.mono m h3⟩
  | .ref n, v, h => by
    unfold RA at h ⊢
    obtain ⟨a, h1, h2⟩ := h
    exact ⟨a, m.mu _ _ h1, h2⟩
theorem RAs.mono (m : Mo W H W' H') : ∀ {xs : List AV} {vs : List V}, RAs K T W H xs vs → RAs K T W' H' xs vs
  | [], vs, h => by unfold RAs at h ⊢; exact h
  | x :: xs, vs, h => by
    unfold RAs at h ⊢
    obtain ⟨v, r, e, h1, h2⟩ := h
    exact ⟨v, r, e, RA.mono m h1, RAs.mono m h2⟩
theorem RKs.mono (m : Mo W H W' H') : ∀ {xs : List (AV × AV)} {vs : List (Key × V)}, RKs K T W H xs vs → RKs K T W' H' xs vs
  | [], vs, h => by unfold RKs at h ⊢; exact h
  | (a, x) :: xs, vs, h => by
    unfold RKs at h ⊢
    obtain ⟨k, v, r, e, h0, h1, h2⟩ := h
    exact ⟨k, v, r, e, h0, RA.mono m h1, RKs.mono m h2⟩
theorem RTs.mono (m : Mo W H W' H') : ∀ {xs : List (AV × AV)} {vs : List (List Key × V)}, RTs K T W H xs vs → RTs K T W' H' xs vs
  | [], vs, h => by unfold RTs at h ⊢; exact h
  | (a, x) :: xs, vs, h => by
    unfold RTs at h ⊢
    obtain ⟨k, v, r, e, h0, h1, h2⟩ := h
    exact ⟨k, v, r, e, h0, RA.mono m h1, RTs.mono m h2⟩
theorem RFs.mono (m : Mo W H W' H') : ∀ {xs : List (Nat × AV)} {vs : List (Str × V)}, RFs K T W H xs vs → RFs K T W' H' xs vs
  | [], vs, h => by unfold RFs at h ⊢; exact h
  | (f, x) :: xs, vs, h => by
    unfold RFs at h ⊢
    obtain ⟨v, r, e, h1, h2⟩ := h
    exact ⟨v, r, e, RA.mono m h1, RFs.mono m h2⟩
end
theorem RC.mono (m : Mo W H W' H') {x : AV} {p : Addr} (k : ∀ o, H p = some o → H' p = some o) (h : RC K T W H x p) : RC K T W' H' x p := by
  cases x with
  | lst xs =>
    obtain ⟨vs, h1, h2⟩ := h
    exact ⟨vs, k _ h1, h2.mono m⟩
  | dct t kvs =>
    cases t <;> (obtain ⟨kv, h1, h2⟩ := h; exact ⟨kv, k _ h1, h2.mono m⟩)
  | obj c fs =>
    obtain ⟨dx, vs, h1, h2⟩ := h
    exact ⟨dx, vs, k _ h1, h2.mono m⟩
  | _ => exact h.elim
theorem RC.some {x : AV} {p : Addr} (h : RC K T W H x p) : ∃ o, H p = some o ∧ (∀ xs, o ≠ .tup xs) ∧ ∀ q u, o ≠ .frz q u := by
  cases x with
  | lst xs =>
    obtain ⟨vs, h1, h2⟩ := h
    exact ⟨_, h1, fun _ e => (by cases e), fun _ _ e => (by cases e)⟩
  | dct t kvs =>
    cases t <;> (obtain ⟨kv, h1, h2⟩ := h; exact ⟨_, h1, fun _ e => (by cases e), fun _ _ e => (by cases e)⟩)
  | obj c fs =>
    obtain ⟨dx, vs, h1, h2⟩ := h
    exact ⟨_, h1, fun _ e => (by cases e), fun _ _ e => (by cases e)⟩
  | _ => exact h.elim
end

/-- all but the cells is as it was; what is new was not there -/
structure Ext (W : Wd) (H : Hp) (W' : Wd) (H' : Hp) : Prop where
  mu : ∀ (n : Nat) (a : Addr), W.mu[n]? = some a → W'.mu[n]? = some a
  F : ∀ a, W.F a → W'.F a
  keep : ∀ a o, H a = some o → a ∉ W.mu → H' a = some o
  newF : ∀ a, W'.F a → W.F a ∨ H a = none
  newMu : ∀ a, a ∈ W'.mu → a ∈ W.mu ∨ H a = none
  there : ∀ a, H' a = none → H a = none
theorem Ext.refl (W : Wd) (H : Hp) : Ext W H W H := ⟨fun _ _ h => h, fun _ h => h, fun _ _ h _ => h, fun _ h => .inl h, fun _ h => .inl h, fun _ h => h⟩
theorem Ext.trans {W W1 W2 : Wd} {H H1 H2 : Hp} (a : Ext W H W1 H1) (b : Ext W1 H1 W2 H2) : Ext W H W2 H2 where
  mu := fun n x h => b.mu n x (a.mu n x h)
  F := fun x h => b.F x (a.F x h)
  keep := fun x o h n => b.keep x o (a.keep x o h n) fun z => by
    rcases a.newMu x z with z | z
    · exact n z
    · rw [h] at z; cases z
  newF := fun x h => by
    rcases b.newF x h with h | h
    · exact a.newF x h
    · exact .inr (a.there x h)
  newMu := fun x h => by
    rcases b.newMu x h with h | h
    · exact a.newMu x h
    · exact .inr (a.there x h)
  there := fun x h => a.there x (b.there x h)

section
variable (K : PySem.W.Frag) (T : Nm)
theorem Mo.refl' (W : Wd) (H : Hp) : Mo W H W H := ⟨fun _ _ h => h, fun _ h => h, fun _ _ h => h, fun _ _ _ h => h, fun _ _ _ h => h, fun _ _ _ h => h, fun _ _ _ _ _ h => h⟩
theorem Mo.trans {W W1 W2 : Wd} {H H1 H2 : Hp} (a : Mo W H W1 H1) (b : Mo W1 H1 W2 H2) : Mo W H W2 H2 :=
  ⟨fun n x h => b.mu n x (a.mu n x h), fun x h => b.F x (a.F x h), fun x xs h => b.tup x xs (a.tup x xs h), fun x o xs h => b.frl x o xs (a.frl x o xs h), fun x xs f h => b.lst x xs (a.F x f) (a.lst x xs f h), fun x u f h => b.rd x u (a.F x f) (a.rd x u f h), fun x C dx fs f h => b.ins x C dx fs (a.F x f) (a.ins x C dx fs f h)⟩
/-- a slot -/
def SlR (xa : Option (Addr × Addr)) (W : Wd) (H0 H : Hp) : Option Sl → Option (Option V) → Prop
  | none, v => v = none
  | some .emp, v => ∃ u, v = some u
  | some (.val x), v => ∃ u, v = some (some u) ∧ RA K T W H x u
  | some (.own x), v => ∃ p, v = some (some (.ref p)) ∧ p ∉ W.mu ∧ ¬ W.F p ∧ H0 p = none ∧ RC K T W H x p
  | some (.exc c fs), v => ∃ a d vs, xa = some (a, d) ∧ v = some (some (.ref a)) ∧ H d = some (.xd vs) ∧ RFs K T W H fs vs
structure RH (W : Wd) (h : AH) (H : Hp) : Prop where
  len : W.mu.length = h.length
  cell : ∀ (n : Nat) (v : AV) (a : Addr), h[n]? = some v → W.mu[n]? = some a → RC K T W H v a
  nd : W.mu.Nodup
  fr : ∀ a, W.F a → a ∉ W.mu
  there : ∀ a, W.F a → H a ≠ none
  con : ∀ p ∈ T.con, H p.1 = some (.tup p.2)
structure Rs (xa : Option (Addr × Addr)) (me : Option Addr) (W0 : Wd) (H0 : Hp) (W : Wd) (s : Fr) (h : AH) (σ : L2.St) (H : Hp) : Prop extends RH K T W h H where
  slot : ∀ i : Nat, SlR K T xa W H0 H s[i]? σ[i]?
  ext : Ext W0 H0 W H
  apart : ∀ (i j : Nat) (x y : AV) (p : Addr), i ≠ j → s[i]? = some (.own x) → s[j]? = some (.own y) → σ[i]? = some (some (.ref p)) → σ[j]? ≠ some (some (.ref p))
  self : ∀ p, me = some p → ∀ v, s[0]? = some (.own v) → σ[0]? = some (some (.ref p))
end
section
variable {K : PySem.W.Frag} {T : Nm} {W W' W0 : Wd} {H H' H0 : Hp} {s : Fr} {h : AH} {σ : L2.St} {xa : Option (Addr × Addr)} {me : Option Addr}
theorem RH.mem (r : RH K T W h H) {a : Addr} (m : a ∈ W.mu) : ∃ o, H a = some o ∧ (∀ xs, o ≠ .tup xs) ∧ ∀ q u, o ≠ .frz q u := by
  obtain ⟨n, e⟩ := List.mem_iff_getElem?.mp m
  have hn : n < h.length := by
    rw [← r.len]
    exact (List.getElem?_eq_some_iff.mp e).1
  exact (r.cell n _ a (List.getElem?_eq_getElem hn) e).some
theorem Ext.mo (e : Ext W H W' H') (r : RH K T W h H) : Mo W H W' H' := by
  have nt : ∀ a xs, H a = some (.tup xs) → a ∉ W.mu := fun a xs ha m => by
    obtain ⟨o, h1, h2, _⟩ := r.mem m
    rw [ha] at h1
    exact h2 xs (Option.some.inj h1).symm
  have nf : ∀ a o u, H a = some (.frz o u) → a ∉ W.mu := fun a o u ha m => by
    obtain ⟨q, h1, _, h2⟩ := r.mem m
    rw [ha] at h1
    exact h2 o u (Option.some.inj h1).symm
  refine ⟨e.mu, e.F, fun a xs ha => e.keep a _ ha (nt a xs ha), fun a o xs ha => e.keep a _ ha (nf a o _ ha), fun a xs hF ha => e.keep a _ ha (r.fr a hF), fun a u hF hr => ?_, fun a C dx fs hF ha => e.keep a _ ha (r.fr a hF)⟩
  rcases hr with hr | ⟨o, hr⟩
  · exact .inl (e.keep a _ hr (r.fr a hF))
  · exact .inr ⟨o, e.keep a _ hr (r.fr a hF)⟩
/-- the frame behind something that kept all but the cells -/
theorem Rs.behind (r : Rs K T xa me W0 H0 W s h σ H) {h' : AH} (e : Ext W H W' H') (r' : RH K T W' h' H') : Rs K T xa me W0 H0 W' s h' σ H' := by
  have m := e.mo r.toRH
  refine ⟨r', fun i => ?_, r.ext.trans e, r.apart, r.self⟩
  have q := r.slot i
  cases ei : s[i]? with
  | none =>
    rw [ei] at q
    exact q
  | some z =>
    rw [ei] at q
    cases z with
    | emp => exact q
    | val x =>
      obtain ⟨u, h1, h2⟩ := q
      exact ⟨u, h1, h2.mono m⟩
    | own x =>
      obtain ⟨p, h1, h2, h3, h4, h5⟩ := q
      obtain ⟨o, ho, _⟩ := h5.some
      refine ⟨p, h1, fun z => ?_, fun z => ?_, h4, h5.mono m fun o ho => e.keep p o ho h2⟩
      · rcases e.newMu p z with z | z
        · exact h2 z
        · rw [ho] at z; cases z
      · rcases e.newF p z with z | z
        · exact h3 z
        · rw [ho] at z; cases z
    | exc c fs =>
      obtain ⟨a, d, vs, h1, h2, h3, h4⟩ := q
      refine ⟨a, d, vs, h1, h2, e.keep d _ h3 fun z => ?_, h4.mono m⟩
      obtain ⟨o, ho, n1, n2⟩ := r.toRH.mem z
      rw [h3] at ho
      have ho := Option.some.inj ho
      subst ho
      -- a cell is a list, a dict, an instance
      obtain ⟨n, e1⟩ := List.mem_iff_getElem?.mp z
      have hn : n < h.length := by
        rw [← r.len]
        exact (List.getElem?_eq_some_iff.mp e1).1
      have c := r.cell n _ d (List.getElem?_eq_getElem hn) e1
      cases hv : h[n] with
      | lst _ => rw [hv] at c; obtain ⟨_, c, _⟩ := c; rw [h3] at c; cases c
      | dct t _ => rw [hv] at c; cases t <;> (obtain ⟨_, c, _⟩ := c; rw [h3] at c; cases c)
      | obj _ _ => rw [hv] at c; obtain ⟨_, _, c, _⟩ := c; rw [h3] at c; cases c
      | _ => rw [hv] at c; exact c.elim
/-- an object at a new place that nothing is told of -/
theorem Ext.laid {p : Addr} {o : HO} (hp : H p = none) : Ext W H W (upd H p o) :=
  ⟨fun _ _ h => h, fun _ h => h, fun a o ha _ => by rw [upd_ne (ne_of_none ha hp)]; exact ha, fun _ h => .inl h, fun _ h => .inl h, fun a ha => by
    unfold upd at ha
    split at ha
    · cases ha
    · exact ha⟩
/-- .. a value from now on -/
def Wd.add (W : Wd) (p : Addr) : Wd := ⟨W.mu, fun a => W.F a ∨ a = p⟩
theorem Ext.add {p : Addr} {o : HO} (hp : H p = none) : Ext W H (W.add p) (upd H p o) :=
  ⟨fun _ _ h => h, fun _ h => .inl h, fun a o ha _ => by rw [upd_ne (ne_of_none ha hp)]; exact ha, fun a h => by
    rcases h with h | h
    · exact .inl h
    · rw [h]; exact .inr hp, fun _ h => .inl h, fun a ha => by
    unfold upd at ha
    split at ha
    · cases ha
    · exact ha⟩
theorem RH.laid {p : Addr} {o : HO} (r : RH K T W h H) (hp : H p = none) : RH K T W h (upd H p o) := by
  have e : Ext W H W (upd H p o) := Ext.laid hp
  have m := e.mo r
  refine ⟨r.len, fun n v a h1 h2 => ?_, r.nd, r.fr, fun a hF z => r.there a hF (e.there a z), fun p hp => m.tup _ _ (r.con p hp)⟩
  have c := r.cell n v a h1 h2
  refine c.mono m fun o ho => ?_
  rw [upd_ne (ne_of_none ho hp)]
  exact ho
theorem RH.add {p : Addr} {o : HO} (r : RH K T W h H) (hp : H p = none) : RH K T (W.add p) h (upd H p o) := by
  have e : Ext W H (W.add p) (upd H p o) := Ext.add hp
  have m := e.mo r
  refine ⟨r.len, fun n v a h1 h2 => ?_, r.nd, fun a hF z => ?_, fun a hF z => ?_, fun p hp => m.tup _ _ (r.con p hp)⟩
  · have c := r.cell n v a h1 h2
    refine c.mono m fun o ho => ?_
    rw [upd_ne (ne_of_none ho hp)]
    exact ho
  · rcases hF with hF | hF
    · exact r.fr a hF z
    · obtain ⟨o, ho, _⟩ := r.mem z
      rw [hF, hp] at ho
      cases ho
  · rcases hF with hF | hF
    · exact r.there a hF (e.there a z)
    · rw [hF, upd_same] at z
      cases z
end
end AM
/-! The readings of the machine's syntax. -/
namespace AM
open PySem PySem.Spec PyProof.Rows L2

/-- what a body's readings lean on -/
structure Cc where
  K : PySem.W.Frag
  T : Nm
  P : Prg
  cal : Nat → List AV → AH → R AV
  ini : Nat → Nat → List AV → AH → R AV
  W0 : Wd
  H0 : Hp
  xa : Option (Addr × Addr)
  me : Option Addr
  wx : WX

section
variable (c : Cc)
abbrev Cc.Rs (W : Wd) (s : Fr) (h : AH) (σ : L2.St) (H : Hp) : Prop := AM.Rs c.K c.T c.xa c.me c.W0 c.H0 W s h σ H
/-- an error x is taken -/
def Cc.er (s : Fr) (σ : L2.St) (W : Wd) (H : Hp) (x : AX) (h : AH) : Prop :=
  ∀ W' H' d vs, Ext W H W' H' → c.Rs W' s h σ H' → H' d = some (.xd vs) → RFs c.K c.T W' H' x.fs vs → c.wx (.ref (c.T.cadr x.c)) (some d) σ H'
/-- behind r: Q of what is related, or the error is taken -/
def Cc.po {α γ : Type} (s : Fr) (σ : L2.St) (W : Wd) (H : Hp) (Rel : Wd → Hp → α → γ → Prop) (r : R α) (Q : γ → Hp → Prop) : Prop := match r with
  | .ok a h => ∀ W' H' v, Ext W H W' H' → c.Rs W' s h σ H' → Rel W' H' a v → Q v H'
  | .err x h => c.er s σ W H x h
  | .stk => False
/-- the readings: of an expression, of a test, of a list -/
def Cc.tG {α γ : Type} (Rel : Wd → Hp → α → γ → Prop) (ev : Fr → AH → R α) : L2.St → Hp → (γ → Hp → Prop) → Prop := fun σ H Q =>
  ∃ W s h, c.Rs W s h σ H ∧ c.po s σ W H Rel (ev s h) Q
abbrev Cc.ev (x : Ex) : Fr → AH → R AV := evE c.P c.cal c.ini x
abbrev Cc.ra : Wd → Hp → AV → V → Prop := RA c.K c.T
abbrev Cc.rb : Wd → Hp → AV → V → Prop := RB c.K c.T
abbrev Cc.ras : Wd → Hp → List AV → List V → Prop := RAs c.K c.T
def rBl : Wd → Hp → Bool → Bool → Prop := fun _ _ a b => a = b
def Cc.tE (x : Ex) : TE := c.tG c.ra (c.ev x)
def Cc.tB (x : Ex) : TE := c.tG c.rb (c.ev x)
def Cc.tT (x : Ex) : TT := c.tG rBl fun s h => (c.ev x s h).bnd fun v h => opt (asBl v) h
def Cc.tL (es : List Ex) : TA := c.tG c.ras (evL c.P c.cal c.ini es)
end

section
variable {c : Cc} {s : Fr} {σ : L2.St} {W W1 : Wd} {H H1 : Hp} {α β γ δ : Type} {Rel : Wd → Hp → α → γ → Prop} {Rel2 : Wd → Hp → β → δ → Prop}
theorem Cc.er_shift {x : AX} {h : AH} (e : Ext W H W1 H1) (p : c.er s σ W H x h) : c.er s σ W1 H1 x h :=
  fun W' H' d vs e' => p W' H' d vs (e.trans e')
theorem Cc.po_shift {r : R α} {Q : γ → Hp → Prop} (e : Ext W H W1 H1) (p : c.po s σ W H Rel r Q) : c.po s σ W1 H1 Rel r Q := by
  cases r with
  | ok a h => exact fun W' H' v e' => p W' H' v (e.trans e')
  | err x h => exact Cc.er_shift e p
  | stk => exact p
theorem Cc.po_mono {r : R α} {Q Q' : γ → Hp → Prop} (p : c.po s σ W H Rel r Q) (h : ∀ v H', Q v H' → Q' v H') : c.po s σ W H Rel r Q' := by
  cases r with
  | ok a h' => exact fun W' H' v e q w => h v H' (p W' H' v e q w)
  | err x h' => exact p
  | stk => exact p
/-- one after another -/
theorem Cc.po_bnd {r : R α} {f : α → AH → R β} {Q : δ → Hp → Prop} (p : c.po s σ W H Rel2 (r.bnd f) Q) :
    c.po s σ W H Rel r fun v H1 => ∃ W1 a h1, Ext W H W1 H1 ∧ c.Rs W1 s h1 σ H1 ∧ Rel W1 H1 a v ∧ r = .ok a h1 ∧ c.po s σ W1 H1 Rel2 (f a h1) Q := by
  cases r with
  | ok a h => exact fun W1 H1 v e q w => ⟨W1, a, h, e, q, w, rfl, Cc.po_shift e p⟩
  | err x h => exact p
  | stk => exact p
theorem Cc.po_bndW {r : R α} {f : α → AH → R β} {Q : δ → Hp → Prop} {Q' : γ → Hp → Prop} (p : c.po s σ W H Rel2 (r.bnd f) Q)
    (k : ∀ W1 H1 v a h1, Ext W H W1 H1 → c.Rs W1 s h1 σ H1 → Rel W1 H1 a v → r = .ok a h1 → c.po s σ W1 H1 Rel2 (f a h1) Q → Q' v H1) : c.po s σ W H Rel r Q' :=
  Cc.po_mono (Cc.po_bnd p) fun v H1 ⟨W1, a, h1, e, q, w, er, p1⟩ => k W1 H1 v a h1 e q w er p1
theorem opt_some {α : Type} {o : Option α} {h h' : AH} {a : α} (e : opt o h = .ok a h') : o = some a ∧ h' = h := by
  cases o with
  | none => cases e
  | some b => cases e; exact ⟨rfl, rfl⟩
theorem Cc.po_opt {o : Option α} {h : AH} {Q : γ → Hp → Prop} (p : c.po s σ W H Rel (opt o h) Q) : ∃ a, o = some a ∧ c.po s σ W H Rel (.ok a h) Q := by
  cases o with
  | none => exact p.elim
  | some a => exact ⟨a, rfl, p⟩
/-- now -/
theorem Cc.po_now {a : α} {h : AH} {v : γ} {Q : γ → Hp → Prop} (p : c.po s σ W H Rel (.ok a h) Q) (r : c.Rs W s h σ H) (w : Rel W H a v) : Q v H :=
  p W H v (Ext.refl W H) r w
theorem Cc.rs_behind {h h' : AH} {W' : Wd} {H' : Hp} (r : c.Rs W s h σ H) (e : Ext W H W' H') (r' : RH c.K c.T W' h' H') : c.Rs W' s h' σ H' := Rs.behind r e r'
theorem Cc.rs_laid {h : AH} {p : Addr} {o : HO} (r : c.Rs W s h σ H) (hp : H p = none) : c.Rs W s h σ (upd H p o) := Rs.behind r (Ext.laid hp) (r.toRH.laid hp)
theorem Cc.rs_add {h : AH} {p : Addr} {o : HO} (r : c.Rs W s h σ H) (hp : H p = none) : c.Rs (W.add p) s h σ (upd H p o) := Rs.behind r (Ext.add hp) (r.toRH.add hp)
theorem Cc.mo {h : AH} {W' : Wd} {H' : Hp} (r : c.Rs W s h σ H) (e : Ext W H W' H') : Mo W H W' H' := e.mo r.toRH
/-- a new tuple -/
theorem Cc.po_tup {xs : List AV} {vs : List V} {h : AH} {Q : VK} {p : Addr} (q : c.po s σ W H c.ra (.ok (.tup xs) h) Q) (r : c.Rs W s h σ H) (w : RAs c.K c.T W H xs vs) (hp : H p = none) : Q (.ref p) (upd H p (.tup vs)) := by
  refine q W _ _ (Ext.laid hp) (Cc.rs_laid r hp) ?_
  unfold Cc.ra RA
  exact ⟨p, vs, rfl, upd_same, w.mono (Cc.mo r (Ext.laid hp))⟩
theorem Cc.po_lst {xs : List AV} {vs : List V} {h : AH} {Q : VK} {p : Addr} (q : c.po s σ W H c.ra (.ok (.lst xs) h) Q) (r : c.Rs W s h σ H) (w : RAs c.K c.T W H xs vs) (hp : H p = none) : Q (.ref p) (upd H p (.lst vs)) := by
  refine q (W.add p) _ _ (Ext.add hp) (Cc.rs_add r hp) ?_
  unfold Cc.ra RA
  exact ⟨p, vs, rfl, .inr rfl, upd_same, w.mono (Cc.mo r (Ext.add hp))⟩
end

/-! ### judgements weakened -/
section
variable {X : Cx} {e : Expr} {t t' : TE}
theorem PE.imp (h : PE X e t) (k : ∀ σ H Q, t' σ H Q → t σ H Q) : PE X e t' := ⟨fun pins s σ H Q I w => h.run pins s σ H Q I (k σ H Q w)⟩
theorem PT.imp {t t' : TT} (h : PT X e t) (k : ∀ σ H Q, t' σ H Q → t σ H Q) : PT X e t' := ⟨fun pins s σ H Q I w => h.run pins s σ H Q I (k σ H Q w)⟩
theorem PW.imp {t t' : TT} (h : PW X e t) (k : ∀ σ H Q, t' σ H Q → t σ H Q) : PW X e t' := ⟨fun wh pins s σ H Q I w => h.run wh pins s σ H Q I (k σ H Q w)⟩
theorem PA.imp {es : List Expr} {t t' : TA} (h : PA X es t) (k : ∀ σ H Q, t' σ H Q → t σ H Q) : PA X es t' := ⟨fun pos pins s σ H Q I w => h.run pos pins s σ H Q I (k σ H Q w)⟩
theorem PS.imp {st : Stmt} {t t' : TS} (h : PS X st t) (k : ∀ D σ H, t' D σ H → t D σ H) : PS X st t' := ⟨fun pins s σ H D I w => h.run pins s σ H D I (k D σ H w)⟩
theorem PSs.imp {st : List Stmt} {t t' : TS} (h : PSs X st t) (k : ∀ D σ H, t' D σ H → t D σ H) : PSs X st t' := ⟨fun pins s σ H D I w => h.run pins s σ H D I (k D σ H w)⟩
theorem PG.imp {tg : Expr} {t t' : TG} (h : PG X tg t) (k : ∀ v σ H Q, t' v σ H Q → t v σ H Q) : PG X tg t' := ⟨fun pins s σ H v u Q I r w => h.run pins s σ H v u Q I r (k v σ H Q w)⟩
theorem PE.or (h : PE X e t) (h' : PE X e t') : PE X e (fun σ H Q => t σ H Q ∨ t' σ H Q) := ⟨fun pins s σ H Q I w => w.elim (h.run pins s σ H Q I) (h'.run pins s σ H Q I)⟩
theorem PS.or {st : Stmt} {t t' : TS} (h : PS X st t) (h' : PS X st t') : PS X st (fun D σ H => t D σ H ∨ t' D σ H) := ⟨fun pins s σ H D I w => w.elim (h.run pins s σ H D I) (h'.run pins s σ H D I)⟩
theorem pe_not_here : PE X e (fun _ _ _ => False) := ⟨fun _ _ _ _ _ _ w => w.elim⟩
end

/-! ### operators -/
section
variable {c : Cc} {X : Cx} {a b : Expr} {xa xb : Ex} {pos : Pos}
theorem ra_int {K : PySem.W.Frag} {T : Nm} {W : Wd} {H : Hp} {i : Int} {v : V} (h : RA K T W H (.int i) v) : v = .int i := by unfold RA at h; exact h
theorem ra_bl {K : PySem.W.Frag} {T : Nm} {W : Wd} {H : Hp} {b : Bool} {v : V} (h : RA K T W H (.bl b) v) : v = .bl b := by unfold RA at h; exact h
theorem ra_str {K : PySem.W.Frag} {T : Nm} {W : Wd} {H : Hp} {x : Str} {v : V} (h : RA K T W H (.str x) v) : v = .str x := by unfold RA at h; exact h
theorem ra_int' {K : PySem.W.Frag} {T : Nm} {W : Wd} {H : Hp} {i : Int} : RA K T W H (.int i) (.int i) := by unfold RA; rfl
theorem ra_bl' {K : PySem.W.Frag} {T : Nm} {W : Wd} {H : Hp} {b : Bool} : RA K T W H (.bl b) (.bl b) := by unfold RA; rfl
theorem ra_str' {K : PySem.W.Frag} {T : Nm} {W : Wd} {H : Hp} {x : Str} : RA K T W H (.str x) (.str x) := by unfold RA; rfl
theorem ra_tup {K : PySem.W.Frag} {T : Nm} {W : Wd} {H : Hp} {xs : List AV} {v : V} (h : RA K T W H (.tup xs) v) : ∃ p vs, v = .ref p ∧ H p = some (.tup vs) ∧ RAs K T W H xs vs := by unfold RA at h; exact h
theorem ra_ktup {K : PySem.W.Frag} {T : Nm} {W : Wd} {H : Hp} {xs : List AV} {v : V} (h : RA K T W H (.ktup xs) v) : ∃ p vs, v = .ref p ∧ SqT K H p vs ∧ RAs K T W H xs vs := by
  unfold RA at h
  obtain ⟨p, vs, o, its, n, e, h1, h2⟩ := h
  exact ⟨p, vs, e, .inr ⟨o, its, n, h1⟩, h2⟩
theorem ra_lst {K : PySem.W.Frag} {T : Nm} {W : Wd} {H : Hp} {xs : List AV} {v : V} (h : RA K T W H (.lst xs) v) : ∃ p vs, v = .ref p ∧ W.F p ∧ H p = some (.lst vs) ∧ RAs K T W H xs vs := by unfold RA at h; exact h

/-- two operands, an operator by values -/
theorem bin_of {op : V → V → Hp → VK → Prop} {f : AV → AV → AH → R AV} {Q : VK} {σ : L2.St} {H : Hp}
    (ho : ∀ W s h H x y v u Q, c.Rs W s h σ H → RA c.K c.T W H x v → RA c.K c.T W H y u → c.po s σ W H c.ra (f x y h) Q → op v u H Q)
    (w : c.tG c.ra (fun s h => (c.ev xa s h).bnd fun x h => (c.ev xb s h).bnd fun y h => f x y h) σ H Q) : tOp op (c.tE xa) (c.tE xb) σ H Q := by
  obtain ⟨W, s, h, r, p⟩ := w
  refine ⟨W, s, h, r, Cc.po_bndW p fun W1 H1 v x h1 e1 r1 w1 _ p1 => ?_⟩
  refine ⟨W1, s, h1, r1, Cc.po_bndW p1 fun W2 H2 u y h2 e2 r2 w2 _ p2 => ?_⟩
  exact ho W2 s h2 H2 x y v u Q r2 (w1.mono (Cc.mo r1 e2)) w2 p2
end
end AM
/-! Operators. -/
namespace AM
open PySem PySem.Spec PyProof.Rows L2
theorem OpR.imp {X : Cx} {f : Value → Value → Sem Value} {r r' : R2} (h : OpR X f r) (k : ∀ x y H Q, r' x y H Q → r x y H Q) : OpR X f r' :=
  fun pins s σ H x y v u Q I rx ry w => h pins s σ H x y v u Q I rx ry (k x y H Q w)
theorem CallR.imp {X : Cx} {f : Value} {r r' : List V → Hp → VK → Prop} (h : CallR X f r) (k : ∀ xs H Q, r' xs H Q → r xs H Q) : CallR X f r' :=
  fun pins s σ H xs us Q I rx w => h pins s σ H xs us Q I rx (k xs H Q w)
/-- by the machine's values -/
def Cc.rOp (c : Cc) (g : AV → AV → Option AV) : R2 := fun x y H Q => ∃ W s h σ a b, c.Rs W s h σ H ∧ RA c.K c.T W H a x ∧ RA c.K c.T W H b y ∧ c.po s σ W H c.ra (opt (g a b) h) Q
theorem sz_line {n : Nat} (h : szOk n = true) : n ≤ sizeLine := Nat.le_trans (of_decide_eq_true h) (by rw [sizeLine_eq]; decide)
theorem sz_line' {n : Nat} (h : szOk n = true) : n < sizeLine := Nat.lt_of_le_of_lt (of_decide_eq_true h) (by rw [sizeLine_eq]; decide)
theorem ba2 {a b : Bool} (h : (a && b) = true) : a = true ∧ b = true := Bool.and_eq_true_iff.mp h
section
variable {K : PySem.W.Frag} {T : Nm} {W : Wd} {H : Hp}
theorem RAs.app : ∀ {xs ys : List AV} {vs us : List V}, RAs K T W H xs vs → RAs K T W H ys us → RAs K T W H (xs ++ ys) (vs ++ us)
  | [], ys, vs, us, h, g => by
    unfold RAs at h
    subst h
    exact g
  | x :: xs, ys, vs, us, h, g => by
    unfold RAs at h
    obtain ⟨v, r, e, h1, h2⟩ := h
    subst e
    show RAs K T W H (x :: (xs ++ ys)) (v :: (r ++ us))
    unfold RAs
    exact ⟨v, _, rfl, h1, RAs.app h2 g⟩
theorem RAs.len : ∀ {xs : List AV} {vs : List V}, RAs K T W H xs vs → xs.length = vs.length
  | [], vs, h => by
    unfold RAs at h
    subst h
    rfl
  | x :: xs, vs, h => by
    unfold RAs at h
    obtain ⟨v, r, e, h1, h2⟩ := h
    subst e
    rw [List.length_cons, List.length_cons, RAs.len h2]
theorem RAs.at : ∀ {xs : List AV} {vs : List V} {i : Nat} {x : AV}, RAs K T W H xs vs → xs[i]? = some x → ∃ v, vs[i]? = some v ∧ RA K T W H x v
  | [], vs, i, x, h, e => by cases e
  | y :: xs, vs, 0, x, h, e => by
    unfold RAs at h
    obtain ⟨v, r, e1, h1, h2⟩ := h
    subst e1
    cases e
    exact ⟨v, rfl, h1⟩
  | y :: xs, vs, i + 1, x, h, e => by
    unfold RAs at h
    obtain ⟨v, r, e1, h1, h2⟩ := h
    subst e1
    exact RAs.at (i := i) h2 e
theorem RAs.nil : RAs K T W H [] [] := by unfold RAs; rfl
theorem RAs.cons {x : AV} {xs : List AV} {v : V} {vs : List V} (h : RA K T W H x v) (g : RAs K T W H xs vs) : RAs K T W H (x :: xs) (v :: vs) := by
  unfold RAs
  exact ⟨v, vs, rfl, h, g⟩
theorem RAs.take : ∀ {xs : List AV} {vs : List V} (n : Nat), RAs K T W H xs vs → RAs K T W H (xs.take n) (vs.take n)
  | _, _, 0, _ => by
    rw [List.take_zero, List.take_zero]
    exact RAs.nil
  | [], vs, n + 1, h => by
    unfold RAs at h
    subst h
    exact RAs.nil
  | x :: xs, vs, n + 1, h => by
    unfold RAs at h
    obtain ⟨v, r, e1, h1, h2⟩ := h
    subst e1
    exact RAs.cons h1 (RAs.take n h2)
theorem RAs.drop : ∀ {xs : List AV} {vs : List V} (n : Nat), RAs K T W H xs vs → RAs K T W H (xs.drop n) (vs.drop n)
  | _, _, 0, h => h
  | [], vs, n + 1, h => by
    unfold RAs at h
    subst h
    exact RAs.nil
  | x :: xs, vs, n + 1, h => by
    unfold RAs at h
    obtain ⟨v, r, e1, h1, h2⟩ := h
    subst e1
    exact RAs.drop n h2
theorem RAs.set {x : AV} {v : V} (h : RA K T W H x v) : ∀ {xs : List AV} {vs : List V} (n : Nat), RAs K T W H xs vs → RAs K T W H (xs.set n x) (vs.set n v)
  | [], vs, n, g => by
    unfold RAs at g
    subst g
    exact RAs.nil
  | y :: xs, vs, 0, g => by
    unfold RAs at g
    obtain ⟨u, r, e1, h1, h2⟩ := g
    subst e1
    exact RAs.cons h h2
  | y :: xs, vs, n + 1, g => by
    unfold RAs at g
    obtain ⟨u, r, e1, h1, h2⟩ := g
    subst e1
    exact RAs.cons h1 (RAs.set h n h2)
theorem RAs.rev : ∀ {xs : List AV} {vs : List V}, RAs K T W H xs vs → RAs K T W H xs.reverse vs.reverse
  | [], vs, h => by
    unfold RAs at h
    subst h
    exact RAs.nil
  | x :: xs, vs, h => by
    unfold RAs at h
    obtain ⟨v, r, e1, h1, h2⟩ := h
    subst e1
    rw [List.reverse_cons, List.reverse_cons]
    exact (RAs.rev h2).app (RAs.cons h1 RAs.nil)
theorem RAs.rep {xs : List AV} {vs : List V} (h : RAs K T W H xs vs) : ∀ n : Nat, RAs K T W H (List.replicate n xs).flatten (List.replicate n vs).flatten
  | 0 => RAs.nil
  | n + 1 => by
    rw [List.replicate_succ, List.replicate_succ, List.flatten_cons, List.flatten_cons]
    exact h.app (RAs.rep h n)
end

section
variable {X : Cx}
theorem CMulX.ok {i j : Int} (h : i.natAbs.log2 + j.natAbs.log2 < 100000000) : IntMulOk i j := by
  have b : ∀ x : Int, Builtin.Int.intBits x ≤ x.natAbs.log2 + 1 := fun x => by
    unfold Builtin.Int.intBits
    split <;> omega
  have h1 := b i
  have h2 := b j
  have e : bitsLine = 134217728 := by decide
  unfold IntMulOk
  intro z
  rw [Bool.and_eq_true] at z
  have z2 := z.2
  unfold Builtin.Int.intTooBig at z2
  have z3 := of_decide_eq_true z2
  rw [e] at z3
  omega
theorem op_mulX : OpR X (binaryOp .Mult) (rI (fun i j => i.natAbs.log2 + j.natAbs.log2 < 100000000) fun i j => .int (i * j)) := opI fun _ _ _ _ _ _ _ hc q => mul_int q (CMulX.ok hc)
theorem op_fdivX : OpR X (binaryOp .FloorDiv) (rI (fun i j => 0 < j ∧ Builtin.divisionGoesByPylong i j = false) fun i j => .int (i / j)) := opI fun i j _ _ _ _ _ hc q => by
  have h1 : (0 : Int) < j := hc.1
  exact floordiv_int (by omega) (by rw [Int.fdiv_eq_ediv_of_nonneg i (by omega)]; exact q) (.inl hc.2)
theorem iop_mulX : OpR X (inplaceOp .Mult) (rI (fun i j => i.natAbs.log2 + j.natAbs.log2 < 100000000) fun i j => .int (i * j)) := opI fun _ _ _ _ _ _ _ hc q => imul_int q (CMulX.ok hc)
/-- a tuple of a tuple, any number of times -/
theorem tuple_mul1 (l : Addr) (items : Array Value) (n : Nat) (dd : Option Addr) (sl : Array (Option Value)) (u : Tok) :
    Meets (Builtin.«tuple.__mul__» ⟨[.ref l, .int 1 u], []⟩) (fun _ R s => s.heap.get? l = some { cls := .type "tuple", dict := dd, data := .seq items n, slots := sl } ∧ R (.ok (.ret (Value.ref l))) s) :=
  .of_wp fun prog w A R s h => by
    obtain ⟨hp, g, d, tk, os⟩ := s
    obtain ⟨hl, h⟩ := h
    have f1 := AutoSeq1.idx_int
    wp_walk using wpAny_loadPart' hl
    exact ⟨_, rfl, h⟩
theorem tuple_mulE (l : Addr) (n : Nat) (dd : Option Addr) (sl : Array (Option Value)) (x : Int) (u : Tok) (c0 : (decide (x < -(2 ^ 63)) || decide (x ≥ 2 ^ 63)) = false) :
    Meets (Builtin.«tuple.__mul__» ⟨[.ref l, .int x u], []⟩) (fun _ R s => s.heap.get? l = some { cls := .type "tuple", dict := dd, data := .seq #[] n, slots := sl } ∧ R (.ok (.ret (Value.ref l))) s) :=
  .of_wp fun prog w A R s h => by
    obtain ⟨hp, g, d, tk, os⟩ := s
    obtain ⟨hl, h⟩ := h
    have f1 := AutoSeq1.idx_int
    wp_walk using wpAny_loadPart' hl
    repeat (first
      | (refine wpAny_ite_false (decide_eq_false (by rw [c0]; exact Bool.false_ne_true)) ?_; wp_walk using wpAny_loadPart' hl))
    exact ⟨_, rfl, h⟩
theorem tuple_mulN (l : Addr) (items : Array Value) (n : Nat) (dd : Option Addr) (sl : Array (Option Value)) (x : Int) (u : Tok) (c0 : (decide (x < -(2 ^ 63)) || decide (x ≥ 2 ^ 63)) = false) (c1 : (items.isEmpty || x == 1) = false) (c2 : (decide (x ≤ 0) || items.isEmpty) = true) :
    Meets (Builtin.«tuple.__mul__» ⟨[.ref l, .int x u], []⟩) (fun _ R s => s.heap.get? l = some { cls := .type "tuple", dict := dd, data := .seq items n, slots := sl } ∧
      R (.ok (.ret (Value.ref s.heap.objs.size))) { s with heap := s.heap.push { cls := Value.type "tuple", data := Data.seq #[] }, toks := s.toks }) :=
  .of_wp fun prog w A R s h => by
    obtain ⟨hp, g, d, tk, os⟩ := s
    obtain ⟨hl, h⟩ := h
    have f1 := AutoSeq1.idx_int
    wp_walk using wpAny_loadPart' hl
    repeat (first
      | (refine wpAny_ite_false (decide_eq_false (by rw [c0]; exact Bool.false_ne_true)) ?_; wp_walk using wpAny_loadPart' hl)
      | (refine wpAny_ite_false (decide_eq_false (by rw [c1]; exact Bool.false_ne_true)) ?_; wp_walk using wpAny_loadPart' hl)
      | (refine wpAny_ite_true (decide_eq_true c2) ?_; wp_walk using wpAny_loadPart' hl))
    exact ⟨_, rfl, h⟩
def rRepA (K : PySem.W.Frag) : R2 := fun x y H Q => ∃ l k xs, x = .ref l ∧ y = .int k ∧ SqT K H l xs ∧ -(2 ^ 63) ≤ k ∧ k < 2 ^ 63 ∧ xs.length * k.toNat ≤ sizeLine ∧
  (xs = [] ∨ k = 1 → Q (.ref l) H) ∧ (¬ (xs = [] ∨ k = 1) → ∀ p, H p = none → Q (.ref p) (upd H p (.tup (List.replicate k.toNat xs).flatten)))
theorem op_repA : OpR X (binaryOp .Mult) (rRepA X.K) := by
  intro pins s σ H x y v u Q I rx ry h
  obtain ⟨l, k, xs, rfl, rfl, hT, h1, h2, hz, q1, q2⟩ := h
  cases rx
  obtain ⟨t, rfl⟩ := ry
  obtain ⟨its, r, ⟨⟨cls, dd, data, sl⟩, ho, hc, n, hd⟩, hs⟩ := I.tuple hT
  simp only at hc hd
  subst hc hd
  have hle : its.length = xs.length := r.length.symm
  have c0 : (decide (k < -(2 ^ 63)) || decide (k ≥ 2 ^ 63)) = false := by
    rw [decide_eq_false (by omega), decide_eq_false (by omega)] <;> rfl
  refine wpAny_binaryOp_repeat_ref (T := "tuple") (U := "int") (by decide) ⟨_, ho, rfl⟩ (fun s' => typeIs_int s' k t) noFill_tuple_mul F.fills_int_mul F.slot_int_rmul repeat_tuple F.slot_int_index.lookup
    (call_meets F.slot_int_rmul (typeIs_int s k t) F.entry_int_rmul (F.args_int_rmul_2 _ _) (int_rmul_tuple k t l its.toArray n dd sl) ⟨ho, rfl, ⟨_, ho, rfl⟩, ?_⟩)
  by_cases hx : xs = []
  · have hn : its = [] := by
      rw [hx] at hle
      exact List.eq_nil_of_length_eq_zero hle
    subst hn
    exact call_meets F.slot_tuple_mul ⟨_, ho, rfl⟩ F.entry_tuple_mul (F.args_tuple_mul_2 _ _) (tuple_mulE l n dd sl k t c0) ⟨ho, ⟨.ref l, H, I, rfl, q1 (.inl hx)⟩⟩
  · by_cases hk : k = 1
    · subst hk
      exact call_meets F.slot_tuple_mul ⟨_, ho, rfl⟩ F.entry_tuple_mul (F.args_tuple_mul_2 _ _) (tuple_mul1 l its.toArray n dd sl t) ⟨ho, ⟨.ref l, H, I, rfl, q1 (.inr rfl)⟩⟩
    · have hn : its ≠ [] := fun e => hx (by
        rw [e] at hle
        exact List.eq_nil_of_length_eq_zero hle.symm)
      have hi : its.toArray.isEmpty = false := by
        cases its with
        | nil => exact absurd rfl hn
        | cons a b => rfl
      have c1 : (its.toArray.isEmpty || k == 1) = false := by
        rw [hi, Bool.false_or]
        exact beq_eq_false_iff_ne.mpr hk
      have hq := q2 (fun z => z.elim hx hk)
      have fresh := I.hok.fresh (Nat.le_refl s.heap.objs.size)
      by_cases hk0 : k ≤ 0
      · have c2 : (decide (k ≤ 0) || its.toArray.isEmpty) = true := by rw [decide_eq_true hk0]; rfl
        refine call_meets F.slot_tuple_mul ⟨_, ho, rfl⟩ F.entry_tuple_mul (F.args_tuple_mul_2 _ _) (tuple_mulN l its.toArray n dd sl k t c0 c1 c2) ⟨ho, ?_⟩
        have ek : k.toNat = 0 := by omega
        have q := hq s.heap.objs.size fresh
        rw [ek] at q
        refine ⟨.ref s.heap.objs.size, _, I.laid (t' := s.toks) (o := .tup (List.replicate 0 xs).flatten) (fun b ob q => Heap.get?_push_of_some _ q) (Nat.le_refl _) ?_, rfl, q⟩
        exact ⟨Nat.zero_le _, [], .nil, IsTup.new _ _⟩
      · have hsz0 : its.toArray.size = xs.length := by rw [List.size_toArray, hle]
        have c2 : (decide (k ≤ 0) || its.toArray.isEmpty) = false := by
          rw [hi, Bool.or_false]
          exact decide_eq_false hk0
        have em : ((xs.length : Nat) : Int) * k = ((xs.length * k.toNat : Nat) : Int) := by
          rw [Int.natCast_mul, Int.toNat_of_nonneg (by omega)]
        have hz' := hz
        rw [sizeLine_eq] at hz'
        have c3 : ¬ ((its.toArray.size : Nat) : Int) * k > (2 ^ 63 - 1) / 8 := by
          rw [hsz0, em]
          omega
        have c4 : Builtin.Tuple.tupleTooMany (((its.toArray.size : Nat) : Int) * k) = false := by
          unfold Builtin.Tuple.tupleTooMany
          rw [sizeLine_eq, hsz0, em]
          exact decide_eq_false (by omega)
        have flen : (List.replicate k.toNat its).flatten.length ≤ sizeLine := by
          rw [PyProof.Rows.lm_len_rep_flat, hle, Nat.mul_comm]
          exact hz
        refine call_meets F.slot_tuple_mul ⟨_, ho, rfl⟩ F.entry_tuple_mul (F.args_tuple_mul_2 _ _) (tuple_mulW l its.toArray n dd sl k t c0 c1 c2 c3 c4 (by rw [size_rep, List.size_toArray]; exact flen)) ⟨ho, ?_⟩
        rw [size_rep]
        refine ⟨.ref s.heap.objs.size, _, I.laid (t' := s.toks) (o := .tup (List.replicate k.toNat xs).flatten) (fun b ob q => Heap.get?_push_of_some _ q) (Nat.le_refl _) ?_, rfl, hq _ fresh⟩
        exact ⟨by rw [PyProof.Rows.lm_len_rep_flat, Nat.mul_comm]; exact hz, _, r.rep k.toNat, IsTup.new _ _⟩
end
section
variable {X : Cx} {c : Cc}
theorem opA_add : OpR X (binaryOp .Add) (c.rOp addV) := by
  refine OpR.imp (op_add.or (op_add_str.or (op_catA.or op_cat))) fun x y H Q ⟨W, s, h, σ, a, b, rs, wa, wb, p⟩ => ?_
  obtain ⟨z, ez, p⟩ := Cc.po_opt p
  unfold addV at ez
  split at ez
  · cases ez
    exact .inl ⟨_, _, ra_int wa, ra_int wb, Cc.po_now p rs ra_int'⟩
  · split at ez
    · cases ez
      rename_i hz
      exact .inr (.inl ⟨_, _, ra_str wa, ra_str wb, sz_line hz, Cc.po_now p rs ra_str'⟩)
    · cases ez
  · split at ez
    · cases ez
      rename_i hz
      obtain ⟨pa, va, rfl, sa, la⟩ := ra_tup wa
      obtain ⟨pb, vb, rfl, sb, lb⟩ := ra_tup wb
      refine .inr (.inr (.inl ⟨pa, pb, va, vb, rfl, rfl, SqT.of sa, SqT.of sb, by rw [← la.len, ← lb.len]; exact sz_line hz, fun e => ?_, fun _ e => ?_, fun _ _ q hq => ?_⟩))
      · subst e
        refine Cc.po_now p rs ?_
        unfold Cc.ra RA
        exact ⟨pb, vb, rfl, sb, la.app lb⟩
      · subst e
        refine Cc.po_now p rs ?_
        unfold Cc.ra RA
        exact ⟨pa, va, rfl, sa, by have := la.app lb; rw [List.append_nil] at this; exact this⟩
      · exact Cc.po_tup p rs (la.app lb) hq
    · cases ez
  · split at ez
    · cases ez
      rename_i hz
      obtain ⟨pa, va, rfl, fa, sa, la⟩ := ra_lst wa
      obtain ⟨pb, vb, rfl, fb, sb, lb⟩ := ra_lst wb
      exact .inr (.inr (.inr ⟨pa, pb, va, vb, rfl, rfl, sa, sb, by rw [← la.len, ← lb.len]; exact sz_line hz, fun q hq => Cc.po_lst p rs (la.app lb) hq⟩))
    · cases ez
  · cases ez
theorem opA_sub : OpR X (binaryOp .Sub) (c.rOp subV) := by
  refine OpR.imp op_sub fun x y H Q ⟨W, s, h, σ, a, b, rs, wa, wb, p⟩ => ?_
  obtain ⟨z, ez, p⟩ := Cc.po_opt p
  unfold subV at ez
  split at ez
  · cases ez
    exact ⟨_, _, ra_int wa, ra_int wb, Cc.po_now p rs ra_int'⟩
  · cases ez
theorem rep_ok {n : Nat} {k : Int} (h : repOk n k = true) : n * k.toNat ≤ sizeLine ∧ -(2 ^ 63) ≤ k ∧ k < 2 ^ 63 := by
  obtain ⟨h1, h2⟩ := ba2 h
  obtain ⟨h2, h3⟩ := ba2 h2
  exact ⟨sz_line h1, of_decide_eq_true h2, of_decide_eq_true h3⟩
theorem opA_mul : OpR X (binaryOp .Mult) (c.rOp mulV) := by
  refine OpR.imp (op_mulX.or (op_repA.or op_rep)) fun x y H Q ⟨W, s, h, σ, a, b, rs, wa, wb, p⟩ => ?_
  obtain ⟨z, ez, p⟩ := Cc.po_opt p
  unfold mulV at ez
  split at ez
  · split at ez
    · cases ez
      rename_i hz
      exact .inl ⟨_, _, ra_int wa, ra_int wb, of_decide_eq_true hz, Cc.po_now p rs ra_int'⟩
    · cases ez
  · split at ez
    · cases ez
      rename_i hz
      obtain ⟨h1, h2, h3⟩ := rep_ok hz
      obtain ⟨pa, va, rfl, fa, sa, la⟩ := ra_lst wa
      exact .inr (.inr ⟨pa, _, va, rfl, ra_int wb, sa, h2, h3, by rw [← la.len]; exact h1, fun q hq => Cc.po_lst p rs (la.rep _) hq⟩)
    · cases ez
  · split at ez
    · cases ez
      rename_i xs k _ hz
      obtain ⟨h1, h2, h3⟩ := rep_ok hz
      obtain ⟨pa, va, rfl, sa, la⟩ := ra_tup wa
      refine .inr (.inl ⟨pa, _, va, rfl, ra_int wb, SqT.of sa, h2, h3, by rw [← la.len]; exact h1, fun e => ?_, fun _ q hq => Cc.po_tup p rs (la.rep _) hq⟩)
      have e2 : (List.replicate k.toNat xs).flatten = xs := by
        rcases e with e | e
        · subst e
          have : xs = [] := List.eq_nil_of_length_eq_zero la.len
          subst this
          simp
        · subst e
          simp
      rw [e2] at p
      refine Cc.po_now p rs ?_
      unfold Cc.ra RA
      exact ⟨pa, va, rfl, sa, la⟩
    · cases ez
  · cases ez
theorem opA_fdv : OpR X (binaryOp .FloorDiv) (c.rOp fdvV) := by
  refine OpR.imp op_fdivX fun x y H Q ⟨W, s, h, σ, a, b, rs, wa, wb, p⟩ => ?_
  obtain ⟨z, ez, p⟩ := Cc.po_opt p
  unfold fdvV at ez
  split at ez
  · split at ez
    · cases ez
      rename_i hz
      obtain ⟨h1, h2⟩ := ba2 hz
      exact ⟨_, _, ra_int wa, ra_int wb, ⟨of_decide_eq_true h1, by simpa using h2⟩, Cc.po_now p rs ra_int'⟩
    · cases ez
  · cases ez
theorem opA_mod : OpR X (binaryOp .Mod) (c.rOp modV) := by
  refine OpR.imp op_mod fun x y H Q ⟨W, s, h, σ, a, b, rs, wa, wb, p⟩ => ?_
  obtain ⟨z, ez, p⟩ := Cc.po_opt p
  unfold modV at ez
  split at ez
  · split at ez
    · cases ez
      rename_i hz
      exact ⟨_, _, ra_int wa, ra_int wb, of_decide_eq_true hz, Cc.po_now p rs ra_int'⟩
    · cases ez
  · cases ez
theorem opA_pow : OpR X (binaryOp .Pow) (c.rOp powV) := by
  refine OpR.imp op_pow fun x y H Q ⟨W, s, h, σ, a, b, rs, wa, wb, p⟩ => ?_
  obtain ⟨z, ez, p⟩ := Cc.po_opt p
  unfold powV at ez
  split at ez
  · split at ez
    · cases ez
      rename_i hz
      obtain ⟨h1, h2⟩ := ba2 hz
      obtain ⟨h2, h3⟩ := ba2 h2
      have h2 := of_decide_eq_true h2
      exact ⟨_, _, ra_int wa, ra_int wb, ⟨of_decide_eq_true h1, by omega, of_decide_eq_true h3⟩, Cc.po_now p rs ra_int'⟩
    · cases ez
  · cases ez
def opB : BOp → Operator
  | .add => .Add
  | .sub => .Sub
  | .mul => .Mult
  | .fdiv => .FloorDiv
  | .mod => .Mod
  | .pow => .Pow
theorem opA (o : BOp) : OpR X (binaryOp (opB o)) (c.rOp (bopV o)) := by
  cases o with
  | add => exact opA_add
  | sub => exact opA_sub
  | mul => exact opA_mul
  | fdiv => exact opA_fdv
  | mod => exact opA_mod
  | pow => exact opA_pow
variable {a b : Expr} {xa xb : Ex} {pos : Pos}
theorem ok_bop {o : BOp} (ha : PE X a (c.tE xa)) (hb : PE X b (c.tE xb)) : PE X (.BinOp a (opB o) b pos) (c.tE (.bop o xa xb)) := by
  refine PE.imp (pe_op (opA (c := c) o) ha hb) fun σ H Q w => bin_of (f := fun x y h => opt (bopV o x y) h) (fun W s h H x y v u Q rs wx wy p => ⟨W, s, h, σ, x, y, rs, wx, wy, ?_⟩) ?_
  · exact p
  · exact w
end
end AM
/-! Data, keys, comparisons. -/
namespace AM
open PySem PySem.Spec PyProof.Rows L2
section
variable {K : PySem.W.Frag} {T : Nm} {W : Wd} {H : Hp}
theorem dp_ints : ∀ ns : List Int, DpAll K H (ns.map V.int) (ns.map PyData.int)
  | [] => .nil
  | n :: ns => .cons (.int n) (dp_ints ns)
mutual
theorem ra_dp : ∀ {x : AV} {v : V} {d : PyData}, dat x = some d → RA K T W H x v → Dp K H v d
  | .non, v, d, e, h => by
    unfold dat at e
    cases e
    unfold RA at h
    subst h
    exact .non
  | .bl b, v, d, e, h => by
    unfold dat at e
    cases e
    unfold RA at h
    subst h
    exact .bl b
  | .int i, v, d, e, h => by
    unfold dat at e
    cases e
    unfold RA at h
    subst h
    exact .int i
  | .str x, v, d, e, h => by
    unfold dat at e
    cases e
    unfold RA at h
    subst h
    exact .str x
  | .tup xs, v, d, e, h => by
    unfold dat at e
    obtain ⟨ds, e1, e2⟩ := Option.map_eq_some_iff.mp e
    subst e2
    unfold RA at h
    obtain ⟨p, vs, rfl, h1, h2⟩ := h
    exact .tup (SqT.of h1) (ras_dp e1 h2)
  | .lst xs, v, d, e, h => by
    unfold dat at e
    obtain ⟨ds, e1, e2⟩ := Option.map_eq_some_iff.mp e
    subst e2
    unfold RA at h
    obtain ⟨p, vs, rfl, _, h1, h2⟩ := h
    exact .lst (SqL.of h1) (ras_dp e1 h2)
  | .ktup xs, v, d, e, h => by
    unfold dat at e
    obtain ⟨ds, e1, e2⟩ := Option.map_eq_some_iff.mp e
    subst e2
    unfold RA at h
    obtain ⟨p, vs, o, its, n, rfl, h1, h2⟩ := h
    exact .tup (.inr ⟨o, its, n, h1⟩) (ras_dp e1 h2)
  | .scr ns, v, d, e, h => by
    unfold dat at e
    cases e
    unfold RA at h
    obtain ⟨p, rfl, h1⟩ := h
    refine .lst ?_ (dp_ints ns)
    rcases h1 with ⟨o, h1⟩ | h1
    · exact .inl (.inr ⟨o, h1⟩)
    · exact .inr h1
  | .dct _ kvs, v, d, e, h => by
    unfold dat at e
    cases e
  | .obj c fs, v, d, e, h => by
    unfold dat at e
    cases e
  | .ref n, v, d, e, h => by
    unfold dat at e
    cases e
theorem ras_dp : ∀ {xs : List AV} {vs : List V} {ds : List PyData}, dats xs = some ds → RAs K T W H xs vs → DpAll K H vs ds
  | [], vs, ds, e, h => by
    unfold dats at e
    cases e
    unfold RAs at h
    subst h
    exact .nil
  | x :: xs, vs, ds, e, h => by
    unfold dats at e
    cases e1 : dat x with
    | none =>
      rw [e1] at e
      cases e
    | some d =>
      cases e2 : dats xs with
      | none =>
        rw [e1, e2] at e
        cases e
      | some ds' =>
        rw [e1, e2] at e
        cases e
        unfold RAs at h
        obtain ⟨v, r, rfl, h1, h2⟩ := h
        exact .cons (ra_dp e1 h1) (ras_dp e2 h2)
end

/-! ### keys -/
theorem keyK_of {x : AV} (h : isK x = true) : ∃ k, keyK x k := by
  cases x with
  | int i => exact ⟨.inl i, rfl⟩
  | str x => exact ⟨.inr x, rfl⟩
  | _ => cases h
theorem keyK_v {x : AV} {k : Key} {v : V} (h : keyK x k) (r : RA K T W H x v) : v = kV k := by
  cases x with
  | int i =>
    cases k with
    | inl j =>
      have e : i = j := h
      subst e
      exact ra_int r
    | inr _ => exact h.elim
  | str x =>
    cases k with
    | inr j =>
      have e : x = j := h
      subst e
      exact ra_str r
    | inl _ => exact h.elim
  | _ => exact h.elim
theorem keyKs_of : ∀ {xs : List AV}, xs.all isK = true → ∃ ks, keyKs xs ks
  | [], _ => ⟨[], trivial⟩
  | x :: xs, h => by
    rw [List.all_cons] at h
    obtain ⟨h1, h2⟩ := ba2 h
    obtain ⟨k, hk⟩ := keyK_of h1
    obtain ⟨ks, hks⟩ := keyKs_of h2
    exact ⟨k :: ks, hk, hks⟩
theorem keyKs_v : ∀ {xs : List AV} {ks : List Key} {vs : List V}, keyKs xs ks → RAs K T W H xs vs → vs = ks.map kV
  | [], [], vs, _, r => by
    unfold RAs at r
    exact r
  | [], _ :: _, _, h, _ => h.elim
  | _ :: _, [], _, h, _ => h.elim
  | x :: xs, k :: ks, vs, h, r => by
    unfold RAs at r
    obtain ⟨v, r', rfl, h1, h2⟩ := r
    rw [keyK_v h.1 h1, keyKs_v h.2 h2]
    rfl
theorem same_k {x y : AV} {k l : Key} (h : keyK x k) (g : keyK y l) : AV.same x y = decide (k = l) := by
  cases x with
  | int i =>
    cases k with
    | inr _ => exact h.elim
    | inl j =>
      have e : i = j := h
      subst e
      cases y with
      | int i' =>
        cases l with
        | inr _ => exact g.elim
        | inl j' =>
          have e : i' = j' := g
          subst e
          unfold AV.same
          simp
      | str x' =>
        cases l with
        | inl _ => exact g.elim
        | inr j' =>
          unfold AV.same
          simp
      | _ => exact g.elim
  | str x =>
    cases k with
    | inl _ => exact h.elim
    | inr j =>
      have e : x = j := h
      subst e
      cases y with
      | int i' =>
        cases l with
        | inr _ => exact g.elim
        | inl j' =>
          unfold AV.same
          simp
      | str x' =>
        cases l with
        | inl _ => exact g.elim
        | inr j' =>
          have e : x' = j' := g
          subst e
          unfold AV.same
          simp
      | _ => exact g.elim
  | _ => exact h.elim
theorem same_ks : ∀ {xs ys : List AV} {ks ls : List Key}, keyKs xs ks → keyKs ys ls → AV.sames xs ys = decide (ks = ls)
  | [], [], [], [], _, _ => by
    unfold AV.sames
    simp
  | [], y :: ys, [], l :: ls, _, _ => by
    unfold AV.sames
    simp
  | x :: xs, [], k :: ks, [], _, _ => by
    unfold AV.sames
    simp
  | x :: xs, y :: ys, k :: ks, l :: ls, h, g => by
    unfold AV.sames
    rw [same_k h.1 g.1, same_ks h.2 g.2]
    by_cases e : k = l
    · subst e
      by_cases e2 : ks = ls
      · subst e2
        simp
      · simp [e2]
    · simp [e]
  | [], _, _ :: _, _, h, _ => h.elim
  | _ :: _, _, [], _, h, _ => h.elim
  | _, [], _, _ :: _, _, h => h.elim
  | _, _ :: _, _, [], _, h => h.elim
theorem keyT_of {x : AV} (h : isKT x = true) : ∃ k, keyT x k := by
  cases x with
  | tup xs => exact keyKs_of h
  | _ => cases h
theorem same_t {x y : AV} {k l : List Key} (h : keyT x k) (g : keyT y l) : AV.same x y = decide (k = l) := by
  cases x with
  | tup xs =>
    cases y with
    | tup ys =>
      unfold AV.same
      exact same_ks h g
    | _ => exact g.elim
  | _ => exact h.elim
theorem keyT_v {x : AV} {k : List Key} {v : V} (h : keyT x k) (r : RA K T W H x v) : ∃ p, v = .ref p ∧ H p = some (.tup (k.map kV)) := by
  cases x with
  | tup xs =>
    obtain ⟨p, vs, rfl, h1, h2⟩ := ra_tup r
    rw [keyKs_v h h2] at h1
    exact ⟨p, rfl, h1⟩
  | _ => exact h.elim
/-- what stands at a key, on both sides -/
def ROpt (K : PySem.W.Frag) (T : Nm) (W : Wd) (H : Hp) : Option AV → Option V → Prop
  | some a, some v => RA K T W H a v
  | none, none => True
  | _, _ => False
theorem RKs.get : ∀ {kvs : List (AV × AV)} {kv : List (Key × V)} {q : AV} {k : Key}, RKs K T W H kvs kv → keyK q k → ROpt K T W H (dGet kvs q) (valV kv k)
  | [], kv, q, k, h, _ => by
    unfold RKs at h
    subst h
    exact trivial
  | (a, x) :: r, kv, q, k, h, g => by
    unfold RKs at h
    obtain ⟨k', v, r', rfl, h0, h1, h2⟩ := h
    unfold dGet
    rw [same_k h0 g]
    by_cases e : k' = k
    · rw [if_pos (decide_eq_true e), valV_pos (p := (k', v)) e]
      exact h1
    · rw [if_neg (by simp [e]), valV_neg (p := (k', v)) e]
      exact RKs.get h2 g
theorem RTs.get : ∀ {kvs : List (AV × AV)} {kv : List (List Key × V)} {q : AV} {k : List Key}, RTs K T W H kvs kv → keyT q k → ROpt K T W H (dGet kvs q) (valV kv k)
  | [], kv, q, k, h, _ => by
    unfold RTs at h
    subst h
    exact trivial
  | (a, x) :: r, kv, q, k, h, g => by
    unfold RTs at h
    obtain ⟨k', v, r', rfl, h0, h1, h2⟩ := h
    unfold dGet
    rw [same_t h0 g]
    by_cases e : k' = k
    · rw [if_pos (decide_eq_true e), valV_pos (p := (k', v)) e]
      exact h1
    · rw [if_neg (by simp [e]), valV_neg (p := (k', v)) e]
      exact RTs.get h2 g
/-- a dict's content at a place (read) -/
def RD (K : PySem.W.Frag) (T : Nm) (W : Wd) (H : Hp) (t : Bool) (kvs : List (AV × AV)) (p : Addr) : Prop := match t with
  | false => ∃ kv, Rd H p (.dK kv) ∧ RKs K T W H kvs kv
  | true => ∃ kv, Rd H p (.dT kv) ∧ RTs K T W H kvs kv
/-- a key is looked up -/
theorem RD.get {t : Bool} {kvs : List (AV × AV)} {p : Addr} {q : AV} {y : V} (h : RD K T W H t kvs p) (hk : keyOk t q = true) (r : RA K T W H q y) : ∃ o, ROpt K T W H (dGet kvs q) o ∧ DGet H p y o := by
  cases t with
  | false =>
    obtain ⟨kv, h3, h4⟩ := h
    obtain ⟨k, kk⟩ := keyK_of hk
    exact ⟨_, h4.get kk, .inl ⟨kv, k, h3, keyK_v kk r, rfl⟩⟩
  | true =>
    obtain ⟨kv, h3, h4⟩ := h
    obtain ⟨k, kk⟩ := keyT_of hk
    obtain ⟨b, rfl, hb⟩ := keyT_v kk r
    exact ⟨_, h4.get kk, .inr ⟨kv, k, b, h3, rfl, hb, rfl⟩⟩
theorem ra_dct {t : Bool} {kvs : List (AV × AV)} {v : V} (h : RA K T W H (.dct t kvs) v) : ∃ p, v = .ref p ∧ W.F p ∧ RD K T W H t kvs p := by
  cases t <;> (unfold RA at h; obtain ⟨p, e, h1, h2⟩ := h; exact ⟨p, e, h1, h2⟩)
theorem rb_dct {t : Bool} {kvs : List (AV × AV)} {v : V} (h : RB K T W H (.dct t kvs) v) : ∃ p, v = .ref p ∧ RD K T W H t kvs p := by
  rcases h with h | ⟨p, e, _, h⟩
  · obtain ⟨p, e, _, h⟩ := ra_dct h
    exact ⟨p, e, h⟩
  · refine ⟨p, e, ?_⟩
    cases t <;> (obtain ⟨kv, h1, h2⟩ := h; exact ⟨kv, .inl h1, h2⟩)
theorem rb_lst {xs : List AV} {v : V} (h : RB K T W H (.lst xs) v) : ∃ p vs, v = .ref p ∧ H p = some (.lst vs) ∧ RAs K T W H xs vs := by
  rcases h with h | ⟨p, e, _, vs, h1, h2⟩
  · obtain ⟨p, vs, e, _, h1, h2⟩ := ra_lst h
    exact ⟨p, vs, e, h1, h2⟩
  · exact ⟨p, vs, e, h1, h2⟩
/-- what is no container is borrowed as it is -/
theorem rb_ra {x : AV} {v : V} (h : RB K T W H x v) (hx : isCont x = false) : RA K T W H x v := by
  rcases h with h | ⟨p, e, _, h⟩
  · exact h
  · cases x with
    | lst _ => cases hx
    | dct _ _ => cases hx
    | obj _ _ => cases hx
    | _ => exact h.elim
theorem RB.mono {W' : Wd} {H' : Hp} {x : AV} {v : V} (h : RB K T W H x v) (e : Ext W H W' H') {hh : AH} (r : RH K T W hh H) : RB K T W' H' x v := by
  have m := e.mo r
  rcases h with h | ⟨p, ev, hp, h⟩
  · exact .inl (h.mono m)
  · obtain ⟨o, ho, _⟩ := h.some
    refine .inr ⟨p, ev, fun z => ?_, h.mono m fun o ho => e.keep p o ho hp⟩
    rcases e.newMu p z with z | z
    · exact hp z
    · rw [ho] at z; cases z
end
end AM
/-! Comparisons. -/
namespace AM
open PySem PySem.Spec PyProof.Rows L2
section
variable {K : PySem.W.Frag} {T : Nm} {W : Wd} {H : Hp}
theorem rb_dp {x : AV} {v : V} {d : PyData} (e : dat x = some d) (h : RB K T W H x v) : Dp K H v d := by
  rcases h with h | ⟨p, ev, _, h⟩
  · exact ra_dp e h
  · subst ev
    cases x with
    | lst xs =>
      obtain ⟨vs, h1, h2⟩ := h
      unfold dat at e
      obtain ⟨ds, e1, e2⟩ := Option.map_eq_some_iff.mp e
      subst e2
      exact .lst (SqL.of h1) (ras_dp e1 h2)
    | dct t kvs =>
      unfold dat at e
      cases e
    | obj c fs =>
      unfold dat at e
      cases e
    | _ => exact h.elim
theorem flat_v {x : AV} {v : V} (f : isFlat x = true) (h : RA K T W H x v) : v = toV x ∧ flatV v = true := by
  cases x with
  | non => unfold RA at h; subst h; exact ⟨rfl, rfl⟩
  | bl _ => unfold RA at h; subst h; exact ⟨rfl, rfl⟩
  | int _ => unfold RA at h; subst h; exact ⟨rfl, rfl⟩
  | str _ => unfold RA at h; subst h; exact ⟨rfl, rfl⟩
  | _ => cases f
theorem flat_vs : ∀ {xs : List AV} {vs : List V}, xs.all isFlat = true → RAs K T W H xs vs → vs = xs.map toV ∧ vs.all flatV = true
  | [], vs, _, h => by
    unfold RAs at h
    subst h
    exact ⟨rfl, rfl⟩
  | x :: xs, vs, f, h => by
    unfold RAs at h
    obtain ⟨v, r, rfl, h1, h2⟩ := h
    rw [List.all_cons] at f
    obtain ⟨f1, f2⟩ := ba2 f
    obtain ⟨e1, e2⟩ := flat_v f1 h1
    obtain ⟨e3, e4⟩ := flat_vs f2 h2
    refine ⟨by rw [e1, e3]; rfl, ?_⟩
    rw [List.all_cons, e2, e4]
    rfl
theorem isNon_v {x : AV} {v : V} (h : RA K T W H x v) : decide (v = .non) = isNon x := by
  cases x with
  | non => unfold RA at h; subst h; rfl
  | bl _ => unfold RA at h; subst h; exact decide_eq_false (fun e => by cases e)
  | int _ => unfold RA at h; subst h; exact decide_eq_false (fun e => by cases e)
  | str _ => unfold RA at h; subst h; exact decide_eq_false (fun e => by cases e)
  | tup _ => unfold RA at h; obtain ⟨_, _, rfl, _⟩ := h; exact decide_eq_false (fun e => by cases e)
  | lst _ => unfold RA at h; obtain ⟨_, _, rfl, _⟩ := h; exact decide_eq_false (fun e => by cases e)
  | ktup _ => unfold RA at h; obtain ⟨_, _, _, _, _, rfl, _⟩ := h; exact decide_eq_false (fun e => by cases e)
  | scr _ => unfold RA at h; obtain ⟨_, rfl, _⟩ := h; exact decide_eq_false (fun e => by cases e)
  | obj _ _ => unfold RA at h; obtain ⟨_, _, _, rfl, _⟩ := h; exact decide_eq_false (fun e => by cases e)
  | ref _ => unfold RA at h; obtain ⟨_, _, rfl⟩ := h; exact decide_eq_false (fun e => by cases e)
  | dct t _ => cases t <;> (unfold RA at h; obtain ⟨_, rfl, _⟩ := h; exact decide_eq_false (fun e => by cases e))
theorem ROpt.isSome {a : Option AV} {v : Option V} (h : ROpt K T W H a v) : a.isSome = v.isSome := by
  cases a <;> cases v <;> first | rfl | exact h.elim
end
section
variable {X : Cx} {c : Cc}
theorem op_inDict (hu : X.A.units + 1 < cLine) : OpR X (compareOp .In) (fun x y H Q => ∃ a o, y = .ref a ∧ DGet H a x o ∧ Q (.bl o.isSome) H) := by
  intro pins s σ H x y v u Q I rx ry h
  obtain ⟨a, o, ey, g, q⟩ := h
  subst ey
  obtain rfl : u = Value.ref a := ry
  exact d_in hu I g rx fun s3 I3 => ⟨.bl o.isSome, H, I3, rfl, q⟩
theorem op_notInDict (hu : X.A.units + 1 < cLine) : OpR X (compareOp .NotIn) (fun x y H Q => ∃ a o, y = .ref a ∧ DGet H a x o ∧ Q (.bl (!o.isSome)) H) := by
  intro pins s σ H x y v u Q I rx ry h
  obtain ⟨a, o, ey, g, q⟩ := h
  subst ey
  obtain rfl : u = Value.ref a := ry
  exact d_notIn hu I g rx fun s3 I3 => ⟨.bl (!o.isSome), H, I3, rfl, q⟩
/-- a comparison by the machine's values, the right one borrowed -/
def Cc.rCm (c : Cc) (g : AV → AV → Option Bool) : R2 := fun x y H Q => ∃ W s h σ a b, c.Rs W s h σ H ∧ RA c.K c.T W H a x ∧ RB c.K c.T W H b y ∧
  c.po s σ W H c.ra ((opt (g a b) h).bnd fun k h => .ok (.bl k) h) Q
/-- what is left: the answer is known -/
theorem Cc.po_cm {W : Wd} {s : Fr} {σ : L2.St} {H : Hp} {h : AH} {o : Option Bool} {Q : VK} (r : c.Rs W s h σ H) (p : c.po s σ W H c.ra ((opt o h).bnd fun k h => .ok (.bl k) h) Q) : ∃ k, o = some k ∧ Q (.bl k) H := by
  cases o with
  | none => exact p.elim
  | some k => exact ⟨k, rfl, Cc.po_now p r ra_bl'⟩
theorem in_cases {W : Wd} {H : Hp} {a b : AV} {x y : V} {k : Bool} {Q : Bool → Prop} (e : inAV a b = some k) (wa : RA c.K c.T W H a x) (wb : RB c.K c.T W H b y) (q : Q k) :
    (∃ d ds, Dp c.K H x d ∧ Dp c.K H y (.list ds) ∧ SeqAt.shaped d = true ∧ SeqAt.shaped (.list ds) = true ∧ Q (ds.any fun z => PyData.eqv z d)) ∨
    (∃ p xs, y = .ref p ∧ (SqL c.K H p xs ∨ SqT c.K H p xs) ∧ flatV x = true ∧ xs.all flatV = true ∧ Q (inV x xs)) ∨
    (∃ p o, y = .ref p ∧ DGet H p x o ∧ Q o.isSome) ∨
    (∃ (n : Nat) (z : Str), x = .str ⟨#[n]⟩ ∧ y = .str z ∧ Q (decide (n ∈ z.cps.toList))) := by
  unfold inAV at e
  split at e
  · rename_i ys
    cases e1 : dat a with
    | none =>
      rw [e1] at e
      cases e
    | some d =>
      cases e2 : dats ys with
      | none =>
        rw [e1, e2] at e
        cases e
      | some ds =>
        rw [e1, e2] at e
        simp only at e
        split at e
        · rename_i hs
          cases e
          exact .inl ⟨d, ds, ra_dp e1 wa, rb_dp (by unfold dat; rw [e2]; rfl) wb, hs.1, hs.2, q⟩
        · cases e
  · split at e
    · rename_i hs
      cases e
      obtain ⟨p, vs, rfl, h1, h2⟩ := ra_tup (rb_ra wb rfl)
      obtain ⟨e1, e2⟩ := flat_v hs.1 wa
      obtain ⟨e3, e4⟩ := flat_vs hs.2 h2
      refine .inr (.inl ⟨p, vs, rfl, .inr (SqT.of h1), e2, e4, ?_⟩)
      rw [e1, e3]
      exact q
    · cases e
  · split at e
    · rename_i hs
      cases e
      obtain ⟨p, vs, rfl, h1, h2⟩ := ra_ktup (rb_ra wb rfl)
      obtain ⟨e1, e2⟩ := flat_v hs.1 wa
      obtain ⟨e3, e4⟩ := flat_vs hs.2 h2
      refine .inr (.inl ⟨p, vs, rfl, .inr h1, e2, e4, ?_⟩)
      rw [e1, e3]
      exact q
    · cases e
  · split at e
    · rename_i hk
      cases e
      obtain ⟨p, rfl, h1⟩ := rb_dct wb
      obtain ⟨o, h2, h3⟩ := h1.get hk wa
      refine .inr (.inr (.inl ⟨p, o, rfl, h3, ?_⟩))
      rw [← h2.isSome]
      exact q
    · cases e
  · cases e
    exact .inr (.inr (.inr ⟨_, _, ra_str wa, ra_str (rb_ra wb rfl), q⟩))
  · cases e
theorem opM_in (hu : X.A.units + 65 < cLine) (hK : X.K = c.K) : OpR X (compareOp .In) (c.rCm inAV) := by
  refine OpR.imp ((op_inD hu).or (op_in_seq.or ((op_inDict (by omega)).or op_in_sign))) fun x y H Q ⟨W, s, h, σ, a, b, rs, wa, wb, p⟩ => ?_
  obtain ⟨k, e, q⟩ := Cc.po_cm rs p
  rw [hK]
  exact in_cases (Q := fun k => Q (.bl k) H) e wa wb q
theorem opM_notin (hu : X.A.units + 65 < cLine) (hK : X.K = c.K) : OpR X (compareOp .NotIn) (c.rCm fun a b => (inAV a b).map (!·)) := by
  refine OpR.imp ((op_notInD hu).or (op_notIn_seq.or ((op_notInDict (by omega)).or op_notIn_sign))) fun x y H Q ⟨W, s, h, σ, a, b, rs, wa, wb, p⟩ => ?_
  obtain ⟨k, e, q⟩ := Cc.po_cm rs p
  obtain ⟨k', e', rfl⟩ := Option.map_eq_some_iff.mp e
  rw [hK]
  exact in_cases (Q := fun k => Q (.bl (!k)) H) e' wa wb q
theorem eq_data {W : Wd} {H : Hp} {a b : AV} {x y : V} {k : Bool} (e : eqAV a b = some k) (wa : RA c.K c.T W H a x) (wb : RB c.K c.T W H b y) :
    ∃ d e, Dp c.K H x d ∧ Dp c.K H y e ∧ SeqAt.shaped d = true ∧ SeqAt.shaped e = true ∧ PyData.eqv d e = k := by
  unfold eqAV at e
  cases e1 : dat a with
  | none =>
    rw [e1] at e
    cases e
  | some d =>
    cases e2 : dat b with
    | none =>
      rw [e1, e2] at e
      cases e
    | some d2 =>
      rw [e1, e2] at e
      simp only at e
      split at e
      · rename_i hs
        cases e
        exact ⟨d, d2, ra_dp e1 wa, rb_dp e2 wb, hs.1, hs.2, rfl⟩
      · cases e
theorem opM_eq (hu : X.A.units + 65 < cLine) (hK : X.K = c.K) : OpR X (compareOp .Eq) (c.rCm eqAV) := by
  refine OpR.imp (op_eqD (by omega)) fun x y H Q ⟨W, s, h, σ, a, b, rs, wa, wb, p⟩ => ?_
  obtain ⟨k, e, q⟩ := Cc.po_cm rs p
  obtain ⟨d, d2, h1, h2, h3, h4, rfl⟩ := eq_data e wa wb
  rw [hK]
  exact ⟨d, d2, h1, h2, h3, h4, q⟩
theorem opM_ne (hu : X.A.units + 65 < cLine) (hK : X.K = c.K) : OpR X (compareOp .NotEq) (c.rCm fun a b => (eqAV a b).map (!·)) := by
  refine OpR.imp (op_neD (by omega)) fun x y H Q ⟨W, s, h, σ, a, b, rs, wa, wb, p⟩ => ?_
  obtain ⟨k, e, q⟩ := Cc.po_cm rs p
  obtain ⟨k', e', rfl⟩ := Option.map_eq_some_iff.mp e
  obtain ⟨d, d2, h1, h2, h3, h4, rfl⟩ := eq_data e' wa wb
  rw [hK]
  exact ⟨d, d2, h1, h2, h3, h4, q⟩
theorem is_cases {W : Wd} {H : Hp} {a b : AV} {x y : V} {k : Bool} {Q : Bool → Prop} (e : isAV a b = some k) (wa : RA c.K c.T W H a x) (wb : RB c.K c.T W H b y) (q : Q k) :
    (y = .non ∧ Q (decide (x = .non))) ∨ ∃ i j, x = .bl i ∧ y = .bl j ∧ Q (decide (i = j)) := by
  unfold isAV at e
  split at e
  · cases e
    have e2 := rb_ra wb rfl
    unfold RA at e2
    refine .inl ⟨e2, ?_⟩
    rw [isNon_v wa]
    exact q
  · cases e
    exact .inr ⟨_, _, ra_bl wa, ra_bl (rb_ra wb rfl), q⟩
  · cases e
theorem opM_is : OpR X (compareOp .Is) (c.rCm isAV) := by
  refine OpR.imp (op_isN.or op_is_bl) fun x y H Q ⟨W, s, h, σ, a, b, rs, wa, wb, p⟩ => ?_
  obtain ⟨k, e, q⟩ := Cc.po_cm rs p
  exact is_cases (Q := fun k => Q (.bl k) H) e wa wb q
theorem opM_isnot : OpR X (compareOp .IsNot) (c.rCm fun a b => (isAV a b).map (!·)) := by
  refine OpR.imp (op_notN.or op_isnot_bl) fun x y H Q ⟨W, s, h, σ, a, b, rs, wa, wb, p⟩ => ?_
  obtain ⟨k, e, q⟩ := Cc.po_cm rs p
  obtain ⟨k', e', rfl⟩ := Option.map_eq_some_iff.mp e
  exact is_cases (Q := fun k => Q (.bl (!k)) H) e' wa wb q
def opC : COp → CmpOp
  | .eq => .Eq
  | .ne => .NotEq
  | .lt => .Lt
  | .le => .LtE
  | .gt => .Gt
  | .ge => .GtE
  | .is_ => .Is
  | .isnot => .IsNot
  | .in_ => .In
  | .notin => .NotIn
theorem opM_i {op : CmpOp} {g : AV → AV → Option Bool} {f : Int → Int → Bool} (ho : OpR X (compareOp op) (rI0 fun i j => .bl (f i j))) (hg : ∀ a b k, g a b = some k → ∃ i j, a = .int i ∧ b = .int j ∧ k = f i j) : OpR X (compareOp op) (c.rCm g) := by
  refine OpR.imp ho fun x y H Q ⟨W, s, h, σ, a, b, rs, wa, wb, p⟩ => ?_
  obtain ⟨k, e, q⟩ := Cc.po_cm rs p
  obtain ⟨i, j, rfl, rfl, rfl⟩ := hg _ _ _ e
  exact ⟨i, j, ra_int wa, ra_int (rb_ra wb rfl), q⟩
theorem opM (hu : X.A.units + 65 < cLine) (hK : X.K = c.K) (o : COp) : OpR X (compareOp (opC o)) (c.rCm (cmpV o)) := by
  have sp : ∀ (f : Int → Int → Bool) (g : AV → AV → Option Bool), (∀ i j, g (.int i) (.int j) = some (f i j)) → (∀ a b, (∀ i j, ¬ (a = .int i ∧ b = .int j)) → g a b = none) → ∀ a b k, g a b = some k → ∃ i j, a = .int i ∧ b = .int j ∧ k = f i j := by
    intro f g h1 h2 a b k e
    by_cases hx : ∃ i j, a = .int i ∧ b = .int j
    · obtain ⟨i, j, rfl, rfl⟩ := hx
      rw [h1] at e
      cases e
      exact ⟨i, j, rfl, rfl, rfl⟩
    · rw [h2 a b fun i j z => hx ⟨i, j, z⟩] at e
      cases e
  have no : ∀ (o : COp), (o = .lt ∨ o = .le ∨ o = .gt ∨ o = .ge) → ∀ a b, (∀ i j, ¬ (a = .int i ∧ b = .int j)) → cmpV o a b = none := by
    intro o ho a b hn
    rcases ho with rfl | rfl | rfl | rfl <;> (cases a with
      | int i => cases b with
        | int j => exact absurd ⟨rfl, rfl⟩ (hn i j)
        | _ => rfl
      | _ => rfl)
  cases o with
  | eq => exact opM_eq hu hK
  | ne => exact opM_ne hu hK
  | is_ => exact opM_is
  | isnot => exact opM_isnot
  | in_ => exact opM_in hu hK
  | notin => exact opM_notin hu hK
  | lt => exact opM_i op_lt (sp _ _ (fun _ _ => rfl) (no _ (.inl rfl)))
  | le => exact opM_i op_le (sp _ _ (fun _ _ => rfl) (no _ (.inr (.inl rfl))))
  | gt => exact opM_i op_gt (sp _ _ (fun _ _ => rfl) (no _ (.inr (.inr (.inl rfl)))))
  | ge => exact opM_i op_ge (sp _ _ (fun _ _ => rfl) (no _ (.inr (.inr (.inr rfl)))))
end
end AM
/-! Defs that are called where no guard is under way. -/
namespace AM
open PySem PySem.Spec PyProof.Rows L2

theorem guards_deeper {A : Around} (g : A.guards = some []) (env : Env) : (A.deeper env).guards = some [] := by
  first
    | exact g
    | simp [Around.deeper, g]
theorem guards_make {A : Around} (g : A.guards = some []) (C : Addr) (us : List Value) (kw : List (Str × Value)) : (A.under (.builtin "type.__call__" ⟨.ref C :: us, kw⟩)).guards = some [] := by
  simp [Around.under, Code.guards, Code.isGuard, guardIds, pushGuards, g]
/-- as FnOk, with the guards told -/
structure FnG (P : Program) (w : World) (K : PySem.W.Frag) (mg : Str → Option Value) (base : Heap) (k : Nat) (f : Addr) (fd : FuncData) (ps : List Str) (sp : Sp) : Prop where
  len : ∀ vs H Q E, sp vs H Q E → vs.length = ps.length
  run : ∀ (A : Around) (outer : List Env) (s : Shared) (H : Hp) (args : Args) (us : List Value) (vs : List V) (Q : VK) (E : XK), Room k A → A.guards = some [] →
    Env0 P w K mg base A outer s H → BindsTo s fd args (ps.zip us) → Vals vs us → sp vs H Q E → codeAny (model P w) A (.call (.ref f) args) (CR (L2.CX P w) outer P w H s Q E) s
section
variable {P : Program} {w : World} {K : PySem.W.Frag} {mg : Str → Option Value} {base : Heap} {k : Nat} {f : Addr} {name qual : Str} {params : Arguments} {body : List Stmt} {scope : Scope} {dV kV doc pm cdv ct oc : Value} {an od : Option Addr}
  {osl : Array (Option Value)} {N ps : List Str} {sp : Sp}
theorem FnG.of (lk : K.lookup f = some ⟨oc, od, .func (PySem.W.fnOf name qual params body scope dV kV doc pm an cdv ct), osl⟩) (hcd : PySem.W.codeIn K cdv qual = true) (S : FnScope N ps scope) (len : ∀ vs H Q E, sp vs H Q E → vs.length = ps.length)
    (hb : ∀ (A : Around) (outer : List Env) (s : Shared) (H : Hp) (vs : List V) (Q : VK) (E : XK), Room k (A.deeper (envOfC qual scope s.heap.objs.size f cdv)) → A.guards = some [] → sp vs H Q E →
      ∃ t, PSs (cxOf (L2.CX P w) P w K mg base N qual scope f cdv A outer s H E) body t ∧ t { nx := fun _ H' => Q .non H', rt := Q } (start N vs) H) :
    FnG P w K mg base (k + 1) f (PySem.W.fnOf name qual params body scope dV kV doc pm an cdv ct) ps sp where
  len := len
  run := fun A outer s H args us vs Q E room gd env0 bnd rel want => by
    have kin : K.In s.heap := env0.mod.kin.keeps fun b o e => (env0.bs b o e).1
    have nlim : s.heap.NoLimit := env0.mod.nolimit.keeps fun b o e => (env0.bs b o e).1
    have kinds : ∀ y ∈ ps.zip us, scope.names.lookup y.1 = some .local ∨ (scope.names.lookup y.1 = some .cell ∧ ((cellsFrom (s.heap.objs.size + 1) scope.names []).lookup y.1).isSome = true) := by
      rintro ⟨n, v⟩ hy
      rcases S.par n (List.of_mem_zip hy).1 with q | q
      · exact .inl q
      · exact .inr ⟨q, PySem.W.cellsFrom_some _ _ _ (.inl q)⟩
    refine codeAny_call_function room.depth (kin _ _ lk) rfl S.co S.gen rfl (PySem.W.codeRec_of kin hcd) (bnd _ _ _ _ (wpAny_newFunctionEnv_cells S.kind kinds fun env ee s1 x => ?_))
    subst ee
    obtain ⟨t, bodyOk, now⟩ := hb A outer s H vs Q E (room.deeper _) gd want
    have I : Inv (cxOf (L2.CX P w) P w K mg base N qual scope f cdv A outer s H E) [] (start N vs) H s1 := inv_start S room.hd env0 (len _ _ _ _ want) rel x
    refine ⟨nlim.keeps x.toInCall.keep, codeAny_func (wpAny_mono (bodyOk.run [] s1 (start N vs) H _ I now) (fun fl s' z => ?_) fun e s' z => z)⟩
    cases fl with
    | ret u =>
      obtain ⟨v, _, H', J, rv, q⟩ := z
      exact ⟨v, H', J.os, J.bare, J.base, J.hok, rv, q⟩
    | next =>
      obtain ⟨_, H', J, q⟩ := z
      exact ⟨V.non, H', J.os, J.bare, J.base, J.hok, rfl, q⟩
    | brk =>
      obtain ⟨_, _, _, q⟩ := z
      exact q.elim
    | cont =>
      obtain ⟨_, _, _, q⟩ := z
      exact q.elim
end
section
variable {X : Cx} {k : Nat} {f C : Addr} {fd : FuncData} {ps : List Str} {sp : Sp} {E : XK} {x m : Str} {p pos apos : Pos} {e o : Expr} {es : List Expr} {ta : TE} {t : TA}
abbrev FnX (X : Cx) (k : Nat) (f : Addr) (fd : FuncData) (ps : List Str) (sp : Sp) : Prop := FnG X.prog X.w X.K X.mg X.base k f fd ps sp
/-- every parameter is given, or the defaults fill up: dvs, ds -/
theorem run_g {pins : List (Addr × Obj)} {σ : L2.St} {H : Hp} {s : Shared} {Q : VK} {us : List Value} {vs : List V} (F : FnX X k f fd ps sp) (hr : Room k X.A) (gd : X.A.guards = some []) (hb : Binds X.K fd ps []) (hx : Passes (L2.CX X.prog X.w) X E)
    (I : Inv X pins σ H s) (r : Vals vs us) (h : sp vs H Q E) : wpAny (model X.prog X.w) X.A (call (.ref f) us) (EP X pins σ Q) X.xe s := by
  have hl : us.length = ps.length := by rw [← r.length, F.len _ _ _ _ h]
  have hb' := hb s us I.kIn (by rw [List.append_nil]; exact hl)
  rw [List.append_nil] at hb'
  refine wpAny_call (codeAny_mono (F.run X.A X.stack s H ⟨us, []⟩ us vs Q E hr gd I.env0 hb' r h) fun res s' z => ?_)
  cases res with
  | error err => exact hx pins σ H s err s' I z
  | ok fl => cases fl <;> first | exact I.after z | exact z.elim
def isStar : Expr → Bool
  | .Starred _ _ => true
  | _ => false
theorem star_cons {e : Expr} {es : List Expr} {env : Env} (h : isStar e = false) : starEach (e :: es) env = (false, eval e env) :: starEach es env := by
  cases e with
  | Starred _ _ => cases h
  | _ => rfl
theorem star_none {es : List Expr} {env : Env} {pos : Pos} : es.all (fun e => !isStar e) = true → (backTo pos (starEach es env)).any (·.1) = false := by
  induction es with
  | nil => intro _; rfl
  | cons e es ih =>
    intro h
    rw [List.all_cons] at h
    obtain ⟨h1, h2⟩ := ba2 h
    rw [star_cons (by simpa using h1)]
    show (false || (backTo pos (starEach es env)).any (·.1)) = false
    rw [ih h2]
    rfl
theorem pe_g (F : FnX X k f fd ps sp) (hr : Room k X.A) (gd : X.A.guards = some []) (hg : Gl X x) (hm : X.mg x = some (.ref f)) (hk : PySem.W.keepIn X.K (.ref f) = true) (hb : Binds X.K fd ps []) (hx : Passes (L2.CX X.prog X.w) X E) (ha : PA X (e :: es) t)
    (hdb : (x == ("__debug__" : Str)) = false) (h1 : isStar e = false) (h2 : es.all (fun e => !isStar e) = true) : PE X (.Call (.Name x p) (e :: es) [] pos) (fun σ H Q => t σ H fun vs H1 => sp vs H1 Q E) := by
  constructor
  intro pins s σ H Q I h
  refine wpAny_Call_Name_kw (ld_glob I hg hm (PySem.W.callWith_K (h₀ := X.base) I.ok.mod.kin hk (thn (ha.run pos pins s σ H _ I h) fun us s1 z => ?_) (star_cons h1) (star_none h2)) hdb)
  obtain ⟨vs, H1, I1, r, q⟩ := z
  exact ⟨I1.kIn, run_g F hr gd hb hx I1 r q⟩
theorem pe_g0 (F : FnX X k f fd ps sp) (hr : Room k X.A) (gd : X.A.guards = some []) (hg : Gl X x) (hm : X.mg x = some (.ref f)) (hk : PySem.W.keepIn X.K (.ref f) = true) (hb : Binds X.K fd ps []) (hx : Passes (L2.CX X.prog X.w) X E)
    (hdb : (x == ("__debug__" : Str)) = false) : PE X (.Call (.Name x p) [] [] pos) (fun σ H Q => sp [] H Q E) := by
  constructor
  intro pins s σ H Q I h
  exact wpAny_Call_Name_kw (ld_glob I hg hm (PySem.W.callWith_K0 I.kIn hk (run_g (us := []) F hr gd hb hx I .nil h)) hdb)
/-- a new instance, then __init__ -/
theorem run_mkG {pins : List (Addr × Obj)} {σ : L2.St} {H : Hp} {s : Shared} {Q : VK} {us : List Value} {vs : List V} (M : Mk X.K C f) (F : FnX X k f fd ps sp) (hr : Room (k + 1) X.A) (gd : X.A.guards = some []) (hb : Binds X.K fd ps [])
    (hx : Passes (L2.CX X.prog X.w) X E) (I : Inv X pins σ H s) (r : Vals vs us)
    (h : ∀ x dx, H x = none → H dx = none → dx ≠ x → sp (.ref x :: vs) (upd (upd H dx (.own x)) x (.ins C dx [])) (fun v H2 => v = .non ∧ Q (.ref x) H2) E) :
    wpAny (model X.prog X.w) X.A (call (.ref C) us) (EP X pins σ Q) X.xe s := by
  have free : ∀ a, s.heap.objs.size ≤ a → H a = none := fun a ha => I.hok.fresh ha
  have want := h (s.heap.objs.size + 1) s.heap.objs.size (free _ (Nat.le_succ _)) (free _ (Nat.le_refl _)) (Nat.ne_of_lt (Nat.lt_succ_self _))
  have I2 := Inv.made (C := C) I
  have rel : Vals (V.ref (s.heap.objs.size + 1) :: vs) (Value.ref (s.heap.objs.size + 1) :: us) := .cons rfl r
  have hl : (Value.ref (s.heap.objs.size + 1) :: us).length = ps.length := by rw [← rel.length, F.len _ _ _ _ want]
  have bnd := hb _ (Value.ref (s.heap.objs.size + 1) :: us) I2.kIn (by rw [List.append_nil]; exact hl)
  rw [List.append_nil] at bnd
  refine wpAny_call (make_map (f := f) I.kIn M.makes M.init (beq_iff_eq.mp M.fn) (codeAny_mono (F.run _ X.stack _ _ ⟨Value.ref (s.heap.objs.size + 1) :: us, []⟩ _ _ _ E (hr.make C us []) (guards_make gd C us [])
    (I2.env0.make C us []) bnd rel want) fun res s' z => ?_))
  cases res with
  | error err => exact hx pins σ _ _ err s' I2 z
  | ok fl =>
    cases fl with
    | ret u =>
      obtain ⟨v, H', I3, rv, ev, q3⟩ := I2.after z
      subst ev
      exact ⟨rv, V.ref (s.heap.objs.size + 1), H', I3, rfl, q3⟩
    | _ => exact z.elim
theorem pe_mkG (M : Mk X.K C f) (F : FnX X k f fd ps sp) (hr : Room (k + 1) X.A) (gd : X.A.guards = some []) (hg : Gl X x) (hm : X.mg x = some (.ref C)) (hb : Binds X.K fd ps []) (hx : Passes (L2.CX X.prog X.w) X E) (ha : PA X (e :: es) t)
    (hdb : (x == ("__debug__" : Str)) = false) (h1 : isStar e = false) (h2 : es.all (fun e => !isStar e) = true) : PE X (.Call (.Name x p) (e :: es) [] pos) (fun σ H Q => t σ H fun vs H1 => ∀ x dx, H1 x = none → H1 dx = none → dx ≠ x →
      sp (.ref x :: vs) (upd (upd H1 dx (.own x)) x (.ins C dx [])) (fun v H2 => v = .non ∧ Q (.ref x) H2) E) := by
  constructor
  intro pins s σ H Q I h
  refine wpAny_Call_Name_kw (ld_glob I hg hm (PySem.W.callWith_K (h₀ := X.base) I.ok.mod.kin M.kp (thn (ha.run pos pins s σ H _ I h) fun us s1 z => ?_) (star_cons h1) (star_none h2)) hdb)
  obtain ⟨vs, H1, I1, r, q⟩ := z
  exact ⟨I1.kIn, run_mkG M F hr gd hb hx I1 r q⟩
end
end AM
/-! From the text to the machine's syntax. -/
namespace AM
open PySem L2

structure Tab where
  gf : List (Str × Nat)
  gc : List (Str × Nat)
  gx : List (Str × Nat)
  gk : List (Str × Nat)
  fx : List (Str × Nat)
  fld : List Str
  mth : List Str
  prp : List Str
  tk : Bool
  rf : Bool
def ixOf (N : List Str) (x : Str) : Option Nat := N.findIdx? fun y => decide (y = x)
def toPeek : Ex → Ex
  | .var i => .peek i
  | e => e
def noPeek : Ex → Ex
  | .peek _ => .bad
  | e => e
def peekOf (e : Expr) (x : Ex) : Ex := match e with
  | .Name _ _ => toPeek x
  | _ => noPeek x
def itOf (e : Expr) (x : Ex) : Ex := match e with
  | .Call (.Name f _) _ _ _ => if f = "range" then (match x with
    | .rng a b => .rng a b
    | _ => .bad) else .seq x
  | _ => .seq x
def isGl (sc : Scope) (x : Str) : Bool := decide (sc.names.lookup x = some .globalImplicit) && (decide (x ≠ "__debug__") && decide (x ≠ "__name__"))
def okNm (x : Str) : Bool := !(x == ("__debug__" : Str)) && !(x == ("__classdict__" : Str))
def visOf (sc : Scope) (x : Str) : Bool := decide (sc.names.lookup x = some .local) || (decide (sc.names.lookup x = some .cell) || decide (sc.names.lookup x = some .free))
def locOf (sc : Scope) (x : Str) : Bool := decide (sc.names.lookup x = some .local) || decide (sc.names.lookup x = some .cell)
def bopOf : Operator → Option BOp
  | .Add => some .add
  | .Sub => some .sub
  | .Mult => some .mul
  | .FloorDiv => some .fdiv
  | .Mod => some .mod
  | .Pow => some .pow
  | _ => none
def copOf : CmpOp → COp
  | .Eq => .eq
  | .NotEq => .ne
  | .Lt => .lt
  | .LtE => .le
  | .Gt => .gt
  | .GtE => .ge
  | .Is => .is_
  | .IsNot => .isnot
  | .In => .in_
  | .NotIn => .notin
/-- the right one of «in» may be an own list or dict -/
def rhsOf (o : COp) (b : Expr) (x : Ex) : Ex := match o with
  | .in_ => peekOf b x
  | .notin => peekOf b x
  | _ => x
def biOf (x : Str) : Option BI :=
  if x = "len" then some .len else if x = "int" then some .int else if x = "str" then some .str else if x = "max" then some .max else if x = "min" then some .min
  else if x = "all" then some .all else if x = "sum" then some .sum else if x = "tuple" then some .tuple else if x = "list" then some .list else if x = "dict" then some .dict
  else if x = "repr" then some .repr else if x = "sorted" then some .sorted else none
def isSet : Expr → Bool
  | .Set _ _ _ => true
  | _ => false
def isCall : Expr → Bool
  | .Call _ _ _ _ => true
  | _ => false
def noStar : Ex → Ex
  | .star _ => .bad
  | e => e
def asInt : Ex → Ex := fun e => .neg (.neg e)
def isStarE : Expr → Bool := isStar
def ownOf (N : List Str) (scope : Scope) : List (Str × Nat) := (scope.names.filter fun y => (decide (y.2 = .local) || decide (y.2 = .cell)) && decide (y.1 ≠ (".0" : Str))).map fun y => (y.1, (ixOf N y.1).getD N.length)
def tyOf (t : Tab) (x : Str) : Option Ty :=
  if x = "int" then some .int else if x = "bool" then some .bool else if x = "str" then some .str else if x = "tuple" then some .tuple else if x = "list" then some .list
  else if x = "dict" then some .dict else (match t.gc.lookup x with
    | some j => some (.cls j)
    | none => none)
def tysOf (t : Tab) (sc : Scope) : Expr → Option Ty
  | .Name x _ => (match isGl sc x with
    | true => tyOf t x
    | false => none)
  | _ => none
def inter : List Ex → List Ex → List Ex
  | [], [] => []
  | k :: ks, v :: vs => k :: v :: inter ks vs
  | _, _ => [.bad]
def idOf (l : List Str) (x : Str) : Option Nat := ixOf l x
section
variable (t : Tab) (N : List Str)
mutual
def compT (sc : Scope) : Expr → Tg
  | .Name x _ => (match locOf sc x, ixOf N x with
    | true, some i => .name i false
    | _, _ => .bad)
  | .Tuple es _ _ => if es.all (fun e => !isStar e) = true then .tup (compTs sc es) else .bad
  | _ => .bad
def compTs (sc : Scope) : List Expr → List Tg
  | [] => []
  | e :: es => compT sc e :: compTs sc es
end
mutual
def compE (cm : Bool) (sc : Scope) : Expr → Ex
  | .Constant (.int i) _ _ => .con (.int i)
  | .Constant (.bool b) _ _ => .con (.bl b)
  | .Constant (.str x) _ _ => .con (.str x)
  | .Constant .none _ _ => .con .non
  | .Name x _ => (match isGl sc x with
    | true => (match t.gk.lookup x with
      | some j => .glo j
      | none => .bad)
    | false => (match okNm x && visOf sc x, ixOf N x with
      | true, some i => .var i
      | _, _ => .bad))
  | .BinOp a o b _ => (match bopOf o with
    | some o => .bop o (compE cm sc a) (compE cm sc b)
    | none => .bad)
  | .UnaryOp .USub a _ => .neg (compE cm sc a)
  | .UnaryOp .Not a _ => .not_ (compE cm sc a)
  | .Compare a [o] [b] _ => if isSet b = true then .bad else .cmp (copOf o) (compE cm sc a) (rhsOf (copOf o) b (compE cm sc b))
  | .Compare a [o, p] [b, c] _ => if isSet c = true then .bad else .chain (copOf o) (copOf p) (compE cm sc a) (compE cm sc b) (compE cm sc c)
  | .BoolOp .And es _ => compA cm sc es
  | .BoolOp .Or es _ => compO cm sc es
  | .IfExp c a b _ => .ite (compE cm sc c) (compE cm sc a) (compE cm sc b)
  | .Tuple es _ _ => .tup (compL cm sc es)
  | .List es _ => .lst (compL cm sc es)
  | .Dict ks vs _ => (match ks with
    | [] => (match vs with
      | [] => .dnew t.tk
      | _ => .bad)
    | _ => if (ks.all (·.isSome) && (decide (ks.length = vs.length) && decide (ks.length ≤ 15))) = true then .dsp (inter (compD cm sc ks) (compL cm sc vs)) else .bad)
  | .Subscript a (.Slice lo hi none _) _ => .slc (peekOf a (compE cm sc a)) (compP cm sc lo) (compP cm sc hi)
  | .Subscript a (.Slice none none (some (.UnaryOp .USub (.Constant (.int 1) _ _) _)) _) _ => .rev (peekOf a (compE cm sc a))
  | .Subscript _ (.Slice _ _ _ _) _ => .bad
  | .Subscript a i _ => .sub (peekOf a (compE cm sc a)) (compE cm sc i)
  | .Attribute a f _ => if isCall a = true then .bad else (match idOf t.fld f with
    | some j => .attr (peekOf a (compE cm sc a)) j
    | none => .bad)
  | .Call (.Name f _) es [] _ => (match isGl sc f && es.all fun e => !isStar e with
    | true => if cm = true then (match t.gf.lookup f with
        | some j => .call j (compL cm sc es)
        | none => (match t.gc.lookup f with
          | some j => (match es with
            | [] => .bad
            | _ => .mk j (compL cm sc es))
          | none => compC cm sc f es)) else compR cm sc f es
    | false => .bad)
  | .ListComp e [⟨g, i, ifs, 0⟩] scope _ => (match cm && (blkC N sc scope (ownOf N scope) && (!isSet i && ((slotsT (compT N scope g)).all fun j => decide (j ∈ (ownOf N scope).map (·.2))))) with
    | true => .lc ((ownOf N scope).map (·.2)) (compE cm (relS scope sc) e) (compT N scope g) (itOf i (compE cm sc i)) (compF cm (relS scope sc) ifs)
    | false => .bad)
  | _ => .bad
def compR (cm : Bool) (sc : Scope) (f : Str) : List Expr → Ex
  | [a] => if f = "repr" then .bi .repr [noStar (compE cm sc a)] else .bad
  | _ => .bad
def compC (cm : Bool) (sc : Scope) (f : Str) : List Expr → Ex
  | [a] => if f = "range" then .rng (.con (.int 0)) (compE cm sc a)
    else if f = "len" then .bi .len [noStar (peekOf a (compE cm sc a))]
    else if f = "int" then .bi .int [noStar (compE cm sc a)]
    else if f = "str" then .bi .str [noStar (compE cm sc a)]
    else if f = "all" then .bi .all [noStar (compE cm sc a)]
    else if f = "sum" then .bi .sum [noStar (compE cm sc a)]
    else if f = "tuple" then .bi .tuple [noStar (compE cm sc a)]
    else if f = "list" then .bi .list [noStar (compE cm sc a)]
    else if f = "repr" then .bi .repr [noStar (compE cm sc a)]
    else .bad
  | [a, b] => if f = "isinstance" then (match tysOf t sc b with
      | some ty => .isi (peekOf a (compE cm sc a)) [ty]
      | none => .bad)
    else if f = "range" then .rng (compE cm sc a) (compE cm sc b)
    else if f = "max" then .bi .max [noStar (compE cm sc a), noStar (compE cm sc b)]
    else if f = "min" then .bi .min [noStar (compE cm sc a), noStar (compE cm sc b)]
    else .bad
  | _ => .bad
def compA (cm : Bool) (sc : Scope) : List Expr → Ex
  | [] => .bad
  | [a] => compE cm sc a
  | a :: r => .and_ (compE cm sc a) (compA cm sc r)
def compO (cm : Bool) (sc : Scope) : List Expr → Ex
  | [] => .bad
  | [a] => compE cm sc a
  | a :: r => .or_ (compE cm sc a) (compO cm sc r)
def compL (cm : Bool) (sc : Scope) : List Expr → List Ex
  | [] => []
  | .Starred e _ :: r => .star (compE cm sc e) :: compL cm sc r
  | e :: r => noStar (compE cm sc e) :: compL cm sc r
def compD (cm : Bool) (sc : Scope) : List (Option Expr) → List Ex
  | some k :: ks => compE cm sc k :: compD cm sc ks
  | none :: ks => .bad :: compD cm sc ks
  | [] => []
def compP (cm : Bool) (sc : Scope) : Option Expr → Ex
  | none => .con .non
  | some e => asInt (compE cm sc e)
def compF (cm : Bool) (sc : Scope) : List Expr → Ex
  | [] => .con (.bl true)
  | [c] => compE cm sc c
  | _ => .bad
end
end
end AM
/-! Expressions: names, constants, operators, displays. -/
namespace AM
open PySem PySem.Spec PyProof.Rows L2
section
variable {c : Cc} {s : Fr} {σ : L2.St} {W : Wd} {H : Hp} {α γ : Type} {Rel Rel' : Wd → Hp → α → γ → Prop}
theorem Cc.po_rel {r : R α} {Q : γ → Hp → Prop} (p : c.po s σ W H Rel r Q) (h : ∀ W' H' a v hh, RH c.K c.T W' hh H' → Rel' W' H' a v → Rel W' H' a v) : c.po s σ W H Rel' r Q := by
  cases r with
  | ok a h' => exact fun W' H' v e q w => p W' H' v e q (h _ _ _ _ _ q.toRH w)
  | err x h' => exact p
  | stk => exact p
theorem tE_of_tB {x : Ex} {H : Hp} {Q : VK} (w : c.tB x σ H Q) : c.tE x σ H Q := by
  obtain ⟨W, s, h, r, p⟩ := w
  exact ⟨W, s, h, r, Cc.po_rel p fun _ _ _ _ _ _ w => .inl w⟩
/-- now, a value as it is -/
theorem Cc.po_ret {a : AV} {h : AH} {v : V} {Q : VK} (p : c.po s σ W H c.ra (.ok a h) Q) (r : c.Rs W s h σ H) (w : RA c.K c.T W H a v) : Q v H := Cc.po_now p r w
end
section
variable {c : Cc} {X : Cx} {a b d : Expr} {xa xb xd : Ex} {pos : Pos}
theorem ok_bad {e : Expr} : PE X e (c.tE .bad) := PE.imp pe_not_here fun σ H Q ⟨_, _, _, _, p⟩ => p
theorem ok_badB {e : Expr} : PE X e (c.tB .bad) := PE.imp pe_not_here fun σ H Q ⟨_, _, _, _, p⟩ => p
theorem ok_con {e : Expr} {v : V} {x : AV} (h : PE X e (tC v)) (r : ∀ W H, RA c.K c.T W H x v) : PE X e (c.tE (.con x)) :=
  PE.imp h fun σ H Q ⟨W, s, h, rs, p⟩ => Cc.po_now p rs (r _ _)
theorem ok_var {e : Expr} {i : Nat} (h : PE X e (tVar i)) : PE X e (c.tE (.var i)) := by
  refine PE.imp h fun σ H Q ⟨W, s, h, rs, p⟩ => ?_
  have q := rs.slot i
  change c.po s σ W H c.ra (match s[i]? with
    | some (.val v) => .ok v h
    | _ => .stk) Q at p
  cases e : s[i]? with
  | none => rw [e] at p; exact p.elim
  | some z =>
    rw [e] at p q
    cases z with
    | val x =>
      obtain ⟨u, h1, h2⟩ := q
      exact ⟨u, h1, Cc.po_now p rs h2⟩
    | _ => exact p.elim
theorem ok_peek {e : Expr} {i : Nat} (h : PE X e (tVar i)) : PE X e (c.tB (.peek i)) := by
  refine PE.imp h fun σ H Q ⟨W, s, h, rs, p⟩ => ?_
  have q := rs.slot i
  change c.po s σ W H c.rb (match s[i]? with
    | some (.val v) => .ok v h
    | some (.own v) => .ok v h
    | _ => .stk) Q at p
  cases e : s[i]? with
  | none => rw [e] at p; exact p.elim
  | some z =>
    rw [e] at p q
    cases z with
    | val x =>
      obtain ⟨u, h1, h2⟩ := q
      exact ⟨u, h1, Cc.po_now p rs (.inl h2)⟩
    | own x =>
      obtain ⟨p', h1, h2, h3, h4, h5⟩ := q
      exact ⟨.ref p', h1, Cc.po_now p rs (.inr ⟨p', rfl, h2, h5⟩)⟩
    | _ => exact p.elim
theorem asBl_some {x : AV} {b : Bool} (h : asBl x = some b) : x = .bl b := by
  cases x <;> cases h
  rfl
theorem ok_neg (ha : PE X a (c.tE xa)) : PE X (.UnaryOp .USub a pos) (c.tE (.neg xa)) := by
  refine PE.imp (pe_un un_neg ha) fun σ H Q ⟨W, s, h, rs, p⟩ => ?_
  refine ⟨W, s, h, rs, Cc.po_bndW p fun W1 H1 v x h1 e1 r1 w1 _ p1 => ?_⟩
  cases x with
  | int i => exact ⟨i, ra_int w1, Cc.po_now p1 r1 ra_int'⟩
  | _ => exact p1.elim
theorem ok_not (ha : PE X a (c.tE xa)) : PE X (.UnaryOp .Not a pos) (c.tE (.not_ xa)) := by
  refine PE.imp (pe_not ha) fun σ H Q ⟨W, s, h, rs, p⟩ => ?_
  refine ⟨W, s, h, rs, Cc.po_bndW p fun W1 H1 v x h1 e1 r1 w1 _ p1 => ?_⟩
  cases ex : asBl x with
  | none => rw [ex] at p1; exact p1.elim
  | some b =>
    rw [ex] at p1
    rw [asBl_some ex] at w1
    exact ⟨b, ra_bl w1, Cc.po_now p1 r1 ra_bl'⟩
theorem ok_cmp {o : COp} (hu : X.A.units + 65 < cLine) (hK : X.K = c.K) (ha : PE X a (c.tE xa)) (hb : PE X b (c.tB xb)) (hm : behindInMarks (opC o) b = false) : PE X (.Compare a [opC o] [b] pos) (c.tE (.cmp o xa xb)) := by
  refine PE.imp (pe_cmpR (opM (c := c) hu hK o) ha hb hm) fun σ H Q ⟨W, s, h, rs, p⟩ => ?_
  refine ⟨W, s, h, rs, Cc.po_bndW p fun W1 H1 v x h1 e1 r1 w1 _ p1 => ?_⟩
  refine ⟨W1, s, h1, r1, Cc.po_rel (Rel := c.rb) (Cc.po_bndW (Rel := c.rb) (Q := Q) (Rel2 := c.ra) p1 fun W2 H2 u y h2 e2 r2 w2 _ p2 => ?_) fun _ _ _ _ _ _ w => w⟩
  exact ⟨W2, s, h2, σ, x, y, r2, w1.mono (Cc.mo r1 e2), w2, p2⟩
theorem chain_imp {o o' : COp} {σ : L2.St} {H : Hp} {Q : VK} (w : c.tE (.chain o o' xa xb xd) σ H Q) : tChain (c.rCm (cmpV o)) (c.rCm (cmpV o')) (c.tE xa) (c.tE xb) (c.tE xd) σ H Q := by
  obtain ⟨W, s, h, rs, p⟩ := w
  refine ⟨W, s, h, rs, Cc.po_bndW p fun W1 H1 v x h1 e1 r1 w1 _ p1 => ?_⟩
  refine ⟨W1, s, h1, r1, Cc.po_bndW p1 fun W2 H2 u y h2 e2 r2 w2 _ p2 => ?_⟩
  refine ⟨W2, s, h2, σ, x, y, r2, w1.mono (Cc.mo r1 e2), .inl w2, ?_⟩
  obtain ⟨k, ek, p3⟩ : ∃ k, cmpV o x y = some k ∧ c.po s σ W2 H2 c.ra (if k = true then ((c.ev xd s h2).bnd fun z h => (opt (cmpV o' y z) h).bnd fun k h => .ok (.bl k) h) else .ok (.bl false) h2) Q := by
    cases ec : cmpV o x y with
    | none => rw [ec] at p2; exact p2.elim
    | some k =>
      rw [ec] at p2
      exact ⟨k, rfl, p2⟩
  rw [ek]
  change c.po s σ W2 H2 c.ra (.ok (.bl k) h2) _
  intro W3 H3 z e3 r3 w3
  refine ⟨k, ra_bl w3, ?_⟩
  have p3 := Cc.po_shift e3 p3
  by_cases hk : k = true
  · rw [if_pos hk] at p3 ⊢
    refine ⟨W3, s, h2, r3, Cc.po_bndW p3 fun W4 H4 t z h4 e4 r4 w4 _ p4 => ?_⟩
    exact ⟨W4, s, h4, σ, y, z, r4, w2.mono (Cc.mo r2 (e3.trans e4)), .inl w4, p4⟩
  · rw [if_neg hk] at p3 ⊢
    exact Cc.po_now p3 r3 ra_bl'
theorem tE_of_tT {x : Ex} {σ : L2.St} {H : Hp} {Q : Bool → Hp → Prop} (w : c.tT x σ H Q) : c.tE x σ H fun v H' => ∃ k, v = .bl k ∧ Q k H' := by
  obtain ⟨W, s, h, rs, p⟩ := w
  refine ⟨W, s, h, rs, Cc.po_bndW p fun W1 H1 v x h1 e1 r1 w1 _ p1 => ?_⟩
  obtain ⟨b, ex, p1⟩ := Cc.po_opt p1
  rw [asBl_some ex] at w1
  exact ⟨b, ra_bl w1, Cc.po_now p1 r1 rfl⟩
theorem ok_tChain {o o' : COp} (hu : X.A.units + 65 < cLine) (hK : X.K = c.K) (ha : PE X a (c.tE xa)) (hb : PE X b (c.tE xb)) (hd : PE X d (c.tE xd)) (hm : lastMarks [opC o, opC o'] [b, d] = false) : PT X (.Compare a [opC o, opC o'] [b, d] pos) (c.tT (.chain o o' xa xb xd)) :=
  PT.imp (pt_chain (opM (c := c) hu hK o) (opM (c := c) hu hK o') ha hb hd hm) fun _ _ _ w => chain_imp (tE_of_tT w)
theorem pt_ifExp' {tA tb td : TT} (ha : PT X a tA) (hb : PT X b tb) (hd : PT X d td) : PT X (.IfExp a b d pos) (fun σ H Q => tA σ H fun k H1 => if k = true then tb σ H1 Q else td σ H1 Q) := by
  refine ⟨fun pins s σ H Q I h => ?_⟩
  show wpAny _ _ (isTrue a X.env (eval a X.env) >>= fun k => if k = true then isTrue b X.env (eval b X.env) else isTrue d X.env (eval d X.env)) _ _ s
  refine wpAny_bind (thn (ha.run pins s σ H _ I h) fun k s1 ⟨H1, I1, q1⟩ => ?_)
  cases k with
  | true => exact hb.run pins s1 σ H1 Q I1 q1
  | false => exact hd.run pins s1 σ H1 Q I1 q1
theorem ok_tIte (ha : PT X a (c.tT xa)) (hb : PT X b (c.tT xb)) (hd : PT X d (c.tT xd)) : PT X (.IfExp a b d pos) (c.tT (.ite xa xb xd)) := by
  refine PT.imp (pt_ifExp' ha hb hd) fun σ H Q ⟨W, s, h, rs, p⟩ => ?_
  refine ⟨W, s, h, rs, ?_⟩
  have p' : c.po s σ W H rBl (((c.ev xa s h).bnd fun v h => opt (asBl v) h).bnd fun k h => (if k = true then c.ev xb s h else c.ev xd s h).bnd fun v h => opt (asBl v) h) Q := by
    change c.po s σ W H rBl (R.bnd ((c.ev xa s h).bnd _) _) Q at p
    cases hx : c.ev xa s h with
    | ok x h1 =>
      rw [hx] at p
      change c.po s σ W H rBl (R.bnd (R.bnd (opt (asBl x) h1) _) _) Q at p
      change c.po s σ W H rBl (R.bnd (opt (asBl x) h1) _) Q
      cases hb : asBl x with
      | none => rw [hb] at p; exact p
      | some b => rw [hb] at p; exact p
    | err x h1 => rw [hx] at p; exact p
    | stk => rw [hx] at p; exact p
  refine Cc.po_bndW p' fun W1 H1 v x h1 e1 r1 w1 _ p1 => ?_
  have w1 : x = v := w1
  subst w1
  by_cases hk : x = true
  · rw [if_pos hk] at p1 ⊢
    exact ⟨W1, s, h1, r1, p1⟩
  · rw [if_neg hk] at p1 ⊢
    exact ⟨W1, s, h1, r1, p1⟩
theorem pt_bad {e : Expr} : PT X e (c.tT .bad) := ⟨fun _ _ _ _ _ _ ⟨_, _, _, _, p⟩ => p.elim⟩
theorem ok_chain {o o' : COp} (hu : X.A.units + 65 < cLine) (hK : X.K = c.K) (ha : PE X a (c.tE xa)) (hb : PE X b (c.tE xb)) (hd : PE X d (c.tE xd)) (hm : lastMarks [opC o, opC o'] [b, d] = false) : PE X (.Compare a [opC o, opC o'] [b, d] pos) (c.tE (.chain o o' xa xb xd)) := by
  refine PE.imp (pe_chain (opM (c := c) hu hK o) (opM (c := c) hu hK o') ha hb hd hm) fun σ H Q ⟨W, s, h, rs, p⟩ => ?_
  refine ⟨W, s, h, rs, Cc.po_bndW p fun W1 H1 v x h1 e1 r1 w1 _ p1 => ?_⟩
  refine ⟨W1, s, h1, r1, Cc.po_bndW p1 fun W2 H2 u y h2 e2 r2 w2 _ p2 => ?_⟩
  refine ⟨W2, s, h2, σ, x, y, r2, w1.mono (Cc.mo r1 e2), .inl w2, ?_⟩
  obtain ⟨k, ek, p3⟩ : ∃ k, cmpV o x y = some k ∧ c.po s σ W2 H2 c.ra (if k = true then ((c.ev xd s h2).bnd fun z h => (opt (cmpV o' y z) h).bnd fun k h => .ok (.bl k) h) else .ok (.bl false) h2) Q := by
    cases ec : cmpV o x y with
    | none => rw [ec] at p2; exact p2.elim
    | some k =>
      rw [ec] at p2
      exact ⟨k, rfl, p2⟩
  rw [ek]
  change c.po s σ W2 H2 c.ra (.ok (.bl k) h2) _
  intro W3 H3 z e3 r3 w3
  refine ⟨k, ra_bl w3, ?_⟩
  have p3 := Cc.po_shift e3 p3
  by_cases hk : k = true
  · rw [if_pos hk] at p3 ⊢
    refine ⟨W3, s, h2, r3, Cc.po_bndW p3 fun W4 H4 t z h4 e4 r4 w4 _ p4 => ?_⟩
    exact ⟨W4, s, h4, σ, y, z, r4, w2.mono (Cc.mo r2 (e3.trans e4)), .inl w4, p4⟩
  · rw [if_neg hk] at p3 ⊢
    exact Cc.po_now p3 r3 ra_bl'
theorem po_as {β : Type} {s : Fr} {σ : L2.St} {W : Wd} {H : Hp} {x : AV} {h : AH} {f : Bool → AH → R β} {γ : Type} {Rel : Wd → Hp → β → γ → Prop} {Q : γ → Hp → Prop} (p : c.po s σ W H Rel ((opt (asBl x) h).bnd f) Q) : ∃ b, x = .bl b ∧ c.po s σ W H Rel (f b h) Q := by
  cases ex : asBl x with
  | none => rw [ex] at p; exact p.elim
  | some b =>
    rw [ex] at p
    exact ⟨b, asBl_some ex, p⟩
theorem ok_and {r : List Expr} (ha : PE X a (c.tE xa)) (hb : PE X (.BoolOp .And (b :: r) pos) (c.tE xb)) : PE X (.BoolOp .And (a :: b :: r) pos) (c.tE (.and_ xa xb)) := by
  refine PE.imp (pe_and ha hb) fun σ H Q ⟨W, s, h, rs, p⟩ => ?_
  refine ⟨W, s, h, rs, Cc.po_bndW p fun W1 H1 v x h1 e1 r1 w1 _ p1 => ?_⟩
  obtain ⟨k, rfl, p2⟩ := po_as p1
  refine ⟨k, ra_bl w1, ?_⟩
  by_cases hk : k = true
  · rw [if_pos hk] at p2 ⊢
    exact ⟨W1, s, h1, r1, p2⟩
  · rw [if_neg hk] at p2 ⊢
    exact Cc.po_now p2 r1 ra_bl'
theorem ok_or {r : List Expr} (ha : PE X a (c.tE xa)) (hb : PE X (.BoolOp .Or (b :: r) pos) (c.tE xb)) : PE X (.BoolOp .Or (a :: b :: r) pos) (c.tE (.or_ xa xb)) := by
  refine PE.imp (pe_or ha hb) fun σ H Q ⟨W, s, h, rs, p⟩ => ?_
  refine ⟨W, s, h, rs, Cc.po_bndW p fun W1 H1 v x h1 e1 r1 w1 _ p1 => ?_⟩
  obtain ⟨k, rfl, p2⟩ := po_as p1
  refine ⟨k, ra_bl w1, ?_⟩
  by_cases hk : k = true
  · rw [if_pos hk] at p2 ⊢
    exact Cc.po_now p2 r1 ra_bl'
  · rw [if_neg hk] at p2 ⊢
    exact ⟨W1, s, h1, r1, p2⟩
theorem ok_ite (ha : PT X a (c.tT xa)) (hb : PE X b (c.tE xb)) (hd : PE X d (c.tE xd)) : PE X (.IfExp a b d pos) (c.tE (.ite xa xb xd)) := by
  refine PE.imp (pe_ifExp ha hb hd) fun σ H Q ⟨W, s, h, rs, p⟩ => ?_
  refine ⟨W, s, h, rs, ?_⟩
  have p' : c.po s σ W H c.ra (((c.ev xa s h).bnd fun v h => opt (asBl v) h).bnd fun k h => if k = true then c.ev xb s h else c.ev xd s h) Q := by
    change c.po s σ W H c.ra ((c.ev xa s h).bnd _) Q at p
    cases hx : c.ev xa s h with
    | ok x h1 => rw [hx] at p; exact p
    | err x h1 => rw [hx] at p; exact p
    | stk => rw [hx] at p; exact p
  refine Cc.po_bndW p' fun W1 H1 v x h1 e1 r1 w1 _ p1 => ?_
  have w1 : x = v := w1
  subst w1
  by_cases hk : x = true
  · rw [if_pos hk] at p1 ⊢
    exact ⟨W1, s, h1, r1, p1⟩
  · rw [if_neg hk] at p1 ⊢
    exact ⟨W1, s, h1, r1, p1⟩
/-! ### tests -/
theorem ok_test (ha : PE X a (c.tE xa)) (he : ∀ whole, isTrue a X.env whole = (do let v ← whole; standAt a.pos; holding [v] (truthy v))) : PT X a (c.tT xa) := by
  refine PT.imp (pt_val ha he) fun σ H Q ⟨W, s, h, rs, p⟩ => ?_
  refine ⟨W, s, h, rs, Cc.po_bndW p fun W1 H1 v x h1 e1 r1 w1 _ p1 => ?_⟩
  obtain ⟨b, ex, p1⟩ := Cc.po_opt p1
  rw [asBl_some ex] at w1
  exact ⟨b, ra_bl w1, Cc.po_now p1 r1 rfl⟩
theorem ok_tCmp {o : COp} (hu : X.A.units + 65 < cLine) (hK : X.K = c.K) (ha : PE X a (c.tE xa)) (hb : PE X b (c.tB xb)) (hm : behindInMarks (opC o) b = false) : PT X (.Compare a [opC o] [b] pos) (c.tT (.cmp o xa xb)) := by
  refine PT.imp (pt_cmpR (opM (c := c) hu hK o) ha hb hm) fun σ H Q ⟨W, s, h, rs, p⟩ => ?_
  have p' : c.po s σ W H rBl ((c.ev xa s h).bnd fun x h => (c.ev xb s h).bnd fun y h => opt (cmpV o x y) h) Q := by
    change c.po s σ W H rBl (R.bnd ((c.ev xa s h).bnd fun x h => (c.ev xb s h).bnd fun y h => (opt (cmpV o x y) h).bnd fun k h => R.ok (AV.bl k) h) fun v h => opt (asBl v) h) Q at p
    cases hx : c.ev xa s h with
    | ok x h1 =>
      rw [hx] at p
      change c.po s σ W H rBl (R.bnd ((c.ev xb s h1).bnd fun y h => (opt (cmpV o x y) h).bnd fun k h => R.ok (AV.bl k) h) fun v h => opt (asBl v) h) Q at p
      change c.po s σ W H rBl ((c.ev xb s h1).bnd fun y h => opt (cmpV o x y) h) Q
      cases hy : c.ev xb s h1 with
      | ok y h2 =>
        rw [hy] at p
        change c.po s σ W H rBl (R.bnd ((opt (cmpV o x y) h2).bnd fun k h => R.ok (AV.bl k) h) fun v h => opt (asBl v) h) Q at p
        change c.po s σ W H rBl (opt (cmpV o x y) h2) Q
        cases hc : cmpV o x y with
        | none => rw [hc] at p; exact p
        | some k => rw [hc] at p; exact p
      | err _ _ => rw [hy] at p; exact p
      | stk => rw [hy] at p; exact p
    | err _ _ => rw [hx] at p; exact p
    | stk => rw [hx] at p; exact p
  refine ⟨W, s, h, rs, Cc.po_bndW p' fun W1 H1 v x h1 e1 r1 w1 _ p1 => ?_⟩
  refine ⟨W1, s, h1, r1, Cc.po_bndW (Rel := c.rb) p1 fun W2 H2 u y h2 e2 r2 w2 _ p2 => ?_⟩
  obtain ⟨k, ek, p3⟩ := Cc.po_opt p2
  refine ⟨W2, s, h2, σ, x, y, r2, w1.mono (Cc.mo r1 e2), w2, ?_⟩
  rw [ek]
  exact fun W3 H3 z e3 r3 w3 => ⟨k, ra_bl w3, p3 W3 H3 k e3 r3 rfl⟩
theorem ok_tNot (ha : PT X a (c.tT xa)) : PT X (.UnaryOp .Not a pos) (c.tT (.not_ xa)) := by
  refine PT.imp (pt_not ha) fun σ H Q ⟨W, s, h, rs, p⟩ => ?_
  refine ⟨W, s, h, rs, ?_⟩
  change c.po s σ W H rBl (R.bnd ((c.ev xa s h).bnd _) _) Q at p
  change c.po s σ W H rBl ((c.ev xa s h).bnd fun v h => opt (asBl v) h) _
  cases hx : c.ev xa s h with
  | ok x h1 =>
    rw [hx] at p
    change c.po s σ W H rBl (opt (asBl x) h1) _
    change c.po s σ W H rBl (R.bnd (R.bnd (opt (asBl x) h1) _) _) Q at p
    cases hb : asBl x with
    | none => rw [hb] at p; exact p
    | some b =>
      rw [hb] at p
      intro W3 H3 z e3 r3 w3
      cases w3
      exact p W3 H3 _ e3 r3 rfl
  | err _ _ => rw [hx] at p; exact p
  | stk => rw [hx] at p; exact p
theorem ok_wAnd {r : List Expr} (ha : PT X a (c.tT xa)) (hb : PW X (.BoolOp .And (b :: r) pos) (c.tT xb)) : PW X (.BoolOp .And (a :: b :: r) pos) (c.tT (.and_ xa xb)) := by
  refine PW.imp (pw_and ha hb) fun σ H Q ⟨W, s, h, rs, p⟩ => ?_
  refine ⟨W, s, h, rs, ?_⟩
  change c.po s σ W H rBl (R.bnd ((c.ev xa s h).bnd _) _) Q at p
  change c.po s σ W H rBl ((c.ev xa s h).bnd fun v h => opt (asBl v) h) _
  cases hx : c.ev xa s h with
  | ok x h1 =>
    rw [hx] at p
    change c.po s σ W H rBl (opt (asBl x) h1) _
    change c.po s σ W H rBl (R.bnd (R.bnd (opt (asBl x) h1) _) _) Q at p
    cases hb : asBl x with
    | none => rw [hb] at p; exact p
    | some b =>
      rw [hb] at p
      intro W3 H3 z e3 r3 w3
      cases w3
      have p := Cc.po_shift e3 p
      by_cases hk : b = true
      · rw [if_pos hk]
        subst hk
        exact ⟨W3, s, h1, r3, p⟩
      · rw [if_neg hk]
        have hk : b = false := by simpa using hk
        subst hk
        exact Cc.po_now p r3 rfl
  | err _ _ => rw [hx] at p; exact p
  | stk => rw [hx] at p; exact p
theorem ok_wOr {r : List Expr} (ha : PT X a (c.tT xa)) (hb : PW X (.BoolOp .Or (b :: r) pos) (c.tT xb)) : PW X (.BoolOp .Or (a :: b :: r) pos) (c.tT (.or_ xa xb)) := by
  refine PW.imp (pw_or ha hb) fun σ H Q ⟨W, s, h, rs, p⟩ => ?_
  refine ⟨W, s, h, rs, ?_⟩
  change c.po s σ W H rBl (R.bnd ((c.ev xa s h).bnd _) _) Q at p
  change c.po s σ W H rBl ((c.ev xa s h).bnd fun v h => opt (asBl v) h) _
  cases hx : c.ev xa s h with
  | ok x h1 =>
    rw [hx] at p
    change c.po s σ W H rBl (opt (asBl x) h1) _
    change c.po s σ W H rBl (R.bnd (R.bnd (opt (asBl x) h1) _) _) Q at p
    cases hb : asBl x with
    | none => rw [hb] at p; exact p
    | some b =>
      rw [hb] at p
      intro W3 H3 z e3 r3 w3
      cases w3
      have p := Cc.po_shift e3 p
      by_cases hk : b = true
      · rw [if_pos hk]
        subst hk
        exact Cc.po_now p r3 rfl
      · rw [if_neg hk]
        have hk : b = false := by simpa using hk
        subst hk
        exact ⟨W3, s, h1, r3, p⟩
  | err _ _ => rw [hx] at p; exact p
  | stk => rw [hx] at p; exact p
/-! ### lists of expressions -/
theorem ok_nil : PA X [] (c.tL []) := PA.imp pa_nil fun σ H Q ⟨W, s, h, rs, p⟩ => Cc.po_now p rs RAs.nil
theorem ok_cons {es : List Expr} {xs : List Ex} (ha : PE X a (c.tE xa)) (hr : PA X es (c.tL xs)) (hs : starEach (a :: es) X.env = (false, eval a X.env) :: starEach es X.env) (hx : ∀ s h, evL c.P c.cal c.ini (xa :: xs) s h = (c.ev xa s h).bnd fun v h => (evL c.P c.cal c.ini xs s h).bnd fun vs h => .ok (v :: vs) h) : PA X (a :: es) (c.tL (xa :: xs)) := by
  refine PA.imp (pa_cons ha hr hs) fun σ H Q ⟨W, s, h, rs, p⟩ => ?_
  rw [hx] at p
  refine ⟨W, s, h, rs, Cc.po_bndW p fun W1 H1 v x h1 e1 r1 w1 _ p1 => ?_⟩
  refine ⟨W1, s, h1, r1, Cc.po_bndW p1 fun W2 H2 vs ys h2 e2 r2 w2 _ p2 => ?_⟩
  exact Cc.po_now p2 r2 (RAs.cons (w1.mono (Cc.mo r1 e2)) w2)
theorem ok_star {es : List Expr} {xs : List Ex} {p : Pos} (hK : X.K = c.K) (ha : PE X a (c.tE xa)) (hr : PA X es (c.tL xs)) (hs : starEach (.Starred a p :: es) X.env = (true, eval a X.env) :: starEach es X.env) : PA X (.Starred a p :: es) (c.tL (.star xa :: xs)) := by
  refine PA.imp (StX.pa_star ha hr hs) fun σ H Q ⟨W, s, h, rs, p⟩ => ?_
  have p' : c.po s σ W H c.ras ((c.ev xa s h).bnd fun v h => match v with
    | .tup ys => (evL c.P c.cal c.ini xs s h).bnd fun vs h => .ok (ys ++ vs) h
    | .lst ys => (evL c.P c.cal c.ini xs s h).bnd fun vs h => .ok (ys ++ vs) h
    | _ => .stk) Q := by
    unfold evL at p
    exact p
  refine ⟨W, s, h, rs, Cc.po_bndW p' fun W1 H1 v x h1 e1 r1 w1 _ p1 => ?_⟩
  rw [hK]
  cases x with
  | tup ys =>
    obtain ⟨q, us, rfl, h3, h4⟩ := ra_tup w1
    refine ⟨q, us, rfl, .inl (SqT.of h3), W1, s, h1, r1, Cc.po_bndW p1 fun W2 H2 vs zs h2 e2 r2 w2 _ p2 => ?_⟩
    exact Cc.po_now p2 r2 (RAs.app (h4.mono (Cc.mo r1 e2)) w2)
  | lst ys =>
    obtain ⟨q, us, rfl, _, h3, h4⟩ := ra_lst w1
    refine ⟨q, us, rfl, .inr (SqL.of h3), W1, s, h1, r1, Cc.po_bndW p1 fun W2 H2 vs zs h2 e2 r2 w2 _ p2 => ?_⟩
    exact Cc.po_now p2 r2 (RAs.app (h4.mono (Cc.mo r1 e2)) w2)
  | _ => exact p1.elim
theorem ok_tup {es : List Expr} {xs : List Ex} {z} (ha : PA X es (c.tL xs)) : PE X (.Tuple es z pos) (c.tE (.tup xs)) := by
  refine PE.imp (pe_tup ha) fun σ H Q ⟨W, s, h, rs, p⟩ => ?_
  refine ⟨W, s, h, rs, Cc.po_bndW p fun W1 H1 vs ys h1 e1 r1 w1 _ p1 => ?_⟩
  have p1 : c.po s σ W1 H1 c.ra (if szOk ys.length = true then .ok (.tup ys) h1 else .stk) Q := p1
  split at p1
  · rename_i hz
    exact ⟨by rw [← w1.len]; exact sz_line hz, fun q hq => Cc.po_tup p1 r1 w1 hq⟩
  · exact p1.elim
theorem ok_lst {es : List Expr} {xs : List Ex} (ha : PA X es (c.tL xs)) : PE X (.List es pos) (c.tE (.lst xs)) := by
  refine PE.imp (pe_lst ha) fun σ H Q ⟨W, s, h, rs, p⟩ => ?_
  refine ⟨W, s, h, rs, Cc.po_bndW p fun W1 H1 vs ys h1 e1 r1 w1 _ p1 => ?_⟩
  have p1 : c.po s σ W1 H1 c.ra (if szOk ys.length = true then .ok (.lst ys) h1 else .stk) Q := p1
  split at p1
  · rename_i hz
    exact ⟨by rw [← w1.len]; exact sz_line hz, fun q hq => Cc.po_lst p1 r1 w1 hq⟩
  · exact p1.elim
end
end AM
/-! A tuple turned round: t[::-1]. -/
namespace HT
open PySem PyProof.Rows
section
open PySem.SeqAt
open PySem.AutoSeq1 (wpAny_loadPart')
open PySem.MeetsSeq PySem.MeetsSeq2 PySem.MeetsSeq3
variable {prog : Program} {w : World} {A : Around} {E : Value → Shared → Prop} {s : Shared}
theorem adjust_rev (n : Nat) : Builtin.Slice.sliceAdjust none none (-1) (n : Int) = ((n : Int) - 1, -1) := rfl
theorem places_rev (n : Nat) : Builtin.Slice.slicePlaces ((n : Int) - 1) (-1) (-1) = n := by
  unfold Builtin.Slice.slicePlaces
  have h1 : ¬ ((-1 : Int) > 0) := by omega
  simp only [h1, if_false]
  have h2 : -(-1 : Int) = 1 := by omega
  rw [h2, Int.ediv_one]
  split <;> omega
theorem sliceApplied_rev {sl : Addr} {vl vu vs : Value} {n : Nat} {Q : Int × Int × Nat → Shared → Prop} (hs : s.heap.IsSliceOf sl vl vu vs) (pl : IsPart vl none) (pu : IsPart vu none) (ps : IsPart vs (some (-1)))
    (h : Q ((n : Int) - 1, -1, n) s) : wpAny (model prog w) A (Builtin.Slice.sliceApplied (.ref sl) (pure (n : Int))) Q E s := by
  obtain ⟨os, hos, hcs, hds⟩ := id hs
  unfold Builtin.Slice.sliceApplied Builtin.Slice.sliceFields
  refine wpAny_bind (wpAny_bind (wpAny_field hos hds (x := vl) rfl (wpAny_bind (wpAny_field hos hds (x := vu) rfl (wpAny_bind (wpAny_field hos hds (x := vs) rfl (wpAny_pure ?_)))))))
  refine wpAny_bind (slicePart_ ps ?_)
  show wpAny _ _ (if ((-1 : Int) == 0) = true then _ else _) _ _ s
  rw [if_neg (by decide)]
  refine wpAny_bind (slicePart_ pl (wpAny_bind (slicePart_ pu (wpAny_bind (wpAny_pure ?_)))))
  show wpAny _ _ (match Builtin.Slice.sliceAdjust none none (-1) (n : Int) with | (lo, hi) => pure (lo, (-1 : Int), Builtin.Slice.slicePlaces lo hi (-1))) _ _ s
  rw [adjust_rev n]
  show wpAny _ _ (pure ((n : Int) - 1, (-1 : Int), Builtin.Slice.slicePlaces ((n : Int) - 1) (-1) (-1))) _ _ s
  rw [places_rev]
  exact wpAny_pure h
theorem pick_rev (xs : Array Value) : (List.range xs.size).filterMap (fun (k : Nat) => xs[(((xs.size : Int) - 1) + (k : Int) * (-1)).toNat]?) = xs.toList.reverse := by
  have e : (fun (k : Nat) => xs[(((xs.size : Int) - 1) + (k : Int) * (-1)).toNat]?) = fun (k : Nat) => (fun (j : Nat) => xs[j]?) ((((xs.size : Int) - 1) + (k : Int) * (-1)).toNat) := rfl
  rw [e]
  have e2 : (List.range xs.size).map (fun (k : Nat) => (((xs.size : Int) - 1) + (k : Int) * (-1)).toNat) = (List.range xs.size).reverse := by
    rw [← PySem.W.krv_range]
    apply List.map_congr_left
    intro k hk
    have := List.mem_range.mp hk
    omega
  have e3 : (List.range xs.size).filterMap (fun (k : Nat) => (fun (j : Nat) => xs[j]?) ((((xs.size : Int) - 1) + (k : Int) * (-1)).toNat)) = ((List.range xs.size).map (fun (k : Nat) => (((xs.size : Int) - 1) + (k : Int) * (-1)).toNat)).filterMap (fun (j : Nat) => xs[j]?) := by
    rw [List.filterMap_map]
    rfl
  rw [e3, e2, List.filterMap_reverse, PySem.W.krv_all]
theorem getItem_tuple_rev {t sl : Addr} {items : Array Value} {vl vu vs : Value} {Q : Value → Shared → Prop} (ht : IsTup s.heap t items) (hs : s.heap.IsSliceOf sl vl vu vs) (pl : IsPart vl none) (pu : IsPart vu none) (ps : IsPart vs (some (-1)))
    (h : Q (.ref s.heap.objs.size) { s with heap := s.heap.push { cls := .type "tuple", data := .seq items.toList.reverse.toArray } })
    (hsz : items.size ≤ sizeLine) : wpAny (model prog w) A (getItem (.ref t) (.ref sl)) Q E s := by
  have htake : sizeOk (.seq items.toList.reverse.toArray) := by
    show items.toList.reverse.toArray.size ≤ sizeLine
    rw [List.size_toArray, List.length_reverse, Array.length_toList]
    omega
  obtain ⟨os, hos, hcs, hds⟩ := id hs
  have hTs : s.TypeIs (.ref sl) "slice" := ⟨os, hos, hcs⟩
  unfold getItem
  try with_reducible refine wpAny_holding ?_
  first | refine wpAny_bind (wpAny_pure ?_) | skip
  refine wpAny_bind (wpAny_sequenceKey ht.typeIs (by decide) ?_)
  refine wpAny_bind (wpAny_callSpecial?_slot (name := Str.ofString "__getitem__") ht.typeIs PyProof.Rows.slot_tuple_getitem
    (wpAny_call_entry PyProof.Rows.slot_tuple_getitem ht.typeIs entry_tuple_getitem ?_ (args_tuple_getitem _ _)))
  show wpAny _ _ (Builtin.Tuple.tupleItemsOf (.ref t) >>= _) _ _ s
  refine wpAny_bind (tupleItemsOf_ ht ?_)
  refine wpAny_bind (wpAny_typeOf hTs ?_)
  rw [if_pos (by decide)]
  refine wpAny_bind (sliceApplied_rev hs pl pu ps ?_)
  have hno : ¬ ((((items.size : Int) - 1) == 0 && (-1 : Int) == 1 && items.size == items.size) = true) := by
    intro q
    rw [Bool.and_eq_true, Bool.and_eq_true] at q
    exact absurd q.1.2 (by decide)
  show wpAny _ _ (if (((items.size : Int) - 1) == 0 && (-1 : Int) == 1 && items.size == items.size) = true then _ else _) _ _ s
  rw [if_neg hno, pick_rev]
  first
    | exact wpAny_bind (m := Builtin.Tuple.tupleExact _) (wpAny_newObj_type (wpAny_pure ⟨_, rfl, wpAny_pure h⟩) htake)
    | exact wpAny_bind (m := Builtin.Tuple.tupleExact _) (wpAny_newObj_type (wpAny_bind (wpAny_pure (wpAny_pure ⟨_, rfl, wpAny_pure h⟩))) htake)
    | exact wpAny_bind (wpAny_bind (m := Builtin.Tuple.tupleExact _) (wpAny_newObj_type (wpAny_pure (wpAny_pure ⟨_, rfl, wpAny_pure h⟩)) htake))
    | exact wpAny_bind (wpAny_bind (m := Builtin.Tuple.tupleExact _) (wpAny_newObj_type (wpAny_pure ⟨_, rfl, wpAny_pure h⟩) htake))
end
end HT
namespace L2
open PySem PySem.Spec PyProof.Rows
section
variable {X : Cx}
/-- a[::-1], a list or a tuple -/
def tRevA (K : PySem.W.Frag) (te : TE) : TE := fun σ H Q => te σ H fun x H1 => ∃ a xs, x = .ref a ∧ ((SqL K H1 a xs ∧ ∀ p, H1 p = none → Q (.ref p) (upd H1 p (.lst xs.reverse))) ∨ (SqT K H1 a xs ∧ ∀ p, H1 p = none → Q (.ref p) (upd H1 p (.tup xs.reverse))))
theorem pe_revA {e : Expr} {te : TE} {k} {p1 p2 p3 pos : Pos} (he : PE X e te) : PE X (.Subscript e (.Slice none none (some (.UnaryOp .USub (.Constant (.int 1) k p1) p2)) p3) pos) (tRevA X.K te) := by
  refine ⟨fun pins s σ H Q I h => ?_⟩
  refine Subscript_ (thn (he.run pins s σ H _ I h) fun v s1 ⟨x, H1, I1, r1, q1⟩ => ?_)
  obtain ⟨a, xs, ex, q⟩ := q1
  subst ex
  cases r1
  have hst : PO X (some (.UnaryOp .USub (.Constant (.int 1) k p1) p2)) (tPart (tUn (rU fun i => .int (-i)) (tC (.int 1)))) := po_some (pe_un un_neg pe_int)
  refine wpAny_Slice (thn (po_none.run pins s1 σ H1 (fun o H2 => o = none ∧ H2 = H1) I1 ⟨rfl, rfl⟩) fun vl s2 ⟨l, H2, I2, pl, el, e2⟩ => ?_)
  subst el e2
  refine thn (po_none.run pins s2 σ H2 (fun o H3 => o = none ∧ H3 = H2) I2 ⟨rfl, rfl⟩) fun vu s3 ⟨u, H3, I3, pu, eu, e3⟩ => ?_
  subst eu e3
  refine thn (hst.run pins s3 σ H3 (fun o H4 => o = some (-1) ∧ H4 = H3) I3 ⟨1, rfl, -1, rfl, rfl, rfl⟩) fun vs s4 ⟨o, H4, I4, ps, eo, e4⟩ => ?_
  subst eo e4
  have I5 : Inv X pins σ H4 { s4 with heap := s4.heap.push { cls := .type "slice", data := .fields #[vl, vu, vs] } } := I4.kept (t' := s4.toks) fun b ob q => Heap.get?_push_of_some _ q
  show wpAny (model X.prog X.w) X.A (subscriptTail e (.Slice none none (some (.UnaryOp .USub (.Constant (.int 1) k p1) p2)) p3) (.ref a) (.ref s4.heap.objs.size)) (EP X pins σ Q) X.xe { s4 with heap := s4.heap.push { cls := .type "slice", data := .fields #[vl, vu, vs] } }
  rcases q with ⟨hx, q⟩ | ⟨hx, q⟩
  · obtain ⟨its, r, ht, hz⟩ := I5.list hx
    have hlen := r.length
    refine tail_any (ops := [.ref a, .ref s4.heap.objs.size]) ht.isList.typeIs (PySem.slot_list_getitem.lookup) ?_ (by with_unfolding_all rfl)
    refine wpAny_getItem_list_slice ht.isList (Heap.IsSliceOf.new _ vl vu vs) pl pu ps (by decide) ?_ (by rw [List.size_toArray]; omega)
    rw [PySem.W.krv_pick]
    refine ⟨.ref _, _, I5.laid (t' := s4.toks) (o := .lst xs.reverse) (fun b ob q => Heap.get?_push_of_some _ q) (Nat.le_refl _) ?_, rfl, q _ (I5.hok.fresh (Nat.le_refl _))⟩
    exact ⟨by rw [List.length_reverse]; exact hz, _, 0, r.reverse, Heap.get?_push_size _ rfl⟩
  · obtain ⟨its, r, ht, hz⟩ := I5.tuple hx
    have hlen := r.length
    refine tail_any (ops := [.ref a, .ref s4.heap.objs.size]) ht.typeIs (PyProof.Rows.slot_tuple_getitem.lookup) ?_ (by with_unfolding_all rfl)
    refine HT.getItem_tuple_rev ht (Heap.IsSliceOf.new _ vl vu vs) pl pu ps ?_ (by rw [List.size_toArray]; omega)
    refine ⟨.ref _, _, I5.laid (t' := s4.toks) (o := .tup xs.reverse) (fun b ob q => Heap.get?_push_of_some _ q) (Nat.le_refl _) ?_, rfl, q _ (I5.hok.fresh (Nat.le_refl _))⟩
    exact ⟨by rw [List.length_reverse]; exact hz, _, r.reverse, ⟨_, Heap.get?_push_size _ rfl, rfl, _, rfl⟩⟩
end
end L2
/-! New objects; subscripts, slices, fields. -/
namespace AM
open PySem PySem.Spec PyProof.Rows L2
section
variable {K : PySem.W.Frag} {T : Nm} {W : Wd} {H : Hp}
theorem ra_of_rc {x : AV} {p : Addr} (h : RC K T W H x p) (f : W.F p) : RA K T W H x (.ref p) := by
  cases x with
  | lst xs =>
    obtain ⟨vs, h1, h2⟩ := h
    unfold RA
    exact ⟨p, vs, rfl, f, h1, h2⟩
  | dct t kvs =>
    cases t <;> (obtain ⟨kv, h1, h2⟩ := h; unfold RA; exact ⟨p, rfl, f, kv, .inl h1, h2⟩)
  | obj c fs =>
    obtain ⟨dx, vs, h1, h2⟩ := h
    unfold RA
    exact ⟨p, dx, vs, rfl, f, h1, h2⟩
  | _ => exact h.elim
theorem Mo.addF {p : Addr} : Mo W H (W.add p) H := ⟨fun _ _ h => h, fun _ h => .inl h, fun _ _ h => h, fun _ _ _ h => h, fun _ _ _ h => h, fun _ _ _ h => h, fun _ _ _ _ _ h => h⟩
theorem RH.addF {h : AH} {p : Addr} (r : RH K T W h H) (nm : p ∉ W.mu) (hp : H p ≠ none) : RH K T (W.add p) h H := by
  refine ⟨r.len, fun n v a h1 h2 => (r.cell n v a h1 h2).mono Mo.addF fun _ e => e, r.nd, fun a hF z => ?_, fun a hF => ?_, r.con⟩
  · rcases hF with hF | hF
    · exact r.fr a hF z
    · rw [hF] at z
      exact nm z
  · rcases hF with hF | hF
    · exact r.there a hF
    · rw [hF]
      exact hp
theorem Ext.addF {W' : Wd} {H' : Hp} {p : Addr} (e : Ext W H W' H') (hp : H p = none) : Ext W H (W'.add p) H' :=
  ⟨e.mu, fun a h => .inl (e.F a h), e.keep, fun a h => by
    rcases h with h | h
    · exact e.newF a h
    · rw [h]
      exact .inr hp, e.newMu, e.there⟩
end
/-- a new one, not yet a value -/
def Cc.rF (c : Cc) (Hs : Hp) : Wd → Hp → AV → V → Prop := fun W H a v => (isCont a = false ∧ RA c.K c.T W H a v) ∨ ∃ p, v = .ref p ∧ p ∉ W.mu ∧ ¬ W.F p ∧ Hs p = none ∧ RC c.K c.T W H a p
def Cc.tF (c : Cc) (x : Ex) : TE := fun σ H Q => ∃ W s h, c.Rs W s h σ H ∧ c.po s σ W H (c.rF H) (c.ev x s h) Q
section
variable {c : Cc} {s : Fr} {σ : L2.St} {W W1 : Wd} {H H1 : Hp}
theorem Cc.own_some {h : AH} {i : Nat} {x : AV} {p : Addr} (r : c.Rs W s h σ H) (e : s[i]? = some (.own x)) (q : σ[i]? = some (some (.ref p))) : ∃ o, H p = some o := by
  have z := r.slot i
  rw [e] at z
  obtain ⟨p', h1, _, _, _, h5⟩ := z
  rw [q] at h1
  cases h1
  obtain ⟨o, ho, _⟩ := h5.some
  exact ⟨o, ho⟩
theorem Cc.rs_addF {h h' : AH} {p : Addr} {W' : Wd} {H' : Hp} (r : c.Rs W s h σ H) (hp : H p = none) (r' : c.Rs W' s h' σ H') (nm : p ∉ W'.mu) (hp' : H' p ≠ none) : c.Rs (W'.add p) s h' σ H' := by
  refine ⟨r'.toRH.addF nm hp', fun i => ?_, r'.ext.addF (r.ext.there p hp), r'.apart, r'.self⟩
  have q := r'.slot i
  cases ei : s[i]? with
  | none =>
    rw [ei] at q
    exact q
  | some z =>
    rw [ei] at q
    cases z with
    | emp => exact q
    | val x =>
      obtain ⟨u, h1, h2⟩ := q
      exact ⟨u, h1, h2.mono Mo.addF⟩
    | own x =>
      obtain ⟨p', h1, h2, h3, h4, h5⟩ := q
      refine ⟨p', h1, h2, fun z => ?_, h4, h5.mono Mo.addF fun _ e => e⟩
      rcases z with z | z
      · exact h3 z
      · obtain ⟨o, ho⟩ := Cc.own_some r ei h1
        rw [z, hp] at ho
        cases ho
    | exc c fs =>
      obtain ⟨a, d, vs, h1, h2, h3, h4⟩ := q
      exact ⟨a, d, vs, h1, h2, h3, h4.mono Mo.addF⟩
theorem Cc.po_fr {h : AH} {r : R AV} {Q : VK} (p : c.po s σ W H c.ra r Q) (rs : c.Rs W s h σ H) : c.po s σ W H (c.rF H) r Q := by
  cases r with
  | ok a h' =>
    intro W' H' v e r' w
    rcases w with ⟨_, w⟩ | ⟨q, rfl, nm, nF, hn, rc⟩
    · exact p W' H' v e r' w
    · obtain ⟨o, ho, _⟩ := rc.some
      have hq : H' q ≠ none := by rw [ho]; exact fun z => by cases z
      exact p (W'.add q) H' _ (e.addF hn) (Cc.rs_addF rs hn r' nm hq) (ra_of_rc (rc.mono Mo.addF fun _ e => e) (.inr rfl))
  | err x h' => exact p
  | stk => exact p
theorem tE_of_tF {X : Cx} {e : Expr} {x : Ex} (h : PE X e (c.tF x)) : PE X e (c.tE x) := PE.imp h fun σ H Q ⟨W, s, h, rs, p⟩ => ⟨W, s, h, rs, Cc.po_fr p rs⟩
/-- laid just now -/
theorem Cc.po_new {Hs : Hp} {a : AV} {h : AH} {Q : VK} {p : Addr} {o : HO} (q : c.po s σ W1 H1 (c.rF Hs) (.ok a h) Q) (r : c.Rs W1 s h σ H1) (e : Ext W Hs W1 H1) (hp : H1 p = none) (rc : RC c.K c.T W1 (upd H1 p o) a p) : Q (.ref p) (upd H1 p o) := by
  refine q W1 _ _ (Ext.laid hp) (Cc.rs_laid r hp) (.inr ⟨p, rfl, fun z => ?_, fun z => r.there p z hp, e.there p hp, rc⟩)
  obtain ⟨o, ho, _⟩ := r.toRH.mem z
  rw [hp] at ho
  cases ho
theorem Cc.rc_lst {h : AH} {xs : List AV} {vs : List V} {p : Addr} (r : c.Rs W s h σ H) (w : RAs c.K c.T W H xs vs) (hp : H p = none) : RC c.K c.T W (upd H p (.lst vs)) (.lst xs) p := ⟨vs, upd_same, w.mono (Cc.mo r (Ext.laid hp))⟩
end
section
variable {c : Cc} {X : Cx} {a b d : Expr} {xa xb xd : Ex} {pos : Pos}
theorem ok_lstF {es : List Expr} {xs : List Ex} (ha : PA X es (c.tL xs)) : PE X (.List es pos) (c.tF (.lst xs)) := by
  refine PE.imp (pe_lst ha) fun σ H Q ⟨W, s, h, rs, p⟩ => ?_
  refine ⟨W, s, h, rs, Cc.po_bndW p fun W1 H1 vs ys h1 e1 r1 w1 _ p1 => ?_⟩
  have p1 : c.po s σ W1 H1 (c.rF H) (if szOk ys.length = true then .ok (.lst ys) h1 else .stk) Q := p1
  split at p1
  · rename_i hz
    exact ⟨by rw [← w1.len]; exact sz_line hz, fun q hq => Cc.po_new p1 r1 e1 hq (Cc.rc_lst r1 w1 hq)⟩
  · exact p1.elim
theorem ok_dnewF {t : Bool} : PE X (.Dict [] [] pos) (c.tF (.dnew t)) := by
  cases t with
  | false => exact PE.imp pe_dnewK fun σ H Q ⟨W, s, h, rs, p⟩ q hq => Cc.po_new (o := .dK []) p rs (Ext.refl W H) hq ⟨[], upd_same, by unfold RKs; rfl⟩
  | true => exact PE.imp pe_dnewT fun σ H Q ⟨W, s, h, rs, p⟩ q hq => Cc.po_new (o := .dT []) p rs (Ext.refl W H) hq ⟨[], upd_same, by unfold RTs; rfl⟩
/-! ### subscripts -/
def isSlice : Expr → Bool
  | .Slice _ _ _ _ => true
  | _ => false
theorem plain_of (h : isSlice b = false) : PlainIx b := by
  intro o i
  cases b <;> first
    | rfl
    | cases h
theorem RAs.atI {K : PySem.W.Frag} {T : Nm} {W : Wd} {H : Hp} {xs : List AV} {vs : List V} {i : Int} {x : AV} (h : RAs K T W H xs vs) (e : L2.atI xs i = some x) : ∃ v, L2.atI vs i = some v ∧ RA K T W H x v := by
  unfold L2.atI at e ⊢
  rw [← h.len]
  obtain ⟨j, h1, h2⟩ := Option.bind_eq_some_iff.mp e
  obtain ⟨v, h3, h4⟩ := h.at h2
  exact ⟨v, by rw [h1]; exact h3, h4⟩
theorem atI_ints {ns : List Int} {i z : Int} (e : L2.atI ns i = some z) : L2.atI (ns.map V.int) i = some (.int z) := by
  unfold L2.atI at e ⊢
  obtain ⟨j, h1, h2⟩ := Option.bind_eq_some_iff.mp e
  rw [List.length_map, h1]
  show (ns.map V.int)[j]? = _
  rw [List.getElem?_map, h2]
  rfl
section
variable {K : PySem.W.Frag} {T : Nm} {W : Wd} {H : Hp}
theorem scr_at {ns : List Int} {v : V} (h : RA K T W H (.scr ns) v) : ∃ p, v = .ref p ∧ SqL K H p (ns.map V.int) := by
  unfold RA at h
  obtain ⟨p, rfl, h⟩ := h
  rcases h with h | h
  · exact ⟨p, rfl, .inl (.inr h)⟩
  · exact ⟨p, rfl, .inr h⟩
theorem rb_obj {c : Nat} {fs : List (Nat × AV)} {v : V} (h : RB K T W H (.obj c fs) v) : ∃ p dx vs, v = .ref p ∧ H p = some (.ins (T.cadr c) dx vs) ∧ RFs K T W H fs vs := by
  rcases h with h | ⟨p, rfl, _, h⟩
  · unfold RA at h
    obtain ⟨p, dx, vs, rfl, _, h1, h2⟩ := h
    exact ⟨p, dx, vs, rfl, h1, h2⟩
  · obtain ⟨dx, vs, h1, h2⟩ := h
    exact ⟨p, dx, vs, rfl, h1, h2⟩
theorem ra_ref {n : Nat} {v : V} (h : RB K T W H (.ref n) v) : ∃ a, W.mu[n]? = some a ∧ v = .ref a := by
  have h := rb_ra h rfl
  unfold RA at h
  exact h
theorem obj_at {h : AH} {x : AV} {o : Nat × List (Nat × AV)} {v : V} (e : objOf h x = some o) (w : RB K T W H x v) (r : RH K T W h H) : ∃ p dx vs, v = .ref p ∧ H p = some (.ins (T.cadr o.1) dx vs) ∧ RFs K T W H o.2 vs := by
  cases x with
  | obj c fs =>
    cases e
    exact rb_obj w
  | ref n =>
    obtain ⟨a, h1, rfl⟩ := ra_ref w
    have e : (match h[n]? with
      | some (.obj c fs) => some (c, fs)
      | _ => none) = some o := e
    cases hn : h[n]? with
    | none => rw [hn] at e; cases e
    | some z =>
      rw [hn] at e
      cases z with
      | obj c fs =>
        cases e
        obtain ⟨dx, vs, h2, h3⟩ := r.cell n _ a hn h1
        exact ⟨a, dx, vs, rfl, h2, h3⟩
      | _ => cases e
  | _ => cases e
theorem RFs.get (inj : ∀ f g, T.fnm f = T.fnm g → f = g) : ∀ {fs : List (Nat × AV)} {vs : List (Str × V)} {f : Nat} {x : AV}, RFs K T W H fs vs → fGet fs f = some x → ∃ v, vs.lookup (T.fnm f) = some v ∧ RA K T W H x v
  | [], vs, f, x, _, e => by cases e
  | (g, y) :: r, vs, f, x, h, e => by
    unfold RFs at h
    obtain ⟨v, r', rfl, h1, h2⟩ := h
    unfold fGet at e
    by_cases hg : g = f
    · rw [if_pos hg] at e
      cases e
      subst hg
      exact ⟨v, by simp [List.lookup], h1⟩
    · rw [if_neg hg] at e
      obtain ⟨u, h3, h4⟩ := RFs.get inj h2 e
      refine ⟨u, ?_, h4⟩
      have : (T.fnm f == T.fnm g) = false := beq_eq_false_iff_ne.mpr fun z => hg (inj _ _ z).symm
      rw [List.lookup, this]
      exact h3
theorem sub_seq {h : AH} {x y z : AV} {v u : V} (w : RB K T W H x v) (wy : RA K T W H y u) (r : RH K T W h H) (e : subAV (deref h x) y = some z) (nd : ∀ t kvs, x ≠ .dct t kvs) : ∃ res, RA K T W H z res ∧ ∀ Q : VK, Q res H → rIx K v u H Q := by
  have lst : ∀ (xs : List AV) (p : Addr) (vs : List V), H p = some (.lst vs) → RAs K T W H xs vs → subAV (.lst xs) y = some z → v = .ref p → ∃ res, RA K T W H z res ∧ ∀ Q : VK, Q res H → rIx K v u H Q := fun xs p vs h1 h2 e ev => by
    cases y with
    | int i =>
      obtain ⟨res, h3, h4⟩ := h2.atI (show L2.atI xs i = some z from e)
      exact ⟨res, h4, fun Q q => .inl ⟨p, vs, i, res, ev, ra_int wy, SqL.of h1, h3, q⟩⟩
    | _ => cases e
  cases x with
  | lst xs =>
    obtain ⟨p, vs, ev, h1, h2⟩ := rb_lst w
    exact lst xs p vs h1 h2 e ev
  | tup xs =>
    obtain ⟨p, vs, ev, h1, h2⟩ := ra_tup (rb_ra w rfl)
    cases y with
    | int i =>
      obtain ⟨res, h3, h4⟩ := h2.atI (show L2.atI xs i = some z from e)
      exact ⟨res, h4, fun Q q => .inr (.inl ⟨p, vs, i, res, ev, ra_int wy, SqT.of h1, h3, q⟩)⟩
    | _ => cases e
  | scr ns =>
    obtain ⟨p, ev, h1⟩ := scr_at (rb_ra w rfl)
    cases y with
    | int i =>
      obtain ⟨j, h3, rfl⟩ := Option.map_eq_some_iff.mp (show (L2.atI ns i).map AV.int = some z from e)
      exact ⟨.int j, ra_int', fun Q q => .inl ⟨p, _, i, _, ev, ra_int wy, h1, atI_ints h3, q⟩⟩
    | _ => cases e
  | ktup xs =>
    obtain ⟨p, vs, ev, h1, h2⟩ := ra_ktup (rb_ra w rfl)
    cases y with
    | int i =>
      obtain ⟨res, h3, h4⟩ := h2.atI (show L2.atI xs i = some z from e)
      exact ⟨res, h4, fun Q q => .inr (.inl ⟨p, vs, i, res, ev, ra_int wy, h1, h3, q⟩)⟩
    | _ => cases e
  | str x =>
    have ev := ra_str (rb_ra w rfl)
    cases y with
    | int i =>
      have e : (if szOk x.length = true then (L2.atI x.cps.toList i).map fun c => AV.str ⟨#[c]⟩ else none) = some z := e
      split at e
      · rename_i hz
        obtain ⟨j, h3, rfl⟩ := Option.map_eq_some_iff.mp e
        exact ⟨.str ⟨#[j]⟩, ra_str', fun Q q => .inr (.inr ⟨x, i, j, ev, ra_int wy, sz_line hz, h3, q⟩)⟩
      · cases e
    | _ => cases e
  | ref n =>
    obtain ⟨a, h1, ev⟩ := ra_ref w
    have e : subAV (match h[n]? with
      | some (.lst xs) => .lst xs
      | _ => .ref n) y = some z := e
    cases hn : h[n]? with
    | none =>
      rw [hn] at e
      cases y <;> cases e
    | some q =>
      rw [hn] at e
      cases q with
      | lst xs =>
        obtain ⟨vs, h2, h3⟩ := r.cell n _ a hn h1
        exact lst xs a vs h2 h3 e ev
      | _ => cases y <;> cases e
  | dct t kvs => exact absurd rfl (nd t kvs)
  | _ => cases y <;> cases e
end
section
variable {c : Cc} {X : Cx} {a b d : Expr} {xa xb xd : Ex} {pos : Pos}
theorem Cc.po_optk {γ : Type} {Rel : Wd → Hp → AV → γ → Prop} {s : Fr} {σ : L2.St} {W : Wd} {H : Hp} {o : Option AV} {h : AH} {Q : γ → Hp → Prop} (p : c.po s σ W H Rel (opt o h) Q) : ∃ a, o = some a ∧ c.po s σ W H Rel (.ok a h) Q := Cc.po_opt p
theorem ok_sub (hu : X.A.units + 1 < cLine) (hK : X.K = c.K) (ha : PE X a (c.tB xa)) (hb : PE X b (c.tE xb)) (hs : isSlice b = false) : PE X (.Subscript a b pos) (c.tE (.sub xa xb)) := by
  refine PE.imp (PE.or (pe_ix ix_seq ha hb (plain_of hs)) (pe_dget hu ha hb (plain_of hs))) fun σ H Q ⟨W, s, h, rs, p⟩ => ?_
  by_cases hd : ∃ t kvs h1, c.ev xa s h = .ok (.dct t kvs) h1
  · obtain ⟨t, kvs, h0, ed⟩ := hd
    refine .inr ⟨W, s, h, rs, Cc.po_rel (Cc.po_bndW (Rel := c.rb) p fun W1 H1 v x h1 e1 r1 w1 ex p1 => ?_) fun _ _ _ _ _ _ w => w⟩
    rw [ed] at ex
    cases ex
    refine ⟨W1, s, h0, r1, Cc.po_bndW (Rel := c.ra) p1 fun W2 H2 u y h2 e2 r2 w2 _ p2 => ?_⟩
    obtain ⟨z, ez, p3⟩ := Cc.po_opt p2
    have ez : (if keyOk t y = true then dGet kvs y else none) = some z := ez
    split at ez
    · rename_i hk
      obtain ⟨q, rfl, rd⟩ := rb_dct (RB.mono w1 e2 r1.toRH)
      obtain ⟨o, h3, h4⟩ := rd.get hk w2
      rw [ez] at h3
      cases o with
      | none => exact h3.elim
      | some o => exact ⟨q, o, rfl, h4, Cc.po_now p3 r2 h3⟩
    · cases ez
  · refine .inl ⟨W, s, h, rs, Cc.po_rel (Cc.po_bndW (Rel := c.rb) p fun W1 H1 v x h1 e1 r1 w1 ex p1 => ?_) fun _ _ _ _ _ _ w => w⟩
    refine ⟨W1, s, h1, r1, Cc.po_bndW (Rel := c.ra) p1 fun W2 H2 u y h2 e2 r2 w2 _ p2 => ?_⟩
    obtain ⟨z, ez, p3⟩ := Cc.po_opt p2
    obtain ⟨res, h3, h4⟩ := sub_seq (RB.mono w1 e2 r1.toRH) w2 r2.toRH ez (fun t kvs z => hd ⟨t, kvs, h1, by rw [ex, z]⟩)
    rw [hK]
    exact h4 Q (Cc.po_now p3 r2 h3)
/-! ### slices -/
def Cc.tP (c : Cc) (x : Ex) : TO := fun σ H Q => ∃ W s h, c.Rs W s h σ H ∧ c.po s σ W H (fun _ _ a o => optI a = some o) (c.ev x s h) Q
theorem PO.imp {X : Cx} {e : Option Expr} {t t' : TO} (h : PO X e t) (k : ∀ σ H Q, t' σ H Q → t σ H Q) : PO X e t' := ⟨fun pins s σ H Q I w => h.run pins s σ H Q I (k σ H Q w)⟩
theorem ok_poN : PO X none (c.tP (.con .non)) := PO.imp po_none fun σ H Q ⟨W, s, h, rs, p⟩ => Cc.po_now (Rel := fun _ _ a o => optI a = some o) p rs rfl
theorem ok_poS (ha : PE X a (c.tE xa)) : PO X (some a) (c.tP (asInt xa)) := by
  refine PO.imp (po_some ha) fun σ H Q ⟨W, s, h, rs, p⟩ => ?_
  refine ⟨W, s, h, rs, ?_⟩
  change c.po s σ W H _ (R.bnd ((c.ev xa s h).bnd _) _) Q at p
  cases hx : c.ev xa s h with
  | ok x h1 =>
    rw [hx] at p
    cases x with
    | int i =>
      intro W3 H3 z e3 r3 w3
      refine ⟨i, ra_int w3, p W3 H3 _ e3 r3 ?_⟩
      show optI (.int (- -i)) = _
      rw [Int.neg_neg]
      rfl
    | _ => exact p.elim
  | err _ _ => rw [hx] at p; exact p
  | stk => rw [hx] at p; exact p
theorem RAs.cut {K : PySem.W.Frag} {T : Nm} {W : Wd} {H : Hp} {xs : List AV} {vs : List V} (h : RAs K T W H xs vs) (lo hi : Option Int) : RAs K T W H (cutA xs lo hi) (cutV vs lo hi) := by
  unfold cutA cutV
  rw [h.len]
  exact (h.drop _).take _
theorem cut_whole {vs : List V} {lo hi : Option Int} (h : HT.sIx vs.length 0 lo = 0 ∧ HT.sIx vs.length vs.length hi = vs.length) : cutV vs lo hi = vs := by
  unfold cutV
  rw [h.1, h.2]
  simp
theorem ok_slc {lo hi : Option Expr} {xl xh : Ex} {p2 : Pos} (hK : X.K = c.K) (ha : PE X a (c.tB xa)) (hl : PO X lo (c.tP xl)) (hh : PO X hi (c.tP xh)) : PE X (.Subscript a (.Slice lo hi none p2) pos) (c.tE (.slc xa xl xh)) := by
  refine PE.imp (pe_slice (sl_tupA.or sl_list) ha hl hh) fun σ H Q ⟨W, s, h, rs, p⟩ => ?_
  refine ⟨W, s, h, rs, Cc.po_rel (Cc.po_bndW (Rel := c.rb) p fun W1 H1 v x h1 e1 r1 w1 ex p1 => ?_) fun _ _ _ _ _ _ w => w⟩
  refine ⟨W1, s, h1, r1, Cc.po_bndW (Rel := fun _ _ a o => optI a = some o) p1 fun W2 H2 l vl h2 e2 r2 w2 _ p2 => ?_⟩
  refine ⟨W2, s, h2, r2, Cc.po_bndW (Rel := fun _ _ a o => optI a = some o) p2 fun W3 H3 u vu h3 e3 r3 w3 _ p3 => ?_⟩
  obtain ⟨z, ez, p4⟩ := Cc.po_opt p3
  have wx := RB.mono w1 (e2.trans e3) r1.toRH
  rw [hK]
  unfold slcAV at ez
  rw [w2, w3] at ez
  cases x with
  | tup xs =>
    cases ez
    obtain ⟨q, vs, rfl, h4, h5⟩ := ra_tup (rb_ra wx rfl)
    refine .inl ⟨q, vs, rfl, SqT.of h4, fun hw => ?_, fun _ p hp => Cc.po_tup p4 r3 (h5.cut l u) hp⟩
    refine Cc.po_now p4 r3 ?_
    unfold Cc.ra RA
    refine ⟨q, vs, rfl, h4, ?_⟩
    have := h5.cut l u
    rw [cut_whole hw] at this
    exact this
  | lst xs =>
    cases ez
    obtain ⟨q, vs, rfl, h4, h5⟩ := rb_lst wx
    exact .inr ⟨q, vs, rfl, SqL.of h4, fun p hp => Cc.po_lst p4 r3 (h5.cut l u) hp⟩
  | _ => cases ez
theorem ok_rev {k} {p1 p2 p3 : Pos} (hK : X.K = c.K) (ha : PE X a (c.tB xa)) : PE X (.Subscript a (.Slice none none (some (.UnaryOp .USub (.Constant (.int 1) k p1) p2)) p3) pos) (c.tE (.rev xa)) := by
  refine PE.imp (pe_revA ha) fun σ H Q ⟨W, s, h, rs, p⟩ => ?_
  refine ⟨W, s, h, rs, Cc.po_rel (Cc.po_bndW (Rel := c.rb) p fun W1 H1 v x h1 e1 r1 w1 ex p1 => ?_) fun _ _ _ _ _ _ w => w⟩
  obtain ⟨z, ez, p4⟩ := Cc.po_opt p1
  rw [hK]
  cases x with
  | tup xs =>
    cases ez
    obtain ⟨q, vs, rfl, h4, h5⟩ := ra_tup (rb_ra w1 rfl)
    exact ⟨q, vs, rfl, .inr ⟨SqT.of h4, fun p hp => Cc.po_tup p4 r1 h5.rev hp⟩⟩
  | lst xs =>
    cases ez
    obtain ⟨q, vs, rfl, h4, h5⟩ := rb_lst w1
    exact ⟨q, vs, rfl, .inl ⟨SqL.of h4, fun p hp => Cc.po_lst p4 r1 h5.rev hp⟩⟩
  | _ => cases ez
/-! ### fields -/
theorem base_of {f : Str} (h : isCall a = false) : attributeBase a f X.env (eval a X.env) = eval a X.env := by
  cases a <;> first
    | rfl
    | cases h
theorem ok_attr {f : Nat} {nm : Str} (hxa : c.xa = none) (hK : X.K = c.K) (inj : ∀ f g, c.T.fnm f = c.T.fnm g → f = g) (hn : c.T.fnm f = nm) (cl : ∀ j, j < c.P.cls.length → Cls c.K (c.T.cadr j) ∧ NoAttr c.K (c.T.cadr j) nm) (ha : PE X a (c.tB xa)) (hb : isCall a = false) :
    PE X (.Attribute a nm pos) (c.tE (.attr xa f)) := by
  refine PE.imp (pe_fld ha (base_of hb)) fun σ H Q ⟨W, s, h, rs, p⟩ => ?_
  have hx : excOf s xa = none := by
    cases xa with
    | peek i =>
      have q := rs.slot i
      show (match s[i]? with
        | some (.exc _ fs) => some fs
        | _ => none) = none
      cases ei : s[i]? with
      | none => rfl
      | some z =>
        cases z with
        | exc k fs =>
          rw [ei] at q
          obtain ⟨a, d, vs, h1, _⟩ := q
          rw [hxa] at h1
          cases h1
        | _ => rfl
    | _ => rfl
  have p : c.po s σ W H c.ra ((c.ev xa s h).bnd fun x h => (opt (objOf h x) h).bnd fun o h => if o.1 < c.P.cls.length then opt (fGet o.2 f) h else .stk) Q := by
    have p : c.po s σ W H c.ra (evE c.P c.cal c.ini (.attr xa f) s h) Q := p
    unfold evE at p
    rw [hx] at p
    exact p
  refine ⟨W, s, h, rs, Cc.po_rel (Cc.po_bndW (Rel := c.rb) p fun W1 H1 v x h1 e1 r1 w1 ex p1 => ?_) fun _ _ _ _ _ _ w => w⟩
  cases eo : objOf h1 x with
  | none => rw [eo] at p1; exact p1.elim
  | some o =>
    rw [eo] at p1
    have p1 : c.po s σ W1 H1 c.ra (if o.1 < c.P.cls.length then opt (fGet o.2 f) h1 else .stk) Q := p1
    split at p1
    · rename_i hlt
      obtain ⟨z, ez, p4⟩ := Cc.po_opt p1
      obtain ⟨q, dx, vs, rfl, h2, h3⟩ := obj_at eo w1 r1.toRH
      obtain ⟨u, h4, h5⟩ := h3.get inj ez
      rw [hK]
      exact ⟨q, _, dx, vs, u, rfl, h2, (cl _ hlt).1, (cl _ hlt).2, by rw [← hn]; exact h4, Cc.po_now p4 r1 h5⟩
    · exact p1.elim
end
end
end AM
/-! Calls of built-ins. -/
namespace AM
open PySem PySem.Spec PyProof.Rows L2
/-- by values: the arguments borrowed -/
def RBs (K : PySem.W.Frag) (T : Nm) (W : Wd) (H : Hp) : List AV → List V → Prop
  | [], vs => vs = []
  | x :: xs, vs => ∃ v r, vs = v :: r ∧ RB K T W H x v ∧ RBs K T W H xs r
def Cc.rBi (c : Cc) (b : BI) : List V → Hp → VK → Prop := fun vs H Q => ∃ W s h σ xs, c.Rs W s h σ H ∧ RAs c.K c.T W H xs vs ∧ c.po s σ W H c.ra (opt (biV b xs) h) Q
/-- .. the only argument borrowed -/
def Cc.rBi1 (c : Cc) (b : BI) : List V → Hp → VK → Prop := fun vs H Q => ∃ W s h σ x v, vs = [v] ∧ c.Rs W s h σ H ∧ RB c.K c.T W H x v ∧ c.po s σ W H c.ra (opt (biV b [x]) h) Q
/-- .. what comes is new -/
def Cc.rBiF (c : Cc) (b : BI) : List V → Hp → VK → Prop := fun vs H Q => ∃ W0 H0 W s h σ xs, c.Rs W s h σ H ∧ Ext W0 H0 W H ∧ RAs c.K c.T W H xs vs ∧ c.po s σ W H (c.rF H0) (opt (biV b xs) h) Q
section
variable {K : PySem.W.Frag} {T : Nm} {W : Wd} {H : Hp}
theorem ras0 {vs : List V} (h : RAs K T W H [] vs) : vs = [] := by unfold RAs at h; exact h
theorem ras1 {x : AV} {vs : List V} (h : RAs K T W H [x] vs) : ∃ v, vs = [v] ∧ RA K T W H x v := by
  unfold RAs at h
  obtain ⟨v, r, rfl, h1, h2⟩ := h
  rw [ras0 h2]
  exact ⟨v, rfl, h1⟩
theorem ras2 {x y : AV} {vs : List V} (h : RAs K T W H [x, y] vs) : ∃ v u, vs = [v, u] ∧ RA K T W H x v ∧ RA K T W H y u := by
  unfold RAs at h
  obtain ⟨v, r, rfl, h1, h2⟩ := h
  obtain ⟨u, rfl, h3⟩ := ras1 h2
  exact ⟨v, u, rfl, h1, h3⟩
theorem RKs.len : ∀ {xs : List (AV × AV)} {vs : List (Key × V)}, RKs K T W H xs vs → xs.length = vs.length
  | [], vs, h => by unfold RKs at h; rw [h]; rfl
  | (a, x) :: xs, vs, h => by
    unfold RKs at h
    obtain ⟨k, v, r, rfl, _, _, h2⟩ := h
    rw [List.length_cons, List.length_cons, RKs.len h2]
theorem RTs.len : ∀ {xs : List (AV × AV)} {vs : List (List Key × V)}, RTs K T W H xs vs → xs.length = vs.length
  | [], vs, h => by unfold RTs at h; rw [h]; rfl
  | (a, x) :: xs, vs, h => by
    unfold RTs at h
    obtain ⟨k, v, r, rfl, _, _, h2⟩ := h
    rw [List.length_cons, List.length_cons, RTs.len h2]
theorem allBl_some : ∀ {xs : List AV} {b : Bool} {vs : List V}, allBl xs = some b → RAs K T W H xs vs → ∃ bs : List Bool, vs = bs.map V.bl ∧ bs.all id = b
  | [], b, vs, e, h => by
    cases e
    rw [ras0 h]
    exact ⟨[], rfl, rfl⟩
  | x :: xs, b, vs, e, h => by
    unfold RAs at h
    obtain ⟨v, r, rfl, h1, h2⟩ := h
    cases x with
    | bl k =>
      obtain ⟨b', e1, rfl⟩ := Option.map_eq_some_iff.mp (show (allBl xs).map (k && ·) = some b from e)
      obtain ⟨bs, e2, e3⟩ := allBl_some e1 h2
      rw [ra_bl h1, e2]
      exact ⟨k :: bs, rfl, by rw [List.all_cons, e3]; rfl⟩
    | _ => cases e
theorem sumInt_some : ∀ {xs : List AV} {b : Int} {vs : List V}, sumInt xs = some b → RAs K T W H xs vs → ∃ bs : List Int, vs = bs.map V.int ∧ bs.sum = b
  | [], b, vs, e, h => by
    cases e
    rw [ras0 h]
    exact ⟨[], rfl, rfl⟩
  | x :: xs, b, vs, e, h => by
    unfold RAs at h
    obtain ⟨v, r, rfl, h1, h2⟩ := h
    cases x with
    | int k =>
      obtain ⟨b', e1, rfl⟩ := Option.map_eq_some_iff.mp (show (sumInt xs).map (k + ·) = some b from e)
      obtain ⟨bs, e2, e3⟩ := sumInt_some e1 h2
      rw [ra_int h1, e2]
      exact ⟨k :: bs, rfl, by rw [List.sum_cons, e3]⟩
    | _ => cases e
mutual
theorem dat_noDict : ∀ {x : AV} {d : PyData}, dat x = some d → d.hasDict = false
  | .non, d, e => by cases e; rfl
  | .bl _, d, e => by cases e; rfl
  | .int _, d, e => by cases e; rfl
  | .str _, d, e => by cases e; rfl
  | .tup xs, d, e => by
    unfold dat at e
    obtain ⟨ds, e1, rfl⟩ := Option.map_eq_some_iff.mp e
    exact dats_noDict e1
  | .lst xs, d, e => by
    unfold dat at e
    obtain ⟨ds, e1, rfl⟩ := Option.map_eq_some_iff.mp e
    exact dats_noDict e1
  | .ktup xs, d, e => by
    unfold dat at e
    obtain ⟨ds, e1, rfl⟩ := Option.map_eq_some_iff.mp e
    exact dats_noDict e1
  | .scr ns, d, e => by
    unfold dat at e
    cases e
    show PyData.hasDictAll (ns.map PyData.int) = false
    induction ns with
    | nil => rfl
    | cons n ns ih =>
      show (false || PyData.hasDictAll (ns.map PyData.int)) = false
      rw [ih]
      rfl
  | .dct _ _, d, e => by unfold dat at e; cases e
  | .obj _ _, d, e => by unfold dat at e; cases e
  | .ref _, d, e => by unfold dat at e; cases e
theorem dats_noDict : ∀ {xs : List AV} {ds : List PyData}, dats xs = some ds → PyData.hasDictAll ds = false
  | [], ds, e => by
    unfold dats at e
    cases e
    rfl
  | x :: xs, ds, e => by
    unfold dats at e
    cases e1 : dat x with
    | none => rw [e1] at e; cases e
    | some d =>
      cases e2 : dats xs with
      | none => rw [e1, e2] at e; cases e
      | some r =>
        rw [e1, e2] at e
        cases e
        show (d.hasDict || PyData.hasDictAll r) = false
        rw [dat_noDict e1, dats_noDict e2]
        rfl
end
end
section
variable {c : Cc} {X : Cx}
theorem Cc.po_biK {b : BI} {xs : List AV} {s : Fr} {σ : L2.St} {W : Wd} {H : Hp} {h : AH} {Q : VK} (p : c.po s σ W H c.ra (opt (biV b xs) h) Q) : ∃ a, biV b xs = some a ∧ c.po s σ W H c.ra (.ok a h) Q := Cc.po_opt p
theorem call_lenDR : CallR X (.builtin "len") (fun xs H Q => ∃ a kvs, xs = [V.ref a] ∧ Rd H a (.dK kvs) ∧ Q (.int kvs.length) H) := by
  intro pins s σ H xs us Q I r h
  obtain ⟨a, kvs, rfl, ha, q⟩ := h
  obtain ⟨u, rfl, ru⟩ := vals1 r
  cases ru
  exact d_len I ha fun t s' I' => ⟨.int kvs.length, H, I', ⟨t, rfl⟩, q⟩
theorem call_lenTR : CallR X (.builtin "len") (fun xs H Q => ∃ a kvs, xs = [V.ref a] ∧ Rd H a (.dT kvs) ∧ Q (.int kvs.length) H) := by
  intro pins s σ H xs us Q I r h
  obtain ⟨p, kvs, rfl, hp, q⟩ := h
  obtain ⟨u, rfl, rx⟩ := vals1 r
  obtain rfl : u = .ref p := rx
  obtain ⟨z, hd, ys, rel, dd⟩ := dt_rd I.hok hp
  have hl : kvs.length = ys.length := Paired.length rel
  refine call_len_dictH hd dd (by rw [← hl]; rw [sizeLine_eq] at z; omega) ?_
  rw [← hl]
  exact ⟨.int ((kvs.length : Nat) : Int), H, I.tok _, ⟨_, rfl⟩, q⟩
theorem cr_len (hK : X.K = c.K) : CallR X (.builtin "len") (c.rBi1 .len) := by
  refine CallR.imp (call_len.or (call_lenDR.or call_lenTR)) fun vs H Q ⟨W, s, h, σ, x, v, ev, rs, w, p⟩ => ?_
  obtain ⟨a, ea, p1⟩ := Cc.po_opt p
  subst ev
  rw [hK]
  have fin : ∀ {n : Nat}, a = .int n → Q (.int n) H := fun e => by
    subst e
    exact Cc.po_now p1 rs ra_int'
  cases x with
  | lst xs =>
    cases ea
    obtain ⟨q, us, rfl, h1, h2⟩ := rb_lst w
    exact .inl ⟨_, us.length, rfl, .inl ⟨us, SqL.of h1, rfl⟩, fin (by rw [h2.len])⟩
  | tup xs =>
    cases ea
    obtain ⟨q, us, rfl, h1, h2⟩ := ra_tup (rb_ra w rfl)
    exact .inl ⟨_, us.length, rfl, .inr ⟨us, SqT.of h1, rfl⟩, fin (by rw [h2.len])⟩
  | ktup xs =>
    cases ea
    obtain ⟨q, us, rfl, h1, h2⟩ := ra_ktup (rb_ra w rfl)
    exact .inl ⟨_, us.length, rfl, .inr ⟨us, h1, rfl⟩, fin (by rw [h2.len])⟩
  | scr ns =>
    cases ea
    obtain ⟨q, rfl, h1⟩ := scr_at (rb_ra w rfl)
    exact .inl ⟨_, ns.length, rfl, .inl ⟨_, h1, by rw [List.length_map]⟩, fin rfl⟩
  | str x =>
    have ea : (if szOk x.length = true then some (AV.int x.length) else none) = some a := ea
    split at ea
    · rename_i hz
      cases ea
      rw [ra_str (rb_ra w rfl)]
      exact .inl ⟨_, x.length, rfl, ⟨sz_line hz, rfl⟩, fin rfl⟩
    · cases ea
  | dct t kvs =>
    cases ea
    cases t with
    | false =>
      rcases w with w | ⟨q, rfl, _, w⟩
      · unfold RA at w
        obtain ⟨q, rfl, _, kv, h1, h2⟩ := w
        have h2 := h2.len
        exact .inr (.inl ⟨q, kv, rfl, h1, fin (by rw [h2])⟩)
      · obtain ⟨kv, h1, h2⟩ := w
        exact .inr (.inl ⟨q, kv, rfl, .inl h1, fin (by rw [h2.len])⟩)
    | true =>
      rcases w with w | ⟨q, rfl, _, w⟩
      · unfold RA at w
        obtain ⟨q, rfl, _, kv, h1, h2⟩ := w
        have h2 := h2.len
        exact .inr (.inr ⟨q, kv, rfl, h1, fin (by rw [h2])⟩)
      · obtain ⟨kv, h1, h2⟩ := w
        exact .inr (.inr ⟨q, kv, rfl, .inl h1, fin (by rw [h2.len])⟩)
  | _ => cases ea
theorem cr_int : CallR X (.type "int") (c.rBi .int) := by
  refine CallR.imp call_int1 fun vs H Q ⟨W, s, h, σ, xs, rs, w, p⟩ => ?_
  obtain ⟨a, ea, p1⟩ := Cc.po_opt p
  match xs, ea with
  | [.int i], ea =>
    cases ea
    obtain ⟨v, rfl, w1⟩ := ras1 w
    exact .inl ⟨i, by rw [ra_int w1], Cc.po_now p1 rs ra_int'⟩
  | [.bl k], ea =>
    cases ea
    obtain ⟨v, rfl, w1⟩ := ras1 w
    exact .inr ⟨k, by rw [ra_bl w1], Cc.po_now p1 rs ra_int'⟩
theorem cr_str : CallR X (.type "str") (c.rBi .str) := by
  refine CallR.imp call_str_int fun vs H Q ⟨W, s, h, σ, xs, rs, w, p⟩ => ?_
  obtain ⟨a, ea, p1⟩ := Cc.po_opt p
  match xs, ea with
  | [.int i], ea =>
    have ea : (if i.natAbs.log2 < 1920 then some (AV.str (toString i)) else none) = some a := ea
    split at ea
    · rename_i hz
      cases ea
      obtain ⟨v, rfl, w1⟩ := ras1 w
      exact ⟨i, by rw [ra_int w1], hz, Cc.po_now p1 rs ra_str'⟩
    · cases ea
theorem cr_max (hc : X.calm = true) : CallR X (.builtin "max") (c.rBi .max) := by
  refine CallR.imp (call_max2 hc) fun vs H Q ⟨W, s, h, σ, xs, rs, w, p⟩ => ?_
  obtain ⟨a, ea, p1⟩ := Cc.po_opt p
  match xs, ea with
  | [.int i, .int j], ea =>
    cases ea
    obtain ⟨v, u, rfl, w1, w2⟩ := ras2 w
    exact ⟨i, j, by rw [ra_int w1, ra_int w2], Cc.po_now p1 rs ra_int'⟩
theorem cr_min (hc : X.calm = true) : CallR X (.builtin "min") (c.rBi .min) := by
  refine CallR.imp (call_min2 hc) fun vs H Q ⟨W, s, h, σ, xs, rs, w, p⟩ => ?_
  obtain ⟨a, ea, p1⟩ := Cc.po_opt p
  match xs, ea with
  | [.int i, .int j], ea =>
    cases ea
    obtain ⟨v, u, rfl, w1, w2⟩ := ras2 w
    exact ⟨i, j, by rw [ra_int w1, ra_int w2], Cc.po_now p1 rs ra_int'⟩
theorem cr_allA (hK : X.K = c.K) (hc : X.calm = true) : CallR X (.builtin "all") (c.rBi .all) := by
  refine CallR.imp (cr_all hc) fun vs H Q ⟨W, s, h, σ, xs, rs, w, p⟩ => ?_
  obtain ⟨a, ea, p1⟩ := Cc.po_opt p
  match xs, ea with
  | [.lst ys], ea =>
    obtain ⟨b, eb, rfl⟩ := Option.map_eq_some_iff.mp (show (allBl ys).map AV.bl = some a from ea)
    obtain ⟨v, rfl, w1⟩ := ras1 w
    obtain ⟨q, us, rfl, _, h1, h2⟩ := ra_lst w1
    obtain ⟨bs, rfl, e2⟩ := allBl_some eb h2
    rw [hK]
    exact ⟨q, bs, rfl, SqL.of h1, by rw [e2]; exact Cc.po_now p1 rs ra_bl'⟩
theorem cr_sumA (hK : X.K = c.K) (hc : X.calm = true) : CallR X (.builtin "sum") (c.rBi .sum) := by
  refine CallR.imp (L2.cr_sum hc) fun vs H Q ⟨W, s, h, σ, xs, rs, w, p⟩ => ?_
  obtain ⟨a, ea, p1⟩ := Cc.po_opt p
  match xs, ea with
  | [.lst ys], ea =>
    obtain ⟨b, eb, rfl⟩ := Option.map_eq_some_iff.mp (show (sumInt ys).map AV.int = some a from ea)
    obtain ⟨v, rfl, w1⟩ := ras1 w
    obtain ⟨q, us, rfl, _, h1, h2⟩ := ra_lst w1
    obtain ⟨bs, rfl, e2⟩ := sumInt_some eb h2
    rw [hK]
    exact ⟨q, bs, rfl, SqL.of h1, by rw [e2]; exact Cc.po_now p1 rs ra_int'⟩
theorem cr_tuple (hK : X.K = c.K) : CallR X (.type "tuple") (c.rBi .tuple) := by
  refine CallR.imp call_tuple_of fun vs H Q ⟨W, s, h, σ, xs, rs, w, p⟩ => ?_
  obtain ⟨a, ea, p1⟩ := Cc.po_opt p
  rw [hK]
  match xs, ea with
  | [.lst ys], ea =>
    cases ea
    obtain ⟨v, rfl, w1⟩ := ras1 w
    obtain ⟨q, us, rfl, _, h1, h2⟩ := ra_lst w1
    exact ⟨q, us, rfl, .inl ⟨SqL.of h1, fun l hl => Cc.po_tup p1 rs h2 hl⟩⟩
  | [.tup ys], ea =>
    cases ea
    obtain ⟨v, rfl, w1⟩ := ras1 w
    obtain ⟨q, us, rfl, h1, h2⟩ := ra_tup w1
    exact ⟨q, us, rfl, .inr ⟨SqT.of h1, Cc.po_now p1 rs w1⟩⟩
theorem cr_listF (hK : X.K = c.K) : CallR X (.type "list") (c.rBiF .list) := by
  refine CallR.imp call_list_of fun vs H Q ⟨W0, H0, W, s, h, σ, xs, rs, e, w, p⟩ => ?_
  obtain ⟨a, ea, p1⟩ := Cc.po_opt p
  rw [hK]
  match xs, ea with
  | [.lst ys], ea =>
    cases ea
    obtain ⟨v, rfl, w1⟩ := ras1 w
    obtain ⟨q, us, rfl, _, h1, h2⟩ := ra_lst w1
    exact ⟨q, us, rfl, .inl (SqL.of h1), fun l hl => Cc.po_new p1 rs e hl (Cc.rc_lst rs h2 hl)⟩
  | [.tup ys], ea =>
    cases ea
    obtain ⟨v, rfl, w1⟩ := ras1 w
    obtain ⟨q, us, rfl, h1, h2⟩ := ra_tup w1
    exact ⟨q, us, rfl, .inr (SqT.of h1), fun l hl => Cc.po_new p1 rs e hl (Cc.rc_lst rs h2 hl)⟩
theorem cr_repr (hK : X.K = c.K) (hg : X.A.guards = some []) (hu : X.A.units + 66 < cLine) : CallR X (.builtin "repr") (c.rBi .repr) := by
  intro pins s0 σ0 H vs us Q I r ⟨W, s, h, σ, xs, rs, w, p⟩
  obtain ⟨a, ea, p1⟩ := Cc.po_opt p
  match xs, ea with
  | [x], ea =>
    obtain ⟨v, rfl, w1⟩ := ras1 w
    obtain ⟨u, rfl, ru⟩ := vals1 r
    have ea : (match dat x with
      | some d => if PyData.showable d = true ∧ szOk d.shown.length = true ∧ decide (d.depth ≤ 64) = true then some (AV.str d.shown) else none
      | none => none) = some a := ea
    cases ed : dat x with
    | none => rw [ed] at ea; cases ea
    | some d =>
      rw [ed] at ea
      have ea : (if PyData.showable d = true ∧ szOk d.shown.length = true ∧ decide (d.depth ≤ 64) = true then some (AV.str d.shown) else none) = some a := ea
      split at ea
      · rename_i hs
        cases ea
        obtain ⟨h1, h2, h3⟩ := hs
        have h3 := of_decide_eq_true h3
        have q : Q (.str d.shown) H := Cc.po_now p1 rs ra_str'
        have dp := ra_dp ed w1
        rw [← hK] at dp
        cases dp with
        | non =>
          cases ru
          exact PySem.P.repr_of_none ⟨.str _, H, I.tok _, ⟨_, rfl⟩, q⟩
        | bl b =>
          cases ru
          refine PySem.P.repr_of_bool ⟨.str _, H, I.tok _, ⟨_, rfl⟩, ?_⟩
          cases b <;> exact q
        | int i =>
          obtain ⟨t, rfl⟩ := ru
          exact PySem.P.repr_of_int (of_decide_eq_true h1) ⟨.str _, H, I.tok _, ⟨_, rfl⟩, q⟩
        | str z =>
          obtain ⟨t, rfl⟩ := ru
          exact PySem.P.repr_of_str ⟨.str _, H, I.tok _, ⟨_, rfl⟩, q⟩ (sz_line h2)
        | @lst a ys ds hq ha =>
          cases ru
          obtain ⟨as, rd⟩ := Dp.reads I _ _ _ (Dp.lst hq ha) rfl
          exact repr_of_reads' rd h1 (fun z => by rw [dat_noDict ed] at z; cases z) hg (by omega) (fun b o e => e) (fun h' t tk hk => ⟨.str _, H, I.kept hk, ⟨_, rfl⟩, q⟩) (sz_line h2)
        | @tup a ys ds hq ha =>
          cases ru
          obtain ⟨as, rd⟩ := Dp.reads I _ _ _ (Dp.tup hq ha) rfl
          exact repr_of_reads' rd h1 (fun z => by rw [dat_noDict ed] at z; cases z) hg (by omega) (fun b o e => e) (fun h' t tk hk => ⟨.str _, H, I.kept hk, ⟨_, rfl⟩, q⟩) (sz_line h2)
      · cases ea
end
end AM
/-! isinstance; calls of defs; new instances. -/
namespace AM
open PySem PySem.Spec PyProof.Rows L2
/-! ### isinstance -/
def tagU (T : Nm) : Option Ty → Value
  | none => .type "NoneType"
  | some .int => .type "int"
  | some .bool => .type "bool"
  | some .str => .type "str"
  | some .tuple => .type "tuple"
  | some .list => .type "list"
  | some .dict => .type "dict"
  | some (.cls c) => .ref (T.cadr c)
def tyV (T : Nm) : Ty → V
  | .int => .ty "int"
  | .bool => .ty "bool"
  | .str => .ty "str"
  | .tuple => .ty "tuple"
  | .list => .ty "list"
  | .dict => .ty "dict"
  | .cls c => .ref (T.cadr c)
def tyExp (o : Option Ty) (t : Ty) : Bool := decide (o = some t) || (decide (o = some .bool) && decide (t = .int))
def tyIn (n : Nat) : Option Ty → Prop
  | some (.cls c) => c < n
  | _ => True
/-- what is known of a class -/
structure ClsR (K : PySem.W.Frag) (C : Addr) : Prop where
  cl : Cls K C
  ha : PySem.W.findIn K (.ref C) "__class__" = some (some (.builtin "object.__class__"))
  hm : PySem.W.mroIn K C (.type "object") = some true
structure IsiR (K : PySem.W.Frag) (T : Nm) (n : Nat) : Prop where
  kit : ∀ o t, tyIn n o → tyIn n (some t) → PySem.W.kitOne K (tagU T o) (tagU T (some t)) = some (tyExp o t)
  hn : PySem.W.specialIn K (.builtin "object.__class__") "__get__" = some (some (.builtin "getset_descriptor.__get__"))
  htk : PySem.W.takesIn K (.builtin "object.__class__") = some true
  cls : ∀ c, c < n → ClsR K (T.cadr c)
def tagAV (h : AH) : AV → Option (Option Ty)
  | .non => some none
  | .bl _ => some (some .bool)
  | .int _ => some (some .int)
  | .str _ => some (some .str)
  | .tup _ => some (some .tuple)
  | .lst _ => some (some .list)
  | .dct _ _ => some (some .dict)
  | .scr _ => some (some .list)
  | .ktup _ => some (some .tuple)
  | .obj c _ => some (some (.cls c))
  | .ref n => (match h[n]? with
    | some (.obj c _) => some (some (.cls c))
    | some (.lst _) => some (some .list)
    | _ => none)
theorem tyAV_tag {h : AH} {x : AV} {t : Ty} {b : Bool} (e : tyAV h x t = some b) : ∃ o, tagAV h x = some o ∧ tyExp o t = b := by
  cases x with
  | non => cases e; exact ⟨_, rfl, by cases t <;> rfl⟩
  | bl _ => cases e; exact ⟨_, rfl, by cases t <;> rfl⟩
  | int _ => cases e; exact ⟨_, rfl, by cases t <;> rfl⟩
  | str _ => cases e; exact ⟨_, rfl, by cases t <;> rfl⟩
  | tup _ => cases e; exact ⟨_, rfl, by cases t <;> rfl⟩
  | lst _ => cases e; exact ⟨_, rfl, by cases t <;> rfl⟩
  | dct _ _ => cases e; exact ⟨_, rfl, by cases t <;> rfl⟩
  | scr _ => cases e; exact ⟨_, rfl, by cases t <;> rfl⟩
  | ktup _ => cases e; exact ⟨_, rfl, by cases t <;> rfl⟩
  | obj c _ => cases e; exact ⟨_, rfl, by simp [tyExp, eq_comm]⟩
  | ref n =>
    have e : (match h[n]? with
      | some (.obj c _) => some (decide (t = Ty.cls c))
      | some (.lst _) => some (decide (t = Ty.list))
      | _ => none) = some b := e
    show ∃ o, (match h[n]? with
      | some (.obj c _) => some (some (Ty.cls c))
      | some (.lst _) => some (some Ty.list)
      | _ => none) = some o ∧ _
    cases hn : h[n]? with
    | none => rw [hn] at e; cases e
    | some z =>
      rw [hn] at e
      cases z with
      | obj c _ => cases e; exact ⟨_, rfl, by simp [tyExp, eq_comm]⟩
      | lst _ => cases e; exact ⟨_, rfl, by cases t <;> rfl⟩
      | _ => cases e
section
variable {X : Cx}
/-- .. of a dict of tuples that a walk holds -/
theorem call_isiF : CallR X (.builtin "isinstance") (fun xs H Q => ∃ (a : Addr) (ob : Obj) (kvs : List (List Key × V)) (c : V) (u : Value) (b : Bool), xs = [.ref a, c] ∧ H a = some (.frz ob (.dT kvs)) ∧ ClsV c u ∧ PySem.W.kitOne X.K (.type "dict") u = some b ∧ Q (.bl b) H) := by
  intro pins s σ H xs us Q I r h
  obtain ⟨a, ob, kvs, c, u, b, rfl, ea, k, e, q⟩ := h
  obtain ⟨u1, u2, rfl, r1, r2⟩ := vals2 r
  have e2 := k.eq r2
  subst e2
  cases (show u1 = Value.ref a from r1)
  obtain ⟨_, _, _, vs, _, o, es, ep, h1, h2, _⟩ := (show ObjOk X.prog X.w H s.heap a (.frz ob (.dT kvs)) from I.hok a _ ea)
  exact PySem.W.kia_one PySem.W.kitx_dict I.kIn ⟨o, h1, h2.1⟩ e (fun z => nomatch z) fun tk => ⟨.bl b, H, I.tok tk, rfl, q⟩
end
section
variable {c : Cc} {X : Cx} {a b : Expr} {xa : Ex} {pos p : Pos} {t : Ty}
theorem clsV_of (T : Nm) : ∀ t : Ty, ClsV (tyV T t) (tagU T (some t))
  | .int => .ty _
  | .bool => .ty _
  | .str => .ty _
  | .tuple => .ty _
  | .list => .ty _
  | .dict => .ty _
  | .cls _ => .own _
theorem isi_val {n : Nat} (F : IsiR c.K c.T n) {W : Wd} {H : Hp} {h : AH} {x : AV} {v : V} {k : Bool} {Q : VK} (w : RB c.K c.T W H x v) (r : RH c.K c.T W h H) (ok : isiOk n h x = true) (ht : tyIn n (some t)) (e : tyAV h x t = some k) (q : Q (.bl k) H) :
    rIsi c.K [v, tyV c.T t] H Q ∨ ∃ (a : Addr) (ob : Obj) (kvs : List (List Key × V)) (cv : V) (u : Value) (b : Bool), [v, tyV c.T t] = [.ref a, cv] ∧ H a = some (.frz ob (.dT kvs)) ∧ ClsV cv u ∧ PySem.W.kitOne c.K (.type "dict") u = some b ∧ Q (.bl b) H := by
  obtain ⟨o, eo, ek⟩ := tyAV_tag e
  have fin : ∀ {u : Value}, tyIn n o → TyX c.K H v u → u = tagU c.T o → rIsi c.K [v, tyV c.T t] H Q := fun hi ty eu => by
    subst eu
    exact ⟨v, _, _, _, k, rfl, clsV_of c.T t, ty, by rw [← ek]; exact F.kit o t hi ht, q⟩
  have inst : ∀ {a dx : Addr} {cc : Nat} {fs : List (Str × V)}, H a = some (.ins (c.T.cadr cc) dx fs) → cc < n → TyX c.K H (.ref a) (.ref (c.T.cadr cc)) := fun h1 hlt =>
    .base (.ins h1 (F.cls _ hlt).cl (F.cls _ hlt).ha F.hn F.htk (F.cls _ hlt).hm)
  cases x with
  | non =>
    cases eo
    have w := rb_ra w rfl
    unfold RA at w
    subst w
    exact .inl (fin True.intro (.base .non) rfl)
  | bl _ =>
    cases eo
    rw [ra_bl (rb_ra w rfl)] at fin ⊢
    exact .inl (fin True.intro (.base (.bl _)) rfl)
  | int _ =>
    cases eo
    rw [ra_int (rb_ra w rfl)] at fin ⊢
    exact .inl (fin True.intro (.base (.int _)) rfl)
  | str _ =>
    cases eo
    rw [ra_str (rb_ra w rfl)] at fin ⊢
    exact .inl (fin True.intro (.base (.str _)) rfl)
  | tup xs =>
    cases eo
    obtain ⟨q, vs, rfl, h1, _⟩ := ra_tup (rb_ra w rfl)
    exact .inl (fin True.intro (.base (.tup h1)) rfl)
  | lst xs =>
    cases eo
    obtain ⟨q, vs, rfl, h1, _⟩ := rb_lst w
    exact .inl (fin True.intro (.base (.lst h1)) rfl)
  | ktup xs =>
    cases eo
    have w' := rb_ra w rfl
    unfold RA at w'
    obtain ⟨q, vs, o, its, m, rfl, ⟨w1, w2, _⟩, _⟩ := w'
    exact .inl (fin True.intro (.kTuple w1 w2) rfl)
  | scr ns =>
    cases eo
    have w' := rb_ra w rfl
    unfold RA at w'
    obtain ⟨q, rfl, w'⟩ := w'
    rcases w' with ⟨o, w'⟩ | ⟨o, its, m, w1, w2, _⟩
    · exact .inl (fin True.intro (.base (.frz w')) rfl)
    · exact .inl (fin True.intro (.kList w1 w2) rfl)
  | dct tt kvs =>
    cases eo
    obtain ⟨q, rfl, rd⟩ := rb_dct w
    cases tt with
    | false =>
      obtain ⟨kv, h1, _⟩ := rd
      rcases h1 with h1 | ⟨o, h1⟩
      · exact .inl (fin True.intro (.base (.dK h1)) rfl)
      · exact .inl (fin True.intro (.fDict h1) rfl)
    | true =>
      obtain ⟨kv, h1, _⟩ := rd
      rcases h1 with h1 | ⟨o, h1⟩
      · exact .inl (fin True.intro (.base (.dT h1)) rfl)
      · exact .inr ⟨q, o, kv, _, _, k, rfl, h1, clsV_of c.T t, by rw [← ek]; exact F.kit (some .dict) t True.intro ht, by assumption⟩
  | obj cc fs =>
    cases eo
    obtain ⟨q, dx, vs, rfl, h1, _⟩ := rb_obj w
    have hlt : cc < n := of_decide_eq_true ok
    exact .inl (fin hlt (inst h1 hlt) rfl)
  | ref m =>
    obtain ⟨a, h1, rfl⟩ := ra_ref w
    have eo : (match h[m]? with
      | some (.obj c _) => some (some (Ty.cls c))
      | some (.lst _) => some (some Ty.list)
      | _ => none) = some o := eo
    have ok : (match (match h[m]? with
      | some (.obj c fs) => some (c, fs)
      | _ => none) with
      | some o => decide (o.1 < n)
      | none => true) = true := ok
    cases hn : h[m]? with
    | none => rw [hn] at eo; cases eo
    | some z =>
      rw [hn] at eo ok
      cases z with
      | obj cc fs =>
        cases eo
        obtain ⟨dx, vs, h2, h3⟩ := r.cell m _ a hn h1
        have hlt : cc < n := of_decide_eq_true ok
        exact .inl (fin hlt (inst h2 hlt) rfl)
      | lst xs =>
        cases eo
        obtain ⟨vs, h2, h3⟩ := r.cell m _ a hn h1
        exact .inl (fin True.intro (.base (.lst h2)) rfl)
      | _ => cases eo
theorem ok_isi (F : IsiR c.K c.T c.P.cls.length) (hK : X.K = c.K) (ht : tyIn c.P.cls.length (some t)) (hg : Gl X "isinstance") (hm : X.mg "isinstance" = none) (ha : PE X a (c.tB xa)) (hb : PE X b (tC (tyV c.T t))) (h1 : isStar a = false) (h2 : isStar b = false) :
    PE X (.Call (.Name "isinstance" p) [a, b] [] pos) (c.tE (.isi xa [t])) := by
  refine PE.imp (pe_callB (call_isi.or call_isiF) hg hm (by first | rfl | decide +kernel) (pa_cons ha (pa_cons hb pa_nil (star_cons h2)) (star_cons h1)) (by decide) (by decide) (star_cons h1) (star_none (by simp [h2]))) fun σ H Q ⟨W, s, h, rs, p⟩ => ?_
  refine ⟨W, s, h, rs, Cc.po_rel (Cc.po_bndW (Rel := c.rb) p fun W1 H1 v x h1 e1 r1 w1 ex p1 => ?_) fun _ _ _ _ _ _ w => w⟩
  have p1 : c.po s σ W1 H1 c.ra (if isiOk c.P.cls.length h1 x = true then opt ((tysAV h1 x [t]).map .bl) h1 else .stk) Q := p1
  split at p1
  · rename_i hok
    obtain ⟨z, ez, p2⟩ := Cc.po_opt p1
    obtain ⟨k, ek, rfl⟩ := Option.map_eq_some_iff.mp ez
    have ek : (match tyAV h1 x t, (some false : Option Bool) with
      | some a, some b => some (a || b)
      | _, _ => none) = some k := ek
    cases et : tyAV h1 x t with
    | none => rw [et] at ek; cases ek
    | some k' =>
      rw [et] at ek
      have ek : some (k' || false) = some k := ek
      rw [Bool.or_false] at ek
      cases ek
      rw [hK]
      exact isi_val F w1 r1.toRH hok ht et (Cc.po_now p2 r1 ra_bl')
  · exact p1.elim
end
/-! ### calls -/
/-- behind a call -/
def poF (K : PySem.W.Frag) (T : Nm) (W : Wd) (H : Hp) (r : R AV) (Q : VK) (E : XK) : Prop := match r with
  | .ok a h => ∀ W' H' v, Ext W H W' H' → RH K T W' h H' → RA K T W' H' a v → Q v H'
  | .err x h => ∀ W' H' d vs, Ext W H W' H' → RH K T W' h H' → H' d = some (.xd vs) → RFs K T W' H' x.fs vs → E (.ref (T.cadr x.c)) (some d) H'
  | .stk => False
/-- what a def promises -/
def spF (K : PySem.W.Frag) (T : Nm) (cal : List AV → AH → R AV) : Sp := fun vs H Q E => ∃ W h xs, RH K T W h H ∧ RAs K T W H xs vs ∧ poF K T W H (cal xs h) Q E
/-- .. an __init__, of an instance of one's own -/
def poI (K : PySem.W.Frag) (T : Nm) (W : Wd) (H : Hp) (x : Addr) (r : R AV) (Q : VK) (E : XK) : Prop := match r with
  | .ok a h => ∀ W' H', Ext W H W' H' → RH K T W' h H' → x ∉ W'.mu → ¬ W'.F x → RC K T W' H' a x → Q .non H'
  | .err e h => ∀ W' H' d vs, Ext W H W' H' → RH K T W' h H' → H' d = some (.xd vs) → RFs K T W' H' e.fs vs → E (.ref (T.cadr e.c)) (some d) H'
  | .stk => False
def spI (K : PySem.W.Frag) (T : Nm) (c : Nat) (ini : List AV → AH → R AV) : Sp := fun vs H Q E => ∃ W H1 h xs us x dx, vs = .ref x :: us ∧ H1 x = none ∧ H1 dx = none ∧ dx ≠ x ∧ H = upd (upd H1 dx (.own x)) x (.ins (T.cadr c) dx []) ∧ RH K T W h H1 ∧ RAs K T W H1 xs us ∧ poI K T W H1 x (ini xs h) Q E
section
variable {c : Cc} {X : Cx} {k : Nat} {f : Addr} {fd : FuncData} {ps : List Str} {x m : Str} {p pos apos : Pos} {e o : Expr} {es : List Expr} {t : TA}
theorem Cc.poF_of {s : Fr} {σ : L2.St} {W : Wd} {H : Hp} {h : AH} {r : R AV} {Q : VK} (q : c.po s σ W H c.ra r Q) (rs : c.Rs W s h σ H) : poF c.K c.T W H r Q (fun cls d H' => c.wx cls d σ H') := by
  cases r with
  | ok a h' => exact fun W' H' v e' r' w => q W' H' v e' (Cc.rs_behind rs e' r') w
  | err x h' => exact fun W' H' d vs e' r' w1 w2 => q W' H' d vs e' (Cc.rs_behind rs e' r') w1 w2
  | stk => exact q
theorem run_gS {sp : Sp} {pins : List (Addr × Obj)} {σ : L2.St} {H : Hp} {s : Shared} {Q : VK} {us : List Value} {vs : List V} (F : FnX X k f fd ps sp) (hr : Room k X.A) (gd : X.A.guards = some []) (hb : Binds X.K fd ps []) (tk : Takes X c.wx)
    (I : Inv X pins σ H s) (r : Vals vs us) (h : sp vs H Q fun cls d H' => c.wx cls d σ H') : wpAny (model X.prog X.w) X.A (call (.ref f) us) (EP X pins σ Q) X.xe s := by
  have hl : us.length = ps.length := by rw [← r.length, F.len _ _ _ _ h]
  have hb' := hb s us I.kIn (by rw [List.append_nil]; exact hl)
  rw [List.append_nil] at hb'
  refine wpAny_call (codeAny_mono (F.run X.A X.stack s H ⟨us, []⟩ us vs Q _ hr gd I.env0 hb' r h) fun res s' z => ?_)
  cases res with
  | error err => exact tk err s' (XE.of_call I (fun _ _ _ w => w) z)
  | ok fl => cases fl <;> first | exact I.after z | exact z.elim
theorem ok_call {j : Nat} {xs : List Ex} (F : FnX X k f fd ps (spF c.K c.T (c.cal j))) (hr : Room k X.A) (gd : X.A.guards = some []) (hg : Gl X x) (hm : X.mg x = some (.ref f)) (hk : PySem.W.keepIn X.K (.ref f) = true) (hb : Binds X.K fd ps []) (tk : Takes X c.wx)
    (ha : PA X (e :: es) (c.tL xs)) (hdb : (x == ("__debug__" : Str)) = false) (h1 : isStar e = false) (h2 : es.all (fun e => !isStar e) = true) : PE X (.Call (.Name x p) (e :: es) [] pos) (c.tE (.call j xs)) := by
  constructor
  intro pins s σ H Q I ⟨W, fr, h, rs, w⟩
  have step := ha.run pos pins s σ H (fun vs H1 => ∃ W1 ys h1, c.Rs W1 fr h1 σ H1 ∧ RAs c.K c.T W1 H1 ys vs ∧ c.po fr σ W1 H1 c.ra (c.cal j ys h1) Q) I
    ⟨W, fr, h, rs, Cc.po_bndW (Rel := c.ras) w fun W1 H1 vs ys h1 e1 r1 w1 _ p1 => ⟨W1, ys, h1, r1, w1, p1⟩⟩
  refine wpAny_Call_Name_kw (ld_glob I hg hm (PySem.W.callWith_K (h₀ := X.base) I.ok.mod.kin hk (thn step fun us s1 z => ?_) (star_cons h1) (star_none h2)) hdb)
  obtain ⟨vs, H1, I1, r, W1, ys, h1, r1, w1, p1⟩ := z
  exact ⟨I1.kIn, run_gS F hr gd hb tk I1 r ⟨W1, h1, ys, r1.toRH, w1, Cc.poF_of p1 r1⟩⟩
theorem ok_call0 {j : Nat} (F : FnX X k f fd ps (spF c.K c.T (c.cal j))) (hr : Room k X.A) (gd : X.A.guards = some []) (hg : Gl X x) (hm : X.mg x = some (.ref f)) (hk : PySem.W.keepIn X.K (.ref f) = true) (hb : Binds X.K fd ps []) (tk : Takes X c.wx)
    (hdb : (x == ("__debug__" : Str)) = false) : PE X (.Call (.Name x p) [] [] pos) (c.tE (.call j [])) := by
  constructor
  intro pins s σ H Q I ⟨W, fr, h, rs, w⟩
  exact wpAny_Call_Name_kw (ld_glob I hg hm (PySem.W.callWith_K0 I.kIn hk (run_gS (us := []) F hr gd hb tk I .nil ⟨W, h, [], rs.toRH, RAs.nil, Cc.poF_of w rs⟩)) hdb)
end
end AM
/-! New instances; what is walked; list comprehensions. -/
namespace AM
open PySem PySem.Spec PyProof.Rows L2
section
variable {c : Cc} {X : Cx} {k : Nat} {f C : Addr} {fd : FuncData} {ps : List Str} {x m : Str} {p pos apos : Pos} {e o : Expr} {es : List Expr} {t : TA}
theorem run_mkS {sp : Sp} {pins : List (Addr × Obj)} {σ : L2.St} {H : Hp} {s : Shared} {Q : VK} {us : List Value} {vs : List V} (M : Mk X.K C f) (F : FnX X k f fd ps sp) (hr : Room (k + 1) X.A) (gd : X.A.guards = some []) (hb : Binds X.K fd ps [])
    (tk : Takes X c.wx) (I : Inv X pins σ H s) (r : Vals vs us)
    (h : ∀ x dx, H x = none → H dx = none → dx ≠ x → sp (.ref x :: vs) (upd (upd H dx (.own x)) x (.ins C dx [])) (fun v H2 => v = .non ∧ Q (.ref x) H2) fun cls d H' => c.wx cls d σ H') :
    wpAny (model X.prog X.w) X.A (call (.ref C) us) (EP X pins σ Q) X.xe s := by
  have free : ∀ a, s.heap.objs.size ≤ a → H a = none := fun a ha => I.hok.fresh ha
  have want := h (s.heap.objs.size + 1) s.heap.objs.size (free _ (Nat.le_succ _)) (free _ (Nat.le_refl _)) (Nat.ne_of_lt (Nat.lt_succ_self _))
  have I2 := Inv.made (C := C) I
  have rel : Vals (V.ref (s.heap.objs.size + 1) :: vs) (Value.ref (s.heap.objs.size + 1) :: us) := .cons rfl r
  have hl : (Value.ref (s.heap.objs.size + 1) :: us).length = ps.length := by rw [← rel.length, F.len _ _ _ _ want]
  have bnd := hb _ (Value.ref (s.heap.objs.size + 1) :: us) I2.kIn (by rw [List.append_nil]; exact hl)
  rw [List.append_nil] at bnd
  refine wpAny_call (make_map (f := f) I.kIn M.makes M.init (beq_iff_eq.mp M.fn) (codeAny_mono (F.run _ X.stack _ _ ⟨Value.ref (s.heap.objs.size + 1) :: us, []⟩ _ _ _ _ (hr.make C us []) (guards_make gd C us [])
    (I2.env0.make C us []) bnd rel want) fun res s' z => ?_))
  cases res with
  | error err => exact tk err s' (XE.of_call I2 (fun _ _ _ w => w) z)
  | ok fl =>
    cases fl with
    | ret u =>
      obtain ⟨v, H', I3, rv, ev, q3⟩ := I2.after z
      subst ev
      exact ⟨rv, V.ref (s.heap.objs.size + 1), H', I3, rfl, q3⟩
    | _ => exact z.elim
theorem ok_mkF {j ini : Nat} {ms prs : List (Nat × Nat)} {xs : List Ex} (hc : c.P.cls[j]? = some ⟨false, ini, ms, prs⟩) (hC : c.T.cadr j = C) (M : Mk X.K C f) (F : FnX X k f fd ps (spI c.K c.T j (c.ini j ini))) (hr : Room (k + 1) X.A) (gd : X.A.guards = some []) (hg : Gl X x) (hm : X.mg x = some (.ref C)) (hb : Binds X.K fd ps []) (tk : Takes X c.wx)
    (ha : PA X (e :: es) (c.tL xs)) (hdb : (x == ("__debug__" : Str)) = false) (h1 : isStar e = false) (h2 : es.all (fun e => !isStar e) = true) : PE X (.Call (.Name x p) (e :: es) [] pos) (c.tF (.mk j xs)) := by
  constructor
  intro pins s σ H Q I ⟨W, fr, h, rs, w⟩
  have w : c.po fr σ W H (c.rF H) ((evL c.P c.cal c.ini xs fr h).bnd fun vs h => c.ini j ini vs h) Q := by
    have w : c.po fr σ W H (c.rF H) (evE c.P c.cal c.ini (.mk j xs) fr h) Q := w
    unfold evE at w
    rw [hc] at w
    exact w
  have step := ha.run pos pins s σ H (fun vs H1 => ∃ W1 ys h1, c.Rs W1 fr h1 σ H1 ∧ Ext W H W1 H1 ∧ RAs c.K c.T W1 H1 ys vs ∧ c.po fr σ W1 H1 (c.rF H) (c.ini j ini ys h1) Q) I
    ⟨W, fr, h, rs, Cc.po_bndW (Rel := c.ras) w fun W1 H1 vs ys h1 e1 r1 w1 _ p1 => ⟨W1, ys, h1, r1, e1, w1, p1⟩⟩
  refine wpAny_Call_Name_kw (ld_glob I hg hm (PySem.W.callWith_K (h₀ := X.base) I.ok.mod.kin M.kp (thn step fun us s1 z => ?_) (star_cons h1) (star_none h2)) hdb)
  obtain ⟨vs, H1, I1, r, W1, ys, h1, r1, e1, w1, p1⟩ := z
  refine ⟨I1.kIn, run_mkS M F hr gd hb tk I1 r fun x dx hx hdx hne => ?_⟩
  refine ⟨W1, H1, h1, ys, vs, x, dx, rfl, hx, hdx, hne, by rw [hC], r1.toRH, w1, ?_⟩
  cases hr : c.ini j ini ys h1 with
  | ok a h' =>
    rw [hr] at p1
    exact fun W' H' e' r' nm nF rc => ⟨rfl, p1 W' H' (.ref x) e' (Cc.rs_behind r1 e' r') (.inr ⟨x, rfl, nm, nF, e1.there x hx, rc⟩)⟩
  | err z h' =>
    rw [hr] at p1
    exact fun W' H' d vs e' r' w1 w2 => p1 W' H' d vs e' (Cc.rs_behind r1 e' r') w1 w2
  | stk =>
    rw [hr] at p1
    exact p1
end
/-! ### what is walked -/
def Cc.rI (c : Cc) : Wd → Hp → List AV → It → Prop := fun W H xs J => ∀ W1 H1 h1, Mo W H W1 H1 → RH c.K c.T W1 h1 H1 → (∀ i, i < xs.length → J.go i H1) ∧ J.stop xs.length H1 ∧
  ∀ (i : Nat) (x : AV) (v : V) (H2 : Hp), xs[i]? = some x → J.yld i H1 v H2 → (H2 = H1 ∨ ∃ (T : Addr) (ys : List V), H1 T = none ∧ H2 = upd H1 T (.tup ys)) ∧ RA c.K c.T W1 H2 x v
def Cc.tI (c : Cc) (x : Ex) : TI := fun σ H R => ∃ W s h, c.Rs W s h σ H ∧ c.po s σ W H c.rI (evI c.P c.cal c.ini x s h) R
theorem PI.imp {X : Cx} {tg e : Expr} {t t' : TI} (h : PI X tg e t) (k : ∀ σ H R, t' σ H R → t σ H R) : PI X tg e t' := ⟨fun pins s σ H Q I w => h.run pins s σ H Q I (k σ H Q w)⟩
theorem PI.or {X : Cx} {tg e : Expr} {t t' : TI} (h : PI X tg e t) (h' : PI X tg e t') : PI X tg e (fun σ H R => t σ H R ∨ t' σ H R) := ⟨fun pins s σ H Q I w => w.elim (h.run pins s σ H Q I) (h'.run pins s σ H Q I)⟩
section
variable {c : Cc} {X : Cx} {tg a b : Expr} {xa xb : Ex} {p pos : Pos}
theorem pi_bad : PI X tg a (c.tI .bad) := ⟨fun _ _ _ _ _ _ ⟨_, _, _, _, p⟩ => p.elim⟩
theorem rI_rng {W : Wd} {H : Hp} {i : Int} {n : Nat} : c.rI W H (rngL i n) (Itr i n) := by
  intro W1 H1 h1 e r
  unfold rngL
  rw [List.length_map, List.length_range]
  refine ⟨fun _ hi => hi, Nat.le_refl _, fun j x v H2 hx y => ?_⟩
  obtain ⟨rfl, rfl⟩ := y
  rw [List.getElem?_map] at hx
  obtain ⟨z, hz, rfl⟩ := Option.map_eq_some_iff.mp hx
  obtain ⟨hz1, hz2⟩ := List.getElem?_eq_some_iff.mp hz
  rw [List.getElem_range] at hz2
  subst hz2
  exact ⟨.inl rfl, ra_int'⟩
theorem rI_lst {W : Wd} {H : Hp} {xs : List AV} {a : Addr} {vs : List V} (hF : W.F a) (ha : H a = some (.lst vs)) (w : RAs c.K c.T W H xs vs) {h : AH} (r : RH c.K c.T W h H) : c.rI W H xs (Itl c.K a) := by
  intro W1 H1 h1 m r1
  have ha1 := m.lst a vs hF ha
  have w1 := w.mono m
  refine ⟨fun i hi => ⟨vs, vs[i]'(by rw [← w.len]; exact hi), SqL.of ha1, by simp⟩, ⟨vs, SqL.of ha1, by rw [w.len]; exact Nat.le_refl _⟩, fun i x v H2 hx y => ?_⟩
  obtain ⟨rfl, y⟩ := y
  obtain ⟨u, h3, h4⟩ := w1.at hx
  have := y vs (SqL.of ha1)
  rw [h3] at this
  cases this
  exact ⟨.inl rfl, h4⟩
theorem rI_tup {W : Wd} {H : Hp} {xs : List AV} {a : Addr} {vs : List V} (ha : H a = some (.tup vs)) (w : RAs c.K c.T W H xs vs) {h : AH} (r : RH c.K c.T W h H) : c.rI W H xs (Itt c.K a) := by
  intro W1 H1 h1 m r1
  have ha1 := m.tup a vs ha
  have w1 := w.mono m
  refine ⟨fun i hi => ⟨vs, vs[i]'(by rw [← w.len]; exact hi), SqT.of ha1, by simp⟩, ⟨vs, SqT.of ha1, by rw [w.len]; exact Nat.le_refl _⟩, fun i x v H2 hx y => ?_⟩
  obtain ⟨rfl, y⟩ := y
  obtain ⟨u, h3, h4⟩ := w1.at hx
  have := y vs (SqT.of ha1)
  rw [h3] at this
  cases this
  exact ⟨.inl rfl, h4⟩
theorem rI_str {W : Wd} {H : Hp} {z : Str} : c.rI W H (z.cps.toList.map fun c => .str ⟨#[c]⟩) (Its z) := by
  intro W1 H1 h1 e r
  rw [List.length_map]
  refine ⟨fun i hi => by show i < z.cps.size; simpa using hi, by show z.cps.size ≤ _; simp, fun i x v H2 hx y => ?_⟩
  obtain ⟨rfl, k, h3, rfl⟩ := y
  rw [List.getElem?_map] at hx
  obtain ⟨q, hq, rfl⟩ := Option.map_eq_some_iff.mp hx
  rw [Array.getElem?_toList, h3] at hq
  cases hq
  exact ⟨.inl rfl, ra_str'⟩
theorem ok_seq (hK : X.K = c.K) (ha : PE X a (c.tE xa)) : PI X tg a (c.tI (.seq xa)) := by
  refine PI.imp (PI.or (pi_list ha) (PI.or (pi_tup ha) (pi_str ha))) fun σ H R ⟨W, s, h, rs, p⟩ => ?_
  have p : c.po s σ W H c.rI ((c.ev xa s h).bnd fun x h => opt (itmAV x) h) R := by
    have p : c.po s σ W H c.rI (evI c.P c.cal c.ini (.seq xa) s h) R := p
    unfold evI at p
    exact p
  rw [hK]
  have key : ∀ {Q : VK}, (∀ W1 H1 v x h1, c.Rs W1 s h1 σ H1 → RA c.K c.T W1 H1 x v → c.ev xa s h = .ok x h1 → c.po s σ W1 H1 c.rI (opt (itmAV x) h1) R → Q v H1) → c.tE xa σ H Q := fun k =>
    ⟨W, s, h, rs, Cc.po_bndW p fun W1 H1 v x h1 e1 r1 w1 ex p1 => k W1 H1 v x h1 r1 w1 ex p1⟩
  by_cases ht : ∃ ys h1, c.ev xa s h = .ok (.tup ys) h1
  · obtain ⟨ys, h0, et⟩ := ht
    refine .inr (.inl (key fun W1 H1 v x h1 r1 w1 ex p1 => ?_))
    rw [et] at ex
    cases ex
    obtain ⟨a, vs, rfl, h2, h3⟩ := ra_tup w1
    exact ⟨a, rfl, ⟨vs, SqT.of h2⟩, Cc.po_now p1 r1 (rI_tup h2 h3 r1.toRH)⟩
  · by_cases hst : ∃ z h1, c.ev xa s h = .ok (.str z) h1
    · obtain ⟨z, h0, et⟩ := hst
      refine .inr (.inr (key fun W1 H1 v x h1 r1 w1 ex p1 => ?_))
      rw [et] at ex
      cases ex
      exact ⟨z, ra_str w1, Cc.po_now p1 r1 rI_str⟩
    · refine .inl (key fun W1 H1 v x h1 r1 w1 ex p1 => ?_)
      cases x with
      | lst ys =>
        obtain ⟨a, vs, rfl, hF, h2, h3⟩ := ra_lst w1
        exact ⟨a, rfl, ⟨vs, SqL.of h2⟩, Cc.po_now p1 r1 (rI_lst hF h2 h3 r1.toRH)⟩
      | tup ys => exact absurd ⟨ys, h1, ex⟩ ht
      | str z => exact absurd ⟨z, h1, ex⟩ hst
      | _ => exact p1.elim
theorem small_of {i : Int} (h : smallI i = true) : -(2 ^ 62) ≤ i ∧ i < 2 ^ 62 := of_decide_eq_true h
theorem ok_rng1 (hg : Gl X "range") (hm : X.mg "range" = none) (ha : PE X a (c.tE xa)) (h1 : isStar a = false) : PI X tg (.Call (.Name "range" p) [a] [] pos) (c.tI (.rng (.con (.int 0)) xa)) := by
  refine PI.imp (pi_range1 hg hm (pa_cons ha pa_nil (star_cons h1)) (by rw [star_cons h1]; rfl)) fun σ H R ⟨W, s, h, rs, p⟩ => ?_
  have p : c.po s σ W H c.rI ((c.ev xa s h).bnd fun y h => match (AV.int 0), y with
      | .int i, .int j => if smallI i = true ∧ smallI j = true then .ok (rngL i (j - i).toNat) h else .stk
      | _, _ => .stk) R := by
    exact p
  refine ⟨W, s, h, rs, Cc.po_bndW p fun W1 H1 v x h1 e1 r1 w1 ex p1 => ?_⟩
  cases x with
  | int j =>
    have p1 : c.po s σ W1 H1 c.rI (if smallI 0 = true ∧ smallI j = true then .ok (rngL 0 (j - 0).toNat) h1 else .stk) R := p1
    split at p1
    · rename_i hs
      obtain ⟨h2, h3⟩ := small_of hs.2
      refine ⟨j, by rw [ra_int w1], h2, h3, ?_⟩
      have q := Cc.po_now p1 r1 rI_rng
      rw [Int.sub_zero] at q
      exact q
    · exact p1.elim
  | _ => exact p1.elim
theorem ok_rng2 (hg : Gl X "range") (hm : X.mg "range" = none) (ha : PE X a (c.tE xa)) (hb : PE X b (c.tE xb)) (h1 : isStar a = false) (h2 : isStar b = false) : PI X tg (.Call (.Name "range" p) [a, b] [] pos) (c.tI (.rng xa xb)) := by
  refine PI.imp (pi_range2 hg hm (pa_cons ha (pa_cons hb pa_nil (star_cons h2)) (star_cons h1)) (by rw [star_cons h1, star_cons h2]; rfl) (by rw [star_cons h2]; rfl)) fun σ H R ⟨W, s, h, rs, p⟩ => ?_
  have p : c.po s σ W H c.rI ((c.ev xa s h).bnd fun x h => (c.ev xb s h).bnd fun y h => match x, y with
      | .int i, .int j => if smallI i = true ∧ smallI j = true then .ok (rngL i (j - i).toNat) h else .stk
      | _, _ => .stk) R := by
    have p : c.po s σ W H c.rI (evI c.P c.cal c.ini (.rng xa xb) s h) R := p
    unfold evI at p
    exact p
  refine ⟨W, s, h, rs, Cc.po_bndW p fun W1 H1 v x h1 e1 r1 w1 ex p1 => ⟨W1, s, h1, r1, Cc.po_bndW p1 fun W2 H2 u y h2 e2 r2 w2 ey p2 => ?_⟩⟩
  cases x with
  | int i =>
    cases y with
    | int j =>
      have p2 : c.po s σ W2 H2 c.rI (if smallI i = true ∧ smallI j = true then .ok (rngL i (j - i).toNat) h2 else .stk) R := p2
      split at p2
      · rename_i hs
        obtain ⟨h2, h3⟩ := small_of hs.1
        obtain ⟨h4, h5⟩ := small_of hs.2
        exact ⟨i, j, by rw [ra_int w1, ra_int w2], ⟨h2, h3, h4, h5⟩, Cc.po_now p2 r2 rI_rng⟩
      · exact p2.elim
    | _ => exact p2.elim
  | _ => cases y <;> exact p2.elim
end
end AM
/-! List comprehensions. -/
namespace AM
open PySem PySem.Spec PyProof.Rows L2
section
variable {K : PySem.W.Frag} {T : Nm} {W : Wd} {H : Hp} {p : Addr} {o o' : HO}
/-- what no value stands for: changed -/
theorem Mo.upd (hp : H p = some o') (nt : ∀ xs, o' ≠ .tup xs) (nf : ∀ q u, o' ≠ .frz q u) (nF : ¬ W.F p) : Mo W H W (L2.upd H p o) := by
  have ne : ∀ {a : Addr} {z : HO}, H a = some z → z ≠ o' → a ≠ p := fun ha hz e => by
    rw [e, hp] at ha
    exact hz (Option.some.inj ha).symm
  have neF : ∀ {a : Addr}, W.F a → a ≠ p := fun ha e => nF (e ▸ ha)
  refine ⟨fun _ _ h => h, fun _ h => h, fun a xs h => ?_, fun a q xs h => ?_, fun a xs hF h => ?_, fun a u hF h => ?_, fun a C dx fs hF h => ?_⟩
  · rw [upd_ne (ne h (nt xs).symm)]; exact h
  · rw [upd_ne (ne h (nf q _).symm)]; exact h
  · rw [upd_ne (neF hF)]; exact h
  · rcases h with h | ⟨q, h⟩
    · exact .inl (by rw [upd_ne (neF hF)]; exact h)
    · exact .inr ⟨q, by rw [upd_ne (neF hF)]; exact h⟩
  · rw [upd_ne (neF hF)]; exact h
theorem RH.upd {h : AH} (r : RH K T W h H) (hp : H p = some o') (nt : ∀ xs, o' ≠ .tup xs) (nf : ∀ q u, o' ≠ .frz q u) (nF : ¬ W.F p) (nm : p ∉ W.mu) : RH K T W h (L2.upd H p o) := by
  have m : Mo W H W (L2.upd H p o) := Mo.upd hp nt nf nF
  refine ⟨r.len, fun n v a h1 h2 => (r.cell n v a h1 h2).mono m fun z hz => ?_, r.nd, r.fr, fun a hF => ?_, fun q hq => m.tup _ _ (r.con q hq)⟩
  · have hne : a ≠ p := fun e => nm (by rw [← e]; exact List.mem_of_getElem? h2)
    rw [upd_ne hne]
    exact hz
  · have hne : a ≠ p := fun e => nF (by rw [← e]; exact hF)
    rw [upd_ne hne]
    exact r.there a hF
end
section
variable {c : Cc} {s : Fr} {σ : L2.St} {W : Wd} {H : Hp} {h : AH}
theorem Cc.slot_none (r : c.Rs W s h σ H) (i : Nat) : s[i]? = none ↔ σ[i]? = none := by
  have q := r.slot i
  constructor
  · intro e
    rw [e] at q
    exact q
  · intro e
    cases ei : s[i]? with
    | none => rfl
    | some z =>
      rw [ei, e] at q
      cases z with
      | emp => obtain ⟨u, z⟩ := q; cases z
      | val x => obtain ⟨u, z, _⟩ := q; cases z
      | own x => obtain ⟨u, z, _⟩ := q; cases z
      | exc k fs => obtain ⟨a, d, vs, _, z, _⟩ := q; cases z
theorem Cc.rs_len (r : c.Rs W s h σ H) : s.length = σ.length := by
  rcases Nat.lt_trichotomy s.length σ.length with l | l | l
  · have := (Cc.slot_none r s.length).mp (by simp)
    rw [List.getElem?_eq_none_iff] at this
    omega
  · exact l
  · have := (Cc.slot_none r σ.length).mpr (by simp)
    rw [List.getElem?_eq_none_iff] at this
    omega
/-- a slot: told anew -/
theorem Cc.rs_set {i : Nat} {z : Sl} {u : Option V} (r : c.Rs W s h σ H) (hz : SlR c.K c.T c.xa W c.H0 H (some z) (some u)) (nd : ∀ x, z = .own x → ∀ (j : Nat) (y : AV) (p : Addr), j ≠ i → s[j]? = some (.own y) → u = some (.ref p) → σ[j]? ≠ some (some (.ref p))) (ms : i = 0 → ∀ x, z ≠ .own x) : c.Rs W (s.set i z) h (σ.set i u) H := by
  have hl := Cc.rs_len r
  refine ⟨r.toRH, fun j => ?_, r.ext, fun j k x y p hjk h1 h2 h3 => ?_, fun p hp v h1 => ?_⟩
  rotate_left 2
  · rw [List.getElem?_set] at h1 ⊢
    by_cases e : i = 0
    · rw [if_pos e] at h1
      split at h1
      · exact absurd (Option.some.inj h1) (ms e v)
      · cases h1
    · rw [if_neg e] at h1 ⊢
      exact r.self p hp v h1
  · rw [List.getElem?_set, List.getElem?_set, hl]
    by_cases e : i = j
    · subst e
      by_cases hlt : i < σ.length
      · simp only [if_true, if_pos hlt]
        exact hz
      · simp only [if_true, if_neg hlt]
        rfl
    · simp only [if_neg e]
      exact r.slot j
  · rw [List.getElem?_set] at h1 h2 h3 ⊢
    by_cases e : i = j
    · subst e
      have e2 : i ≠ k := hjk
      rw [if_neg e2] at h2 ⊢
      by_cases hlt : i < s.length
      · rw [if_pos rfl, if_pos hlt] at h1
        rw [if_pos rfl, if_pos (hl ▸ hlt)] at h3
        cases h1
        exact nd x rfl k y p (Ne.symm hjk) h2 (Option.some.inj h3)
      · rw [if_pos rfl, if_neg hlt] at h1
        cases h1
    · rw [if_neg e] at h1 h3
      by_cases e2 : i = k
      · subst e2
        by_cases hlt : i < s.length
        · rw [if_pos rfl, if_pos hlt] at h2
          rw [if_pos rfl, if_pos (hl ▸ hlt)]
          cases h2
          intro q
          exact nd y rfl j x p hjk h1 (Option.some.inj q) h3
        · rw [if_pos rfl, if_neg hlt] at h2
          cases h2
      · rw [if_neg e2] at h2 ⊢
        exact r.apart j k x y p hjk h1 h2 h3
theorem Cc.rs_val {i : Nat} {x : AV} {v : V} (r : c.Rs W s h σ H) (w : RA c.K c.T W H x v) : c.Rs W (s.set i (.val x)) h (σ.set i (some v)) H := Cc.rs_set r ⟨v, rfl, w⟩ (fun _ e => by cases e) fun _ _ e => by cases e
theorem Cc.rs_emp {i : Nat} {u : Option V} (r : c.Rs W s h σ H) : c.Rs W (s.set i .emp) h (σ.set i u) H := Cc.rs_set r ⟨u, rfl⟩ (fun _ e => by cases e) fun _ _ e => by cases e
theorem Cc.rs_wipe (r : c.Rs W s h σ H) : ∀ ws : List Nat, c.Rs W (wipeA s ws) h (wipe σ ws) H
  | [] => r
  | i :: ws => Cc.rs_emp (Cc.rs_wipe r ws)
/-- something that no slot, no value stands for: changed -/
theorem Cc.rs_upd {p : Addr} {o o' : HO} (r : c.Rs W s h σ H) (hp : H p = some o') (nt : ∀ xs, o' ≠ .tup xs) (nf : ∀ q u, o' ≠ .frz q u) (nx : ∀ fs, o' ≠ .xd fs) (nF : ¬ W.F p) (nm : p ∉ W.mu) (n0 : c.H0 p = none)
    (ns : ∀ (i : Nat) (x : AV), s[i]? = some (.own x) → σ[i]? ≠ some (some (.ref p))) : c.Rs W s h σ (L2.upd H p o) := by
  have m : Mo W H W (L2.upd H p o) := Mo.upd hp nt nf nF
  refine ⟨r.toRH.upd hp nt nf nF nm, fun i => ?_, ⟨r.ext.mu, r.ext.F, fun a z hz hn => ?_, r.ext.newF, r.ext.newMu, fun a ha => ?_⟩, r.apart, r.self⟩
  · have q := r.slot i
    cases ei : s[i]? with
    | none =>
      rw [ei] at q
      exact q
    | some z =>
      rw [ei] at q
      cases z with
      | emp => exact q
      | val x =>
        obtain ⟨u, h1, h2⟩ := q
        exact ⟨u, h1, h2.mono m⟩
      | own x =>
        obtain ⟨p', h1, h2, h3, h4, h5⟩ := q
        refine ⟨p', h1, h2, h3, h4, h5.mono m fun z hz => ?_⟩
        have hne : p' ≠ p := fun e => ns i x ei (by rw [← e]; exact h1)
        rw [upd_ne hne]
        exact hz
      | exc k fs =>
        obtain ⟨a, d, vs, h1, h2, h3, h4⟩ := q
        refine ⟨a, d, vs, h1, h2, ?_, h4.mono m⟩
        rw [upd_ne (fun e => ?_)]
        · exact h3
        · rw [e, hp] at h3
          exact nx vs (Option.some.inj h3)
  · rw [upd_ne (fun e => ?_)]
    · exact r.ext.keep a z hz hn
    · rw [e, n0] at hz
      cases hz
  · refine r.ext.there a ?_
    unfold L2.upd at ha
    split at ha
    · cases ha
    · exact ha
end
/-! ### targets -/
def Cc.gT (c : Cc) (t : Tg) : TG := fun v σ H Q => ∃ W s h x s', c.Rs W s h σ H ∧ RA c.K c.T W H x v ∧ bindT t x s = some s' ∧ ∀ σ', c.Rs W s' h σ' H → σ'.length = σ.length → (∀ i, i ∉ slotsT t → σ'[i]? = σ[i]?) → Q σ' H
def Cc.gTs (c : Cc) (ts : List Tg) : TGs := fun vs σ H Q => ∃ W s h xs s', c.Rs W s h σ H ∧ RAs c.K c.T W H xs vs ∧ bindTs ts xs s = some s' ∧ ∀ σ', c.Rs W s' h σ' H → σ'.length = σ.length → (∀ i, i ∉ slotsTs ts → σ'[i]? = σ[i]?) → Q σ' H
theorem PGs.imp {X : Cx} {tg : List Expr} {t t' : TGs} (h : PGs X tg t) (k : ∀ v σ H Q, t' v σ H Q → t v σ H Q) : PGs X tg t' := ⟨fun pins s σ H v u Q I r w => h.run pins s σ H v u Q I r (k v σ H Q w)⟩
theorem pg_not {X : Cx} {e : Expr} {c : Cc} : PG X e (c.gT .bad) := ⟨fun _ _ _ _ _ _ _ _ _ ⟨_, _, _, _, _, _, _, e, _⟩ => by cases e⟩
section
variable {c : Cc} {X : Cx}
theorem ok_gName {x : Str} {i : Nat} {m : Bool} {pos : Pos} (hN : X.N.Nodup) (hi : X.N[i]? = some x) (hx : Loc X.env.scope x) (hf : X.fn x = true ∨ X.env.scope.names.lookup x = some .local) : PG X (.Name x pos) (c.gT (.name i m)) := by
  refine PG.imp (pg_name hN hi hx hf) fun v σ H Q ⟨W, s, h, y, s', rs, w, e, k⟩ => ?_
  cases e
  exact k _ (Cc.rs_val rs w) List.length_set fun j hj => List.getElem?_set_ne (fun e => hj (by rw [← e]; exact List.mem_singleton.mpr rfl))
theorem ok_gNil : PGs X [] (c.gTs []) := by
  refine PGs.imp pgs_nil fun vs σ H Q ⟨W, s, h, xs, s', rs, w, e, k⟩ => ?_
  cases xs with
  | nil =>
    cases e
    exact ⟨ras0 w, k σ rs rfl fun _ _ => rfl⟩
  | cons _ _ => cases e
theorem ok_gCons {e : Expr} {es : List Expr} {t : Tg} {ts : List Tg} (h1 : PG X e (c.gT t)) (h2 : PGs X es (c.gTs ts)) (hs : (assignEach (e :: es) X.env).map (·.2) = assign e X.env :: (assignEach es X.env).map (·.2)) : PGs X (e :: es) (c.gTs (t :: ts)) := by
  refine PGs.imp (pgs_cons h1 h2 hs) fun vs σ H Q ⟨W, s, h, xs, s', rs, w, eb, k⟩ => ?_
  cases xs with
  | nil => cases eb
  | cons x xs =>
    unfold RAs at w
    obtain ⟨v, r, rfl, w1, w2⟩ := w
    obtain ⟨s1, e1, e2⟩ := Option.bind_eq_some_iff.mp (show (bindT t x s).bind (fun s => bindTs ts xs s) = some s' from eb)
    refine ⟨v, r, rfl, W, s, h, x, s1, rs, w1, e1, fun σ1 r1 l1 o1 => ⟨W, s1, h, xs, s', r1, w2, e2, fun σ2 r2 l2 o2 => k σ2 r2 (l2.trans l1) fun i hi => ?_⟩⟩
    have hi : i ∉ slotsT t ++ slotsTs ts := hi
    rw [o2 i fun z => hi (List.mem_append_right _ z), o1 i fun z => hi (List.mem_append_left _ z)]
theorem bindTs_len : ∀ {ts : List Tg} {xs : List AV} {s s' : Fr}, bindTs ts xs s = some s' → xs.length = ts.length
  | [], [], _, _, _ => rfl
  | [], _ :: _, _, _, e => by cases e
  | _ :: _, [], _, _, e => by cases e
  | t :: ts, x :: xs, s, s', e => by
    obtain ⟨s1, e1, e2⟩ := Option.bind_eq_some_iff.mp (show (bindT t x s).bind (fun s => bindTs ts xs s) = some s' from e)
    rw [List.length_cons, List.length_cons, bindTs_len e2]
theorem ok_gTup {es : List Expr} {ts : List Tg} {kk} {pos : Pos} (hK : X.K = c.K) (hc : X.calm = true) (h : PGs X es (c.gTs ts)) (hn : (assignEach es X.env).length = ts.length) (hst : (assignEach es X.env).findIdx? (·.1) = none) : PG X (.Tuple es kk pos) (c.gT (.tup ts)) := by
  refine PG.imp (pg_tup (n := ts.length) hc h hn hst) fun v σ H Q ⟨W, s, h, x, s', rs, w, e, k⟩ => ?_
  cases x with
  | tup xs =>
    obtain ⟨a, vs, rfl, h1, h2⟩ := ra_tup w
    have e : bindTs ts xs s = some s' := e
    rw [hK]
    exact ⟨a, vs, rfl, SqT.of h1, by rw [← h2.len]; exact bindTs_len e, W, s, h, xs, s', rs, h2, e, fun σ' r' l' o' => k σ' r' l' o'⟩
  | _ => cases e
end
/-! ### the comprehension -/
theorem wipe_in {σ : L2.St} {i : Nat} : ∀ {vs : List Nat}, i ∈ vs → (wipe σ vs)[i]? = if i < σ.length then some none else none
  | v :: vs, hi => by
    unfold wipe
    rw [List.getElem?_set, wipe_length]
    by_cases e : v = i
    · subst e
      rw [if_pos rfl]
    · rw [if_neg e]
      rcases List.mem_cons.mp hi with z | z
      · exact absurd z.symm e
      · exact wipe_in z
theorem wipe_eq {σ σ' : L2.St} {vs : List Nat} (hl : σ'.length = σ.length) (h : ∀ i, i ∉ vs → σ'[i]? = (wipe σ vs)[i]?) : wipe σ' vs = wipe σ vs := by
  apply List.ext_getElem?
  intro i
  by_cases hi : i ∈ vs
  · rw [wipe_in hi, wipe_in hi, hl]
  · rw [wipe_out hi, h i hi]
def Cc.no (c : Cc) : Cc := { c with wx := fun _ _ _ _ => False }
def lcF (P : Prg) (cal : Nat → List AV → AH → R AV) (ini : Nat → Nat → List AV → AH → R AV) (ws : List Nat) (e : Ex) (g : Tg) (k : Ex) (σ : Fr) : AV → AH → R (Option AV) := fun x h => match bindT g x (wipeA σ ws) with
  | some σ' => (evE P cal ini k σ' h).bnd fun b h => (opt (asBl b) h).bnd fun b h => if b = true then (evE P cal ini e σ' h).bnd fun v h => .ok (some v) h else .ok none h
  | none => .stk
theorem bnd_ok {α β : Type} {r : R α} {f : α → AH → R β} {b : β} {h : AH} (e : r.bnd f = .ok b h) : ∃ a h1, r = .ok a h1 ∧ f a h1 = .ok b h := by
  cases r with
  | ok a h1 => exact ⟨a, h1, rfl, e⟩
  | err _ _ => cases e
  | stk => cases e
theorem Cc.po_ok {c : Cc} {s : Fr} {σ : L2.St} {W : Wd} {H : Hp} {α γ : Type} {Rel : Wd → Hp → α → γ → Prop} {r : R α} {a : α} {h : AH} {Q : γ → Hp → Prop} (e : r = .ok a h) (k : ∀ W' H' v, Ext W H W' H' → c.Rs W' s h σ H' → Rel W' H' a v → Q v H') : c.po s σ W H Rel r Q := by
  subst e
  exact k
section
variable {c : Cc} {X : Cx}
theorem ok_lcF {elt tg iter : Expr} {ifs : List Expr} {scope : Scope} {own : List (Str × Nat)} {pos : Pos} {xe xi xc : Ex} {xg : Tg} (hc : X.calm = true) (hN : X.N.Nodup) (hi : PI X tg iter (c.tI xi)) (ok : BlkOk X.N X.env.scope scope own) (hsl : ∀ i ∈ slotsT xg, i ∈ own.map (·.2))
    (hg : ∀ (s : Shared) (H : Hp) (C : Addr) (cl : List (Str × Addr)) (fp : List Addr), PG (X.blk s H scope (compEnvC scope cl C X.env) fp) tg (c.no.gT xg)) (ht : ∀ (s : Shared) (H : Hp) (C : Addr) (cl : List (Str × Addr)) (fp : List Addr), PTs (X.blk s H scope (compEnvC scope cl C X.env) fp) ifs (c.no.tT xc))
    (he : ∀ (s : Shared) (H : Hp) (C : Addr) (cl : List (Str × Addr)) (fp : List Addr), PE (X.blk s H scope (compEnvC scope cl C X.env) fp) elt (c.no.tE xe)) (hs : ∀ x, foldedSetIterable iter X.env x = pure x) :
    PE X (.ListComp elt [⟨tg, iter, ifs, 0⟩] scope pos) (c.tF (.lc (own.map (·.2)) xe xg xi xc)) := by
  refine PE.imp (pe_lc hc hN hi ok hg ht he hs) fun σ H Q ⟨W, s, h, rs, p⟩ => ?_
  generalize hws : own.map (·.2) = ws at p hsl ⊢
  have p : c.po s σ W H (c.rF H) (R.bnd (R.calm ((evI c.P c.cal c.ini xi s h).bnd fun xs h => lcLoop (lcF c.P c.cal c.ini ws xe xg xc s) xs h)) fun vs h => if szOk vs.length = true then .ok (.lst vs) h else .stk) Q := p
  refine ⟨W, s, h, rs, ?_⟩
  cases hI : evI c.P c.cal c.ini xi s h with
  | err _ _ => rw [hI] at p; exact p.elim
  | stk => rw [hI] at p; exact p.elim
  | ok xs h1 =>
    rw [hI] at p
    have p : c.po s σ W H (c.rF H) (R.bnd (R.calm (lcLoop (lcF c.P c.cal c.ini ws xe xg xc s) xs h1)) fun vs h => if szOk vs.length = true then .ok (.lst vs) h else .stk) Q := p
    intro W1 H1 J e1 r1 wJ D hD
    cases hL : lcLoop (lcF c.P c.cal c.ini ws xe xg xc s) xs h1 with
    | err _ _ => rw [hL] at p; exact p.elim
    | stk => rw [hL] at p; exact p.elim
    | ok vs h2 =>
      rw [hL] at p
      have p : c.po s σ W H (c.rF H) (if szOk vs.length = true then .ok (.lst vs) h2 else .stk) Q := p
      by_cases hz : szOk vs.length = true
      case neg =>
        rw [if_neg hz] at p
        exact p.elim
      rw [if_pos hz] at p
      have nown : ∀ (i : Nat) (x : AV), s[i]? = some (.own x) → σ[i]? ≠ some (some (.ref D)) := fun i x ei eσ => by
        obtain ⟨o, ho⟩ := Cc.own_some r1 ei eσ
        rw [hD] at ho
        cases ho
      have d0 : c.H0 D = none := r1.ext.there D hD
      have walk : Walk J xs.length (fun H' => ∃ W' h', Ext W1 H1 W' H' ∧ RH c.K c.T W' h' H') (fun i H v H' => J.yld i H v H') :=
        ⟨fun i H' hi ⟨W', h', e', r'⟩ => (wJ W' H' h' (e'.mo r1.toRH) r').1 i hi, fun H' ⟨W', h', e', r'⟩ => (wJ W' H' h' (e'.mo r1.toRH) r').2.1, fun _ _ _ _ _ _ y => y⟩
      refine lc_it walk (Qd := fun H => Q (.ref D) H) (fun i H' => ∃ W' h' dn acc rest, Ext W1 H1 W' H' ∧ c.Rs W' s h' σ H' ∧ H' D = some (.lst acc) ∧ D ∉ W'.mu ∧ ¬ W'.F D ∧ RAs c.K c.T W' H' dn acc ∧ lcLoop (lcF c.P c.cal c.ini ws xe xg xc s) (xs.drop i) h' = .ok rest h2 ∧ vs = dn ++ rest) ?_ ?_ ?_ ?_
      · refine ⟨W1, h1, [], [], vs, Ext.laid hD, Cc.rs_laid r1 hD, upd_same, fun z => ?_, fun z => r1.there D z hD, RAs.nil, hL, rfl⟩
        obtain ⟨o, ho, _⟩ := r1.toRH.mem z
        rw [hD] at ho
        cases ho
      · rintro i H' _ ⟨W', h', _, _, _, e', r', _⟩
        exact ⟨W', h', e', r'.toRH⟩
      · rintro i v H' H'' hi ⟨W', h', dn, acc, rest, e', r', hacc, nm, nF, wd, hl, ev⟩ y
        obtain ⟨y1, y2⟩ := (wJ W' H' h' (e'.mo r1.toRH) r'.toRH).2.2 i xs[i] v H'' (List.getElem?_eq_getElem hi) y
        -- the state behind the item
        obtain ⟨e2, r2, hacc2, wd2⟩ : Ext W' H' W' H'' ∧ c.Rs W' s h' σ H'' ∧ H'' D = some (.lst acc) ∧ RAs c.K c.T W' H'' dn acc := by
          rcases y1 with rfl | ⟨T, ys, hT, rfl⟩
          · exact ⟨Ext.refl _ _, r', hacc, wd⟩
          · exact ⟨Ext.laid hT, Cc.rs_laid r' hT, by rw [upd_ne (ne_of_none hacc hT)]; exact hacc, wd.mono (Cc.mo r' (Ext.laid hT))⟩
        rw [List.drop_eq_getElem_cons hi] at hl
        obtain ⟨o, h3, hF, hl⟩ := bnd_ok (show (lcF c.P c.cal c.ini ws xe xg xc s xs[i] h').bnd (fun o h => (lcLoop (lcF c.P c.cal c.ini ws xe xg xc s) (xs.drop (i + 1)) h).bnd fun r h => .ok (match o with
          | some v => v :: r
          | none => r) h) = .ok rest h2 from hl)
        obtain ⟨rest', h4, hl2, er⟩ := bnd_ok hl
        injection er with er eh
        subst eh
        unfold lcF at hF
        cases hb : bindT xg xs[i] (wipeA s ws) with
        | none => rw [hb] at hF; cases hF
        | some s' =>
          rw [hb] at hF
          obtain ⟨b0, h5, hk, hF⟩ := bnd_ok hF
          obtain ⟨b, h6, hk2, hF⟩ := bnd_ok hF
          refine ⟨W', wipeA s ws, h', xs[i], s', Cc.rs_wipe r2 ws, y2, hb, fun σ2 r3 l3 o3 => ⟨?_, ?_⟩⟩
          · exact wipe_eq (by rw [l3, wipe_length]) fun j hj => o3 j fun z => hj (hsl j z)
          · -- the test
            have ob : (evE c.P c.cal c.ini xc s' h').bnd (fun v h => opt (asBl v) h) = .ok b h6 := by
              rw [hk]
              exact hk2
            have keepD : ∀ {W4 : Wd} {H4 : Hp}, Ext W' H'' W4 H4 → H4 D = some (.lst acc) ∧ D ∉ W4.mu ∧ ¬ W4.F D := fun {W4 H4} e4 => by
              refine ⟨e4.keep D _ hacc2 nm, fun z => ?_, fun z => ?_⟩
              · rcases e4.newMu D z with z | z
                · exact nm z
                · rw [hacc2] at z; cases z
              · rcases e4.newF D z with z | z
                · exact nF z
                · rw [hacc2] at z; cases z
            refine ⟨W', s', h', r3, ?_⟩
            refine Cc.po_ok ob ?_
            intro W3 H3 b' e3 r4 wb
            cases wb
            obtain ⟨hD3, nm3, nF3⟩ := keepD e3
            by_cases hbt : b = true
            · rw [if_pos hbt] at hF ⊢
              obtain ⟨v5, h7, hv, hF⟩ := bnd_ok hF
              cases hF
              refine ⟨W3, s', h6, r4, ?_⟩
              refine Cc.po_ok hv ?_
              intro W4 H4 y5 e5 r5 w5
              obtain ⟨hD4, nm4, nF4⟩ := keepD (e3.trans e5)
              have e6 := e3.trans e5
              have r6 : c.Rs W4 s h3 σ H4 := Cc.rs_behind r2 e6 r5.toRH
              have wd4 := wd2.mono (Cc.mo r2 e6)
              have hlen : acc.length < sizeLine := by
                have h8 : dn.length = acc.length := wd.len
                have h9 := sz_line hz
                rw [ev, List.length_append, ← er, List.length_cons] at h9
                omega
              have mu : Mo W4 H4 W4 (L2.upd H4 D (.lst (acc ++ [y5]))) := Mo.upd hD4 (fun _ z => by cases z) (fun _ _ z => by cases z) nF4
              refine ⟨acc, hD4, hlen, W4, h3, dn ++ [v5], acc ++ [y5], rest', ?_, Cc.rs_upd r6 hD4 (fun _ z => by cases z) (fun _ _ z => by cases z) (fun _ z => by cases z) nF4 nm4 d0 nown, upd_same, nm4, nF4, RAs.app (wd4.mono mu) (RAs.cons (w5.mono mu) RAs.nil), hl2, by rw [ev, ← er]; simp⟩
              have e7 := (e'.trans e2).trans e6
              refine ⟨e7.mu, e7.F, fun a z hz hn => ?_, e7.newF, e7.newMu, fun a ha => ?_⟩
              · have hne : a ≠ D := fun q => by rw [q, hD] at hz; cases hz
                rw [upd_ne hne]
                exact e7.keep a z hz hn
              · refine e7.there a ?_
                unfold L2.upd at ha
                split at ha
                · cases ha
                · exact ha
            · rw [if_neg hbt] at hF ⊢
              cases hF
              exact ⟨W3, h3, dn, acc, rest', (e'.trans e2).trans e3, Cc.rs_behind r2 e3 r4.toRH, hD3, nm3, nF3, wd2.mono (Cc.mo r2 e3), hl2, by rw [ev, ← er]⟩
      · rintro H' ⟨W', h', dn, acc, rest, e', r', hacc, nm, nF, wd, hl, ev⟩
        rw [List.drop_length] at hl
        cases hl
        rw [List.append_nil] at ev
        subst ev
        exact p W' H' (.ref D) (e1.trans e') r' (.inr ⟨D, rfl, nm, nF, e1.there D hD, acc, hacc, wd⟩)
end
end AM
/-! Dicts: stores, displays. -/
namespace AM
open PySem PySem.Spec PyProof.Rows L2
section
variable {K : PySem.W.Frag} {T : Nm} {W : Wd} {H : Hp}
theorem RKs.any {q : AV} {k : Key} (hk : keyK q k) : ∀ {kvs : List (AV × AV)} {kv : List (Key × V)}, RKs K T W H kvs kv → (kvs.any fun p => AV.same p.1 q) = (kv.any fun p => decide (p.1 = k))
  | [], kv, h => by unfold RKs at h; subst h; rfl
  | (a, x) :: r, kv, h => by
    unfold RKs at h
    obtain ⟨l, v, r', rfl, h0, h1, h2⟩ := h
    rw [List.any_cons, List.any_cons, RKs.any hk h2, same_k h0 hk]
theorem RKs.map {q x : AV} {k : Key} {v : V} (hk : keyK q k) (w : RA K T W H x v) : ∀ {kvs : List (AV × AV)} {kv : List (Key × V)}, RKs K T W H kvs kv → RKs K T W H (kvs.map fun p => if AV.same p.1 q = true then (p.1, x) else p) (kv.map fun p => if p.1 = k then (p.1, v) else p)
  | [], kv, h => by unfold RKs at h; subst h; unfold RKs; rfl
  | (a, y) :: r, kv, h => by
    unfold RKs at h
    obtain ⟨l, u, r', rfl, h0, h1, h2⟩ := h
    rw [List.map_cons, List.map_cons]
    have e := same_k h0 hk
    by_cases hl : l = k
    · rw [if_pos (by rw [e]; exact decide_eq_true hl), if_pos hl]
      unfold RKs
      exact ⟨l, v, _, rfl, h0, w, RKs.map hk w h2⟩
    · rw [if_neg (by rw [e, decide_eq_false hl]; exact Bool.false_ne_true), if_neg hl]
      unfold RKs
      exact ⟨l, u, _, rfl, h0, h1, RKs.map hk w h2⟩
theorem RKs.app {ys : List (AV × AV)} {us : List (Key × V)} (g : RKs K T W H ys us) : ∀ {kvs : List (AV × AV)} {kv : List (Key × V)}, RKs K T W H kvs kv → RKs K T W H (kvs ++ ys) (kv ++ us)
  | [], kv, h => by unfold RKs at h; subst h; exact g
  | (a, y) :: r, kv, h => by
    unfold RKs at h
    obtain ⟨l, u, r', rfl, h0, h1, h2⟩ := h
    rw [List.cons_append, List.cons_append]
    unfold RKs
    exact ⟨l, u, _, rfl, h0, h1, RKs.app g h2⟩
theorem RKs.put {q x : AV} {k : Key} {v : V} {kvs : List (AV × AV)} {kv : List (Key × V)} (h : RKs K T W H kvs kv) (hk : keyK q k) (w : RA K T W H x v) : RKs K T W H (dPut kvs q x) (putK kv k v) := by
  unfold dPut putK
  rw [h.any hk]
  split
  · exact h.map hk w
  · refine RKs.app ?_ h
    unfold RKs
    exact ⟨k, v, [], rfl, hk, w, by unfold RKs; rfl⟩
theorem RTs.any {q : AV} {k : List Key} (hk : keyT q k) : ∀ {kvs : List (AV × AV)} {kv : List (List Key × V)}, RTs K T W H kvs kv → (kvs.any fun p => AV.same p.1 q) = (kv.any fun p => decide (p.1 = k))
  | [], kv, h => by unfold RTs at h; subst h; rfl
  | (a, x) :: r, kv, h => by
    unfold RTs at h
    obtain ⟨l, v, r', rfl, h0, h1, h2⟩ := h
    rw [List.any_cons, List.any_cons, RTs.any hk h2, same_t h0 hk]
theorem RTs.map {q x : AV} {k : List Key} {v : V} (hk : keyT q k) (w : RA K T W H x v) : ∀ {kvs : List (AV × AV)} {kv : List (List Key × V)}, RTs K T W H kvs kv → RTs K T W H (kvs.map fun p => if AV.same p.1 q = true then (p.1, x) else p) (kv.map fun p => if p.1 = k then (p.1, v) else p)
  | [], kv, h => by unfold RTs at h; subst h; unfold RTs; rfl
  | (a, y) :: r, kv, h => by
    unfold RTs at h
    obtain ⟨l, u, r', rfl, h0, h1, h2⟩ := h
    rw [List.map_cons, List.map_cons]
    have e := same_t h0 hk
    by_cases hl : l = k
    · rw [if_pos (by rw [e]; exact decide_eq_true hl), if_pos hl]
      unfold RTs
      exact ⟨l, v, _, rfl, h0, w, RTs.map hk w h2⟩
    · rw [if_neg (by rw [e, decide_eq_false hl]; exact Bool.false_ne_true), if_neg hl]
      unfold RTs
      exact ⟨l, u, _, rfl, h0, h1, RTs.map hk w h2⟩
theorem RTs.app {ys : List (AV × AV)} {us : List (List Key × V)} (g : RTs K T W H ys us) : ∀ {kvs : List (AV × AV)} {kv : List (List Key × V)}, RTs K T W H kvs kv → RTs K T W H (kvs ++ ys) (kv ++ us)
  | [], kv, h => by unfold RTs at h; subst h; exact g
  | (a, y) :: r, kv, h => by
    unfold RTs at h
    obtain ⟨l, u, r', rfl, h0, h1, h2⟩ := h
    rw [List.cons_append, List.cons_append]
    unfold RTs
    exact ⟨l, u, _, rfl, h0, h1, RTs.app g h2⟩
theorem RTs.put {q x : AV} {k : List Key} {v : V} {kvs : List (AV × AV)} {kv : List (List Key × V)} (h : RTs K T W H kvs kv) (hk : keyT q k) (w : RA K T W H x v) : RTs K T W H (dPut kvs q x) (putK kv k v) := by
  unfold dPut putK
  rw [h.any hk]
  split
  · exact h.map hk w
  · refine RTs.app ?_ h
    unfold RTs
    exact ⟨k, v, [], rfl, hk, w, by unfold RTs; rfl⟩
end
/-! ### displays -/
def rP (K : PySem.W.Frag) (T : Nm) : Wd → Hp → List (AV × AV) → List (V × V) → Prop := fun W H xs vs => RAs K T W H (xs.map (·.1)) (vs.map (·.1)) ∧ RAs K T W H (xs.map (·.2)) (vs.map (·.2))
section
variable {c : Cc} {X : Cx} {pos : Pos}
def Cc.trs (c : Cc) : List Ex → List (TE × TE)
  | k :: v :: r => (c.tE k, c.tE v) :: c.trs r
  | _ => []
theorem Cc.pairs : ∀ {xs : List Ex} {s : Fr} {σ : L2.St} {W : Wd} {H : Hp} {h : AH} {Q : List (V × V) → Hp → Prop}, c.Rs W s h σ H → c.po s σ W H (rP c.K c.T) (evD c.P c.cal c.ini xs s h) Q → tPairs (c.trs xs) σ H Q
  | [], s, σ, W, H, h, Q, rs, p => Cc.po_now (Rel := rP c.K c.T) (v := []) p rs ⟨RAs.nil, RAs.nil⟩
  | [_], s, σ, W, H, h, Q, rs, p => p.elim
  | k :: v :: r, s, σ, W, H, h, Q, rs, p => by
    have p : c.po s σ W H (rP c.K c.T) ((c.ev k s h).bnd fun a h => (c.ev v s h).bnd fun b h => (evD c.P c.cal c.ini r s h).bnd fun r h => .ok ((a, b) :: r) h) Q := by
      unfold evD at p
      exact p
    show c.tE k σ H fun x H1 => c.tE v σ H1 fun y H2 => tPairs (c.trs r) σ H2 fun ps H3 => Q ((x, y) :: ps) H3
    refine ⟨W, s, h, rs, Cc.po_bndW p fun W1 H1 x a h1 e1 r1 w1 _ p1 => ⟨W1, s, h1, r1, Cc.po_bndW p1 fun W2 H2 y b h2 e2 r2 w2 _ p2 => ?_⟩⟩
    refine Cc.pairs r2 (Cc.po_bndW p2 fun W3 H3 ps xs h3 e3 r3 w3 _ p3 => ?_)
    exact Cc.po_now (Rel := rP c.K c.T) (v := (x, y) :: ps) p3 r3 ⟨RAs.cons (w1.mono (Cc.mo r1 (e2.trans e3))) w3.1, RAs.cons (w2.mono (Cc.mo r2 e3)) w3.2⟩
theorem keys_of {K : PySem.W.Frag} {T : Nm} {W : Wd} {H : Hp} : ∀ {xs : List (AV × AV)} {ps : List (V × V)}, rP K T W H xs ps → xs.all (fun p => isK p.1) = true → ∃ kvs : List (Key × V), ps = kvs.map (fun kv => (kV kv.1, kv.2)) ∧ kvs.length = xs.length ∧
    ∀ (acc : List (AV × AV)) (ac : List (Key × V)), RKs K T W H acc ac → RKs K T W H (xs.foldl (fun d p => dPut d p.1 p.2) acc) (mergeK ac kvs)
  | [], ps, h, _ => by
    have e := ras0 h.1
    have : ps = [] := List.map_eq_nil_iff.mp e
    subst this
    exact ⟨[], rfl, rfl, fun acc ac r => r⟩
  | (a, x) :: xs, ps, ⟨h1, h2⟩, hk => by
    rw [List.map_cons] at h1 h2
    unfold RAs at h1 h2
    obtain ⟨v1, r1, e1, w1, h1⟩ := h1
    obtain ⟨v2, r2, e2, w2, h2⟩ := h2
    cases ps with
    | nil => cases e1
    | cons p ps =>
      obtain ⟨p1, p2⟩ := p
      rw [List.map_cons] at e1 e2
      cases e1
      cases e2
      rw [List.all_cons] at hk
      obtain ⟨hk1, hk2⟩ := ba2 hk
      obtain ⟨k, hkk⟩ := keyK_of hk1
      obtain ⟨kvs, e3, e4, e5⟩ := keys_of ⟨h1, h2⟩ hk2
      have e6 : p1 = kV k := keyK_v hkk w1
      refine ⟨(k, p2) :: kvs, by rw [List.map_cons, ← e3, e6], by rw [List.length_cons, List.length_cons, e4], fun acc ac r => ?_⟩
      show RKs K T W H (xs.foldl _ (dPut acc a x)) (mergeK (putK ac k p2) kvs)
      exact e5 _ _ (r.put hkk w2)
theorem ok_dspF {keys : List (Option Expr)} {values : List Expr} {xs : List Ex} (h : PPs X pos keys values (c.trs xs)) (hall : keys.all (·.isSome) = true) (hl : keys.length = values.length) (h0 : keys ≠ []) (h15 : keys.length ≤ 15) : PE X (.Dict keys values pos) (c.tF (.dsp xs)) := by
  refine PE.imp (pe_disp h hall hl h0 h15) fun σ H Q ⟨W, s, h, rs, p⟩ D hD => ?_
  have p : c.po s σ W H (c.rF H) ((evD c.P c.cal c.ini xs s h).bnd fun kvs h => if kvs.all (fun p => isK p.1) = true ∧ decide (kvs.length ≤ 15) = true then .ok (.dct false (kvs.foldl (fun d p => dPut d p.1 p.2) [])) h else .stk) Q := by
    have p : c.po s σ W H (c.rF H) (evE c.P c.cal c.ini (.dsp xs) s h) Q := p
    unfold evE at p
    exact p
  have nown : ∀ (i : Nat) (x : AV), s[i]? = some (.own x) → σ[i]? ≠ some (some (.ref D)) := fun i x ei eσ => by
    obtain ⟨o, ho⟩ := Cc.own_some rs ei eσ
    rw [hD] at ho
    cases ho
  have eD : Ext W H W (upd H D (.dK [])) := Ext.laid hD
  have rD := Cc.rs_laid (o := .dK []) rs hD
  have nm0 : D ∉ W.mu := fun z => by
    obtain ⟨o, ho, _⟩ := rs.toRH.mem z
    rw [hD] at ho
    cases ho
  have nF0 : ¬ W.F D := fun z => rs.there D z hD
  refine Cc.pairs rD ?_
  cases hE : evD c.P c.cal c.ini xs s h with
  | err x h1 =>
    rw [hE] at p
    exact Cc.er_shift eD p
  | stk =>
    rw [hE] at p
    exact p
  | ok kvs h1 =>
    rw [hE] at p
    have p : c.po s σ W H (c.rF H) (if kvs.all (fun p => isK p.1) = true ∧ decide (kvs.length ≤ 15) = true then .ok (.dct false (kvs.foldl (fun d p => dPut d p.1 p.2) [])) h1 else .stk) Q := p
    intro W1 H1 ps e1 r1 w1
    have hD1 : H1 D = some (.dK []) := e1.keep D _ upd_same nm0
    have nm1 : D ∉ W1.mu := fun z => by
      rcases e1.newMu D z with z | z
      · exact nm0 z
      · rw [upd_same] at z; cases z
    have nF1 : ¬ W1.F D := fun z => by
      rcases e1.newF D z with z | z
      · exact nF0 z
      · rw [upd_same] at z; cases z
    split at p
    · rename_i hk
      obtain ⟨kv, ek, el, emerge⟩ := keys_of w1 hk.1
      refine ⟨hD1, kv, ek, by rw [el]; exact of_decide_eq_true hk.2, ?_⟩
      have r2 := Cc.rs_upd (o := .dK (mergeK [] kv)) r1 hD1 (fun _ z => by cases z) (fun _ _ z => by cases z) (fun _ z => by cases z) nF1 nm1 (rs.ext.there D hD) nown
      have mu : Mo W1 H1 W1 (upd H1 D (.dK (mergeK [] kv))) := Mo.upd hD1 (fun _ z => by cases z) (fun _ _ z => by cases z) nF1
      have e2 : Ext W H W1 (upd H1 D (.dK (mergeK [] kv))) := by
        have e3 := eD.trans e1
        refine ⟨e3.mu, e3.F, fun a z hz hn => ?_, e3.newF, e3.newMu, fun a ha => ?_⟩
        · have hne : a ≠ D := fun q => by rw [q, hD] at hz; cases hz
          rw [upd_ne hne]
          exact e3.keep a z hz hn
        · refine e3.there a ?_
          unfold L2.upd at ha
          split at ha
          · cases ha
          · exact ha
      exact p W1 _ (.ref D) e2 r2 (.inr ⟨D, rfl, nm1, nF1, hD, _, upd_same, (emerge [] [] (by unfold RKs; rfl)).mono mu⟩)
    · exact p.elim
end
end AM
/-! Expressions: what the text's form says is what the machine does. -/
namespace AM
open PySem PySem.Spec PyProof.Rows L2

def biNames : List Str := ["isinstance", "range", "enumerate", "len", "int", "str", "max", "min", "all", "sum", "tuple", "list", "dict", "repr", "bool", "sorted"]
/-- what stands around: the globals, the classes -/
structure Glo (t : Tab) (k : Nat) (c : Cc) (X : Cx) : Prop where
  bi : ∀ x ∈ biNames, X.mg x = none
  gf : ∀ x j, t.gf.lookup x = some j → ∃ f fd ps, X.mg x = some (.ref f) ∧ PySem.W.keepIn X.K (.ref f) = true ∧ L2.Binds X.K fd ps [] ∧ FnX X (2 * k + 1) f fd ps (spF c.K c.T (c.cal j))
  gc : ∀ x j, t.gc.lookup x = some j → ∃ init ms prs f fd ps, c.P.cls[j]? = some ⟨false, init, ms, prs⟩ ∧ Mk X.K (c.T.cadr j) f ∧ X.mg x = some (.ref (c.T.cadr j)) ∧ L2.Binds X.K fd ps [] ∧ FnX X (2 * k + 1) f fd ps (spI c.K c.T j (c.ini j init))
  gk : ∀ x j, t.gk.lookup x = some j → ∃ v u a, X.mg x = some u ∧ RelV v u ∧ c.P.cons[j]? = some a ∧ ∀ W h H, RH c.K c.T W h H → RA c.K c.T W H a v
  isi : IsiR c.K c.T c.P.cls.length
  inj : ∀ f g, c.T.fnm f = c.T.fnm g → f = g
  fld : ∀ f nm, idOf t.fld nm = some f → c.T.fnm f = nm ∧ ∀ j, j < c.P.cls.length → Cls c.K (c.T.cadr j) ∧ NoAttr c.K (c.T.cadr j) nm
structure Okc (t : Tab) (N : List Str) (k : Nat) (c : Cc) (X : Cx) (sc : Scope) (cm : Bool) : Prop where
  hK : X.K = c.K
  hN : X.N = N
  nd : N.Nodup
  hsc : X.env.scope = sc
  calm : cm = true → X.calm = true
  room : cm = true → Room (2 * k + 2) X.A
  hu : X.A.units + 66 < cLine
  gd : X.A.guards = some []
  tk : Takes X c.wx
  xa : cm = true → c.xa = none
  glo : Glo t k c X
  att : ∀ (a : Expr) (f : Nat) (nm : Str) (pos : Pos), isCall a = false → idOf t.fld nm = some f → PE X a (c.tB (peekOf a (compE t N cm sc a))) → PE X (.Attribute a nm pos) (c.tE (.attr (peekOf a (compE t N cm sc a)) f))
/-- names that may be set -/
def Okt (N : List Str) (X : Cx) (ts : Scope) : Prop := ∀ x, ts.names.lookup x = some .local ∨ ts.names.lookup x = some .cell → Loc X.env.scope x ∧ (X.fn x = true ∨ X.env.scope.names.lookup x = some .local)
theorem isGl_gl {X : Cx} {sc : Scope} {x : Str} (h : X.env.scope = sc) (e : isGl sc x = true) : Gl X x ∧ (x == ("__debug__" : Str)) = false ∧ x ≠ "__name__" := by
  unfold isGl at e
  obtain ⟨e1, e2⟩ := ba2 e
  obtain ⟨e2, e3⟩ := ba2 e2
  refine ⟨?_, beq_eq_false_iff_ne.mpr (of_decide_eq_true e2), of_decide_eq_true e3⟩
  show X.env.scope.names.lookup x = _
  rw [h]
  exact of_decide_eq_true e1
theorem ixOf_get {N : List Str} {x : Str} {i : Nat} (h : ixOf N x = some i) : N[i]? = some x := by
  unfold ixOf at h
  obtain ⟨h1, h2, _⟩ := List.findIdx?_eq_some_iff_getElem.mp h
  rw [List.getElem?_eq_getElem h1]
  exact congrArg some (of_decide_eq_true h2)
section
variable {t : Tab} {N : List Str} {k : Nat} {c : Cc} {X : Cx} {sc : Scope} {cm : Bool}
theorem nm_dbg {X : Cx} {x : Str} {sc : Scope} (h : X.env.scope = sc) (hx : sc.names.lookup x = some .local ∨ sc.names.lookup x = some .cell ∨ sc.names.lookup x = some .free) : Vis X.env.scope x := by rw [h]; exact hx
theorem ok_name (o : Okc t N k c X sc cm) {x : Str} {pos : Pos} : PE X (.Name x pos) (c.tE (compE t N cm sc (.Name x pos))) := by
  show PE X _ (c.tE (match isGl sc x with
    | true => (match t.gk.lookup x with
      | some j => .glo j
      | none => .bad)
    | false => (match okNm x && visOf sc x, ixOf N x with
      | true, some i => .var i
      | _, _ => .bad)))
  cases hg : isGl sc x with
  | true =>
    obtain ⟨g1, g2, _⟩ := isGl_gl o.hsc hg
    cases hk : t.gk.lookup x with
    | none => exact ok_bad
    | some j =>
      obtain ⟨v, u, a, e1, e2, e3, e4⟩ := o.glo.gk x j hk
      refine PE.imp (pe_glob g1 e1 e2 g2) fun σ H Q ⟨W, s, h, rs, p⟩ => ?_
      have p : c.po s σ W H c.ra (opt c.P.cons[j]? h) Q := p
      rw [e3] at p
      exact Cc.po_now p rs (e4 W h H rs.toRH)
  | false =>
    cases hv : okNm x && visOf sc x with
    | false => exact ok_bad
    | true =>
      cases hi : ixOf N x with
      | none => exact ok_bad
      | some i =>
        obtain ⟨h1, h2⟩ := ba2 hv
        unfold okNm at h1
        obtain ⟨h3, h4⟩ := ba2 h1
        refine ok_var (pe_var (by rw [o.hN]; exact ixOf_get hi) ?_ (by simpa using h3) (by simpa using h4))
        unfold visOf at h2
        simp only [Bool.or_eq_true, decide_eq_true_eq] at h2
        exact nm_dbg o.hsc h2
theorem tB_of {e : Expr} {x : Ex} (h : PE X e (c.tE x)) : PE X e (c.tB x) := PE.imp h fun σ H Q w => tE_of_tB w
theorem ok_nameB (o : Okc t N k c X sc cm) {x : Str} {pos : Pos} : PE X (.Name x pos) (c.tB (toPeek (compE t N cm sc (.Name x pos)))) := by
  have ok := ok_name o (x := x) (pos := pos)
  show PE X _ (c.tB (toPeek (match isGl sc x with
    | true => (match t.gk.lookup x with
      | some j => .glo j
      | none => .bad)
    | false => (match okNm x && visOf sc x, ixOf N x with
      | true, some i => .var i
      | _, _ => .bad))))
  have ok : PE X (.Name x pos) (c.tE (match isGl sc x with
    | true => (match t.gk.lookup x with
      | some j => .glo j
      | none => .bad)
    | false => (match okNm x && visOf sc x, ixOf N x with
      | true, some i => .var i
      | _, _ => .bad))) := ok
  cases hg : isGl sc x with
  | true =>
    rw [hg] at ok
    cases hk : t.gk.lookup x with
    | none => exact ok_badB
    | some j =>
      simp only [hk] at ok
      exact tB_of ok
  | false =>
    cases hv : okNm x && visOf sc x with
    | false => exact ok_badB
    | true =>
      cases hi : ixOf N x with
      | none => exact ok_badB
      | some i =>
        obtain ⟨h1, h2⟩ := ba2 hv
        unfold okNm at h1
        obtain ⟨h3, h4⟩ := ba2 h1
        refine ok_peek (pe_var (by rw [o.hN]; exact ixOf_get hi) ?_ (by simpa using h3) (by simpa using h4))
        unfold visOf at h2
        simp only [Bool.or_eq_true, decide_eq_true_eq] at h2
        exact nm_dbg o.hsc h2
theorem ok_noPeek {e : Expr} {x : Ex} (h : PE X e (c.tB x)) : PE X e (c.tB (noPeek x)) := by
  cases x <;> first
    | exact h
    | exact ok_badB
theorem ok_toPeek (o : Okc t N k c X sc cm) {e : Expr} (h : PE X e (c.tE (compE t N cm sc e))) : PE X e (c.tB (peekOf e (compE t N cm sc e))) := by
  cases e with
  | Name x pos => exact ok_nameB o
  | _ => exact ok_noPeek (tB_of h)
theorem bop_op : ∀ {o : Operator} {b : BOp}, bopOf o = some b → o = opB b := by
  intro o b e
  cases o <;> first
    | (cases e; rfl)
    | (cases e)
theorem cop_op : ∀ o : CmpOp, opC (copOf o) = o := by
  intro o
  cases o <;> rfl
theorem isSet_in {op : CmpOp} {b : Expr} (h : isSet b = false) : behindInMarks op b = false := by
  cases b <;> first
    | rfl
    | cases h
theorem isSet_fold {b : Expr} {env : Env} (h : isSet b = false) : ∀ x, foldedSetIterable b env x = pure x := by
  intro x
  cases b <;> first
    | rfl
    | cases h
/-- targets -/
theorem asg_one {e : Expr} {es : List Expr} {env : Env} (h : isStar e = false) : assignEach (e :: es) env = (false, assign e env) :: assignEach es env := by
  cases e <;> first
    | rfl
    | cases h
theorem asg_none : ∀ {es : List Expr} {env : Env}, es.all (fun e => !isStar e) = true → (assignEach es env).findIdx? (·.1) = none ∧ (assignEach es env).length = es.length
  | [], _, _ => ⟨rfl, rfl⟩
  | e :: es, env, h => by
    rw [List.all_cons] at h
    obtain ⟨h1, h2⟩ := ba2 h
    obtain ⟨i1, i2⟩ := asg_none (env := env) h2
    rw [asg_one (by simpa using h1)]
    exact ⟨by rw [List.findIdx?_cons, i1]; rfl, by rw [List.length_cons, i2, List.length_cons]⟩
theorem compTs_len {ts : Scope} : ∀ es : List Expr, (compTs N ts es).length = es.length
  | [] => rfl
  | e :: es => by
    show (compTs N ts es).length + 1 = es.length + 1
    rw [compTs_len es]
mutual
theorem okT1 {ts : Scope} (hN : X.N = N) (nd : N.Nodup) (hK : X.K = c.K) (hc : X.calm = true) (ot : Okt N X ts) : ∀ e : Expr, PG X e (c.gT (compT N ts e))
  | .Name x pos => by
    show PG X _ (c.gT (match locOf ts x, ixOf N x with
      | true, some i => .name i false
      | _, _ => .bad))
    cases hl : locOf ts x with
    | false => exact pg_not
    | true =>
      cases hi : ixOf N x with
      | none => exact pg_not
      | some i =>
        unfold locOf at hl
        simp only [Bool.or_eq_true, decide_eq_true_eq] at hl
        obtain ⟨h1, h2⟩ := ot x hl
        exact ok_gName (by rw [hN]; exact nd) (by rw [hN]; exact ixOf_get hi) h1 h2
  | .Tuple es kk pos => by
    show PG X _ (c.gT (if es.all (fun e => !isStar e) = true then .tup (compTs N ts es) else .bad))
    by_cases h : es.all (fun e => !isStar e) = true
    · rw [if_pos h]
      obtain ⟨i1, i2⟩ := asg_none (env := X.env) h
      exact ok_gTup hK hc (okT2 hN nd hK hc ot es h) (by rw [i2, compTs_len]) i1
    · rw [if_neg h]
      exact pg_not
  | .Constant _ _ _ => pg_not
  | .BinOp _ _ _ _ => pg_not
  | .UnaryOp _ _ _ => pg_not
  | .Compare _ _ _ _ => pg_not
  | .BoolOp _ _ _ => pg_not
  | .IfExp _ _ _ _ => pg_not
  | .List _ _ => pg_not
  | .Dict _ _ _ => pg_not
  | .Subscript _ _ _ => pg_not
  | .Slice _ _ _ _ => pg_not
  | .Attribute _ _ _ => pg_not
  | .Call _ _ _ _ => pg_not
  | .ListComp _ _ _ _ => pg_not
  | .Starred _ _ => pg_not
  | .NamedExpr _ _ _ => pg_not
  | .Lambda _ _ _ _ => pg_not
  | .Set _ _ _ => pg_not
  | .SetComp _ _ _ _ => pg_not
  | .DictComp _ _ _ _ _ => pg_not
  | .GeneratorExp _ _ _ _ => pg_not
  | .Await _ _ => pg_not
  | .Yield _ _ => pg_not
  | .YieldFrom _ _ => pg_not
  | .FormattedValue _ _ _ _ => pg_not
  | .JoinedStr _ _ => pg_not
theorem okT2 {ts : Scope} (hN : X.N = N) (nd : N.Nodup) (hK : X.K = c.K) (hc : X.calm = true) (ot : Okt N X ts) : ∀ es : List Expr, es.all (fun e => !isStar e) = true → PGs X es (c.gTs (compTs N ts es))
  | [], _ => ok_gNil
  | e :: es, h => by
    rw [List.all_cons] at h
    obtain ⟨h1, h2⟩ := ba2 h
    exact ok_gCons (okT1 hN nd hK hc ot e) (okT2 hN nd hK hc ot es h2) (by rw [asg_one (by simpa using h1)]; rfl)
end
end
end AM
/-! Expressions, all. -/
namespace AM
open PySem PySem.Spec PyProof.Rows L2
section
variable {t : Tab} {N : List Str} {k : Nat} {c : Cc} {X : Cx} {sc : Scope} {cm : Bool}
/-! ### built-ins -/
theorem ok_bi1 {b : BI} {e : Expr} {xe : Ex} {x : Str} {p pos : Pos} {f : Value} (hK : X.K = c.K) (hc : CallR X f (c.rBi b)) (ha : PE X e (c.tE xe)) (h1 : isStar e = false) (hv : bootBuiltins x = some f) (hg : Gl X x) (hm : X.mg x = none) (hn : x ≠ "__name__") (hd : (x == ("__debug__" : Str)) = false) (hf : (∃ id, f = .builtin id) ∨ ∃ T, f = .type T)
    (hx : ∀ s h, c.ev (.bi b [xe]) s h = (c.ev xe s h).bnd fun v h => opt (biV b [v]) h) : PE X (.Call (.Name x p) [e] [] pos) (c.tE (.bi b [xe])) := by
  have go : PE X (.Call (.Name x p) [e] [] pos) (fun σ H Q => tCons (c.tE xe) tNil σ H fun vs H1 => c.rBi b vs H1 Q) := by
    rcases hf with ⟨id, rfl⟩ | ⟨T, rfl⟩
    · exact pe_callB hc hg hm hv (pa_cons ha pa_nil (star_cons h1)) hn hd (star_cons h1) (star_none (by rfl))
    · exact pe_callTy hc hg hm hv (pa_cons ha pa_nil (star_cons h1)) hn hd (star_cons h1) (star_none (by rfl))
  refine PE.imp go fun σ H Q ⟨W, s, h, rs, p⟩ => ?_
  rw [hx] at p
  exact ⟨W, s, h, rs, Cc.po_bndW p fun W1 H1 v x h1 e1 r1 w1 _ p1 => ⟨W1, s, h1, σ, [x], r1, RAs.cons w1 RAs.nil, p1⟩⟩
theorem ok_bi2 {b : BI} {e e2 : Expr} {xe xe2 : Ex} {x : Str} {p pos : Pos} {f : Value} (hK : X.K = c.K) (hc : CallR X f (c.rBi b)) (ha : PE X e (c.tE xe)) (hb : PE X e2 (c.tE xe2)) (h1 : isStar e = false) (h2 : isStar e2 = false) (hv : bootBuiltins x = some f) (hg : Gl X x) (hm : X.mg x = none) (hn : x ≠ "__name__") (hd : (x == ("__debug__" : Str)) = false) (hf : ∃ id, f = .builtin id)
    (hx : ∀ s h, c.ev (.bi b [xe, xe2]) s h = (c.ev xe s h).bnd fun v h => (c.ev xe2 s h).bnd fun u h => opt (biV b [v, u]) h) : PE X (.Call (.Name x p) [e, e2] [] pos) (c.tE (.bi b [xe, xe2])) := by
  obtain ⟨id, rfl⟩ := hf
  refine PE.imp (pe_callB hc hg hm hv (pa_cons ha (pa_cons hb pa_nil (star_cons h2)) (star_cons h1)) hn hd (star_cons h1) (star_none (by simp [h2]))) fun σ H Q ⟨W, s, h, rs, p⟩ => ?_
  rw [hx] at p
  exact ⟨W, s, h, rs, Cc.po_bndW p fun W1 H1 v x h1 e1 r1 w1 _ p1 => ⟨W1, s, h1, r1, Cc.po_bndW p1 fun W2 H2 u y h2 e2 r2 w2 _ p2 => ⟨W2, s, h2, σ, [x, y], r2, RAs.cons (w1.mono (Cc.mo r1 e2)) (RAs.cons w2 RAs.nil), p2⟩⟩⟩
theorem ok_biF {b : BI} {e : Expr} {xe : Ex} {x : Str} {p pos : Pos} {T : String} (hK : X.K = c.K) (hc : CallR X (.type T) (c.rBiF b)) (ha : PE X e (c.tE xe)) (h1 : isStar e = false) (hv : bootBuiltins x = some (.type T)) (hg : Gl X x) (hm : X.mg x = none) (hn : x ≠ "__name__") (hd : (x == ("__debug__" : Str)) = false)
    (hx : ∀ s h, c.ev (.bi b [xe]) s h = (c.ev xe s h).bnd fun v h => opt (biV b [v]) h) : PE X (.Call (.Name x p) [e] [] pos) (c.tF (.bi b [xe])) := by
  refine PE.imp (pe_callTy hc hg hm hv (pa_cons ha pa_nil (star_cons h1)) hn hd (star_cons h1) (star_none (by rfl))) fun σ H Q ⟨W, s, h, rs, p⟩ => ?_
  rw [hx] at p
  exact ⟨W, s, h, rs, Cc.po_bndW p fun W1 H1 v x h1 e1 r1 w1 _ p1 => ⟨W, H, W1, s, h1, σ, [x], r1, e1, RAs.cons w1 RAs.nil, p1⟩⟩
theorem ok_len {e : Expr} {xe : Ex} {p pos : Pos} (hK : X.K = c.K) (ha : PE X e (c.tB xe)) (h1 : isStar e = false) (hg : Gl X "len") (hm : X.mg "len" = none) 
    (hx : ∀ s h, c.ev (.bi .len [xe]) s h = (c.ev xe s h).bnd fun v h => opt (biV .len [v]) h) : PE X (.Call (.Name "len" p) [e] [] pos) (c.tE (.bi .len [xe])) := by
  refine PE.imp (pe_callB (cr_len hK) hg hm (by first | rfl | decide +kernel) (pa_cons ha pa_nil (star_cons h1)) (by decide) (by decide) (star_cons h1) (star_none (by rfl))) fun σ H Q ⟨W, s, h, rs, p⟩ => ?_
  rw [hx] at p
  exact ⟨W, s, h, rs, Cc.po_rel (Cc.po_bndW (Rel := c.rb) p fun W1 H1 v x h1 e1 r1 w1 _ p1 => ⟨W1, s, h1, σ, x, v, rfl, r1, w1, p1⟩) fun _ _ _ _ _ _ w => w⟩
theorem bi_ev1 {b : BI} {x : Ex} (hx : noStar x = x) : ∀ s h, c.ev (.bi b [x]) s h = (c.ev x s h).bnd fun v h => opt (biV b [v]) h := by
  intro s h
  have e : evL c.P c.cal c.ini [x] s h = (c.ev x s h).bnd fun v h => .ok [v] h := by
    cases x <;> first | rfl | cases hx
  show (evL c.P c.cal c.ini [x] s h).bnd _ = _
  rw [e]
  cases c.ev x s h <;> rfl
theorem bi_ev2 {b : BI} {x y : Ex} (hx : noStar x = x) (hy : noStar y = y) : ∀ s h, c.ev (.bi b [x, y]) s h = (c.ev x s h).bnd fun v h => (c.ev y s h).bnd fun u h => opt (biV b [v, u]) h := by
  intro s h
  have e1 : ∀ s h, evL c.P c.cal c.ini [y] s h = (c.ev y s h).bnd fun v h => .ok [v] h := by
    intro s h
    cases y <;> first | rfl | cases hy
  have e : evL c.P c.cal c.ini [x, y] s h = (c.ev x s h).bnd fun v h => (evL c.P c.cal c.ini [y] s h).bnd fun vs h => .ok (v :: vs) h := by
    cases x <;> first | rfl | cases hx
  show (evL c.P c.cal c.ini [x, y] s h).bnd _ = _
  rw [e]
  cases c.ev x s h with
  | ok v h1 =>
    show ((evL c.P c.cal c.ini [y] s h1).bnd fun vs h => .ok (v :: vs) h).bnd _ = (c.ev y s h1).bnd _
    rw [e1]
    cases c.ev y s h1 <;> rfl
  | err _ _ => rfl
  | stk => rfl
theorem noStar_idem (x : Ex) : noStar (noStar x) = noStar x := by cases x <;> rfl
theorem ok_noStar {e : Expr} {x : Ex} (h : PE X e (c.tE x)) : PE X e (c.tE (noStar x)) := by
  cases x <;> first
    | exact h
    | exact ok_bad
theorem ok_noStarB {e : Expr} {x : Ex} (h : PE X e (c.tB x)) : PE X e (c.tB (noStar x)) := by
  cases x <;> first
    | exact h
    | exact ok_badB
theorem evL_no {x : Ex} {xs : List Ex} : ∀ s h, evL c.P c.cal c.ini (noStar x :: xs) s h = (c.ev (noStar x) s h).bnd fun v h => (evL c.P c.cal c.ini xs s h).bnd fun vs h => .ok (v :: vs) h := by
  intro s h
  cases x <;> rfl
end
end AM
/-! Expressions, all: the recursion. -/
namespace AM
open PySem PySem.Spec PyProof.Rows L2
def Cc.tX (c : Cc) (x : Ex) : TE := match isFresh x with
  | true => c.tF x
  | false => c.tE x
theorem tE_of_tX {c : Cc} {X : Cx} {e : Expr} {x : Ex} (h : PE X e (c.tX x)) : PE X e (c.tE x) := by
  unfold Cc.tX at h
  cases hf : isFresh x with
  | true => rw [hf] at h; exact tE_of_tF h
  | false => rw [hf] at h; exact h
def AllE (t : Tab) (N : List Str) (k : Nat) (e : Expr) : Prop := ∀ (c : Cc) (X : Cx) (sc : Scope) (cm : Bool), Okc t N k c X sc cm →
  PE X e (c.tX (compE t N cm sc e)) ∧ PT X e (c.tT (compE t N cm sc e)) ∧ (cm = true → ∀ tg, PI X tg e (c.tI (itOf e (compE t N cm sc e))))
section
variable {t : Tab} {N : List Str} {k : Nat} {c : Cc} {X : Cx} {sc : Scope} {cm : Bool}
theorem AllE.e {e : Expr} (h : AllE t N k e) (o : Okc t N k c X sc cm) : PE X e (c.tE (compE t N cm sc e)) := tE_of_tX (h c X sc cm o).1
/-- an expression of no special form as a test, as what is walked -/
theorem all_of {e : Expr} {x : Ex} (o : Okc t N k c X sc cm) (h : PE X e (c.tX x)) (he : ∀ whole, isTrue e X.env whole = (do let v ← whole; standAt e.pos; holding [v] (truthy v))) (hi : itOf e x = .seq x) :
    PE X e (c.tX x) ∧ PT X e (c.tT x) ∧ (cm = true → ∀ tg, PI X tg e (c.tI (itOf e x))) := by
  refine ⟨h, ok_test (tE_of_tX h) he, fun _ tg => ?_⟩
  rw [hi]
  exact ok_seq o.hK (tE_of_tX h)
theorem all_test {e : Expr} {x : Ex} (o : Okc t N k c X sc cm) (h : PE X e (c.tX x)) (ht : PT X e (c.tT x)) (hi : itOf e x = .seq x) :
    PE X e (c.tX x) ∧ PT X e (c.tT x) ∧ (cm = true → ∀ tg, PI X tg e (c.tI (itOf e x))) := by
  refine ⟨h, ht, fun _ tg => ?_⟩
  rw [hi]
  exact ok_seq o.hK (tE_of_tX h)
theorem all_bad {e : Expr} {x : Ex} (o : Okc t N k c X sc cm) (hx : x = .bad) (hi : itOf e .bad = .seq .bad ∨ itOf e .bad = .bad) : PE X e (c.tX x) ∧ PT X e (c.tT x) ∧ (cm = true → ∀ tg, PI X tg e (c.tI (itOf e x))) := by
  subst hx
  refine ⟨ok_bad, pt_bad, fun _ tg => ?_⟩
  rcases hi with hi | hi <;> rw [hi]
  · exact ok_seq o.hK ok_bad
  · exact pi_bad
theorem okc_blk (hcm : cm = true) (o : Okc t N k c X sc cm) {scope : Scope} (s : Shared) (H : Hp) (C : Addr) (cl : List (Str × Addr)) (fp : List Addr) : Okc t N k c.no (X.blk s H scope (compEnvC scope cl C X.env) fp) (relS scope sc) cm where
  hK := o.hK
  hN := o.hN
  nd := o.nd
  hsc := by
    show relabel scope X.env = _
    rw [← o.hsc]
    rfl
  calm := o.calm
  room := o.room
  hu := o.hu
  gd := o.gd
  tk := fun _ _ ⟨_, _, _, _, _, _, _, _, _, _, _, _, _, _, _, _, w⟩ => w.elim
  xa := o.xa
  glo := ⟨o.glo.bi, o.glo.gf, o.glo.gc, o.glo.gk, o.glo.isi, o.glo.inj, o.glo.fld⟩
  att := fun a f nm pos h1 h2 h3 => ok_attr (c := c.no) (o.xa hcm) o.hK o.glo.inj (o.glo.fld f nm h2).1 (o.glo.fld f nm h2).2 h3 h1
theorem okt_blk (o : Okc t N k c X sc cm) {scope : Scope} (s : Shared) (H : Hp) (C : Addr) (cl : List (Str × Addr)) (fp : List Addr) : Okt N (X.blk s H scope (compEnvC scope cl C X.env) fp) scope := by
  intro x hx
  have e : (compEnvC scope cl C X.env).scope = relS scope X.env.scope := rfl
  have keep : ∀ {kd : NameKind}, kd ≠ .free → scope.names.lookup x = some kd → (compEnvC scope cl C X.env).scope.names.lookup x = some kd := fun h1 h2 => lookup_relS_keep h1 h2
  rcases hx with hx | hx
  · have := keep (by decide) hx
    exact ⟨.inl this, .inr this⟩
  · have := keep (by decide) hx
    refine ⟨.inr this, .inl ?_⟩
    show (scope.names.lookup x == some .cell) = true
    rw [hx]
    rfl
end
end AM
/-! Expressions: the forms. -/
namespace AM
open PySem PySem.Spec PyProof.Rows L2
section
variable {t : Tab} {N : List Str} {k : Nat} {c : Cc} {X : Cx} {sc : Scope} {cm : Bool}
def AllS (t : Tab) (N : List Str) (k : Nat) : Expr → Prop
  | .Slice lo hi _ _ => (∀ a, lo = some a → AllE t N k a) ∧ ∀ a, hi = some a → AllE t N k a
  | .Starred a _ => AllE t N k a
  | _ => True
def AllB (t : Tab) (N : List Str) (k : Nat) (e : Expr) : Prop := AllE t N k e ∧ AllS t N k e
theorem tX_of {e : Expr} {x : Ex} (h : PE X e (c.tE x)) (hf : isFresh x = false) : PE X e (c.tX x) := by
  unfold Cc.tX
  rw [hf]
  exact h
theorem f_name {x : Str} {pos : Pos} : AllE t N k (.Name x pos) := fun c X sc cm o => by
  refine all_of o (tX_of (ok_name o) ?_) (fun _ => rfl) rfl
  show isFresh (match isGl sc x with
    | true => (match t.gk.lookup x with
      | some j => .glo j
      | none => .bad)
    | false => (match okNm x && visOf sc x, ixOf N x with
      | true, some i => .var i
      | _, _ => .bad)) = false
  cases isGl sc x with
  | true => cases t.gk.lookup x <;> rfl
  | false => cases okNm x && visOf sc x <;> cases ixOf N x <;> rfl
theorem f_const {v : Const} {j : Nat} {pos : Pos} : AllE t N k (.Constant v j pos) := fun c X sc cm o => by
  cases v with
  | int i => exact all_of o (ok_con (x := .int i) pe_int fun _ _ => ra_int') (fun _ => rfl) rfl
  | bool b => exact all_of o (ok_con (x := .bl b) pe_bl fun _ _ => ra_bl') (fun _ => rfl) rfl
  | str x => exact all_of o (ok_con (x := .str x) pe_str fun _ _ => ra_str') (fun _ => rfl) rfl
  | none => exact all_of o (ok_con (x := .non) pe_non fun _ _ => by unfold RA; rfl) (fun _ => rfl) rfl
  | _ => exact all_bad o rfl (.inl rfl)
theorem f_bin {a b : Expr} {op : Operator} {pos : Pos} (ha : AllE t N k a) (hb : AllE t N k b) : AllE t N k (.BinOp a op b pos) := fun c X sc cm o => by
  have e : compE t N cm sc (.BinOp a op b pos) = match bopOf op with
    | some o => .bop o (compE t N cm sc a) (compE t N cm sc b)
    | none => .bad := rfl
  rw [e]
  cases hop : bopOf op with
  | none => exact all_bad o rfl (.inl rfl)
  | some q =>
    rw [bop_op hop]
    exact all_of o (ok_bop (ha.e o) (hb.e o)) (fun _ => rfl) rfl
theorem f_un {a : Expr} {op : UnaryOp} {pos : Pos} (ha : AllE t N k a) : AllE t N k (.UnaryOp op a pos) := fun c X sc cm o => by
  cases op with
  | USub => exact all_of o (ok_neg (ha.e o)) (fun _ => rfl) rfl
  | Not => exact all_test o (ok_not (ha.e o)) (ok_tNot (ha c X sc cm o).2.1) rfl
  | _ => exact all_bad o rfl (.inl rfl)
theorem f_rhs {op : CmpOp} {b : Expr} (o : Okc t N k c X sc cm) (hb : AllE t N k b) : PE X b (c.tB (rhsOf (copOf op) b (compE t N cm sc b))) := by
  cases op <;> first
    | exact tB_of (hb.e o)
    | exact ok_toPeek o (hb.e o)
theorem f_cmp {a : Expr} {ops : List CmpOp} {cs : List Expr} {pos : Pos} (ha : AllE t N k a) (hc : ∀ e ∈ cs, AllB t N k e) : AllE t N k (.Compare a ops cs pos) := fun c X sc cm o => by
  have bad : compE t N cm sc (.Compare a ops cs pos) = .bad → _ := fun e => by
    have := all_bad (e := .Compare a ops cs pos) o e (.inl rfl)
    exact this
  rcases ops with _ | ⟨o1, _ | ⟨o2, _ | ⟨o3, r⟩⟩⟩
  · rcases cs with _ | ⟨b, _ | ⟨d, _ | ⟨e, r'⟩⟩⟩ <;> exact bad rfl
  · rcases cs with _ | ⟨b, _ | ⟨d, _ | ⟨e, r'⟩⟩⟩
    · exact bad rfl
    · have e : compE t N cm sc (.Compare a [o1] [b] pos) = if isSet b = true then .bad else .cmp (copOf o1) (compE t N cm sc a) (rhsOf (copOf o1) b (compE t N cm sc b)) := rfl
      rw [e]
      by_cases hs : isSet b = true
      · rw [if_pos hs]
        exact all_bad o rfl (.inl rfl)
      · rw [if_neg hs]
        have hb := (hc b (List.mem_singleton.mpr rfl)).1
        have hm : behindInMarks (opC (copOf o1)) b = false := isSet_in (by simpa using hs)
        have h1 := ok_cmp (c := c) (pos := pos) (o := copOf o1) (Nat.lt_of_succ_lt o.hu) o.hK (ha.e o) (f_rhs (op := o1) o hb) hm
        have h2 := ok_tCmp (c := c) (pos := pos) (o := copOf o1) (Nat.lt_of_succ_lt o.hu) o.hK (ha.e o) (f_rhs (op := o1) o hb) hm
        rw [cop_op] at h1 h2
        exact all_test o h1 h2 rfl
    · exact bad rfl
    · exact bad rfl
  · rcases cs with _ | ⟨b, _ | ⟨d, _ | ⟨e, r'⟩⟩⟩
    · exact bad rfl
    · exact bad rfl
    · have e : compE t N cm sc (.Compare a [o1, o2] [b, d] pos) = if isSet d = true then .bad else .chain (copOf o1) (copOf o2) (compE t N cm sc a) (compE t N cm sc b) (compE t N cm sc d) := rfl
      rw [e]
      by_cases hs : isSet d = true
      · rw [if_pos hs]
        exact all_bad o rfl (.inl rfl)
      · rw [if_neg hs]
        have hb := (hc b (List.mem_cons_self)).1
        have hd := (hc d (List.mem_cons_of_mem _ (List.mem_singleton.mpr rfl))).1
        have hm : lastMarks [opC (copOf o1), opC (copOf o2)] [b, d] = false := isSet_in (by simpa using hs)
        have h1 := ok_chain (c := c) (pos := pos) (o := copOf o1) (o' := copOf o2) (Nat.lt_of_succ_lt o.hu) o.hK (ha.e o) (hb.e o) (hd.e o) hm
        have h2 := ok_tChain (c := c) (pos := pos) (o := copOf o1) (o' := copOf o2) (Nat.lt_of_succ_lt o.hu) o.hK (ha.e o) (hb.e o) (hd.e o) hm
        rw [cop_op, cop_op] at h1 h2
        exact all_test o h1 h2 rfl
    · exact bad rfl
  · rcases cs with _ | ⟨b, _ | ⟨d, _ | ⟨e, r'⟩⟩⟩ <;> exact bad rfl
theorem f_and {pos : Pos} : ∀ {es : List Expr}, (∀ e ∈ es, AllB t N k e) → ∀ (c : Cc) (X : Cx) (sc : Scope) (cm : Bool), Okc t N k c X sc cm → PE X (.BoolOp .And es pos) (c.tX (compA t N cm sc es)) ∧ PW X (.BoolOp .And es pos) (c.tT (compA t N cm sc es))
  | [], _, c, X, sc, cm, o => ⟨ok_bad, ⟨fun _ _ _ _ _ _ _ ⟨_, _, _, _, p⟩ => p.elim⟩⟩
  | [a], h, c, X, sc, cm, o => by
    have ha := (h a (List.mem_singleton.mpr rfl)).1 c X sc cm o
    exact ⟨pe_one ha.1, pw_and1 ha.2.1⟩
  | a :: b :: r, h, c, X, sc, cm, o => by
    have ha := (h a List.mem_cons_self).1
    obtain ⟨i1, i2⟩ := f_and (es := b :: r) (fun e he => h e (List.mem_cons_of_mem _ he)) c X sc cm o
    exact ⟨ok_and (ha.e o) (tE_of_tX i1), ok_wAnd (ha c X sc cm o).2.1 i2⟩
theorem f_or {pos : Pos} : ∀ {es : List Expr}, (∀ e ∈ es, AllB t N k e) → ∀ (c : Cc) (X : Cx) (sc : Scope) (cm : Bool), Okc t N k c X sc cm → PE X (.BoolOp .Or es pos) (c.tX (compO t N cm sc es)) ∧ PW X (.BoolOp .Or es pos) (c.tT (compO t N cm sc es))
  | [], _, c, X, sc, cm, o => ⟨ok_bad, ⟨fun _ _ _ _ _ _ _ ⟨_, _, _, _, p⟩ => p.elim⟩⟩
  | [a], h, c, X, sc, cm, o => by
    have ha := (h a (List.mem_singleton.mpr rfl)).1 c X sc cm o
    exact ⟨pe_one ha.1, pw_or1 ha.2.1⟩
  | a :: b :: r, h, c, X, sc, cm, o => by
    have ha := (h a List.mem_cons_self).1
    obtain ⟨i1, i2⟩ := f_or (es := b :: r) (fun e he => h e (List.mem_cons_of_mem _ he)) c X sc cm o
    exact ⟨ok_or (ha.e o) (tE_of_tX i1), ok_wOr (ha c X sc cm o).2.1 i2⟩
theorem f_bool {op : BoolOp} {es : List Expr} {pos : Pos} (h : ∀ e ∈ es, AllB t N k e) : AllE t N k (.BoolOp op es pos) := fun c X sc cm o => by
  cases op with
  | And => exact all_test o (f_and h c X sc cm o).1 (f_and h c X sc cm o).2.pt rfl
  | Or => exact all_test o (f_or h c X sc cm o).1 (f_or h c X sc cm o).2.pt rfl
theorem f_ite {a b d : Expr} {pos : Pos} (ha : AllE t N k a) (hb : AllE t N k b) (hd : AllE t N k d) : AllE t N k (.IfExp a b d pos) := fun c X sc cm o =>
  all_test o (ok_ite (ha c X sc cm o).2.1 (hb.e o) (hd.e o)) (ok_tIte (ha c X sc cm o).2.1 (hb c X sc cm o).2.1 (hd c X sc cm o).2.1) rfl
theorem f_list (o : Okc t N k c X sc cm) : ∀ {es : List Expr}, (∀ e ∈ es, AllB t N k e) → PA X es (c.tL (compL t N cm sc es))
  | [], _ => ok_nil
  | e :: es, h => by
    have hr := f_list o (es := es) fun e he => h e (List.mem_cons_of_mem _ he)
    have he := h e List.mem_cons_self
    have gen : isStar e = false → compL t N cm sc (e :: es) = noStar (compE t N cm sc e) :: compL t N cm sc es → PA X (e :: es) (c.tL (compL t N cm sc (e :: es))) := fun h1 h2 => by
      rw [h2]
      exact ok_cons (ok_noStar (he.1.e o)) hr (star_cons h1) evL_no
    cases e with
    | Starred a p =>
      have ha : AllE t N k a := he.2
      exact ok_star o.hK (ha.e o) hr rfl
    | _ => exact gen rfl rfl
theorem f_tup {es : List Expr} {z : Nat} {pos : Pos} (h : ∀ e ∈ es, AllB t N k e) : AllE t N k (.Tuple es z pos) := fun c X sc cm o => all_of o (ok_tup (f_list o h)) (fun _ => rfl) rfl
theorem f_lst {es : List Expr} {pos : Pos} (h : ∀ e ∈ es, AllB t N k e) : AllE t N k (.List es pos) := fun c X sc cm o => all_of o (ok_lstF (f_list o h)) (fun _ => rfl) rfl
theorem f_pps (o : Okc t N k c X sc cm) {pos : Pos} : ∀ {ks : List (Option Expr)} {vs : List Expr}, (∀ e, some e ∈ ks → AllE t N k e) → (∀ e ∈ vs, AllB t N k e) → ks.all (·.isSome) = true → ks.length = vs.length → PPs X pos ks vs (c.trs (inter (compD t N cm sc ks) (compL t N cm sc vs)))
  | [], [], _, _, _, _ => pps_nil
  | [], _ :: _, _, _, _, e => by cases e
  | _ :: _, [], _, _, _, e => by cases e
  | none :: ks, v :: vs, _, _, e, _ => by cases e
  | some a :: ks, v :: vs, h1, h2, e, l => by
    have hr := f_pps o (pos := pos) (ks := ks) (vs := vs) (fun e he => h1 e (List.mem_cons_of_mem _ he)) (fun e he => h2 e (List.mem_cons_of_mem _ he)) (by rw [List.all_cons] at e; exact (ba2 e).2) (Nat.succ.inj l)
    have ha := h1 a List.mem_cons_self
    have hv := h2 v List.mem_cons_self
    cases v with
    | Starred b p => exact pps_cons (ha.e o) ok_bad hr
    | _ => exact pps_cons (ha.e o) (ok_noStar (hv.1.e o)) hr
theorem f_dict {ks : List (Option Expr)} {vs : List Expr} {pos : Pos} (h1 : ∀ e, some e ∈ ks → AllE t N k e) (h2 : ∀ e ∈ vs, AllB t N k e) : AllE t N k (.Dict ks vs pos) := fun c X sc cm o => by
  cases ks with
  | nil =>
    cases vs with
    | nil => exact all_of o ok_dnewF (fun _ => rfl) rfl
    | cons _ _ => exact all_bad o rfl (.inl rfl)
  | cons a ks =>
    have e : compE t N cm sc (.Dict (a :: ks) vs pos) = if ((a :: ks).all (·.isSome) && (decide ((a :: ks).length = vs.length) && decide ((a :: ks).length ≤ 15))) = true then .dsp (inter (compD t N cm sc (a :: ks)) (compL t N cm sc vs)) else .bad := rfl
    rw [e]
    split
    · rename_i hq
      obtain ⟨q1, q2⟩ := ba2 hq
      obtain ⟨q2, q3⟩ := ba2 q2
      exact all_of o (ok_dspF (f_pps o h1 h2 q1 (of_decide_eq_true q2)) q1 (of_decide_eq_true q2) (List.cons_ne_nil _ _) (of_decide_eq_true q3)) (fun _ => rfl) rfl
    · exact all_bad o rfl (.inl rfl)
theorem f_part (o : Okc t N k c X sc cm) {lo : Option Expr} (h : ∀ a, lo = some a → AllE t N k a) : PO X lo (c.tP (compP t N cm sc lo)) := by
  cases lo with
  | none => exact ok_poN
  | some a => exact ok_poS ((h a rfl).e o)
theorem f_sub {a i : Expr} {pos : Pos} (ha : AllE t N k a) (hi : AllB t N k i) : AllE t N k (.Subscript a i pos) := fun c X sc cm o => by
  have hB := ok_toPeek o (ha.e o)
  have gen : isSlice i = false → compE t N cm sc (.Subscript a i pos) = .sub (peekOf a (compE t N cm sc a)) (compE t N cm sc i) → (∀ whole, isTrue (.Subscript a i pos) X.env whole = (do let v ← whole; standAt (Expr.Subscript a i pos).pos; holding [v] (truthy v))) →
      PE X (.Subscript a i pos) (c.tX (compE t N cm sc (.Subscript a i pos))) ∧ PT X (.Subscript a i pos) (c.tT (compE t N cm sc (.Subscript a i pos))) ∧ (cm = true → ∀ tg, PI X tg (.Subscript a i pos) (c.tI (itOf (.Subscript a i pos) (compE t N cm sc (.Subscript a i pos))))) := fun h1 h2 h3 => by
    rw [h2]
    exact all_of o (ok_sub (Nat.lt_of_le_of_lt (by omega) o.hu) o.hK hB (hi.1.e o) h1) h3 rfl
  cases i with
  | Slice lo hi2 st p2 =>
    obtain ⟨q1, q2⟩ := hi.2
    cases st with
    | none => exact all_of o (ok_slc o.hK hB (f_part o q1) (f_part o q2)) (fun _ => rfl) rfl
    | some z =>
      have bad : compE t N cm sc (.Subscript a (.Slice lo hi2 (some z) p2) pos) = .bad → _ := fun e => all_bad (e := .Subscript a (.Slice lo hi2 (some z) p2) pos) o e (.inl rfl)
      cases lo with
      | some _ => exact bad (by simp only [compE])
      | none =>
        cases hi2 with
        | some _ => exact bad (by simp only [compE])
        | none =>
          cases z with
          | UnaryOp op x p3 =>
            cases op with
            | USub =>
              cases x with
              | Constant v j p4 =>
                cases v with
                | int n =>
                  by_cases hn : n = 1
                  · subst hn
                    exact all_of o (ok_rev o.hK hB) (fun _ => rfl) rfl
                  · exact bad (by
                      cases n with
                      | ofNat m => cases m with
                        | zero => rfl
                        | succ m => cases m with
                          | zero => exact absurd rfl hn
                          | succ m => rfl
                      | negSucc m => rfl)
                | _ => exact bad rfl
              | _ => exact bad rfl
            | _ => exact bad rfl
          | _ => exact bad rfl
  | _ => exact gen rfl rfl fun _ => rfl
theorem f_attr {a : Expr} {f : Str} {pos : Pos} (ha : AllE t N k a) : AllE t N k (.Attribute a f pos) := fun c X sc cm o => by
  have e : compE t N cm sc (.Attribute a f pos) = if isCall a = true then .bad else (match idOf t.fld f with
    | some j => .attr (peekOf a (compE t N cm sc a)) j
    | none => .bad) := rfl
  rw [e]
  by_cases hc : isCall a = true
  · rw [if_pos hc]
    exact all_bad o rfl (.inl rfl)
  · rw [if_neg hc]
    cases hf : idOf t.fld f with
    | none => exact all_bad o rfl (.inl rfl)
    | some j => exact all_of o (o.att a j f pos (by simpa using hc) hf (ok_toPeek o (ha.e o))) (fun _ => rfl) rfl
end
end AM
/-! Expressions: calls, comprehensions; the recursion. -/
namespace AM
open PySem PySem.Spec PyProof.Rows L2
section
variable {t : Tab} {N : List Str} {k : Nat} {c : Cc} {X : Cx} {sc : Scope} {cm : Bool}
theorem all_call {f : Str} {p pos : Pos} {es : List Expr} {x : Ex} (o : Okc t N k c X sc cm) (h : PE X (.Call (.Name f p) es [] pos) (c.tX x)) (hx : (match x with
    | .rng a b => Ex.rng a b
    | _ => .bad) = .bad) : PE X (.Call (.Name f p) es [] pos) (c.tX x) ∧ PT X (.Call (.Name f p) es [] pos) (c.tT x) ∧ (cm = true → ∀ tg, PI X tg (.Call (.Name f p) es [] pos) (c.tI (itOf (.Call (.Name f p) es [] pos) x))) := by
  refine ⟨h, ok_test (tE_of_tX h) (fun _ => rfl), fun _ tg => ?_⟩
  show PI X tg _ (c.tI (if f = "range" then (match (generalizing := false) x with
    | .rng a b => Ex.rng a b
    | _ => .bad) else .seq x))
  by_cases hf : f = "range"
  · rw [if_pos hf, hx]
    exact pi_bad
  · rw [if_neg hf]
    exact ok_seq o.hK (tE_of_tX h)
theorem f_isi {a b : Expr} {ty : Ty} {p pos : Pos} (o : Okc t N k c X sc cm) (ha : AllE t N k a) (hg : Gl X "isinstance") (h1 : isStar a = false) (e : tysOf t sc b = some ty) : PE X (.Call (.Name "isinstance" p) [a, b] [] pos) (c.tE (.isi (peekOf a (compE t N cm sc a)) [ty])) := by
  have mg : ∀ x ∈ biNames, X.mg x = none := o.glo.bi
  cases b with
  | Name x pos2 =>
    have e : (match isGl sc x with
      | true => tyOf t x
      | false => none) = some ty := e
    cases hx : isGl sc x with
    | false => rw [hx] at e; cases e
    | true =>
      rw [hx] at e
      obtain ⟨g1, g2, g3⟩ := isGl_gl o.hsc hx
      have fin : tyIn c.P.cls.length (some ty) → PE X (.Name x pos2) (tC (tyV c.T ty)) → PE X (.Call (.Name "isinstance" p) [a, .Name x pos2] [] pos) (c.tE (.isi (peekOf a (compE t N cm sc a)) [ty])) := fun h3 h4 =>
        ok_isi o.glo.isi o.hK h3 hg (mg _ (by simp [biNames])) (ok_toPeek o (ha.e o)) h4 h1 rfl
      have e : tyOf t x = some ty := e
      unfold tyOf at e
      by_cases c1 : x = "int"
      · rw [if_pos c1] at e
        cases e
        subst c1
        exact fin True.intro (pe_bltn g1 (mg _ (by simp [biNames])) (by first | rfl | decide +kernel) rfl)
      rw [if_neg c1] at e
      by_cases c2 : x = "bool"
      · rw [if_pos c2] at e
        cases e
        subst c2
        exact fin True.intro (pe_bltn g1 (mg _ (by simp [biNames])) (by first | rfl | decide +kernel) rfl)
      rw [if_neg c2] at e
      by_cases c3 : x = "str"
      · rw [if_pos c3] at e
        cases e
        subst c3
        exact fin True.intro (pe_bltn g1 (mg _ (by simp [biNames])) (by first | rfl | decide +kernel) rfl)
      rw [if_neg c3] at e
      by_cases c4 : x = "tuple"
      · rw [if_pos c4] at e
        cases e
        subst c4
        exact fin True.intro (pe_bltn g1 (mg _ (by simp [biNames])) (by first | rfl | decide +kernel) rfl)
      rw [if_neg c4] at e
      by_cases c5 : x = "list"
      · rw [if_pos c5] at e
        cases e
        subst c5
        exact fin True.intro (pe_bltn g1 (mg _ (by simp [biNames])) (by first | rfl | decide +kernel) rfl)
      rw [if_neg c5] at e
      by_cases c6 : x = "dict"
      · rw [if_pos c6] at e
        cases e
        subst c6
        exact fin True.intro (pe_bltn g1 (mg _ (by simp [biNames])) (by first | rfl | decide +kernel) rfl)
      rw [if_neg c6] at e
      cases hj : t.gc.lookup x with
      | none => rw [hj] at e; cases e
      | some j =>
        rw [hj] at e
        cases e
        obtain ⟨init, ms, prs, f, fd, ps, e1, M, e3, _⟩ := o.glo.gc x j hj
        exact fin (List.getElem?_eq_some_iff.mp e1).1 (pe_glob g1 e3 rfl g2)
  | _ => cases e
theorem f_callC {f : Str} {es : List Expr} {p pos : Pos} (o : Okc t N k c X sc cm) (hcm : cm = true) (h : ∀ e ∈ es, AllB t N k e) (hs : es.all (fun e => !isStar e) = true) (hg : Gl X f) (hn : f ≠ "__name__") (hd : (f == ("__debug__" : Str)) = false) :
    PE X (.Call (.Name f p) es [] pos) (c.tX (compC t N cm sc f es)) ∧ PT X (.Call (.Name f p) es [] pos) (c.tT (compC t N cm sc f es)) ∧ (cm = true → ∀ tg, PI X tg (.Call (.Name f p) es [] pos) (c.tI (itOf (.Call (.Name f p) es [] pos) (compC t N cm sc f es)))) := by
  have mg : ∀ x ∈ biNames, X.mg x = none := o.glo.bi
  have hK := o.hK
  have calm := o.calm hcm
  rcases es with _ | ⟨a, _ | ⟨b, _ | ⟨d, r⟩⟩⟩
  · exact all_call o ok_bad rfl
  · have ha := (h a List.mem_cons_self).1
    have h1 : isStar a = false := by simpa using hs
    have e : compC t N cm sc f [a] = if f = "range" then .rng (.con (.int 0)) (compE t N cm sc a)
      else if f = "len" then .bi .len [noStar (peekOf a (compE t N cm sc a))]
      else if f = "int" then .bi .int [noStar (compE t N cm sc a)]
      else if f = "str" then .bi .str [noStar (compE t N cm sc a)]
      else if f = "all" then .bi .all [noStar (compE t N cm sc a)]
      else if f = "sum" then .bi .sum [noStar (compE t N cm sc a)]
      else if f = "tuple" then .bi .tuple [noStar (compE t N cm sc a)]
      else if f = "list" then .bi .list [noStar (compE t N cm sc a)]
      else if f = "repr" then .bi .repr [noStar (compE t N cm sc a)]
      else .bad := rfl
    rw [e]
    have aE := ok_noStar (ha.e o)
    have ev : ∀ b, _ := fun (b : BI) => bi_ev1 (c := c) (b := b) (noStar_idem (compE t N cm sc a))
    by_cases c1 : f = "range"
    · rw [if_pos c1]
      subst c1
      refine ⟨ok_bad, pt_bad, fun _ tg => ?_⟩
      exact ok_rng1 hg (mg _ (by simp [biNames])) (ha.e o) h1
    rw [if_neg c1]
    by_cases c2 : f = "len"
    · rw [if_pos c2]
      subst c2
      exact all_call o (ok_len hK (ok_noStarB (ok_toPeek o (ha.e o))) h1 hg (mg _ (by simp [biNames])) (bi_ev1 (noStar_idem _))) rfl
    rw [if_neg c2]
    by_cases c3 : f = "int"
    · rw [if_pos c3]
      subst c3
      exact all_call o (ok_bi1 hK cr_int aE h1 (by first | rfl | decide +kernel) hg (mg _ (by simp [biNames])) hn hd (.inr ⟨_, rfl⟩) (ev _)) rfl
    rw [if_neg c3]
    by_cases c4 : f = "str"
    · rw [if_pos c4]
      subst c4
      exact all_call o (ok_bi1 hK cr_str aE h1 (by first | rfl | decide +kernel) hg (mg _ (by simp [biNames])) hn hd (.inr ⟨_, rfl⟩) (ev _)) rfl
    rw [if_neg c4]
    by_cases c5 : f = "all"
    · rw [if_pos c5]
      subst c5
      exact all_call o (ok_bi1 hK (cr_allA hK calm) aE h1 (by first | rfl | decide +kernel) hg (mg _ (by simp [biNames])) hn hd (.inl ⟨_, rfl⟩) (ev _)) rfl
    rw [if_neg c5]
    by_cases c6 : f = "sum"
    · rw [if_pos c6]
      subst c6
      exact all_call o (ok_bi1 hK (cr_sumA hK calm) aE h1 (by first | rfl | decide +kernel) hg (mg _ (by simp [biNames])) hn hd (.inl ⟨_, rfl⟩) (ev _)) rfl
    rw [if_neg c6]
    by_cases c7 : f = "tuple"
    · rw [if_pos c7]
      subst c7
      exact all_call o (ok_bi1 hK (cr_tuple hK) aE h1 (by first | rfl | decide +kernel) hg (mg _ (by simp [biNames])) hn hd (.inr ⟨_, rfl⟩) (ev _)) rfl
    rw [if_neg c7]
    by_cases c8 : f = "list"
    · rw [if_pos c8]
      subst c8
      exact all_call o (ok_biF hK (cr_listF hK) aE h1 (by first | rfl | decide +kernel) hg (mg _ (by simp [biNames])) hn hd (ev _)) rfl
    rw [if_neg c8]
    by_cases c9 : f = "repr"
    · rw [if_pos c9]
      subst c9
      exact all_call o (ok_bi1 hK (cr_repr hK o.gd o.hu) aE h1 (by first | rfl | decide +kernel) hg (mg _ (by simp [biNames])) hn hd (.inl ⟨_, rfl⟩) (ev _)) rfl
    rw [if_neg c9]
    exact all_call o ok_bad rfl
  · have ha := (h a List.mem_cons_self).1
    have hb := (h b (List.mem_cons_of_mem _ List.mem_cons_self)).1
    have h1 : isStar a = false ∧ isStar b = false := by simpa using hs
    have e : compC t N cm sc f [a, b] = if f = "isinstance" then (match tysOf t sc b with
        | some ty => .isi (peekOf a (compE t N cm sc a)) [ty]
        | none => .bad)
      else if f = "range" then .rng (compE t N cm sc a) (compE t N cm sc b)
      else if f = "max" then .bi .max [noStar (compE t N cm sc a), noStar (compE t N cm sc b)]
      else if f = "min" then .bi .min [noStar (compE t N cm sc a), noStar (compE t N cm sc b)]
      else .bad := rfl
    rw [e]
    have aE := ok_noStar (ha.e o)
    have bE := ok_noStar (hb.e o)
    have ev : ∀ q, _ := fun (q : BI) => bi_ev2 (c := c) (b := q) (noStar_idem (compE t N cm sc a)) (noStar_idem (compE t N cm sc b))
    by_cases c1 : f = "isinstance"
    · rw [if_pos c1]
      subst c1
      cases hty : tysOf t sc b with
      | none => exact all_call o ok_bad rfl
      | some ty => exact all_call o (f_isi o ha hg h1.1 hty) rfl
    rw [if_neg c1]
    by_cases c2 : f = "range"
    · rw [if_pos c2]
      subst c2
      refine ⟨ok_bad, pt_bad, fun _ tg => ?_⟩
      exact ok_rng2 hg (mg _ (by simp [biNames])) (ha.e o) (hb.e o) h1.1 h1.2
    rw [if_neg c2]
    by_cases c3 : f = "max"
    · rw [if_pos c3]
      subst c3
      exact all_call o (ok_bi2 hK (cr_max calm) aE bE h1.1 h1.2 (by first | rfl | decide +kernel) hg (mg _ (by simp [biNames])) hn hd ⟨_, rfl⟩ (ev _)) rfl
    rw [if_neg c3]
    by_cases c4 : f = "min"
    · rw [if_pos c4]
      subst c4
      exact all_call o (ok_bi2 hK (cr_min calm) aE bE h1.1 h1.2 (by first | rfl | decide +kernel) hg (mg _ (by simp [biNames])) hn hd ⟨_, rfl⟩ (ev _)) rfl
    rw [if_neg c4]
    exact all_call o ok_bad rfl
  · exact all_call o ok_bad rfl
theorem f_call {fn : Expr} {es : List Expr} {kws : List Keyword} {pos : Pos} (h : ∀ e ∈ es, AllB t N k e) : AllE t N k (.Call fn es kws pos) := fun c X sc cm o => by
  cases fn with
  | Name f p =>
    cases kws with
    | cons _ _ => exact all_bad o rfl (by
        by_cases hf : f = "range"
        · exact .inr (by show (if f = "range" then _ else _) = _; rw [if_pos hf])
        · exact .inl (by show (if f = "range" then _ else _) = _; rw [if_neg hf]))
    | nil =>
      have e : compE t N cm sc (.Call (.Name f p) es [] pos) = (match isGl sc f && es.all fun e => !isStar e with
        | true => if cm = true then (match t.gf.lookup f with
          | some j => .call j (compL t N cm sc es)
          | none => (match t.gc.lookup f with
            | some j => (match (generalizing := false) es with
              | [] => .bad
              | _ => .mk j (compL t N cm sc es))
            | none => compC t N cm sc f es)) else compR t N cm sc f es
        | false => .bad) := rfl
      rw [e]
      cases hgs : isGl sc f && es.all fun e => !isStar e with
      | false => exact all_call o ok_bad rfl
      | true =>
        obtain ⟨hg, hs⟩ := ba2 hgs
        obtain ⟨g1, g2, g3⟩ := isGl_gl o.hsc hg
        cases cm with
        | true =>
          have room := o.room rfl
          show PE X _ (c.tX (match t.gf.lookup f with
            | some j => .call j (compL t N true sc es)
            | none => (match t.gc.lookup f with
              | some j => (match (generalizing := false) es with
                | [] => .bad
                | _ => .mk j (compL t N true sc es))
              | none => compC t N true sc f es))) ∧ PT X _ (c.tT (match t.gf.lookup f with
            | some j => .call j (compL t N true sc es)
            | none => (match t.gc.lookup f with
              | some j => (match (generalizing := false) es with
                | [] => .bad
                | _ => .mk j (compL t N true sc es))
              | none => compC t N true sc f es))) ∧ (_ → ∀ tg, PI X tg _ (c.tI (itOf _ (match t.gf.lookup f with
            | some j => .call j (compL t N true sc es)
            | none => (match t.gc.lookup f with
              | some j => (match (generalizing := false) es with
                | [] => .bad
                | _ => .mk j (compL t N true sc es))
              | none => compC t N true sc f es)))))
          cases hf : t.gf.lookup f with
          | some j =>
            obtain ⟨a, fd, ps, e1, e2, e3, F⟩ := o.glo.gf f j hf
            cases es with
            | nil => exact all_call o (ok_call0 F (room.mono (Nat.le_succ _)) o.gd g1 e1 e2 e3 o.tk g2) rfl
            | cons x r =>
              rw [List.all_cons] at hs
              obtain ⟨s1, s2⟩ := ba2 hs
              exact all_call o (ok_call F (room.mono (Nat.le_succ _)) o.gd g1 e1 e2 e3 o.tk (f_list o h) g2 (by simpa using s1) s2) rfl
          | none =>
            cases hc : t.gc.lookup f with
            | some j =>
              cases es with
              | nil => exact all_call o ok_bad rfl
              | cons x r =>
                obtain ⟨init, ms, prs, a, fd, ps, e1, M, e3, e4, F⟩ := o.glo.gc f j hc
                rw [List.all_cons] at hs
                obtain ⟨s1, s2⟩ := ba2 hs
                exact all_call o (ok_mkF e1 rfl M F room o.gd g1 e3 e4 o.tk (f_list o h) g2 (by simpa using s1) s2) rfl
            | none => exact f_callC o rfl h hs g1 g3 g2
        | false =>
          show PE X _ (c.tX (compR t N false sc f es)) ∧ PT X _ (c.tT (compR t N false sc f es)) ∧ (_ → ∀ tg, PI X tg _ (c.tI (itOf _ (compR t N false sc f es))))
          rcases es with _ | ⟨a, _ | ⟨b, r⟩⟩
          · exact all_call o ok_bad rfl
          · have ha := (h a List.mem_cons_self).1
            have h1 : isStar a = false := by simpa using hs
            have e : compR t N false sc f [a] = if f = "repr" then .bi .repr [noStar (compE t N false sc a)] else .bad := rfl
            rw [e]
            by_cases c9 : f = "repr"
            · rw [if_pos c9]
              subst c9
              exact all_call o (ok_bi1 o.hK (cr_repr o.hK o.gd o.hu) (ok_noStar (ha.e o)) h1 (by first | rfl | decide +kernel) g1 (o.glo.bi _ (by simp [biNames])) g3 g2 (.inl ⟨_, rfl⟩) (bi_ev1 (noStar_idem _))) rfl
            · rw [if_neg c9]
              exact all_call o ok_bad rfl
          · exact all_call o ok_bad rfl
  | _ => cases kws <;> exact all_bad o rfl (.inl rfl)
theorem f_lc {elt : Expr} {gs : List Comprehension} {scope : Scope} {pos : Pos} (he : AllE t N k elt) (hg : ∀ g ∈ gs, AllE t N k g.iter ∧ ∀ e ∈ g.ifs, AllB t N k e) : AllE t N k (.ListComp elt gs scope pos) := fun c X sc cm o => by
  rcases gs with _ | ⟨⟨g, i, ifs, as⟩, _ | ⟨g2, r⟩⟩
  · exact all_bad o rfl (.inl rfl)
  · by_cases has : as = 0
    · subst has
      obtain ⟨hi, hif⟩ := hg _ List.mem_cons_self
      have e : compE t N cm sc (.ListComp elt [⟨g, i, ifs, 0⟩] scope pos) = (match cm && (blkC N sc scope (ownOf N scope) && (!isSet i && ((slotsT (compT N scope g)).all fun j => decide (j ∈ (ownOf N scope).map (·.2))))) with
        | true => .lc ((ownOf N scope).map (·.2)) (compE t N cm (relS scope sc) elt) (compT N scope g) (itOf i (compE t N cm sc i)) (compF t N cm (relS scope sc) ifs)
        | false => .bad) := rfl
      rw [e]
      cases hq : cm && (blkC N sc scope (ownOf N scope) && (!isSet i && ((slotsT (compT N scope g)).all fun j => decide (j ∈ (ownOf N scope).map (·.2))))) with
      | false => exact all_bad o rfl (.inl rfl)
      | true =>
        obtain ⟨q1, q2⟩ := ba2 hq
        obtain ⟨q2, q3⟩ := ba2 q2
        obtain ⟨q3, q4⟩ := ba2 q3
        refine all_of o (ok_lcF (o.calm q1) (by rw [o.hN]; exact o.nd) ((hi c X sc cm o).2.2 q1 g) (by rw [o.hN, o.hsc]; exact blkOk_by q2) (fun j hj => of_decide_eq_true (List.all_eq_true.mp q4 j hj)) ?_ ?_ ?_ (isSet_fold (by simpa using q3))) (fun _ => rfl) rfl
        · intro s H C cl fp
          exact okT1 (X := X.blk s H scope (compEnvC scope cl C X.env) fp) (c := c.no) o.hN o.nd o.hK (o.calm q1) (okt_blk o s H C cl fp) g
        · intro s H C cl fp
          have o2 := okc_blk q1 o (scope := scope) s H C cl fp
          rcases ifs with _ | ⟨d, _ | ⟨d2, r2⟩⟩
          · refine ⟨fun pins s σ H Q I w => pts_nil.run pins s σ H Q I ?_⟩
            obtain ⟨W, fr, h, rs, p⟩ := w
            exact Cc.po_now (Rel := rBl) p rs rfl
          · exact pts_one ((hif d List.mem_cons_self).1 _ _ _ _ o2).2.1
          · exact ⟨fun pins s σ H Q I ⟨_, _, _, _, p⟩ => p.elim⟩
        · intro s H C cl fp
          exact he.e (okc_blk q1 o s H C cl fp)
    · exact all_bad o (by
        cases as with
        | ofNat m => cases m with
          | zero => exact absurd rfl has
          | succ m => rfl
        | negSucc m => rfl) (.inl rfl)
  · exact all_bad o (by simp only [compE]) (.inl rfl)
mutual
theorem okB : ∀ e : Expr, AllB t N k e
  | .Constant _ _ _ => ⟨f_const, True.intro⟩
  | .Name _ _ => ⟨f_name, True.intro⟩
  | .BinOp a _ b _ => ⟨f_bin (okB a).1 (okB b).1, True.intro⟩
  | .UnaryOp _ a _ => ⟨f_un (okB a).1, True.intro⟩
  | .Compare a _ cs _ => ⟨f_cmp (okB a).1 (okBs cs), True.intro⟩
  | .BoolOp _ es _ => ⟨f_bool (okBs es), True.intro⟩
  | .IfExp a b d _ => ⟨f_ite (okB a).1 (okB b).1 (okB d).1, True.intro⟩
  | .Tuple es _ _ => ⟨f_tup (okBs es), True.intro⟩
  | .List es _ => ⟨f_lst (okBs es), True.intro⟩
  | .Dict ks vs _ => ⟨f_dict (okOs ks) (okBs vs), True.intro⟩
  | .Subscript a i _ => ⟨f_sub (okB a).1 (okB i), True.intro⟩
  | .Slice lo hi _ _ => ⟨fun c X sc cm o => all_bad o rfl (.inl rfl), okO lo, okO hi⟩
  | .Starred a _ => ⟨fun c X sc cm o => all_bad o rfl (.inl rfl), (okB a).1⟩
  | .Attribute a _ _ => ⟨f_attr (okB a).1, True.intro⟩
  | .Call _ es _ _ => ⟨f_call (okBs es), True.intro⟩
  | .ListComp e gs _ _ => ⟨f_lc (okB e).1 (okGs gs), True.intro⟩
  | .NamedExpr _ _ _ => ⟨fun c X sc cm o => all_bad o rfl (.inl rfl), True.intro⟩
  | .Lambda _ _ _ _ => ⟨fun c X sc cm o => all_bad o rfl (.inl rfl), True.intro⟩
  | .Set _ _ _ => ⟨fun c X sc cm o => all_bad o rfl (.inl rfl), True.intro⟩
  | .SetComp _ _ _ _ => ⟨fun c X sc cm o => all_bad o rfl (.inl rfl), True.intro⟩
  | .DictComp _ _ _ _ _ => ⟨fun c X sc cm o => all_bad o rfl (.inl rfl), True.intro⟩
  | .GeneratorExp _ _ _ _ => ⟨fun c X sc cm o => all_bad o rfl (.inl rfl), True.intro⟩
  | .Await _ _ => ⟨fun c X sc cm o => all_bad o rfl (.inl rfl), True.intro⟩
  | .Yield _ _ => ⟨fun c X sc cm o => all_bad o rfl (.inl rfl), True.intro⟩
  | .YieldFrom _ _ => ⟨fun c X sc cm o => all_bad o rfl (.inl rfl), True.intro⟩
  | .FormattedValue _ _ _ _ => ⟨fun c X sc cm o => all_bad o rfl (.inl rfl), True.intro⟩
  | .JoinedStr _ _ => ⟨fun c X sc cm o => all_bad o rfl (.inl rfl), True.intro⟩
theorem okBs : ∀ es : List Expr, ∀ e ∈ es, AllB t N k e
  | [], _, h => nomatch h
  | a :: r, e, h => by
    rcases List.mem_cons.mp h with h | h
    · rw [h]
      exact okB a
    · exact okBs r e h
theorem okOs : ∀ es : List (Option Expr), ∀ e, some e ∈ es → AllE t N k e
  | [], _, h => nomatch h
  | a :: r, e, h => by
    rcases List.mem_cons.mp h with h | h
    · exact okO a e h.symm
    · exact okOs r e h
theorem okO : ∀ o : Option Expr, ∀ e, o = some e → AllE t N k e
  | none, _, h => nomatch h
  | some a, e, h => by
    cases h
    exact (okB a).1
theorem okGs : ∀ gs : List Comprehension, ∀ g ∈ gs, AllE t N k g.iter ∧ ∀ e ∈ g.ifs, AllB t N k e
  | [], _, h => nomatch h
  | a :: r, g, h => by
    rcases List.mem_cons.mp h with h | h
    · rw [h]
      exact okG a
    · exact okGs r g h
theorem okG : ∀ g : Comprehension, AllE t N k g.iter ∧ ∀ e ∈ g.ifs, AllB t N k e
  | ⟨_, i, ifs, _⟩ => ⟨(okB i).1, okBs ifs⟩
end
end
end AM
/-! Statements. -/
namespace AM
open PySem PySem.Spec PyProof.Rows L2
/-- behind a statement that started at W H -/
def Cc.poS (c : Cc) (W : Wd) (H : Hp) (o : Out) (D : Ends) : Prop := match o with
  | .nx s h => ∀ W' H' σ, Mo W H W' H' → c.Rs W' s h σ H' → D.nx σ H'
  | .bk s h => ∀ W' H' σ, Mo W H W' H' → c.Rs W' s h σ H' → D.bk σ H'
  | .ct s h => ∀ W' H' σ, Mo W H W' H' → c.Rs W' s h σ H' → D.ct σ H'
  | .rt v s h => ∀ W' H' σ u, c.Rs W' s h σ H' → RA c.K c.T W' H' v u → D.rt u H'
  | .er x s h => ∀ W' H' σ d vs, Mo W H W' H' → c.Rs W' s h σ H' → H' d = some (.xd vs) → RFs c.K c.T W' H' x.fs vs → c.wx (.ref (c.T.cadr x.c)) (some d) σ H'
  | .stk => False
def Cc.tS (c : Cc) (f : Fr → AH → Out) : TS := fun D σ H => ∃ W s h, c.Rs W s h σ H ∧ c.poS W H (f s h) D
section
variable {c : Cc} {s : Fr} {σ : L2.St} {W W1 : Wd} {H H1 : Hp} {h : AH} {α γ : Type} {Rel : Wd → Hp → α → γ → Prop} {D D' : Ends}
theorem Cc.poS_shift {o : Out} (m : Mo W H W1 H1) (p : c.poS W H o D) : c.poS W1 H1 o D := by
  cases o with
  | nx s h => exact fun W' H' σ m' => p W' H' σ (m.trans m')
  | bk s h => exact fun W' H' σ m' => p W' H' σ (m.trans m')
  | ct s h => exact fun W' H' σ m' => p W' H' σ (m.trans m')
  | er x s h => exact fun W' H' σ d vs m' => p W' H' σ d vs (m.trans m')
  | _ => exact p
/-- an expression, then the rest -/
theorem Cc.po_out {r : R α} {f : α → AH → Out} (p : c.poS W H (r.out s f) D) {Q : γ → Hp → Prop}
    (rs : c.Rs W s h σ H) (k : ∀ W1 H1 v a h1, Ext W H W1 H1 → c.Rs W1 s h1 σ H1 → Rel W1 H1 a v → r = .ok a h1 → c.poS W1 H1 (f a h1) D → Q v H1) : c.po s σ W H Rel r Q := by
  cases r with
  | ok a h1 => exact fun W1 H1 v e r1 w => k W1 H1 v a h1 e r1 w rfl (Cc.poS_shift (Cc.mo rs e) p)
  | err x h1 => exact fun W1 H1 d vs e r1 w1 w2 => p W1 H1 σ d vs (Cc.mo rs e) r1 w1 w2
  | stk => exact p
theorem Cc.poS_now {s' : Fr} {h' : AH} {σ' : L2.St} (p : c.poS W H (.nx s' h') D) (m : Mo W H W1 H1) (r : c.Rs W1 s' h' σ' H1) : D.nx σ' H1 := p W1 H1 σ' m r
/-- the rest of a block -/
theorem Cc.poS_then {o : Out} {f : Fr → AH → Out} (p : c.poS W H (o.then_ f) D) : c.poS W H o { D with nx := c.tS f D } := by
  cases o with
  | nx s h => exact fun W' H' σ m r => ⟨W', s, h, r, Cc.poS_shift m p⟩
  | bk s h => exact p
  | ct s h => exact p
  | rt v s h => exact p
  | er x s h => exact p
  | stk => exact p
end
section
variable {c : Cc} {X : Cx} {e : Expr} {x : Ex} {st : Stmt} {rest a b : List Stmt} {pos : Pos}
abbrev Cc.xS (c : Cc) (s : St) : Fr → AH → Out := exS c.P c.cal c.ini s
abbrev Cc.xL (c : Cc) (ss : List St) : Fr → AH → Out := exL c.P c.cal c.ini ss
theorem s_bad : PS X st (c.tS (c.xS .bad)) := ⟨fun _ _ _ _ _ _ ⟨_, _, _, _, p⟩ => p.elim⟩
theorem s_nil : PSs X [] (c.tS (c.xL [])) := PSs.imp pss_nil fun D σ H ⟨W, s, h, rs, p⟩ => Cc.poS_now p (Mo.refl' W H) rs
theorem s_cons {z : St} {zs : List St} (h1 : PS X st (c.tS (c.xS z))) (h2 : PSs X rest (c.tS (c.xL zs))) : PSs X (st :: rest) (c.tS (c.xL (z :: zs))) :=
  PSs.imp (pss_cons h1 h2) fun D σ H ⟨W, s, h, rs, p⟩ => ⟨W, s, h, rs, Cc.poS_then p⟩
theorem s_pass : PS X (.Pass pos) (c.tS (c.xS .pass)) := PS.imp ps_pass fun D σ H ⟨W, s, h, rs, p⟩ => Cc.poS_now p (Mo.refl' W H) rs
theorem s_brk : PS X (.Break pos) (c.tS (c.xS .brk)) := PS.imp ps_break fun D σ H ⟨W, s, h, rs, p⟩ => p W H σ (Mo.refl' W H) rs
theorem s_cnt : PS X (.Continue pos) (c.tS (c.xS .cnt)) := PS.imp ps_continue fun D σ H ⟨W, s, h, rs, p⟩ => p W H σ (Mo.refl' W H) rs
theorem s_expr (he : PE X e (c.tE x)) (hs : swapsWith e none pos.line X.env = pure false) : PS X (.Expr e pos) (c.tS (c.xS (.expr x))) :=
  PS.imp (ps_expr he hs) fun D σ H ⟨W, s, h, rs, p⟩ => ⟨W, s, h, rs, Cc.po_out p rs fun W1 H1 v y h1 e1 r1 w1 _ p1 => Cc.poS_now p1 (Mo.refl' W1 H1) r1⟩
theorem s_ret (he : PE X e (c.tE x)) : PS X (.Return (some e) pos) (c.tS (c.xS (.ret x))) :=
  PS.imp (ps_ret he) fun D σ H ⟨W, s, h, rs, p⟩ => ⟨W, s, h, rs, Cc.po_out p rs fun W1 H1 v y h1 e1 r1 w1 _ p1 => p1 W1 H1 σ v r1 w1⟩
theorem s_retN : PS X (.Return none pos) (c.tS (c.xS .retN)) :=
  PS.imp ps_retN fun D σ H ⟨W, s, h, rs, p⟩ => p W H σ .non rs (by unfold RA; rfl)
theorem s_if {za zb : List St} (hc : PT X e (c.tT x)) (ha : PSs X a (c.tS (c.xL za))) (hb : PSs X b (c.tS (c.xL zb))) : PS X (.If e a b pos) (c.tS (c.xS (.ife x za zb))) := by
  refine PS.imp (ps_if hc ha hb) fun D σ H ⟨W, s, h, rs, p⟩ => ?_
  have p : c.poS W H ((c.ev x s h).out s fun y h => (opt (asBl y) h).out s fun k h => if k = true then c.xL za s h else c.xL zb s h) D := p
  have p' : c.poS W H (((c.ev x s h).bnd fun v h => opt (asBl v) h).out s fun k h => if k = true then c.xL za s h else c.xL zb s h) D := by
    cases hx : c.ev x s h with
    | ok y h1 => rw [hx] at p; exact p
    | err y h1 => rw [hx] at p; exact p
    | stk => rw [hx] at p; exact p
  refine ⟨W, s, h, rs, Cc.po_out p' rs fun W1 H1 v y h1 e1 r1 w1 _ p1 => ?_⟩
  have w1 : y = v := w1
  subst w1
  by_cases hk : y = true
  · rw [if_pos hk] at p1 ⊢
    exact ⟨W1, s, h1, r1, p1⟩
  · rw [if_neg hk] at p1 ⊢
    exact ⟨W1, s, h1, r1, p1⟩
/-- a slot that was its own is a value from now on -/
theorem Cc.rs_fz {s : Fr} {σ : L2.St} {W : Wd} {H : Hp} {h : AH} (r : c.Rs W s h σ H) (i : Nat) : ∃ W', c.Rs W' (fzS s i) h σ H ∧ Mo W H W' H := by
  unfold fzS
  cases ei : s[i]? with
  | none => exact ⟨W, r, Mo.refl' W H⟩
  | some z =>
    cases z with
    | own v =>
      have q := r.slot i
      rw [ei] at q
      obtain ⟨p, h1, h2, h3, h4, h5⟩ := q
      obtain ⟨o, ho, _⟩ := h5.some
      have hp : H p ≠ none := by rw [ho]; exact fun z => by cases z
      refine ⟨W.add p, ⟨r.toRH.addF h2 hp, fun j => ?_, r.ext.addF h4, fun j k x y q hjk e1 e2 e3 => ?_, fun q hq y e1 => ?_⟩, Mo.addF⟩
      rotate_left 2
      · rw [List.getElem?_set] at e1
        split at e1
        · split at e1
          · cases e1
          · cases e1
        · exact r.self q hq y e1
      · have hlt : i < s.length := (List.getElem?_eq_some_iff.mp ei).1
        rw [List.getElem?_set]
        by_cases e : i = j
        · subst e
          rw [if_pos rfl, if_pos hlt]
          exact ⟨.ref p, h1, ra_of_rc (h5.mono Mo.addF fun _ e => e) (.inr rfl)⟩
        · rw [if_neg e]
          have q := r.slot j
          cases ej : s[j]? with
          | none =>
            rw [ej] at q
            exact q
          | some z =>
            rw [ej] at q
            cases z with
            | emp => exact q
            | val x =>
              obtain ⟨u, g1, g2⟩ := q
              exact ⟨u, g1, g2.mono Mo.addF⟩
            | own x =>
              obtain ⟨p', g1, g2, g3, g4, g5⟩ := q
              refine ⟨p', g1, g2, fun z => ?_, g4, g5.mono Mo.addF fun _ e => e⟩
              rcases z with z | z
              · exact g3 z
              · subst z
                exact r.apart i j v x p' e ei ej h1 g1
            | exc k fs =>
              obtain ⟨a, d, vs, g1, g2, g3, g4⟩ := q
              exact ⟨a, d, vs, g1, g2, g3, g4.mono Mo.addF⟩
      · rw [List.getElem?_set] at e1 e2
        have hlt : i < s.length := (List.getElem?_eq_some_iff.mp ei).1
        by_cases a1 : i = j
        · rw [if_pos a1, if_pos hlt] at e1
          cases e1
        · rw [if_neg a1] at e1
          by_cases a2 : i = k
          · rw [if_pos a2, if_pos hlt] at e2
            cases e2
          · rw [if_neg a2] at e2
            exact r.apart j k x y q hjk e1 e2 e3
    | _ => exact ⟨W, r, Mo.refl' W H⟩
theorem Cc.rs_fzs {h : AH} {σ : L2.St} {H : Hp} : ∀ (is : List Nat) {s : Fr} {W : Wd}, c.Rs W s h σ H → ∃ W', c.Rs W' (is.foldl fzS s) h σ H ∧ Mo W H W' H
  | [], s, W, r => ⟨W, r, Mo.refl' W H⟩
  | i :: is, s, W, r => by
    obtain ⟨W1, r1, m1⟩ := Cc.rs_fz r i
    obtain ⟨W2, r2, m2⟩ := Cc.rs_fzs is r1
    exact ⟨W2, r2, m1.trans m2⟩
theorem s_fz {is : List Nat} {z : St} (hz : PS X st (c.tS (c.xS z))) : PS X st (c.tS (c.xS (.fz is z))) := by
  refine PS.imp hz fun D σ H ⟨W, s, h, rs, p⟩ => ?_
  obtain ⟨W1, r1, m1⟩ := Cc.rs_fzs is rs
  exact ⟨W1, _, h, r1, Cc.poS_shift m1 p⟩
/-! ### loops -/
theorem Cc.poS_mono {W : Wd} {H : Hp} {o : Out} {D D' : Ends} (p : c.poS W H o D) (h1 : ∀ σ H, D.nx σ H → D'.nx σ H) (h2 : ∀ v H, D.rt v H → D'.rt v H) (h3 : ∀ σ H, D.bk σ H → D'.bk σ H) (h4 : ∀ σ H, D.ct σ H → D'.ct σ H) : c.poS W H o D' := by
  cases o with
  | nx s h => exact fun W' H' σ m r => h1 _ _ (p W' H' σ m r)
  | bk s h => exact fun W' H' σ m r => h3 _ _ (p W' H' σ m r)
  | ct s h => exact fun W' H' σ m r => h4 _ _ (p W' H' σ m r)
  | rt v s h => exact fun W' H' σ u r w => h2 _ _ (p W' H' σ u r w)
  | er x s h => exact p
  | stk => exact p
theorem s_for {tg i : Expr} {xg : Tg} {xi : Ex} {zb : List St} (hp : PassesOwn (model X.prog X.w) X.A X.env X.xe) (hc : X.calm = true) (hi : PI X tg i (c.tI xi)) (hg : PG X tg (c.gT xg)) (hb : PSs X b (c.tS (c.xL zb))) (hs : ∀ x, foldedSetIterable i X.env x = pure x) :
    PS X (.For tg i b [] pos) (c.tS (c.xS (.for_ xg xi zb))) := by
  refine PS.imp (ps_for hp hc hi hg hb hs) fun D σ H ⟨W, s, h, rs, p⟩ => ?_
  have p : c.poS W H ((evI c.P c.cal c.ini xi s h).out s fun xs h => forL (fun x s h => match bindT xg x s with
    | some s => c.xL zb s h
    | none => .stk) xs s h) D := p
  generalize hF : (fun (x : AV) (s : Fr) (h : AH) => match bindT xg x s with
    | some s => c.xL zb s h
    | none => Out.stk) = F at p
  refine ⟨W, s, h, rs, Cc.po_out p rs fun W1 H1 J xs h1 e1 r1 wJ _ p1 => ?_⟩
  have walk : Walk J xs.length (fun H' => ∃ W' h', Mo W1 H1 W' H' ∧ RH c.K c.T W' h' H') (fun i H v H' => J.yld i H v H') :=
    ⟨fun i H' hi ⟨W', h', m', r'⟩ => (wJ W' H' h' m' r').1 i hi, fun H' ⟨W', h', m', r'⟩ => (wJ W' H' h' m' r').2.1, fun _ _ _ _ _ _ y => y⟩
  refine for_it walk (fun i σ' H' => ∃ W' s' h', Mo W1 H1 W' H' ∧ c.Rs W' s' h' σ' H' ∧ c.poS W' H' (forL F (xs.drop i) s' h') D) ⟨W1, s, h1, Mo.refl' _ _, r1, p1⟩ ?_ ?_ ?_
  · rintro i σ' H' _ ⟨W', s', h', m', r', _⟩
    exact ⟨W', h', m', r'.toRH⟩
  · rintro i v σ' H' H'' hi ⟨W', s', h', m', r', q⟩ y
    obtain ⟨y1, y2⟩ := (wJ W' H' h' m' r'.toRH).2.2 i xs[i] v H'' (List.getElem?_eq_getElem hi) y
    obtain ⟨m2, r2⟩ : Mo W' H' W' H'' ∧ c.Rs W' s' h' σ' H'' := by
      rcases y1 with rfl | ⟨T, ys, hT, rfl⟩
      · exact ⟨Mo.refl' _ _, r'⟩
      · exact ⟨Cc.mo r' (Ext.laid hT), Cc.rs_laid r' hT⟩
    rw [List.drop_eq_getElem_cons hi] at q
    have q : c.poS W' H' (match F xs[i] s' h' with
      | .nx σ h => forL F (xs.drop (i + 1)) σ h
      | .ct σ h => forL F (xs.drop (i + 1)) σ h
      | .bk σ h => .nx σ h
      | o => o) D := q
    cases hb : bindT xg xs[i] s' with
    | none =>
      have e : F xs[i] s' h' = .stk := by rw [← hF]; show (match bindT xg xs[i] s' with | some s => c.xL zb s h' | none => Out.stk) = _; rw [hb]
      rw [e] at q
      exact q.elim
    | some s2 =>
      have e : F xs[i] s' h' = c.xL zb s2 h' := by rw [← hF]; show (match bindT xg xs[i] s' with | some s => c.xL zb s h' | none => Out.stk) = _; rw [hb]
      rw [e] at q
      refine ⟨W', s', h', xs[i], s2, r2, y2, hb, fun σ2 r3 _ _ => ⟨W', s2, h', r3, ?_⟩⟩
      have q := Cc.poS_shift m2 q
      have m3 := m'.trans m2
      cases ho : c.xL zb s2 h' with
      | nx s5 h5 =>
        rw [ho] at q
        exact fun W5 H5 σ5 m5 r5 => ⟨W5, s5, h5, m3.trans m5, r5, Cc.poS_shift m5 q⟩
      | ct s5 h5 =>
        rw [ho] at q
        exact fun W5 H5 σ5 m5 r5 => ⟨W5, s5, h5, m3.trans m5, r5, Cc.poS_shift m5 q⟩
      | bk s5 h5 =>
        rw [ho] at q
        exact q
      | rt v s5 h5 =>
        rw [ho] at q
        exact q
      | er z s5 h5 =>
        rw [ho] at q
        exact q
      | stk =>
        rw [ho] at q
        exact q
  · rintro σ' H' ⟨W', s', h', m', r', q⟩
    rw [List.drop_length] at q
    exact Cc.poS_now q (Mo.refl' _ _) r'
theorem s_while {zb : List St} (hp : PassesOwn (model X.prog X.w) X.A X.env X.xe) (hc : PT X e (c.tT x)) (hb : PSs X b (c.tS (c.xL zb))) : PS X (.While e b [] pos) (c.tS (c.xS (.whl x zb))) := by
  refine PS.imp (ps_while hp hc hb) fun D σ H ⟨W, s, h, rs, p⟩ => ?_
  have p : c.poS W H (whlL (fun s h => (c.ev x s h).bnd fun y h => opt (asBl y) h) (fun s h => c.xL zb s h) fuel s h) D := p
  generalize fuel = n at p
  refine ⟨fun m σ' H' => ∃ W' s' h', c.Rs W' s' h' σ' H' ∧ c.poS W' H' (whlL (fun s h => (c.ev x s h).bnd fun y h => opt (asBl y) h) (fun s h => c.xL zb s h) m s' h') D, ⟨n, W, s, h, rs, p⟩, ?_⟩
  rintro m σ' H' ⟨W', s', h', r', q⟩
  cases m with
  | zero => exact q.elim
  | succ m =>
    have q : c.poS W' H' (((c.ev x s' h').bnd fun y h => opt (asBl y) h).out s' fun k h => if k = true then (match c.xL zb s' h with
      | .nx σ h => whlL (fun s h => (c.ev x s h).bnd fun y h => opt (asBl y) h) (fun s h => c.xL zb s h) m σ h
      | .ct σ h => whlL (fun s h => (c.ev x s h).bnd fun y h => opt (asBl y) h) (fun s h => c.xL zb s h) m σ h
      | .bk σ h => .nx σ h
      | o => o) else .nx s' h) D := q
    refine ⟨W', s', h', r', Cc.po_out q r' fun W1 H1 v y h1 e1 r1 w1 _ p1 => ?_⟩
    have w1 : y = v := w1
    subst w1
    by_cases hk : y = true
    · rw [if_pos hk] at p1 ⊢
      refine ⟨fun σ5 H5 => ∃ W' s' h', c.Rs W' s' h' σ5 H5 ∧ c.poS W' H5 (whlL (fun s h => (c.ev x s h).bnd fun y h => opt (asBl y) h) (fun s h => c.xL zb s h) m s' h') D, fun σ5 H5 n5 => ⟨m, Nat.lt_succ_self _, n5⟩, W1, s', h1, r1, ?_⟩
      cases ho : c.xL zb s' h1 with
      | nx s5 h5 =>
        rw [ho] at p1
        exact fun W5 H5 σ5 m5 r5 => ⟨W5, s5, h5, r5, Cc.poS_shift m5 p1⟩
      | ct s5 h5 =>
        rw [ho] at p1
        exact fun W5 H5 σ5 m5 r5 => ⟨W5, s5, h5, r5, Cc.poS_shift m5 p1⟩
      | bk s5 h5 =>
        rw [ho] at p1
        exact p1
      | rt v s5 h5 =>
        rw [ho] at p1
        exact p1
      | er z s5 h5 =>
        rw [ho] at p1
        exact p1
      | stk =>
        rw [ho] at p1
        exact p1
    · rw [if_neg hk] at p1 ⊢
      exact Cc.poS_now p1 (Mo.refl' _ _) r1
end
end AM
/-! Stores. -/
namespace AM
open PySem PySem.Spec PyProof.Rows L2
section
variable {K : PySem.W.Frag} {T : Nm} {W : Wd} {H : Hp}
theorem RFs.put (inj : ∀ f g, T.fnm f = T.fnm g → f = g) {f : Nat} {x : AV} {v : V} (w : RA K T W H x v) : ∀ {fs : List (Nat × AV)} {vs : List (Str × V)}, RFs K T W H fs vs → RFs K T W H (fPut fs f x) (putF (T.fnm f) v vs)
  | [], vs, h => by
    unfold RFs at h
    subst h
    unfold fPut RFs
    exact ⟨v, [], rfl, w, by unfold RFs; rfl⟩
  | (g, y) :: r, vs, h => by
    unfold RFs at h
    obtain ⟨u, r', rfl, h1, h2⟩ := h
    unfold fPut putF
    by_cases hg : g = f
    · subst hg
      rw [if_pos rfl, if_pos rfl]
      unfold RFs
      exact ⟨v, r', rfl, w, h2⟩
    · rw [if_neg hg, if_neg fun z => hg (inj _ _ z)]
      unfold RFs
      exact ⟨u, _, rfl, h1, RFs.put inj w h2⟩
theorem RFs.len : ∀ {fs : List (Nat × AV)} {vs : List (Str × V)}, RFs K T W H fs vs → fs.length = vs.length
  | [], vs, h => by unfold RFs at h; rw [h]; rfl
  | (a, x) :: xs, vs, h => by
    unfold RFs at h
    obtain ⟨v, r, rfl, _, h2⟩ := h
    rw [List.length_cons, List.length_cons, RFs.len h2]
end
section
variable {c : Cc} {s : Fr} {σ : L2.St} {W : Wd} {H : Hp} {h : AH}
/-- an own slot's object: changed -/
theorem Cc.rs_own {i : Nat} {x x' : AV} {p : Addr} {o : HO} (r : c.Rs W s h σ H) (ei : s[i]? = some (.own x)) (eσ : σ[i]? = some (some (.ref p))) (rc : RC c.K c.T W (upd H p o) x' p) : Mo W H W (upd H p o) ∧ c.Rs W (s.set i (.own x')) h σ (upd H p o) := by
  have q := r.slot i
  rw [ei] at q
  obtain ⟨p', h1, h2, h3, h4, h5⟩ := q
  rw [eσ] at h1
  cases h1
  obtain ⟨o', ho, nt, nf⟩ := h5.some
  have nx : ∀ fs, o' ≠ .xd fs := by
    intro fs z
    subst z
    cases x with
    | lst xs => obtain ⟨_, z, _⟩ := h5; rw [ho] at z; cases z
    | dct t kvs => cases t <;> (obtain ⟨_, z, _⟩ := h5; rw [ho] at z; cases z)
    | obj k fs => obtain ⟨_, _, z, _⟩ := h5; rw [ho] at z; cases z
    | _ => exact h5.elim
  have m : Mo W H W (upd H p o) := Mo.upd ho nt nf h3
  have hlt : i < s.length := (List.getElem?_eq_some_iff.mp ei).1
  refine ⟨m, r.toRH.upd ho nt nf h3 h2, fun j => ?_, ⟨r.ext.mu, r.ext.F, fun a z hz hn => ?_, r.ext.newF, r.ext.newMu, fun a ha => ?_⟩, fun j k y z q hjk e1 e2 e3 => ?_, fun q hq y e1 => ?_⟩
  rotate_left 4
  · rw [List.getElem?_set] at e1
    split at e1
    · rename_i e0
      exact r.self q hq x (by rw [← e0]; exact ei)
    · exact r.self q hq y e1
  · rw [List.getElem?_set]
    by_cases e : i = j
    · subst e
      rw [if_pos rfl, if_pos hlt]
      exact ⟨p, eσ, h2, h3, h4, rc⟩
    · rw [if_neg e]
      have q := r.slot j
      cases ej : s[j]? with
      | none =>
        rw [ej] at q
        exact q
      | some z =>
        rw [ej] at q
        cases z with
        | emp => exact q
        | val y =>
          obtain ⟨u, g1, g2⟩ := q
          exact ⟨u, g1, g2.mono m⟩
        | own y =>
          obtain ⟨p', g1, g2, g3, g4, g5⟩ := q
          refine ⟨p', g1, g2, g3, g4, g5.mono m fun z hz => ?_⟩
          have hne : p' ≠ p := fun z => r.apart i j x y p e ei ej eσ (by rw [← z]; exact g1)
          rw [upd_ne hne]
          exact hz
        | exc k fs =>
          obtain ⟨a, d, vs, g1, g2, g3, g4⟩ := q
          have hne : d ≠ p := fun z => by
            rw [z, ho] at g3
            exact nx vs (Option.some.inj g3)
          exact ⟨a, d, vs, g1, g2, by rw [upd_ne hne]; exact g3, g4.mono m⟩
  · have hne : a ≠ p := fun e => by rw [e, h4] at hz; cases hz
    rw [upd_ne hne]
    exact r.ext.keep a z hz hn
  · refine r.ext.there a ?_
    unfold L2.upd at ha
    split at ha
    · cases ha
    · exact ha
  · have old : ∀ {j : Nat} {y : AV}, (s.set i (.own x'))[j]? = some (.own y) → ∃ y', s[j]? = some (.own y') := fun {j y} e => by
      rw [List.getElem?_set] at e
      by_cases a1 : i = j
      · exact ⟨x, by rw [← a1]; exact ei⟩
      · rw [if_neg a1] at e
        exact ⟨y, e⟩
    obtain ⟨y', e1'⟩ := old e1
    obtain ⟨z', e2'⟩ := old e2
    exact r.apart j k y' z' q hjk e1' e2' e3
/-- a cell: changed -/
theorem Cc.rs_cell {n : Nat} {x x' : AV} {p : Addr} {o : HO} (r : c.Rs W s h σ H) (en : h[n]? = some x) (em : W.mu[n]? = some p) (rc : RC c.K c.T W (upd H p o) x' p) : Mo W H W (upd H p o) ∧ c.Rs W s (h.set n x') σ (upd H p o) := by
  have h5 := r.cell n x p en em
  obtain ⟨o', ho, nt, nf⟩ := h5.some
  have nx : ∀ fs, o' ≠ .xd fs := by
    intro fs z
    subst z
    cases x with
    | lst xs => obtain ⟨_, z, _⟩ := h5; rw [ho] at z; cases z
    | dct t kvs => cases t <;> (obtain ⟨_, z, _⟩ := h5; rw [ho] at z; cases z)
    | obj k fs => obtain ⟨_, _, z, _⟩ := h5; rw [ho] at z; cases z
    | _ => exact h5.elim
  have hm : p ∈ W.mu := List.mem_of_getElem? em
  have nF : ¬ W.F p := fun z => r.fr p z hm
  have m : Mo W H W (upd H p o) := Mo.upd ho nt nf nF
  have hlt : n < h.length := (List.getElem?_eq_some_iff.mp en).1
  refine ⟨m, ⟨by rw [List.length_set]; exact r.len, fun j v a e1 e2 => ?_, r.nd, r.fr, fun a hF => ?_, fun q hq => m.tup _ _ (r.con q hq)⟩, fun j => ?_, ⟨r.ext.mu, r.ext.F, fun a z hz hn => ?_, r.ext.newF, r.ext.newMu, fun a ha => ?_⟩, r.apart, r.self⟩
  · rw [List.getElem?_set] at e1
    by_cases e : n = j
    · subst e
      rw [if_pos rfl, if_pos hlt] at e1
      cases e1
      rw [em] at e2
      cases e2
      exact rc
    · rw [if_neg e] at e1
      refine (r.cell j v a e1 e2).mono m fun z hz => ?_
      have hne : a ≠ p := fun q => by
        subst q
        obtain ⟨l1, g1⟩ := List.getElem?_eq_some_iff.mp em
        obtain ⟨l2, g2⟩ := List.getElem?_eq_some_iff.mp e2
        exact e ((List.getElem_inj r.nd).mp (g1.trans g2.symm))
      rw [upd_ne hne]
      exact hz
  · have hne : a ≠ p := fun q => nF (by rw [← q]; exact hF)
    rw [upd_ne hne]
    exact r.there a hF
  · have q := r.slot j
    cases ej : s[j]? with
    | none =>
      rw [ej] at q
      exact q
    | some z =>
      rw [ej] at q
      cases z with
      | emp => exact q
      | val y =>
        obtain ⟨u, g1, g2⟩ := q
        exact ⟨u, g1, g2.mono m⟩
      | own y =>
        obtain ⟨p', g1, g2, g3, g4, g5⟩ := q
        refine ⟨p', g1, g2, g3, g4, g5.mono m fun z hz => ?_⟩
        have hne : p' ≠ p := fun z => g2 (by rw [z]; exact hm)
        rw [upd_ne hne]
        exact hz
      | exc k fs =>
        obtain ⟨a, d, vs, g1, g2, g3, g4⟩ := q
        have hne : d ≠ p := fun z => by
          rw [z, ho] at g3
          exact nx vs (Option.some.inj g3)
        exact ⟨a, d, vs, g1, g2, by rw [upd_ne hne]; exact g3, g4.mono m⟩
  · have hne : a ≠ p := fun e => by
      subst e
      rcases r.ext.newMu a hm with z2 | z2
      · exact hn z2
      · rw [hz] at z2; cases z2
    rw [upd_ne hne]
    exact r.ext.keep a z hz hn
  · refine r.ext.there a ?_
    unfold L2.upd at ha
    split at ha
    · cases ha
    · exact ha
/-- where a store goes -/
theorem Cc.put_ok {W1 : Wd} {H1 : Hp} {h1 : AH} {i : Nat} {f : AV → Option AV} {D : Ends} {pl : Pl} {h0 : AH} (rs : c.Rs W s h0 σ H) (ep : place (.peek i) s h0 = .ok pl h0) (e : Ext W H W1 H1) (r1 : c.Rs W1 s h1 σ H1) (p : c.poS W1 H1 (pl.put f s h1) D) :
    ∃ a x x', σ[i]? = some (some (.ref a)) ∧ RC c.K c.T W1 H1 x a ∧ ¬ W1.F a ∧ f x = some x' ∧ ∀ o, RC c.K c.T W1 (upd H1 a o) x' a → D.nx σ (upd H1 a o) := by
  have ep : (match s[i]? with
    | some (.own _) => R.ok (Pl.slot i) h0
    | some (.val (.ref n)) => .ok (.cell n) h0
    | _ => .stk) = .ok pl h0 := ep
  cases ei : s[i]? with
  | none => rw [ei] at ep; cases ep
  | some z =>
    rw [ei] at ep
    cases z with
    | own x =>
      cases ep
      have q := r1.slot i
      rw [ei] at q
      obtain ⟨a, g1, g2, g3, g4, g5⟩ := q
      have p : c.poS W1 H1 (match s[i]? with
        | some (.own v) => (match f v with
          | some v' => Out.nx (s.set i (.own v')) h1
          | none => .stk)
        | _ => .stk) D := p
      rw [ei] at p
      cases ef : f x with
      | none => simp only [ef] at p; exact p.elim
      | some x' =>
        simp only [ef] at p
        refine ⟨a, x, x', g1, g5, g3, ef, fun o rc => ?_⟩
        obtain ⟨m, r2⟩ := Cc.rs_own r1 ei g1 rc
        exact p W1 _ σ m r2
    | val v =>
      cases v with
      | ref n =>
        cases ep
        have q := r1.slot i
        rw [ei] at q
        obtain ⟨u, g1, g2⟩ := q
        unfold RA at g2
        obtain ⟨a, g2, rfl⟩ := g2
        have p : c.poS W1 H1 (match h1[n]? with
          | some v => (match f v with
            | some v' => Out.nx s (h1.set n v')
            | none => .stk)
          | none => .stk) D := p
        cases en : h1[n]? with
        | none => rw [en] at p; exact p.elim
        | some x =>
          rw [en] at p
          cases ef : f x with
          | none => simp only [ef] at p; exact p.elim
          | some x' =>
            simp only [ef] at p
            refine ⟨a, x, x', g1, r1.cell n x a en g2, fun z => r1.fr a z (List.mem_of_getElem? g2), ef, fun o rc => ?_⟩
            obtain ⟨m, r2⟩ := Cc.rs_cell r1 en g2 rc
            exact p W1 _ σ m r2
      | _ => cases ep
    | _ => cases ep
end
end AM
/-! Statements that store. -/
namespace AM
open PySem PySem.Spec PyProof.Rows L2
section
variable {c : Cc} {X : Cx} {e o i : Expr} {x k : Ex} {st : Stmt} {pos pos' tpos : Pos}
/-- one slot is told anew by what has come -/
theorem Cc.rs_put {s : Fr} {σ : L2.St} {W W1 : Wd} {H H1 : Hp} {h h1 : AH} {j : Nat} {m fr : Bool} {a : AV} {v : V} (rs : c.Rs W s h σ H) (r1 : c.Rs W1 s h1 σ H1) (w : (m = true ∧ fr = true ∧ c.rF H W1 H1 a v) ∨ (¬ (m = true ∧ fr = true) ∧ RA c.K c.T W1 H1 a v)) (mj : m = true → fr = true → j ≠ 0) : c.Rs W1 (putS s j m fr a) h1 (σ.set j (some v)) H1 := by
  unfold putS
  rcases w with ⟨hm, hf, w⟩ | ⟨hn, w⟩
  · rcases w with ⟨hc, w⟩ | ⟨p, rfl, nm, nF, hn, rc⟩
    · rw [if_neg (fun z => by rw [hc] at z; exact Bool.false_ne_true z.2.2)]
      exact Cc.rs_val r1 w
    · have hc : isCont a = true := by cases a <;> first | rfl | exact rc.elim
      rw [if_pos ⟨hm, hf, hc⟩]
      refine Cc.rs_set r1 ⟨p, rfl, nm, nF, rs.ext.there p hn, rc⟩ (fun y ey l z q hl el eq e2 => ?_) fun e0 => absurd e0 (mj hm hf)
      cases eq
      obtain ⟨o', ho⟩ := Cc.own_some rs el e2
      rw [hn] at ho
      cases ho
  · rw [if_neg (fun z => hn ⟨z.1, z.2.1⟩)]
    exact Cc.rs_val r1 w
theorem s_set {j : Nat} {y : Str} {m : Bool} (mj : m = true → j ≠ 0) (hN : X.N.Nodup) (hi : X.N[j]? = some y) (hx : Loc X.env.scope y) (hf : X.fn y = true ∨ X.env.scope.names.lookup y = some .local) (he : PE X e (c.tX x)) (hs : swapsWith e (some (.Name y pos')) pos.line X.env = pure false) :
    PS X (.Assign [.Name y pos'] e pos) (c.tS (c.xS (.asg (.name j m) x))) := by
  by_cases hq : m = true ∧ isFresh x = true
  · have he : PE X e (c.tF x) := by
      unfold Cc.tX at he
      rw [hq.2] at he
      exact he
    refine PS.imp (ps_set hN hi hx he hs hf) fun D σ H ⟨W, s, h, rs, p⟩ => ?_
    refine ⟨W, s, h, rs, Cc.po_out (Rel := c.rF H) p rs fun W1 H1 v a h1 e1 r1 w1 _ p1 => ?_⟩
    exact Cc.poS_now (s' := putS s j m (isFresh x) a) p1 (Mo.refl' _ _) (Cc.rs_put rs r1 (.inl ⟨hq.1, hq.2, w1⟩) fun z _ => mj z)
  · refine PS.imp (ps_set hN hi hx (tE_of_tX he) hs hf) fun D σ H ⟨W, s, h, rs, p⟩ => ?_
    refine ⟨W, s, h, rs, Cc.po_out (Rel := c.ra) p rs fun W1 H1 v a h1 e1 r1 w1 _ p1 => ?_⟩
    exact Cc.poS_now (s' := putS s j m (isFresh x) a) p1 (Mo.refl' _ _) (Cc.rs_put rs r1 (.inr ⟨hq, w1⟩) fun z _ => mj z)
/-- self.f = e -/
theorem s_fld {j f : Nat} {nm : Str} (hK : X.K = c.K) (inj : ∀ f g, c.T.fnm f = c.T.fnm g → f = g) (hn : c.T.fnm f = nm) (cl : ∀ j, j < c.P.cls.length → Cls c.K (c.T.cadr j) ∧ NoAttr c.K (c.T.cadr j) nm)
    (ho : PE X o (tVar j)) (he : PE X e (c.tE x)) (hs : swapsWith e (some (.Attribute o nm pos')) pos.line X.env = pure false) : PS X (.Assign [.Attribute o nm pos'] e pos) (c.tS (c.xS (.asg (.attr (.peek j) f) x))) := by
  refine PS.imp (ps_fld ho he hs) fun D σ H ⟨W, s, h, rs, p⟩ => ?_
  refine ⟨W, s, h, rs, Cc.po_out (Rel := c.ra) p rs fun W1 H1 v a h1 e1 r1 w1 _ p1 => ?_⟩
  have p1 : c.poS W1 H1 ((place (.peek j) s h1).out s fun pl h => pl.put (fun b => stAttr c.P.cls.length b f a) s h) D := p1
  cases ep : place (.peek j) s h1 with
  | err _ _ =>
    exfalso
    have ep : (match s[j]? with
      | some (.own _) => R.ok (Pl.slot j) h1
      | some (.val (.ref n)) => .ok (.cell n) h1
      | _ => .stk) = _ := ep
    cases ei : s[j]? with
    | none => rw [ei] at ep; cases ep
    | some z =>
      rw [ei] at ep
      cases z with
      | val v => cases v <;> cases ep
      | _ => cases ep
  | stk => rw [ep] at p1; exact p1.elim
  | ok pl h2 =>
    have eh : h2 = h1 := by
      have ep : (match s[j]? with
        | some (.own _) => R.ok (Pl.slot j) h1
        | some (.val (.ref n)) => .ok (.cell n) h1
        | _ => .stk) = _ := ep
      cases ei : s[j]? with
      | none => rw [ei] at ep; cases ep
      | some z =>
        rw [ei] at ep
        cases z with
        | own v => cases ep; rfl
        | val v => cases v <;> cases ep; rfl
        | _ => cases ep
    subst eh
    rw [ep] at p1
    obtain ⟨q, y, y', g1, g2, g3, g4, g5⟩ := Cc.put_ok r1 ep (Ext.refl _ _) r1 p1
    refine ⟨.ref q, g1, ?_⟩
    cases y with
    | obj cc fs =>
      have g4 : (if decide (cc < c.P.cls.length ∧ fs.length < 900) = true then some (AV.obj cc (fPut fs f a)) else none) = some y' := g4
      split at g4
      · rename_i hlt
        have hlt := of_decide_eq_true hlt
        cases g4
        obtain ⟨dx, vs, k1, k2⟩ := g2
        rw [hK]
        refine ⟨q, _, dx, vs, rfl, k1, (cl _ hlt.1).1, (cl _ hlt.1).2, by rw [← k2.len]; omega, g5 _ ?_⟩
        have mu : Mo W1 H1 W1 (upd H1 q (.ins (c.T.cadr cc) dx (putF nm v vs))) := Mo.upd k1 (fun _ z => by cases z) (fun _ _ z => by cases z) g3
        rw [← hn]
        rw [← hn] at mu
        exact ⟨dx, _, upd_same, (RFs.put inj w1 k2).mono mu⟩
      · cases g4
    | _ => cases g4
theorem place_or (j : Nat) (s : Fr) (h : AH) : place (.peek j) s h = .stk ∨ ∃ pl, place (.peek j) s h = .ok pl h := by
  show (match s[j]? with
      | some (.own _) => R.ok (Pl.slot j) h
      | some (.val (.ref n)) => .ok (.cell n) h
      | _ => .stk) = .stk ∨ ∃ pl, (match s[j]? with
      | some (.own _) => R.ok (Pl.slot j) h
      | some (.val (.ref n)) => .ok (.cell n) h
      | _ => .stk) = .ok pl h
  cases s[j]? with
  | none => exact .inl rfl
  | some z =>
    cases z with
    | own v => exact .inr ⟨_, rfl⟩
    | val v => cases v <;> first | exact .inl rfl | exact .inr ⟨_, rfl⟩
    | _ => exact .inl rfl
theorem Cc.place_out {s : Fr} {W : Wd} {H : Hp} {h : AH} {j : Nat} {f : Pl → AH → Out} {D : Ends} (p : c.poS W H ((place (.peek j) s h).out s f) D) : ∃ pl, place (.peek j) s h = .ok pl h ∧ c.poS W H (f pl h) D := by
  rcases place_or j s h with e | ⟨pl, e⟩
  · rw [e] at p
    exact p.elim
  · rw [e] at p
    exact ⟨pl, e, p⟩
theorem Cc.place_ref {s : Fr} {σ : L2.St} {W : Wd} {H : Hp} {h : AH} {j : Nat} {pl : Pl} (r : c.Rs W s h σ H) (ep : place (.peek j) s h = .ok pl h) : ∃ q, σ[j]? = some (some (.ref q)) ∧ (pl.isL s h = true → ∃ vs, H q = some (.lst vs)) := by
  have ep : (match s[j]? with
      | some (.own _) => R.ok (Pl.slot j) h
      | some (.val (.ref n)) => .ok (.cell n) h
      | _ => .stk) = .ok pl h := ep
  have q := r.slot j
  cases ei : s[j]? with
  | none => rw [ei] at ep; cases ep
  | some z =>
    rw [ei] at ep q
    cases z with
    | own v =>
      cases ep
      obtain ⟨p, g1, _, _, _, g5⟩ := q
      refine ⟨p, g1, fun hl => ?_⟩
      have hl : (match s[j]? with
        | some (.own (.lst _)) => true
        | _ => false) = true := hl
      rw [ei] at hl
      cases v with
      | lst xs =>
        obtain ⟨vs, k1, _⟩ := g5
        exact ⟨vs, k1⟩
      | _ => cases hl
    | val v =>
      cases v with
      | ref n =>
        cases ep
        obtain ⟨u, g1, g2⟩ := q
        unfold RA at g2
        obtain ⟨a, g2, rfl⟩ := g2
        refine ⟨a, g1, fun hl => ?_⟩
        have hl : (match h[n]? with
          | some (.lst _) => true
          | _ => false) = true := hl
        cases en : h[n]? with
        | none => rw [en] at hl; cases hl
        | some y =>
          rw [en] at hl
          cases y with
          | lst xs =>
            obtain ⟨vs, k1, _⟩ := r.cell n _ a en g2
            exact ⟨vs, k1⟩
          | _ => cases hl
      | _ => cases ep
    | _ => cases ep
theorem PSet.or {t t' : TSet} (h : PSet X t) (h' : PSet X t') : PSet X (fun o i v H Q => t o i v H Q ∨ t' o i v H Q) := by
  intro pins s σ H o i v ov iv u Q I ro ri rv q
  rcases q with q | q
  · exact h pins s σ H o i v ov iv u Q I ro ri rv q
  · exact h' pins s σ H o i v ov iv u Q I ro ri rv q
/-- o[i] = e -/
theorem s_sub {j : Nat} (hu : X.A.units + 1 < cLine) (ho : PE X o (tVar j)) (hi : PE X i (c.tE k)) (he : PE X e (c.tE x)) (hsl : isSlice i = false) (hs : swapsWithSole [.Subscript o i pos'] e pos.line X.env = pure false) :
    PS X (.Assign [.Subscript o i pos'] e pos) (c.tS (c.xS (.asg (.sub (.peek j) k) x))) := by
  refine PS.imp (ps_asg he (pg_sub ho hi (PSet.or set_list (set_dict hu)) (by intro _; cases i <;> first | rfl | cases hsl)) hs) fun D σ H ⟨W, s, h, rs, p⟩ => ?_
  refine ⟨W, s, h, rs, Cc.po_out (Rel := c.ra) p rs fun W1 H1 v a h1 e1 r1 w1 _ p1 => ?_⟩
  obtain ⟨pl, ep, p1⟩ := Cc.place_out (show c.poS W1 H1 ((place (.peek j) s h1).out s fun pl h => (c.ev k s h).out s fun kk h => pl.put (fun b => stSub b kk a) s h) D from p1)
  obtain ⟨q, g1, _⟩ := Cc.place_ref r1 ep
  refine ⟨.ref q, g1, W1, s, h1, r1, Cc.po_out (Rel := c.ra) p1 r1 fun W2 H2 u kk h2 e2 r2 w2 _ p2 => ?_⟩
  obtain ⟨q', y, y', k1, k2, k3, k4, k5⟩ := Cc.put_ok r1 ep e2 r2 p2
  rw [g1] at k1
  cases k1
  have w1' := w1.mono (Cc.mo r1 e2)
  cases y with
  | lst xs =>
    cases kk with
    | int n =>
      obtain ⟨m, em, rfl⟩ := Option.map_eq_some_iff.mp (show (L2.ixN xs.length n).map (fun j => AV.lst (xs.set j a)) = some y' from k4)
      obtain ⟨vs, l1, l2⟩ := k2
      have mu : Mo W2 H2 W2 (upd H2 q (.lst (vs.set m v))) := Mo.upd l1 (fun _ z => by cases z) (fun _ _ z => by cases z) k3
      exact .inl ⟨q, vs, n, m, rfl, ra_int w2, l1, by rw [← l2.len]; exact em, k5 _ ⟨_, upd_same, (RAs.set w1' m l2).mono mu⟩⟩
    | _ => cases k4
  | dct t kvs =>
    have k4 : (if keyOk t kk = true ∧ szOk kvs.length = true then some (AV.dct t (dPut kvs kk a)) else none) = some y' := by
      cases kk <;> exact k4
    split at k4
    · rename_i hk
      cases k4
      cases t with
      | false =>
        obtain ⟨kv, l1, l2⟩ := k2
        obtain ⟨key, hkey⟩ := keyK_of hk.1
        have mu : Mo W2 H2 W2 (upd H2 q (.dK (putK kv key v))) := Mo.upd l1 (fun _ z => by cases z) (fun _ _ z => by cases z) k3
        exact .inr ⟨q, _, rfl, .inl ⟨kv, key, l1, keyK_v hkey w2, by rw [← l2.len]; exact sz_line' hk.2, rfl⟩, k5 _ ⟨_, upd_same, (l2.put hkey w1').mono mu⟩⟩
      | true =>
        obtain ⟨kv, l1, l2⟩ := k2
        obtain ⟨key, hkey⟩ := keyT_of hk.1
        obtain ⟨b, eb, hb⟩ := keyT_v hkey w2
        have mu : Mo W2 H2 W2 (upd H2 q (.dT (putK kv key v))) := Mo.upd l1 (fun _ z => by cases z) (fun _ _ z => by cases z) k3
        exact .inr ⟨q, _, rfl, .inr ⟨kv, key, b, l1, eb, hb, by rw [← l2.len]; exact sz_line' hk.2, rfl⟩, k5 _ ⟨_, upd_same, (l2.put hkey w1').mono mu⟩⟩
    · cases k4
  | _ => cases kk <;> cases k4
/-- o.append(e) -/
theorem s_app {j : Nat} {apos cpos : Pos} (ho : PE X o (tVar j)) (he : PE X e (c.tE x)) (hb : isCall o = false) (h1 : isStar e = false) (hl : (apos.endLine == cpos.line) = true) :
    PS X (.Expr (.Call (.Attribute o "append" apos) [e] [] cpos) pos) (c.tS (c.xS (.app (.peek j) x))) := by
  refine PS.imp (ps_expr (pe_bm PySem.F.plainAttrs_list PySem.F.slot_list_append PySem.F.type_list_append mt_append ho (pa_cons he pa_nil (star_cons h1)) (base_of hb) (by rw [star_cons h1]; rfl) hl (star_cons h1) (star_none (by rfl)))) fun D σ H ⟨W, s, h, rs, p⟩ => ?_
  obtain ⟨pl, ep, p1⟩ := Cc.place_out (show c.poS W H ((place (.peek j) s h).out s fun pl h => if pl.isL s h = true then (c.ev x s h).out s fun y h => pl.put (stApp y) s h else .stk) D from p)
  obtain ⟨q, g1, g2⟩ := Cc.place_ref rs ep
  by_cases hL : pl.isL s h = true
  · rw [if_pos hL] at p1
    obtain ⟨vs0, hv0⟩ := g2 hL
    refine ⟨.ref q, g1, .inl ⟨rfl, vs0, SqL.of hv0⟩, W, s, h, rs, Cc.po_out (Rel := c.ra) p1 rs fun W2 H2 u kk h2 e2 r2 w2 _ p2 => ?_⟩
    obtain ⟨q', y, y', k1, k2, k3, k4, k5⟩ := Cc.put_ok rs ep e2 r2 p2
    rw [g1] at k1
    cases k1
    cases y with
    | lst xs =>
      have k4 : (if szOk xs.length = true then some (AV.lst (xs ++ [kk])) else none) = some y' := k4
      split at k4
      · rename_i hz
        cases k4
        obtain ⟨vs, l1, l2⟩ := k2
        have mu : Mo W2 H2 W2 (upd H2 q (.lst (vs ++ [u]))) := Mo.upd l1 (fun _ z => by cases z) (fun _ _ z => by cases z) k3
        exact ⟨q, vs, u, rfl, rfl, l1, by rw [← l2.len]; exact sz_line' hz, k5 _ ⟨_, upd_same, (RAs.app l2 (RAs.cons w2 RAs.nil)).mono mu⟩⟩
      · cases k4
    | _ => cases k4
  · rw [if_neg hL] at p1
    exact p1.elim
end
end AM
/-! Two stores at once. -/
namespace AM
open PySem PySem.Spec PyProof.Rows L2
def Cc.wM (c : Cc) (m fr : Bool) (Hs : Hp) : Wd → Hp → AV → V → Prop := fun W H a v => (m = true ∧ fr = true ∧ c.rF Hs W H a v) ∨ (¬ (m = true ∧ fr = true) ∧ RA c.K c.T W H a v)
def Cc.tM (c : Cc) (m : Bool) (x : Ex) : TE := fun σ H Q => ∃ W s h, c.Rs W s h σ H ∧ c.po s σ W H (c.wM m (isFresh x) H) (c.ev x s h) Q
section
variable {c : Cc} {X : Cx} {e a b : Expr} {x y : Ex} {pos : Pos}
theorem tM_of_tX {m : Bool} (he : PE X e (c.tX x)) : PE X e (c.tM m x) := by
  by_cases hq : m = true ∧ isFresh x = true
  · have he : PE X e (c.tF x) := by
      unfold Cc.tX at he
      rw [hq.2] at he
      exact he
    exact PE.imp he fun σ H Q ⟨W, s, h, rs, p⟩ => ⟨W, s, h, rs, Cc.po_rel p fun _ _ _ _ _ _ w => .inl ⟨hq.1, hq.2, w⟩⟩
  · exact PE.imp (tE_of_tX he) fun σ H Q ⟨W, s, h, rs, p⟩ => ⟨W, s, h, rs, Cc.po_rel p fun _ _ _ _ _ _ w => .inr ⟨hq, w⟩⟩
theorem evL2 {P : Prg} {cal ini} {x y : Ex} (hx : noStar x = x) (hy : noStar y = y) (s : Fr) (h : AH) : evL P cal ini [x, y] s h = (evE P cal ini x s h).bnd fun v h => (evE P cal ini y s h).bnd fun u h => .ok [v, u] h := by
  have e1 : ∀ s h, evL P cal ini [y] s h = (evE P cal ini y s h).bnd fun v h => .ok [v] h := by
    intro s h
    cases y <;> first | rfl | cases hy
  have e : evL P cal ini [x, y] s h = (evE P cal ini x s h).bnd fun v h => (evL P cal ini [y] s h).bnd fun vs h => .ok (v :: vs) h := by
    cases x <;> first | rfl | cases hx
  rw [e]
  cases evE P cal ini x s h with
  | ok v h1 =>
    show ((evL P cal ini [y] s h1).bnd fun vs h => .ok (v :: vs) h) = (evE P cal ini y s h1).bnd fun u h => .ok [v, u] h
    rw [e1]
    cases evE P cal ini y s h1 <;> rfl
  | err _ _ => rfl
  | stk => rfl
/-- n, m = a, b -/
theorem s_par {i j : Nat} {m m2 : Bool} (mi : m = true → i ≠ 0) (mj : m2 = true → j ≠ 0) {u w : Str} {px py pt : Pos} {kt k2 pt2} (hc : X.calm = true) (hN : X.N.Nodup) (hi : X.N[i]? = some u) (hj : X.N[j]? = some w) (hij : i ≠ j)
    (hx : X.env.scope.names.lookup u = some .local) (hy : X.env.scope.names.lookup w = some .local) (ha : PE X a (c.tX x)) (hb : PE X b (c.tX y)) (sx : noStar x = x) (sy : noStar y = y) (h1 : isStar a = false) (h2 : isStar b = false)
    (hw : swappedStores [.Tuple [.Name u px, .Name w py] kt pt] (.Tuple [a, b] k2 pt2) X.env = pure (some [u, w])) :
    PS X (.Assign [.Tuple [.Name u px, .Name w py] kt pt] (.Tuple [a, b] k2 pt2) pos) (c.tS (c.xS (.par [.name i m, .name j m2] [x, y]))) := by
  refine PS.imp (ps_par hc hN hi hj hij hx hy (pa_cons (tM_of_tX (m := m) ha) (pa_cons (tM_of_tX (m := m2) hb) pa_nil (star_cons h2)) (star_cons h1)) hw) fun D σ H ⟨W, s, h, rs, p⟩ => ?_
  have p : c.poS W H ((evL c.P c.cal c.ini [x, y] s h).out s fun vs h => stPar c.P c.cal c.ini [.name i m, .name j m2] (vs.zip [isFresh x, isFresh y]) s h) D := p
  rw [evL2 sx sy] at p
  have p : c.poS W H ((c.ev x s h).out s fun v h => (c.ev y s h).out s fun z h => .nx (putS (putS s i m (isFresh x) v) j m2 (isFresh y) z) h) D := by
    change c.poS W H (R.out ((c.ev x s h).bnd _) s _) D at p
    cases hx : c.ev x s h with
    | ok v h1 =>
      rw [hx] at p
      change c.poS W H (R.out ((c.ev y s h1).bnd _) s _) D at p
      change c.poS W H ((c.ev y s h1).out s _) D
      cases hy : c.ev y s h1 with
      | ok z h2 => rw [hy] at p; exact p
      | err _ _ => rw [hy] at p; exact p
      | stk => rw [hy] at p; exact p
    | err _ _ => rw [hx] at p; exact p
    | stk => rw [hx] at p; exact p
  refine ⟨W, s, h, rs, Cc.po_out (Rel := c.wM m (isFresh x) H) p rs fun W1 H1 v1 a1 h1 e1 r1 w1 _ p1 => ?_⟩
  refine ⟨W1, s, h1, r1, Cc.po_out (Rel := c.wM m2 (isFresh y) H1) p1 r1 fun W2 H2 v2 a2 h2 e2 r2 w2 _ p2 => ?_⟩
  have rA := Cc.rs_put (j := i) rs r1 w1 fun z _ => mi z
  have rB := Cc.rs_behind rA e2 r2.toRH
  exact ⟨v1, v2, rfl, Cc.poS_now p2 (Mo.refl' _ _) (Cc.rs_put (j := j) rA rB w2 fun z _ => mj z)⟩
/-! ### targets of any form -/
/-- what is stored at once, with no error on the way -/
def Cc.gS (c : Cc) (t : Tg) : TG := fun v σ H Q => ∃ W s h x, c.Rs W s h σ H ∧ RA c.K c.T W H x v ∧ c.poS W H (stT c.P c.cal c.ini t false x s h) ⟨Q, fun _ _ => True, fun _ _ => True, fun _ _ => True⟩
def Cc.gSs (c : Cc) (ts : List Tg) : TGs := fun vs σ H Q => ∃ W s h xs, c.Rs W s h σ H ∧ RAs c.K c.T W H xs vs ∧ c.poS W H (stTs c.P c.cal c.ini ts xs s h) ⟨Q, fun _ _ => True, fun _ _ => True, fun _ _ => True⟩
theorem s_gName {u : Str} {i : Nat} {m : Bool} {pos : Pos} (hN : X.N.Nodup) (hi : X.N[i]? = some u) (hx : Loc X.env.scope u) (hf : X.fn u = true ∨ X.env.scope.names.lookup u = some .local) : PG X (.Name u pos) (c.gS (.name i m)) := by
  refine PG.imp (pg_name hN hi hx hf) fun v σ H Q ⟨W, s, h, z, rs, w, p⟩ => ?_
  exact Cc.poS_now (s' := putS s i m false z) p (Mo.refl' _ _) (Cc.rs_put (fr := false) rs rs (.inr ⟨fun q => Bool.false_ne_true q.2, w⟩) fun _ z => Bool.noConfusion z)
theorem s_gNil : PGs X [] (c.gSs []) := by
  refine PGs.imp pgs_nil fun vs σ H Q ⟨W, s, h, xs, rs, w, p⟩ => ?_
  cases xs with
  | nil => exact ⟨ras0 w, Cc.poS_now p (Mo.refl' _ _) rs⟩
  | cons _ _ => exact p.elim
theorem s_gCons {e : Expr} {es : List Expr} {t : Tg} {ts : List Tg} (h1 : PG X e (c.gS t)) (h2 : PGs X es (c.gSs ts)) (hs : (assignEach (e :: es) X.env).map (·.2) = assign e X.env :: (assignEach es X.env).map (·.2)) : PGs X (e :: es) (c.gSs (t :: ts)) := by
  refine PGs.imp (pgs_cons h1 h2 hs) fun vs σ H Q ⟨W, s, h, xs, rs, w, p⟩ => ?_
  cases xs with
  | nil => exact p.elim
  | cons z zs =>
    unfold RAs at w
    obtain ⟨v, r, rfl, w1, w2⟩ := w
    have p : c.poS W H ((stT c.P c.cal c.ini t false z s h).then_ fun s h => stTs c.P c.cal c.ini ts zs s h) ⟨Q, fun _ _ => True, fun _ _ => True, fun _ _ => True⟩ := p
    refine ⟨v, r, rfl, W, s, h, z, rs, w1, ?_⟩
    cases ho : stT c.P c.cal c.ini t false z s h with
    | nx s1 h1 =>
      rw [ho] at p
      exact fun W' H' σ' m' r' => ⟨W', s1, h1, zs, r', w2.mono m', Cc.poS_shift m' p⟩
    | bk _ _ => rw [ho] at p; exact p
    | ct _ _ => rw [ho] at p; exact p
    | rt _ _ _ => rw [ho] at p; exact p
    | er _ _ _ => rw [ho] at p; exact p
    | stk => rw [ho] at p; exact p
theorem s_gTup {es : List Expr} {ts : List Tg} {kk} {pos : Pos} (hK : X.K = c.K) (hc : X.calm = true) (h : PGs X es (c.gSs ts)) (hn : (assignEach es X.env).length = ts.length) (hst : (assignEach es X.env).findIdx? (·.1) = none) : PG X (.Tuple es kk pos) (c.gS (.tup ts)) := by
  refine PG.imp (pg_tup (n := ts.length) hc h hn hst) fun v σ H Q ⟨W, s, hh, x, rs, w, p⟩ => ?_
  cases x with
  | tup xs =>
    obtain ⟨a, vs, rfl, h1, h2⟩ := ra_tup w
    have p : c.poS W H (if xs.length = ts.length then stTs c.P c.cal c.ini ts xs s hh else .stk) ⟨Q, fun _ _ => True, fun _ _ => True, fun _ _ => True⟩ := p
    by_cases hl : xs.length = ts.length
    · rw [if_pos hl] at p
      rw [hK]
      exact ⟨a, vs, rfl, SqT.of h1, by rw [← h2.len]; exact hl, W, s, hh, xs, rs, h2, p⟩
    · rw [if_neg hl] at p
      exact p.elim
  | _ => exact p.elim
end
end AM
/-! Own exception classes whose __init__ calls that of the class above, then sets one field. -/
namespace AM
open PySem PySem.Spec PyProof.Rows L2
section
variable {X : Cx} {e : Expr} {es : List Expr} {ta : TA} {p1 p2 pos : Pos} {x : Str} {WE : Addr} {mc : Value}
theorem pe_oinit {pl : Sem Bool} (hg : Gl X x) (hm : X.mg x = some (.ref WE)) (hdb : (x == ("__debug__" : Str)) = false) (rd : PySem.W.readsIn X.K WE mc = true) (ga : PySem.W.specialIn X.K (.ref WE) "__getattribute__" = some (some (.builtin "type.__getattribute__")))
    (at_ : PySem.W.findCls X.K (.ref WE) mc "__init__" = some (.val (.builtin "ValueError.__init__"))) (ha : PA X (e :: es) ta)
    (hc : eval (.Call (.Attribute (.Name x p1) "__init__" p2) (e :: es) [] pos) X.env = (do
      let ov ← eval (.Name x p1) X.env
      standAt p2.atName
      let (f, first) ← holding [ov] (getMethod ov "__init__" pl)
      callWith pos f first (backTo pos (starEach (e :: es) X.env)) (backToKw pos (keywordEach [] X.env))))
    (he : starEach (e :: es) X.env = (false, eval e X.env) :: starEach es X.env) (hpl : (backTo pos (starEach es X.env)).any (·.1) = false) :
    PE X (.Call (.Attribute (.Name x p1) "__init__" p2) (e :: es) [] pos) (tVeI X.K ta) := by
  refine ⟨fun pins s σ H Q I h => ?_⟩
  refine PySem.W.methodCall_KW (ld_glob I hg hm ?_ hdb) hc
  refine PySem.W.method_cls I.kIn ga (PySem.W.cls_value I.kIn rd at_ (by decide +kernel) ?_)
  show wpAny _ _ (callWith pos (Value.builtin "ValueError.__init__") [] (backTo pos (starEach (e :: es) X.env)) []) _ _ _
  refine PyProof.Rows.callWith_method1 (thn (ha.run pos pins _ σ H _ (I.tok _) h) fun us s1 ⟨vs, H1, I1, r1, a, C, ws, ev, hl, T, ea, q⟩ => ?_) he hpl
  subst ev
  cases r1 with
  | @cons _ u0 _ ur ra rw' =>
    obtain rfl : u0 = Value.ref a := ra
    have hlen : ur.length ≤ sizeLine := by
      rw [← Paired.length rw', sizeLine_eq]
      omega
    exact oinit_ok T I1 ea hlen fun s' J => ⟨.non, H1, J, rfl, q⟩
end
/-- what such an __init__ promises -/
def spEx (C : Addr) (f : Str) : Sp := fun vs H Q _ => ∃ a v, vs = [.ref a, v] ∧ H a = some (exo a C none) ∧ ∀ dx, H dx = none → dx ≠ a → Q .non (upd (upd H dx (exd dx [(f, v)])) a (exo a C (some dx)))
/-- the text of such a class, as it stands -/
structure ExTxt (K : PySem.W.Frag) (mg : Str → Option Value) (C fI : Addr) (fd : FuncData) (f : Str) : Prop where
  T : OexC K C
  iC : PySem.W.findIn K (.ref C) "__init__" = some (some (.ref fI))
  tI : PySem.W.typeIn K (.ref fI) = some (.type "function")
  no : PySem.W.findIn K (.ref C) f = some none
theorem fn_ex {P : Program} {w : World} {K : PySem.W.Frag} {mg : Str → Option Value} {base : Heap} {fI C WE : Addr} {name qual x f W msg : Str} {params : Arguments} {scope : Scope} {dV kV doc pm cdv ct oc mc : Value} {an od : Option Addr} {osl : Array (Option Value)} {j : Nat} {p1 p2 p3 p4 p5 p6 p7 p8 p9 p10 : Pos}
    (lk : K.lookup fI = some ⟨oc, od, .func (PySem.W.fnOf name qual params [.Expr (.Call (.Attribute (.Name W p1) "__init__" p2) [.Name "self" p3, .Constant (.str msg) j p4] [] p5) p6, .Assign [.Attribute (.Name "self" p7) f p8] (.Name x p9) p10] scope dV kV doc pm an cdv ct), osl⟩)
    (hcd : PySem.W.codeIn K cdv qual = true) (S : FnScope ["self", x] ["self", x] scope) (T : OexC K C) (no : PySem.W.findIn K (.ref C) f = some none) (hgW : scope.names.lookup W = some .globalImplicit) (hdW : (W == ("__debug__" : Str)) = false) (hmW : mg W = some (.ref WE))
    (hx1 : (x == ("__debug__" : Str)) = false) (hx2 : (x == ("__classdict__" : Str)) = false) (rd : PySem.W.readsIn K WE mc = true) (ga : PySem.W.specialIn K (.ref WE) "__getattribute__" = some (some (.builtin "type.__getattribute__")))
    (at_ : PySem.W.findCls K (.ref WE) mc "__init__" = some (.val (.builtin "ValueError.__init__")))
    (hcE : ∀ env : Env, ∃ pl : Sem Bool, eval (.Call (.Attribute (.Name W p1) "__init__" p2) [.Name "self" p3, .Constant (.str msg) j p4] [] p5) env = (do
      let ov ← eval (.Name W p1) env
      standAt p2.atName
      let (f, first) ← holding [ov] (getMethod ov "__init__" pl)
      callWith p5 f first (backTo p5 (starEach [.Name "self" p3, .Constant (.str msg) j p4] env)) (backToKw p5 (keywordEach [] env)))) :
    FnOk P w K mg base (L2.CX P w) 1 fI (PySem.W.fnOf name qual params [.Expr (.Call (.Attribute (.Name W p1) "__init__" p2) [.Name "self" p3, .Constant (.str msg) j p4] [] p5) p6, .Assign [.Attribute (.Name "self" p7) f p8] (.Name x p9) p10] scope dV kV doc pm an cdv ct) ["self", x] (spEx C f) := by
  refine fn_of lk hcd S (fun vs H Q E h => ?_) (fun A outer s H vs Q E hr h => ?_)
  · obtain ⟨a, v, e, _⟩ := h
    rw [e]
    rfl
  · obtain ⟨a, v, e, ea, q⟩ := h
    subst e
    have vis : ∀ y ∈ [("self" : Str), x], Vis scope y := fun y hy => by
      rcases S.par y hy with z | z
      · exact .inl z
      · exact .inr (.inl z)
    obtain ⟨pl, hpl⟩ := hcE (envOfC qual scope s.heap.objs.size fI cdv)
    refine ⟨_, pss_cons (ps_expr (pe_oinit (WE := WE) (mc := mc) hgW hmW hdW rd ga at_ (pa_cons (pe_var (i := 0) rfl (vis _ (List.Mem.head _))) (pa_cons pe_str pa_nil rfl) rfl) hpl rfl rfl) rfl) (pss_one (ps_ost (pe_var (i := 0) rfl (vis _ (List.Mem.head _))) (pe_var (i := 1) rfl (vis _ (List.Mem.tail _ (List.Mem.head _))) hx1 hx2) rfl)), ?_⟩
    · refine ⟨.ref a, rfl, a, C, [.str msg], rfl, by show 1 ≤ 1000; omega, T, ea, ?_⟩
      refine ⟨v, rfl, .ref a, rfl, a, C, rfl, T, no, .inl ⟨ea, fun dx h1 h2 => q dx h1 h2⟩⟩
section
variable {c : Cc} {X : Cx} {e : Expr} {xe : Ex} {x p fnm : Str} {pos cpos ppos : Pos} {C fI : Addr} {fd : FuncData} {nm : Str}
/-- raise C(e), C such a class -/
theorem s_raise {ci f : Nat} (hc : X.calm = true) (tk : Takes X c.wx) (hC : c.T.cadr ci = C) (hf : c.T.fnm f = nm) (T : OexC X.K C) (iC : PySem.W.findIn X.K (.ref C) "__init__" = some (some (.ref fI))) (tI : PySem.W.typeIn X.K (.ref fI) = some (.type "function"))
    (F1 : FnOk X.prog X.w X.K X.mg X.base (L2.CX X.prog X.w) 1 fI fd ["self", p] (spEx C nm)) (hr : Room 2 X.A) (hb : L2.Binds X.K fd ["self", p] []) (hg : Gl X x) (hm : X.mg x = some (.ref C)) (hdb : (x == ("__debug__" : Str)) = false) (h1 : isStar e = false) (he : PE X e (c.tE xe)) :
    PS X (.Raise (some (.Call (.Name x ppos) [e] [] cpos)) none pos) (c.tS (c.xS (.raise ci f xe))) := by
  have pm := pmk_oex (pos := cpos) (p := ppos) T iC tI F1 hr hb Paired.nil (fun pins σ H s err s' I z => by
    obtain ⟨_, _, _, _, _, _, _, _, _, _, _, _, w⟩ := z
    exact w.elim) hg hm (pa_cons he pa_nil (star_cons h1)) hdb (star_cons h1) (star_none (by rfl))
  refine PS.imp (ps_raise hc tk pm) fun D σ H ⟨W, s, h, rs, q⟩ => ?_
  refine ⟨W, s, h, rs, Cc.po_out (Rel := c.ra) q rs fun W1 H1 v a h1 e1 r1 w1 _ p1 => ?_⟩
  refine ⟨by show 1 ≤ 1000; omega, fun b hb => ⟨b, v, rfl, upd_same, fun dx hd hne => ⟨rfl, dx, [(nm, v)], upd_same, by rw [upd_ne hne, upd_same], ?_, ?_⟩⟩⟩
  · rw [upd_ne hne] at hd
    exact hd
  · rw [upd_ne hne] at hd
    have eH : upd (L2.del (upd (upd (upd H1 b (exo b C none)) dx (exd dx [(nm, v)])) b (exo b C (some dx))) b) dx (.xd [(nm, v)]) = upd H1 dx (.xd [(nm, v)]) := by
      funext z
      by_cases z1 : z = dx
      · rw [z1, upd_same, upd_same]
      · rw [upd_ne z1, upd_ne z1]
        by_cases z2 : z = b
        · rw [z2, L2.del_same, hb]
        · rw [L2.del_ne z2, upd_ne z2, upd_ne z1, upd_ne z2]
    rw [eH, ← hC]
    have p1 : c.poS W1 H1 (.er ⟨ci, [(f, a)]⟩ s h1) D := p1
    refine p1 W1 _ σ dx [(nm, v)] (Cc.mo r1 (Ext.laid hd)) (Cc.rs_laid r1 hd) upd_same ?_
    unfold RFs
    exact ⟨v, [], by rw [hf], w1.mono (Cc.mo r1 (Ext.laid hd)), by unfold RFs; rfl⟩
end
end AM
/-! try with several clauses «except C as n». -/
namespace L2
open PySem PySem.Spec PyProof.Rows
/-- a clause: its class, its name's slot, its suite's reading -/
abbrev Clause := Value × Nat × (Addr → Value → Option Addr → TS)
def offD (i : Nat) (D : Ends) : Ends := { nx := fun σ' H' => D.nx (σ'.set i none) H', rt := D.rt, bk := fun σ' H' => D.bk (σ'.set i none) H', ct := fun σ' H' => D.ct (σ'.set i none) H' }
/-- what the clauses wish, one behind the other -/
def wAll (K : PySem.W.Frag) (Wout : WX) (D : Ends) : List Clause → WX
  | [] => Wout
  | (c, i, ts) :: r => fun cls d σ H => ∃ b, PySem.W.exmOne K cls c = some b ∧ (b = true → ∀ a, H a = none → ts a cls d (offD i D) (σ.set i (some (.ref a))) H) ∧ (b = false → wAll K Wout D r cls d σ H)
inductive HdsAs (X : Cx) : List ExceptHandler → List Clause → Prop
  | nil : HdsAs X [] []
  | cons {x n : Str} {c : Value} {i : Nat} {ts : Addr → Value → Option Addr → TS} {b₀ : Stmt} {suite : List Stmt} {np pos' : Pos} {hds : List ExceptHandler} {l : List Clause} (hc : Names X x c) (hi : X.N[i]? = some n) (hln : X.env.kindOf n = some .local)
      (hsu : ∀ (a : Addr) (oe : Obj) (cls : Value) (d : Option Addr) (pn : List (Addr × Obj)), Zc cls d oe → (∃ vs, oe.data = .fields vs) → PSs (X.suite a ((a, oe) :: pn)) (b₀ :: suite) (ts a cls d)) (r : HdsAs X hds l) :
      HdsAs X (.ExceptHandler (some (.Name x np)) (some n) (b₀ :: suite) pos' :: hds) ((c, i, ts) :: l)
section
variable {X : Cx} {body : List Stmt} {h₀ : ExceptHandler} {hds : List ExceptHandler} {l : List Clause} {pos : Pos} {tb : WX → TS} {Wout : WX}
theorem ps_try_all (hs : X.stack = X.env :: X.outer) (hf : X.env.frame = some X.env.locals) (hN : X.N.Nodup) (tk : Takes X Wout)
    (hb : ∀ (W : WX) (pn : List (Addr × Obj)) (xe : Value → Shared → Prop), Takes (X.tr pn xe) W → PassesOwn (model X.prog X.w) X.A X.env xe → PSs (X.tr pn xe) body (tb W))
    (hh : HdsAs X (h₀ :: hds) l) : PS X (.Try body (h₀ :: hds) [] [] pos) (fun D σ H => tb (wAll X.K Wout D l) D σ H) := by
  refine ⟨fun pins s σ H D I h => ?_⟩
  have ok := I.ok
  have hfr : X.A.frames = some (X.env :: X.outer) := by rw [ok.frames, hs]
  refine wpAny_Try_except ?_
  refine wpAny_mono ((hb (wAll X.K Wout D l) (X.pn ++ pins) (fun e s₁ => wpAny (model X.prog X.w) X.A (noteFrame e X.env) (fun _ s₂ => wpAny (model X.prog X.w) X.A (setFlight e none) (fun _ s₃ =>
    wpAny (model X.prog X.w) X.A (handleBy e X.env (h₀ :: hds)) (SP X pins D) X.xe s₃) X.xe s₂) X.xe s₁) (fun u s' xx => ?_) PassesOwn.looking).run [] s σ H D (I.toTry _) h) (fun f s1 hsp => ?_) (fun e s1 he => he)
  · obtain ⟨a, B, sI, pins', σ', H', cls, d, rfl, J', nb, up, sky, na, os, ag, w⟩ := xx
    have J : Inv X pins σ' H' sI := J'.ofTry ok
    have sky' : Sky B (X.env :: X.outer) a (Zc cls d) X.env.locals s'.heap := by rw [← hs]; exact sky
    show wpAny (model X.prog X.w) X.A (noteFrame (.ref a) X.env) _ _ _
    refine Sky.land Zc.steady hfr hf sky' fun h3 fl3 up3 => ?_
    have J3 : Inv X pins σ' H' { s' with heap := h3 } := J.landed nb fl3.1 (up.trans up3) os ag
    obtain ⟨oe3, vs3, he3, hz3, hd3⟩ := fl3.there
    have notFr : ∀ {h : Heap} {o : Obj} {vs : Array Value}, h.FunFrames B (X.env :: X.outer) → h.get? a = some o → o.data = .fields vs → a ∉ frs (X.env :: X.outer) := fun {h o vs} ff e dd hm => by
      obtain ⟨_, o', e', hnf⟩ := ff.mem hm
      rw [e] at e'; cases e'
      exact hnf _ dd
    have nfr := notFr fl3.2.2.1 he3 hd3
    have nL : a ≠ X.env.locals := fun z => nfr (List.mem_filterMap.mpr ⟨X.env, List.mem_cons_self, by rw [hf, z]⟩)
    have nF : a ∉ X.fs := fun hm => by
      obtain ⟨e, he, q⟩ := List.mem_filterMap.mp hm
      exact nfr (List.mem_filterMap.mpr ⟨e, List.mem_cons_of_mem _ he, q⟩)
    have S3 := J3.suite he3 hd3 na nL nF
    have go : ∀ {hds' : List ExceptHandler} {l' : List Clause}, HdsAs X hds' l' → wAll X.K Wout D l' cls d σ' H' →
        wpAny (model X.prog X.w) X.A (handleBy (.ref a) X.env hds') (SP X pins D) X.xe { s' with heap := h3 } := by
      intro hds' l' hk
      induction hk with
      | nil =>
        intro w
        refine wpAny_handleBy_nil ?_
        obtain ⟨k1, k2, k3, oe, vs, T, oT, ts', he, hz, hd, h1, hr⟩ := id fl3
        unfold PySem.passOn
        refine wpAny_bind (wpAny_field he hd h1 ?_)
        rw [if_neg (show ¬ ((Value.ref T == Value.none) = true) from by simp)]
        have fin : wpAny (model X.prog X.w) X.A (setFlight (.ref a) X.env.frame) (fun _ s4 => wpAny (model X.prog X.w) X.A (throw (.ref a) : Sem Flow) (SP X pins D) X.xe s4) X.xe { s' with heap := h3 } := by
          rw [hf]
          refine HandSPX.setFlight_upZ fl3 fun h4 hh4 up4 => wpAny_throw (tk _ _ ?_)
          exact ⟨a, B, sI, pins, σ', H', cls, d, rfl, J, nb, (up.trans up3).trans up4, .inr (.inr (by rw [hs]; exact hh4)), na, os, ag, w⟩
        first
          | exact wpAny_bind (wpAny_pure (wpAny_bind fin))
          | exact wpAny_bind fin
      | @cons x n c i ts b₀ suite np pos' hds2 l2 hc hi hln hsu r ih =>
        intro w
        have hloc : Loc X.env.scope n := .inl hln
        obtain ⟨b, hb1, hyes, hno⟩ := w
        refine wpAny_handleBy_cons (codeAny_handlers_test ?_) (by intro q; cases q)
        have LT : PySem.W.Looks (model X.prog X.w) h3 (typeOf (.ref a)) cls := fun A Q E s k q => wpAny_typeOf_ref (k _ _ he3) (by rw [hz3.1]; exact q)
        have LM := PySem.W.exm_one (M := model X.prog X.w) (J3.kIn) LT hb1
        have test : ∀ {Q : Value → Shared → Prop} {E : Value → Shared → Prop}, Q c { s' with heap := h3 } → wpAny (model X.prog X.w) (X.A.mark (some (.ref a))) (eval (.Name x np) X.env) Q E { s' with heap := h3 } := fun {Q E} q => by
          obtain ⟨hg, hdbg, hm | ⟨hm, hv, hnn⟩⟩ := hc
          · exact ld_glob (X := X.suite a ((a, oe3) :: (X.pn ++ pins))) S3 hg hm q hdbg
          · exact ld_blt (X := X.suite a ((a, oe3) :: (X.pn ++ pins))) S3 hg hm hv q hnn hdbg
        refine test (LM.here ?_)
        cases b with
        | true =>
          refine codeAny_handlers_suite_as ?_
          refine HandSPX.lands_againZ fl3 fun h4 fl4 up4 => ?_
          have J4 : Inv X pins σ' H' { s' with heap := h4 } := J.landed nb fl4.1 ((up.trans up3).trans up4) os ag
          obtain ⟨oe4, vs4, he4, hz4, hd4⟩ := fl4.there
          have S4 := J4.suite he4 hd4 na nL nF
          refine store_ok (X := X.suite a ((a, oe4) :: (X.pn ++ pins))) (v := .ref a) S4 hN hi hloc rfl (fun s5 S5 => ?_) (.inr hln)
          refine wpAny_mono ((hsu a oe4 cls d (X.pn ++ pins) hz4 ⟨_, hd4⟩).run [] s5 _ H' _ S5 (hyes rfl a na)) (fun f s6 hsp => ?_) (fun _ _ z => False.elim z)
          have end_ : ∀ {σ6 : St} {H6 : Hp} {Q : Shared → Prop}, Inv (X.suite a ((a, oe4) :: (X.pn ++ pins))) [] σ6 H6 s6 → (∀ s7, Inv X pins (σ6.set i none) H6 s7 → Q s7) →
              wpAny (model X.prog X.w) X.A (do bindName X.env n .none; unbindBehindTheSuite X.env n pos') (fun _ s7 => Q s7) X.xe s6 := fun {σ6 H6 Q} S6 hq => gone_ok (S6.unsuite ok) hN hi hln hq
          cases f with
          | next =>
            obtain ⟨σ6, H6, S6, q6⟩ := hsp
            exact end_ S6 fun s7 J7 => ⟨_, _, J7, q6⟩
          | brk =>
            obtain ⟨σ6, H6, S6, q6⟩ := hsp
            exact end_ S6 fun s7 J7 => ⟨_, _, J7, q6⟩
          | cont =>
            obtain ⟨σ6, H6, S6, q6⟩ := hsp
            exact end_ S6 fun s7 J7 => ⟨_, _, J7, q6⟩
          | ret u =>
            obtain ⟨v6, σ6, H6, S6, r6, q6⟩ := hsp
            exact end_ S6 fun s7 J7 => ⟨_, _, _, J7, r6, q6⟩
        | false =>
          show wpAny _ X.A (handleBy (.ref a) X.env hds2) _ _ _
          exact ih (hno rfl)
    exact go hh w
  · cases f with
    | next =>
      obtain ⟨σ', H', J', q⟩ := hsp
      exact wpAny_execs_nil ⟨σ', H', J'.ofTry ok, q⟩
    | brk =>
      obtain ⟨σ', H', J', q⟩ := hsp
      exact ⟨σ', H', J'.ofTry ok, q⟩
    | cont =>
      obtain ⟨σ', H', J', q⟩ := hsp
      exact ⟨σ', H', J'.ofTry ok, q⟩
    | ret u =>
      obtain ⟨v, σ', H', J', r, q⟩ := hsp
      exact ⟨v, σ', H', J'.ofTry ok, r, q⟩
end
end L2
/-! try. -/
namespace AM
open PySem PySem.Spec PyProof.Rows L2
def Cc.wish (c : Cc) (W : WX) : Cc := { c with wx := W }
def Cc.sui (c : Cc) (a d : Addr) : Cc := { c with wx := fun _ _ _ _ => False, xa := some (a, d) }
section
variable {c : Cc} {s : Fr} {σ : L2.St} {W : Wd} {H : Hp} {h : AH}
theorem noExc_at {s : Fr} (h : noExc s = true) {i : Nat} {k : Nat} {fs : List (Nat × AV)} : s[i]? ≠ some (.exc k fs) := fun e => by
  have := List.all_eq_true.mp h _ (List.mem_of_getElem? e)
  cases this
/-- a frame without an exception: whatever the exception is -/
theorem Cc.rs_xa {xa xa' : Option (Addr × Addr)} {wx wx' : WX} (r : ({ c with xa := xa, wx := wx } : Cc).Rs W s h σ H) (ne : ∀ (i k : Nat) (fs : List (Nat × AV)), s[i]? ≠ some (.exc k fs)) : ({ c with xa := xa', wx := wx' } : Cc).Rs W s h σ H := by
  refine ⟨r.toRH, fun i => ?_, r.ext, r.apart, r.self⟩
  have q := r.slot i
  cases ei : s[i]? with
  | none =>
    rw [ei] at q
    exact q
  | some z =>
    rw [ei] at q
    cases z with
    | exc k fs => exact absurd ei (ne i k fs)
    | _ => exact q
theorem Cc.no_exc (hx : c.xa = none) (r : c.Rs W s h σ H) : ∀ (i k : Nat) (fs : List (Nat × AV)), s[i]? ≠ some (.exc k fs) := fun i k fs e => by
  have q := r.slot i
  rw [e] at q
  obtain ⟨a, d, vs, z, _⟩ := q
  rw [hx] at z
  cases z
end
/-- a clause's reading -/
def Cc.tC (c : Cc) (ci : Nat) (zb : List St) : Addr → Value → Option Addr → TS := fun a cls d D σ H => ∃ dd, cls = .ref (c.T.cadr ci) ∧ d = some dd ∧ (c.sui a dd).tS (c.xL zb) D σ H
section
variable {c : Cc} {X : Cx} {body : List Stmt} {h₀ : ExceptHandler} {hds : List ExceptHandler} {pos : Pos} {zb : List St}
def Cc.cls (c : Cc) (hs : List (Nat × Nat × List St)) : List Clause := hs.map fun z => (.ref (c.T.cadr z.1), z.2.1, c.tC z.1 z.2.2)
theorem wAll_of (hx : c.xa = none) (ex : ∀ a b, c.P.cls.length ≤ a → a < c.P.nex → c.P.cls.length ≤ b → b < c.P.nex → PySem.W.exmOne c.K (.ref (c.T.cadr a)) (.ref (c.T.cadr b)) = some (decide (a = b))) {D : Ends} {x : AX} {s1 : Fr} {h1 : AH} {W : Wd} {H : Hp} :
    ∀ (hs : List (Nat × Nat × List St)), (∀ z ∈ hs, c.P.cls.length ≤ z.1 ∧ z.1 < c.P.nex) → c.poS W H (exH c.P c.cal c.ini hs x s1 h1) D →
      ∀ W' H' σ' d vs, Mo W H W' H' → c.Rs W' s1 h1 σ' H' → H' d = some (.xd vs) → RFs c.K c.T W' H' x.fs vs → wAll c.K c.wx D (c.cls hs) (.ref (c.T.cadr x.c)) (some d) σ' H'
  | [], _, q, W', H', σ', d, vs, m, r, e1, e2 => q W' H' σ' d vs m r e1 e2
  | (ci, i, zb) :: hs, hin, q, W', H', σ', d, vs, m, r, e1, e2 => by
    have q : c.poS W H (if c.P.cls.length ≤ x.c ∧ x.c < c.P.nex then (if x.c = ci then (match c.xL zb (s1.set i (.exc x.c x.fs)) h1 with
      | .nx σ h => if noExc (σ.set i .emp) = true then .nx (σ.set i .emp) h else .stk
      | .bk σ h => if noExc (σ.set i .emp) = true then .bk (σ.set i .emp) h else .stk
      | .ct σ h => if noExc (σ.set i .emp) = true then .ct (σ.set i .emp) h else .stk
      | .rt v σ h => if noExc (σ.set i .emp) = true then .rt v (σ.set i .emp) h else .stk
      | _ => .stk) else exH c.P c.cal c.ini hs x s1 h1) else .stk) D := q
    by_cases hr : c.P.cls.length ≤ x.c ∧ x.c < c.P.nex
    case neg =>
      rw [if_neg hr] at q
      exact q.elim
    rw [if_pos hr] at q
    obtain ⟨z1, z2⟩ := hin _ List.mem_cons_self
    refine ⟨decide (x.c = ci), ex x.c ci hr.1 hr.2 z1 z2, fun hy a ha => ?_, fun hn => ?_⟩
    · have hy := of_decide_eq_true hy
      rw [if_pos hy] at q
      refine ⟨d, by rw [hy], rfl, W', s1.set i (.exc x.c x.fs), h1, ?_, ?_⟩
      · have r0 : (c.sui a d).Rs W' s1 h1 σ' H' := Cc.rs_xa (c := c) (xa := c.xa) (wx := c.wx) r (Cc.no_exc hx r)
        exact Cc.rs_set r0 ⟨a, d, vs, rfl, rfl, e1, e2⟩ (fun _ z => by cases z) fun _ _ z => by cases z
      · have q := Cc.poS_shift m q
        have back : ∀ {W2 : Wd} {H2 : Hp} {σ2 : L2.St} {s2 : Fr} {h2 : AH}, noExc (s2.set i .emp) = true → (c.sui a d).Rs W2 s2 h2 σ2 H2 → c.Rs W2 (s2.set i .emp) h2 (σ2.set i none) H2 := fun hne r2 =>
          Cc.rs_xa (c := c) (xa := some (a, d)) (wx := fun _ _ _ _ => False) (Cc.rs_emp r2) fun i k fs => noExc_at hne
        show (c.sui a d).poS W' H' (c.xL zb (s1.set i (.exc x.c x.fs)) h1) (offD i D)
        cases ho : c.xL zb (s1.set i (.exc x.c x.fs)) h1 with
        | nx s2 h2 =>
          rw [ho] at q
          simp only at q
          split at q
          · rename_i hne
            exact fun W2 H2 σ2 m2 r2 => q W2 H2 _ m2 (back hne r2)
          · exact q.elim
        | bk s2 h2 =>
          rw [ho] at q
          simp only at q
          split at q
          · rename_i hne
            exact fun W2 H2 σ2 m2 r2 => q W2 H2 _ m2 (back hne r2)
          · exact q.elim
        | ct s2 h2 =>
          rw [ho] at q
          simp only at q
          split at q
          · rename_i hne
            exact fun W2 H2 σ2 m2 r2 => q W2 H2 _ m2 (back hne r2)
          · exact q.elim
        | rt v s2 h2 =>
          rw [ho] at q
          simp only at q
          split at q
          · rename_i hne
            exact fun W2 H2 σ2 u r2 w2 => q W2 H2 _ u (back hne r2) w2
          · exact q.elim
        | er _ _ _ => rw [ho] at q; exact q.elim
        | stk => rw [ho] at q; exact q.elim
    · have hn := of_decide_eq_false hn
      rw [if_neg hn] at q
      exact wAll_of hx ex hs (fun z hz => hin z (List.mem_cons_of_mem _ hz)) q W' H' σ' d vs m r e1 e2
theorem s_try {hs : List (Nat × Nat × List St)} (hst : X.stack = X.env :: X.outer) (hf : X.env.frame = some X.env.locals) (hN : X.N.Nodup) (hK : X.K = c.K) (tk : Takes X c.wx) (hx : c.xa = none) (ex : ∀ a b, c.P.cls.length ≤ a → a < c.P.nex → c.P.cls.length ≤ b → b < c.P.nex → PySem.W.exmOne c.K (.ref (c.T.cadr a)) (.ref (c.T.cadr b)) = some (decide (a = b)))
    (hin : ∀ z ∈ hs, c.P.cls.length ≤ z.1 ∧ z.1 < c.P.nex)
    (hb : ∀ (W : WX) (pn : List (Addr × Obj)) (xe : Value → Shared → Prop), Takes (X.tr pn xe) W → PassesOwn (model X.prog X.w) X.A X.env xe → PSs (X.tr pn xe) body ((c.wish W).tS (c.xL zb)))
    (hh : HdsAs X (h₀ :: hds) (c.cls hs)) : PS X (.Try body (h₀ :: hds) [] [] pos) (c.tS (c.xS (.try_ zb hs))) := by
  refine PS.imp (ps_try_all hst hf hN tk hb hh) fun D σ H ⟨W, s, h, rs, p⟩ => ?_
  have p : c.poS W H (match c.xL zb s h with
    | .er x s h => exH c.P c.cal c.ini hs x s h
    | o => o) D := p
  refine ⟨W, s, h, rs, ?_⟩
  cases ho : c.xL zb s h with
  | er x s1 h1 =>
    rw [ho] at p
    exact fun W' H' σ' d vs m r e1 e2 => by
      have := wAll_of hx ex hs hin p W' H' σ' d vs m r e1 e2
      rw [hK]
      exact this
  | nx s1 h1 => rw [ho] at p; exact p
  | bk s1 h1 => rw [ho] at p; exact p
  | ct s1 h1 => rw [ho] at p; exact p
  | rt v s1 h1 => rw [ho] at p; exact p
  | stk => rw [ho] at p; exact p
end
end AM
/-! From the text's statements to the machine's. -/
namespace AM
open PySem PySem.Spec PyProof.Rows L2
def notComp : Expr → Bool
  | .ListComp _ _ _ _ => false
  | .SetComp _ _ _ _ => false
  | .DictComp _ _ _ _ _ => false
  | _ => true
def slotOf (N : List Str) (sc : Scope) (x : Str) : Option Nat := match okNm x && visOf sc x with
  | true => ixOf N x
  | false => none
def locSl (N : List Str) (sc : Scope) (x : Str) : Option Nat := match locOf sc x with
  | true => ixOf N x
  | false => none
/-- two plain local names on one line, two values: stored from the right -/
def parB (sc : Scope) (u w : Str) (px py : Pos) (a b : Expr) : Bool :=
  decide (sc.names.lookup u = some .local) && (decide (sc.names.lookup w = some .local) && (decide (u ≠ w) && (decide (px.line = py.line) && (!isStar a && (!isStar b && (!([a, b].all (foldedForSure 8)) && !([a, b].all (constantsAlone 8))))))))
theorem swap_none {e : Expr} {t : Option Expr} {l : Nat} {env : Env} (h : notComp e = true) : swapsWith e t l env = pure false := by
  cases e <;> first
    | rfl
    | cases h
/-- a target that is a plain local name on this line -/
def nameL (sc : Scope) (l : Nat) : Expr → Bool
  | .Name id pos => decide (sc.names.lookup id = some .local) && decide (pos.line = l)
  | _ => false
/-- the stores go one after another -/
def noSwap (sc : Scope) (ts : List Expr) : Expr → Bool
  | .Tuple vs _ _ => vs.any isStar || (!(ts.all (nameL sc ((ts.head?.map (·.pos.line)).getD 0))) || vs.all (foldedForSure 8))
  | _ => true
section
variable (t : Tab) (N ow : List Str)
/-- what is returned: a list that goes on as one's own cell, if the def is told so -/
def compRet (cm : Bool) (sc : Scope) : Expr → Ex
  | .List es pos => if t.rf = true then .lstR (compL t N cm sc es) else compE t N cm sc (.List es pos)
  | e => compE t N cm sc e
/-- stores to a tuple of names, one after another -/
def genT (cm : Bool) (sc : Scope) (ts : List Expr) (kt : Nat) (pt : Pos) (e : Expr) : St := if (cm && (notComp e && (noSwap sc ts e && ts.all fun e => !isStar e))) = true then .asg (.tup (compTs N sc ts)) (compE t N cm sc e) else .bad
def augOf : Operator → Option BOp
  | .Add => some .add
  | .Sub => some .sub
  | _ => none
mutual
def compS (cm : Bool) (sc : Scope) : Stmt → St
  | .Expr (.Call (.Attribute (.Name b bp) m apos) [e] [] cpos) _ => if (decide (m = "append") && (decide ((apos.endLine == cpos.line) = true) && !isStar e)) = true then (match slotOf N sc b with
      | some i => .app (.peek i) (compE t N cm sc e)
      | none => .bad) else .bad
  | .Expr e _ => if notComp e = true then .expr (compE t N cm sc e) else .bad
  | .Return none _ => .retN
  | .Return (some e) _ => .fz (ow.filterMap (ixOf N)) (.ret (compRet t N cm sc e))
  | .Assign [.Name y _] e _ => if notComp e = true then (match locSl N sc y with
      | some i => .asg (.name i (decide (y ∈ ow) && decide (i ≠ 0))) (compE t N cm sc e)
      | none => .bad) else .bad
  | .Assign [.Attribute (.Name o _) f _] e _ => if notComp e = true then (match slotOf N sc o, idOf t.fld f with
      | some i, some j => .asg (.attr (.peek i) j) (compE t N cm sc e)
      | _, _ => .bad) else .bad
  | .Assign [.Subscript (.Name o _) k _] e _ => if (notComp e && !isSlice k) = true then (match slotOf N sc o with
      | some i => .asg (.sub (.peek i) (compE t N cm sc k)) (compE t N cm sc e)
      | none => .bad) else .bad
  | .Assign [.Tuple [.Name u px, .Name w py] kt pt] (.Tuple [a, b] k2 pt2) _ => if (cm && parB sc u w px py a b) = true then (match ixOf N u, ixOf N w with
      | some i, some j => .par [.name i (decide (u ∈ ow) && decide (i ≠ 0)), .name j (decide (w ∈ ow) && decide (j ≠ 0))] [noStar (compE t N cm sc a), noStar (compE t N cm sc b)]
      | _, _ => .bad) else genT t N cm sc [.Name u px, .Name w py] kt pt (.Tuple [a, b] k2 pt2)
  | .Assign [.Tuple ts kt pt] e _ => genT t N cm sc ts kt pt e
  | .AugAssign (.Name x _) op e _ => (match augOf op, locSl N sc x with
    | some o, some i => .aug i o (compE t N cm sc e)
    | _, _ => .bad)
  | .If c a b _ => .ife (compE t N cm sc c) (compSs cm sc a) (compSs cm sc b)
  | .While c b [] _ => if cm = true then .whl (compE t N cm sc c) (compSs cm sc b) else .bad
  | .For g i b [] _ => if (cm && !isSet i) = true then .for_ (compT N sc g) (itOf i (compE t N cm sc i)) (compSs cm sc b) else .bad
  | .Pass _ => .pass
  | .Break _ => .brk
  | .Continue _ => .cnt
  | .Raise (some (.Call (.Name x _) [e] [] _)) none _ => if (cm && (isGl sc x && !isStar e)) = true then (match t.gx.lookup x, t.fx.lookup x with
      | some ci, some f => .raise ci f (compE t N cm sc e)
      | _, _ => .bad) else .bad
  | .Try b (h :: hs) [] [] _ => if cm = true then (match compH sc (h :: hs) with
      | some zs => .try_ (compSs cm sc b) zs
      | none => .bad) else .bad
  | _ => .bad
def compSs (cm : Bool) (sc : Scope) : List Stmt → List St
  | [] => []
  | s :: r => compS cm sc s :: compSs cm sc r
def compH (sc : Scope) : List ExceptHandler → Option (List (Nat × Nat × List St))
  | [] => some []
  | .ExceptHandler (some (.Name x _)) (some n) (s :: b) _ :: r => (match isGl sc x, t.gx.lookup x, decide (sc.names.lookup n = some .local), ixOf N n, compH sc r with
    | true, some ci, true, some i, some zs => some ((ci, i, compS false sc s :: compSs false sc b) :: zs)
    | _, _, _, _, _ => none)
  | _ => none
end
end
/-- the error classes -/
structure ExR (t : Tab) (c : Cc) (X : Cx) : Prop where
  gx : ∀ x ci, t.gx.lookup x = some ci → X.mg x = some (.ref (c.T.cadr ci)) ∧ c.P.cls.length ≤ ci ∧ ci < c.P.nex
  ex : ∀ a b, c.P.cls.length ≤ a → a < c.P.nex → c.P.cls.length ≤ b → b < c.P.nex → PySem.W.exmOne c.K (.ref (c.T.cadr a)) (.ref (c.T.cadr b)) = some (decide (a = b))
  fx : ∀ x ci f, t.gx.lookup x = some ci → t.fx.lookup x = some f → ∃ fI fd p, OexC X.K (c.T.cadr ci) ∧ PySem.W.findIn X.K (.ref (c.T.cadr ci)) "__init__" = some (some (.ref fI)) ∧ PySem.W.typeIn X.K (.ref fI) = some (.type "function") ∧
    FnOk X.prog X.w X.K X.mg X.base (L2.CX X.prog X.w) 1 fI fd ["self", p] (spEx (c.T.cadr ci) (c.T.fnm f)) ∧ L2.Binds X.K fd ["self", p] []
  xf : ∀ ci f nm, c.P.cls.length ≤ ci → ci < c.P.nex → idOf t.fld nm = some f → XfC X.K (c.T.cadr ci) ∧ PySem.W.findIn X.K (.ref (c.T.cadr ci)) nm = some none
structure Oks (t : Tab) (N : List Str) (k : Nat) (c : Cc) (X : Cx) (sc : Scope) (cm : Bool) : Prop extends Okc t N k c X sc cm where
  exr : ExR t c X
  ts : Okt N X sc
  stk : cm = true → X.stack = X.env :: X.outer
  frm : cm = true → X.env.frame = some X.env.locals
  pass : cm = true → PassesOwn (model X.prog X.w) X.A X.env X.xe
  room2 : cm = true → Room 2 X.A
  blk : X.env.blockKind = .function
end AM
/-! Targets of any form: stored. -/
namespace AM
open PySem PySem.Spec PyProof.Rows L2
section
variable {t : Tab} {N ow : List Str} {k : Nat} {c : Cc} {X : Cx} {sc : Scope} {cm : Bool}
theorem s_asgT {tg e : Expr} {x : Ex} {ts : List Tg} {pos : Pos} (he : PE X e (c.tE x)) (hg : PG X tg (c.gS (.tup ts))) (hs : swapsWithSole [tg] e pos.line X.env = pure false) (hw : swappedStores [tg] e X.env = pure none) (h1 : (assignEach [tg] X.env).map (·.2) = [assign tg X.env]) :
    PS X (.Assign [tg] e pos) (c.tS (c.xS (.asg (.tup ts) x))) := by
  refine PS.imp (ps_asg he hg hs hw h1) fun D σ H ⟨W, s, h, rs, p⟩ => ?_
  refine ⟨W, s, h, rs, Cc.po_out (Rel := c.ra) p rs fun W1 H1 v a h1 e1 r1 w1 _ p1 => ?_⟩
  exact ⟨W1, s, h1, a, r1, w1, Cc.poS_mono (D := D) p1 (fun _ _ z => z) (fun _ _ _ => True.intro) (fun _ _ _ => True.intro) (fun _ _ _ => True.intro)⟩
theorem pg_notS {e : Expr} : PG X e (c.gS .bad) := ⟨fun _ _ _ _ _ _ _ _ _ ⟨_, _, _, _, _, _, p⟩ => p.elim⟩
mutual
theorem okG1 {ts : Scope} (hN : X.N = N) (nd : N.Nodup) (hK : X.K = c.K) (hc : X.calm = true) (ot : Okt N X ts) : ∀ e : Expr, PG X e (c.gS (compT N ts e))
  | .Name x pos => by
    show PG X _ (c.gS (match locOf ts x, ixOf N x with
      | true, some i => .name i false
      | _, _ => .bad))
    cases hl : locOf ts x with
    | false => exact pg_notS
    | true =>
      cases hi : ixOf N x with
      | none => exact pg_notS
      | some i =>
        unfold locOf at hl
        simp only [Bool.or_eq_true, decide_eq_true_eq] at hl
        obtain ⟨h1, h2⟩ := ot x hl
        exact s_gName (by rw [hN]; exact nd) (by rw [hN]; exact ixOf_get hi) h1 h2
  | .Tuple es kk pos => by
    show PG X _ (c.gS (if es.all (fun e => !isStar e) = true then .tup (compTs N ts es) else .bad))
    by_cases h : es.all (fun e => !isStar e) = true
    · rw [if_pos h]
      obtain ⟨i1, i2⟩ := asg_none (env := X.env) h
      exact s_gTup hK hc (okG2 hN nd hK hc ot es h) (by rw [i2, compTs_len]) i1
    · rw [if_neg h]
      exact pg_notS
  | .Constant .. => pg_notS
  | .BinOp .. => pg_notS
  | .UnaryOp .. => pg_notS
  | .Compare .. => pg_notS
  | .BoolOp .. => pg_notS
  | .IfExp .. => pg_notS
  | .List .. => pg_notS
  | .Dict .. => pg_notS
  | .Subscript .. => pg_notS
  | .Slice .. => pg_notS
  | .Attribute .. => pg_notS
  | .Call .. => pg_notS
  | .ListComp .. => pg_notS
  | .Starred .. => pg_notS
  | .NamedExpr .. => pg_notS
  | .Lambda .. => pg_notS
  | .Set .. => pg_notS
  | .SetComp .. => pg_notS
  | .DictComp .. => pg_notS
  | .GeneratorExp .. => pg_notS
  | .Await .. => pg_notS
  | .Yield .. => pg_notS
  | .YieldFrom .. => pg_notS
  | .FormattedValue .. => pg_notS
  | .JoinedStr .. => pg_notS
theorem okG2 {ts : Scope} (hN : X.N = N) (nd : N.Nodup) (hK : X.K = c.K) (hc : X.calm = true) (ot : Okt N X ts) : ∀ es : List Expr, es.all (fun e => !isStar e) = true → PGs X es (c.gSs (compTs N ts es))
  | [], _ => s_gNil
  | e :: es, h => by
    rw [List.all_cons] at h
    obtain ⟨h1, h2⟩ := ba2 h
    exact s_gCons (okG1 hN nd hK hc ot e) (okG2 hN nd hK hc ot es h2) (by rw [asg_one (by simpa using h1)]; rfl)
end
theorem filterMap_lt {α β : Type} {f : α → Option β} : ∀ {l : List α}, (l.filterMap f).length ≤ l.length
  | [] => Nat.le_refl _
  | a :: l => by
    rw [List.filterMap_cons]
    have := filterMap_lt (f := f) (l := l)
    cases f a <;> simp <;> omega
theorem filterMap_all {α β : Type} {f : α → Option β} : ∀ {l : List α}, (l.filterMap f).length = l.length → l.all (fun a => (f a).isSome) = true
  | [], _ => rfl
  | a :: l, h => by
    rw [List.filterMap_cons] at h
    rw [List.all_cons]
    have lt := filterMap_lt (f := f) (l := l)
    cases hf : f a with
    | none => rw [hf] at h; have h : (l.filterMap f).length = l.length + 1 := h; omega
    | some b =>
      rw [hf] at h
      have h : (l.filterMap f).length + 1 = l.length + 1 := h
      rw [filterMap_all (Nat.succ.inj h)]
      rfl
theorem noSwap_ok {ts : List Expr} {kt : Nat} {pt : Pos} {e : Expr} (hs : X.env.scope = sc) (h : noSwap sc ts e = true) : swappedStores [.Tuple ts kt pt] e X.env = pure none := by
  have kd : ∀ x, X.env.kindOf x = sc.names.lookup x := fun x => by rw [← hs]; rfl
  cases e with
  | Tuple vs k2 p2 =>
    have h : (vs.any isStar || (!(ts.all (nameL sc ((ts.head?.map (·.pos.line)).getD 0))) || vs.all (foldedForSure 8))) = true := h
    unfold swappedStores
    simp only [pure_bind]
    split
    · rfl
    split
    · rfl
    rename_i c2
    split
    · rfl
    rename_i c3
    split
    · rfl
    rename_i c4
    have c2' : vs.any isStar = false := by
      cases hx : vs.any isStar with
      | false => rfl
      | true =>
        refine absurd ?_ c2
        rw [List.any_eq_true] at hx ⊢
        obtain ⟨e, he, h⟩ := hx
        exact ⟨e, he, by cases e <;> first | rfl | cases h⟩
    have c4' : (vs.all (foldedForSure 8)) = false := by simpa using c4
    rw [c2', c4', Bool.false_or, Bool.or_false, Bool.not_eq_true'] at h
    refine absurd ?_ c3
    rw [Bool.or_eq_true]
    refine .inl ?_
    rw [bne_iff_ne]
    intro z
    have q := filterMap_all z
    generalize hl : (ts.head?.map (·.pos.line)).getD 0 = line at h
    have q2 : ts.all (nameL sc line) = true := by
      rw [List.all_eq_true] at q ⊢
      intro e he
      have q3 := q e he
      cases e with
      | Name id pos =>
        unfold nameL
        rw [← hl]
        simp only [kd] at q3
        split at q3
        · rename_i hh
          simpa using hh
        · cases q3
      | _ => cases q3
    rw [h] at q2
    cases q2
  | _ => rfl
theorem g_genT {ts : List Expr} {kt : Nat} {pt pos : Pos} {e : Expr} (o : Oks t N k c X sc cm) (he : PE X e (c.tE (compE t N cm sc e))) : PS X (.Assign [.Tuple ts kt pt] e pos) (c.tS (c.xS (genT t N cm sc ts kt pt e))) := by
  unfold genT
  split
  · rename_i h
    obtain ⟨h1, h2⟩ := ba2 h
    obtain ⟨h2, h3⟩ := ba2 h2
    obtain ⟨h3, h4⟩ := ba2 h3
    have g := okG1 (c := c) o.hN o.nd o.hK (o.calm h1) o.ts (.Tuple ts kt pt)
    have g : PG X (.Tuple ts kt pt) (c.gS (if ts.all (fun e => !isStar e) = true then .tup (compTs N sc ts) else .bad)) := g
    rw [if_pos h4] at g
    exact s_asgT he g (by show swapsWith e (some (.Tuple ts kt pt)) pos.line X.env = _; exact swap_none h2) (noSwap_ok o.hsc h3) rfl
  · exact s_bad
/-- n += e, n -= e of ints; of texts -/
theorem s_aug {i : Nat} {y : Str} {e : Expr} {x : Ex} {op : Operator} {b : BOp} {py pos : Pos} (hN : X.N.Nodup) (hi : X.N[i]? = some y) (hx : Loc X.env.scope y) (hf : X.fn y = true ∨ X.env.scope.names.lookup y = some .local) (hb : augOf op = some b) (he : PE X e (c.tE x)) :
    PS X (.AugAssign (.Name y py) op e pos) (c.tS (c.xS (.aug i b x))) := by
  have fin : ∀ (g : Int → Int → Int) (_ : PIp X op fun x y H Q => ∃ i j, x = .int i ∧ y = .int j ∧ Q (.int (g i j)) H) (_ : ∀ a b' z, augV b a b' = some z → ∃ i j, a = .int i ∧ b' = .int j ∧ z = .int (g i j)), PS X (.AugAssign (.Name y py) op e pos) (c.tS (c.xS (.aug i b x))) := by
    intro g ho hg
    refine PS.imp (ps_aug hN hi hx he ho hf) fun D σ H ⟨W, s, h, rs, p⟩ => ?_
    have p : c.poS W H (match s[i]? with
      | some (.val x0) => (c.ev x s h).out s fun y h => (opt (augV b x0 y) h).out s fun z h => .nx (s.set i (.val z)) h
      | _ => .stk) D := p
    have q := rs.slot i
    cases ei : s[i]? with
    | none => rw [ei] at p; exact p.elim
    | some z0 =>
      rw [ei] at p q
      cases z0 with
      | val x0 =>
        obtain ⟨u, h1, h2⟩ := q
        have p : c.poS W H ((c.ev x s h).out s fun y h => (opt (augV b x0 y) h).out s fun z h => .nx (s.set i (.val z)) h) D := p
        refine ⟨u, h1, W, s, h, rs, Cc.po_out (Rel := c.ra) p rs fun W1 H1 v a h1 e1 r1 w1 _ p1 => ?_⟩
        cases ez : augV b x0 a with
        | none => rw [ez] at p1; exact p1.elim
        | some z =>
          rw [ez] at p1
          have p1 : c.poS W1 H1 (.nx (s.set i (.val z)) h1) D := p1
          obtain ⟨m, n, rfl, rfl, rfl⟩ := hg _ _ _ ez
          exact ⟨m, n, ra_int h2, ra_int w1, Cc.poS_now p1 (Mo.refl' _ _) (Cc.rs_val r1 ra_int')⟩
      | _ => exact p.elim
  have cas : ∀ (f : Int → Int → AV) (a b' z : AV), (match a, b' with
      | .int i, .int j => some (f i j)
      | _, _ => none) = some z → ∃ i j, a = .int i ∧ b' = .int j ∧ z = f i j := by
    intro f a b' z e
    cases a with
    | int i => cases b' with
      | int j => cases e; exact ⟨i, j, rfl, rfl, rfl⟩
      | _ => cases e
    | _ => cases e
  cases op with
  | Add =>
    cases hb
    refine fin (· + ·) (fun pins s σ H x y u v Q I rx ry w => in_add pins s σ H x y u v Q I rx ry w) fun a b' z e => cas (fun i j => .int (i + j)) a b' z ?_
    cases a <;> first
      | exact e
      | (cases b' <;> exact e)
  | Sub =>
    cases hb
    refine fin (· - ·) (fun pins s σ H x y u v Q I rx ry w => in_sub pins s σ H x y u v Q I rx ry w) fun a b' z e => cas (fun i j => .int (i - j)) a b' z ?_
    cases a <;> first
      | exact e
      | (cases b' <;> exact e)
  | _ => cases hb
end
end AM
/-! A new cell. -/
namespace AM
open PySem PySem.Spec PyProof.Rows L2
section
variable {K : PySem.W.Frag} {T : Nm} {W : Wd} {H : Hp}
/-- .. a cell from now on -/
def Wd.cel (W : Wd) (p : Addr) : Wd := ⟨W.mu ++ [p], W.F⟩
theorem Ext.cel {p : Addr} {o : HO} (hp : H p = none) : Ext W H (W.cel p) (L2.upd H p o) where
  mu := fun n a h => by
    show (W.mu ++ [p])[n]? = some a
    rw [List.getElem?_append]
    rw [if_pos (List.getElem?_eq_some_iff.mp h).1]
    exact h
  F := fun _ h => h
  keep := fun a o ha _ => by rw [upd_ne (ne_of_none ha hp)]; exact ha
  newF := fun _ h => .inl h
  newMu := fun a h => by
    rcases List.mem_append.mp h with h | h
    · exact .inl h
    · rw [List.mem_singleton.mp h]; exact .inr hp
  there := fun a ha => by
    unfold upd at ha
    split at ha
    · cases ha
    · exact ha
theorem RH.cel {h : AH} {p : Addr} {o : HO} {x : AV} (r : RH K T W h H) (hp : H p = none) (rc : RC K T (W.cel p) (L2.upd H p o) x p) : RH K T (W.cel p) (h ++ [x]) (L2.upd H p o) := by
  have e : Ext W H (W.cel p) (L2.upd H p o) := Ext.cel hp
  have m := e.mo r
  have pm : p ∉ W.mu := fun z => by
    obtain ⟨o, ho, _⟩ := r.mem z
    rw [hp] at ho
    cases ho
  refine ⟨?_, fun n v a h1 h2 => ?_, ?_, fun a hF z => ?_, fun a hF z => r.there a hF (e.there a z), fun p hp => m.tup _ _ (r.con p hp)⟩
  · show (W.mu ++ [p]).length = _
    rw [List.length_append, List.length_append, r.len]
    rfl
  · rw [List.getElem?_append] at h1
    have h2 : (W.mu ++ [p])[n]? = some a := h2
    rw [List.getElem?_append, r.len] at h2
    split at h1
    · rename_i hlt
      rw [if_pos hlt] at h2
      refine (r.cell n v a h1 h2).mono m fun o ho => ?_
      rw [upd_ne (ne_of_none ho hp)]
      exact ho
    · rename_i hlt
      rw [if_neg hlt] at h2
      cases hn : n - h.length with
      | zero =>
        rw [hn] at h1 h2
        cases h1
        cases h2
        exact rc
      | succ k =>
        rw [hn] at h1
        cases h1
  · show (W.mu ++ [p]).Nodup
    rw [List.nodup_append]
    refine ⟨r.nd, by simp, fun a ha b hb z => ?_⟩
    rw [List.mem_singleton.mp hb] at z
    rw [z] at ha
    exact pm ha
  · rcases List.mem_append.mp z with z | z
    · exact r.fr a hF z
    · rw [List.mem_singleton.mp z] at hF
      exact r.there p hF hp
end
section
variable {c : Cc} {X : Cx} {pos : Pos}
theorem ok_lstR {es : List Expr} {xs : List Ex} (ha : PA X es (c.tL xs)) : PE X (.List es pos) (c.tE (.lstR xs)) := by
  refine PE.imp (pe_lst ha) fun σ H Q ⟨W, s, h, rs, p⟩ => ?_
  refine ⟨W, s, h, rs, Cc.po_bndW p fun W1 H1 vs ys h1 e1 r1 w1 _ p1 => ?_⟩
  have p1 : c.po s σ W1 H1 c.ra (if szOk ys.length = true then .ok (.ref h1.length) (h1 ++ [.lst ys]) else .stk) Q := p1
  split at p1
  · rename_i hz
    refine ⟨by rw [← w1.len]; exact sz_line hz, fun q hq => ?_⟩
    have e : Ext W1 H1 (W1.cel q) (upd H1 q (.lst vs)) := Ext.cel hq
    refine p1 (W1.cel q) _ (.ref q) e (Cc.rs_behind r1 e (r1.toRH.cel hq ⟨vs, upd_same, w1.mono (Cc.mo r1 e)⟩)) ?_
    unfold Cc.ra RA
    refine ⟨q, ?_, rfl⟩
    show (W1.mu ++ [q])[h1.length]? = _
    rw [← r1.toRH.len]
    simp
  · exact p1.elim
end
section
variable {t : Tab} {N ow : List Str} {k : Nat} {c : Cc} {X : Cx} {sc : Scope} {cm : Bool}
theorem g_retE {e : Expr} (o : Oks t N k c X sc cm) (h : PE X e (c.tE (compE t N cm sc e))) : PE X e (c.tE (compRet t N cm sc e)) := by
  cases e with
  | List es pos =>
    show PE X _ (c.tE (if t.rf = true then .lstR (compL t N cm sc es) else compE t N cm sc (.List es pos)))
    split
    · exact ok_lstR (f_list o.toOkc (okBs es))
    · exact h
  | _ => exact h
end
end AM
/-! Statements: what the text's form says is what the machine does. -/
namespace AM
open PySem PySem.Spec PyProof.Rows L2
section
variable {t : Tab} {N ow : List Str} {k : Nat} {c : Cc} {X : Cx} {sc : Scope} {cm : Bool}
theorem slot_var (o : Okc t N k c X sc cm) {x : Str} {i : Nat} {pos : Pos} (h : slotOf N sc x = some i) : PE X (.Name x pos) (tVar i) := by
  unfold slotOf at h
  cases hv : okNm x && visOf sc x with
  | false => rw [hv] at h; cases h
  | true =>
    rw [hv] at h
    obtain ⟨h1, h2⟩ := ba2 hv
    unfold okNm at h1
    obtain ⟨h3, h4⟩ := ba2 h1
    refine pe_var (by rw [o.hN]; exact ixOf_get h) ?_ (by simpa using h3) (by simpa using h4)
    unfold visOf at h2
    simp only [Bool.or_eq_true, decide_eq_true_eq] at h2
    exact nm_dbg o.hsc h2
theorem loc_sl (o : Oks t N k c X sc cm) {x : Str} {i : Nat} (h : locSl N sc x = some i) : X.N[i]? = some x ∧ Loc X.env.scope x ∧ (X.fn x = true ∨ X.env.scope.names.lookup x = some .local) := by
  unfold locSl at h
  cases hv : locOf sc x with
  | false => rw [hv] at h; cases h
  | true =>
    rw [hv] at h
    unfold locOf at hv
    simp only [Bool.or_eq_true, decide_eq_true_eq] at hv
    obtain ⟨h1, h2⟩ := o.ts x hv
    exact ⟨by rw [o.hN]; exact ixOf_get h, h1, h2⟩
theorem swapped_of {u w : Str} {px py pt pt2 : Pos} {kt k2} {a b : Expr} (hk : X.env.blockKind = .function) (hs : X.env.scope = sc) (h : parB sc u w px py a b = true) :
    swappedStores [.Tuple [.Name u px, .Name w py] kt pt] (.Tuple [a, b] k2 pt2) X.env = pure (some [u, w]) := by
  unfold parB at h
  simp only [Bool.and_eq_true, decide_eq_true_eq, Bool.not_eq_true'] at h
  obtain ⟨h1, h2, h3, h4, h5, h6, h7, h8⟩ := h
  have k1 : X.env.kindOf u = some .local := by show X.env.scope.names.lookup u = _; rw [hs]; exact h1
  have k2' : X.env.kindOf w = some .local := by show X.env.scope.names.lookup w = _; rw [hs]; exact h2
  have st : ∀ z : Expr, isStar z = false → (match z with
      | .Starred .. => true
      | _ => false) = false := fun z hz => by cases z <;> first | rfl | cases hz
  have c1 : (X.env.kindOf u == some .local && px.line == px.line) = true := by rw [k1]; simp
  have c2 : (X.env.kindOf w == some .local && py.line == px.line) = true := by rw [k2']; simp [h4]
  have hne : (u == w) = false := beq_eq_false_iff_ne.mpr h3
  have hne2 : (w == u) = false := beq_eq_false_iff_ne.mpr (Ne.symm h3)
  unfold swappedStores
  simp [hk, st a h5, st b h6, h7, h8, k1, k2', h4, List.eraseDups, List.eraseDupsBy, List.eraseDupsBy.loop, hne, hne2]
  have q1 : (Expr.Name u px).pos = px := rfl
  rw [if_neg (by
    intro z
    rcases z with z | z
    · cases a <;> first | (cases z; done) | (cases h5; done)
    · cases b <;> first | (cases z; done) | (cases h6; done))]
  generalize hL : List.filterMap _ [Expr.Name u px, Expr.Name w py] = L
  have q2 : L = [u, w] := by
    rw [← hL]
    simp only [List.filterMap_cons, List.filterMap_nil]
    rw [if_pos ⟨k1, rfl⟩, if_pos ⟨k2', h4.symm⟩]
  subst q2
  simp [List.eraseDupsBy.loop, hne, hne2]
theorem okc_tr (o : Oks t N k c X sc true) {W : WX} {pn : List (Addr × Obj)} {xe : Value → Shared → Prop} (tk : Takes (X.tr pn xe) W) (hp : PassesOwn (model X.prog X.w) X.A X.env xe) : Oks t N k (c.wish W) (X.tr pn xe) sc true where
  hK := o.hK
  hN := o.hN
  nd := o.nd
  hsc := o.hsc
  calm := o.calm
  room := o.room
  hu := o.hu
  gd := o.gd
  tk := tk
  xa := o.xa
  glo := ⟨o.glo.bi, o.glo.gf, o.glo.gc, o.glo.gk, o.glo.isi, o.glo.inj, o.glo.fld⟩
  att := fun a f nm pos h1 h2 h3 => ok_attr (c := c.wish W) (o.xa rfl) o.hK o.glo.inj (o.glo.fld f nm h2).1 (o.glo.fld f nm h2).2 h3 h1
  exr := ⟨o.exr.gx, o.exr.ex, o.exr.fx, o.exr.xf⟩
  ts := o.ts
  stk := o.stk
  frm := o.frm
  pass := fun _ => hp
  room2 := o.room2
  blk := o.blk
theorem peek_cases (e : Expr) (x : Ex) : (∃ y p, e = .Name y p) ∨ peekOf e x = noPeek x := by
  cases e <;> first
    | exact .inl ⟨_, _, rfl⟩
    | exact .inr rfl
theorem excOf_noPeek {s : Fr} {x : Ex} : excOf s (noPeek x) = none := by cases x <;> rfl
theorem okc_sui (o : Oks t N k c X sc true) {a dd : Addr} {oe : Obj} {ci : Nat} {pn : List (Addr × Obj)} (h1 : c.P.cls.length ≤ ci) (h2 : ci < c.P.nex) (hz : Zc (.ref (c.T.cadr ci)) (some dd) oe) (hf : ∃ vs, oe.data = .fields vs) : Oks t N k (c.sui a dd) (X.suite a ((a, oe) :: pn)) sc false where
  hK := o.hK
  hN := o.hN
  nd := o.nd
  hsc := o.hsc
  calm := fun z => by cases z
  room := fun z => by cases z
  hu := o.hu
  gd := by
    have := o.gd
    first
      | exact this
      | simpa [Around.mark] using this
  tk := fun _ _ ⟨_, _, _, _, _, _, _, _, _, _, _, _, _, _, _, _, w⟩ => w.elim
  xa := fun z => by cases z
  glo := ⟨o.glo.bi, o.glo.gf, o.glo.gc, o.glo.gk, o.glo.isi, o.glo.inj, o.glo.fld⟩
  att := fun b f nm pos e1 e2 e3 => by
    have fl := o.glo.fld f nm e2
    have hx := o.exr.xf ci f nm h1 h2 e2
    have reg : ∀ {σ : L2.St} {H : Hp} {Q : VK} {x : Ex}, (∃ W s h, (c.sui a dd).Rs W s h σ H ∧ (c.sui a dd).po s σ W H (c.sui a dd).ra ((c.sui a dd).ev (.attr x f) s h) Q ∧ excOf s x = none) → tFld X.K ((c.sui a dd).tB x) nm σ H Q := fun {σ H Q x} ⟨W, s, h, rs, p, hn⟩ => by
      have p : (c.sui a dd).po s σ W H (c.sui a dd).ra (((c.sui a dd).ev x s h).bnd fun x h => (opt (objOf h x) h).bnd fun o h => if o.1 < c.P.cls.length then opt (fGet o.2 f) h else .stk) Q := by
        have p : (c.sui a dd).po s σ W H (c.sui a dd).ra (evE c.P c.cal c.ini (.attr x f) s h) Q := p
        unfold evE at p
        rw [hn] at p
        exact p
      refine ⟨W, s, h, rs, Cc.po_rel (Cc.po_bndW (Rel := (c.sui a dd).rb) p fun W1 H1 v x h1 e1 r1 w1 ex p1 => ?_) fun _ _ _ _ _ _ w => w⟩
      cases eo : objOf h1 x with
      | none => rw [eo] at p1; exact p1.elim
      | some q =>
        rw [eo] at p1
        have p1 : (c.sui a dd).po s σ W1 H1 (c.sui a dd).ra (if q.1 < c.P.cls.length then opt (fGet q.2 f) h1 else .stk) Q := p1
        split at p1
        · rename_i hlt
          obtain ⟨z, ez, p4⟩ := Cc.po_opt p1
          obtain ⟨q2, dx, vs, rfl, h2, h3⟩ := obj_at eo w1 r1.toRH
          obtain ⟨u, h4, h5⟩ := h3.get o.glo.inj ez
          rw [o.hK]
          exact ⟨q2, _, dx, vs, u, rfl, h2, (fl.2 _ hlt).1, (fl.2 _ hlt).2, by rw [← fl.1]; exact h4, Cc.po_now p4 r1 h5⟩
        · exact p1.elim
    have plain : ∀ x : Ex, PE (X.suite a ((a, oe) :: pn)) b ((c.sui a dd).tB x) → (∀ s : Fr, excOf s x = none) → PE (X.suite a ((a, oe) :: pn)) (.Attribute b nm pos) ((c.sui a dd).tE (.attr x f)) := fun x hx hn =>
      PE.imp (pe_fld hx (base_of e1)) fun σ H Q ⟨W, s, h, rs, p⟩ => reg ⟨W, s, h, rs, p, hn s⟩
    have caught : ∀ i : Nat, PE (X.suite a ((a, oe) :: pn)) b ((c.sui a dd).tB (.peek i)) → PE (X.suite a ((a, oe) :: pn)) b (tVar i) → PE (X.suite a ((a, oe) :: pn)) (.Attribute b nm pos) ((c.sui a dd).tE (.attr (.peek i) f)) := fun i hb hv => by
      refine PE.imp (PE.or (pe_fld hb (base_of e1)) (pe_xf hx.1 hx.2 hz hf hv (base_of e1))) fun σ H Q ⟨W, s, h, rs, p⟩ => ?_
      cases hq : excOf s (.peek i) with
      | none => exact .inl (reg ⟨W, s, h, rs, p, hq⟩)
      | some fs =>
        have p : (c.sui a dd).po s σ W H (c.sui a dd).ra (opt (fGet fs f) h) Q := by
          have p : (c.sui a dd).po s σ W H (c.sui a dd).ra (evE c.P c.cal c.ini (.attr (.peek i) f) s h) Q := p
          unfold evE at p
          rw [hq] at p
          exact p
        obtain ⟨z, ez, p4⟩ := Cc.po_opt p
        have hq : (match s[i]? with
          | some (.exc _ fs) => some fs
          | _ => none) = some fs := hq
        have q := rs.slot i
        cases ei : s[i]? with
        | none => rw [ei] at hq; cases hq
        | some y =>
          rw [ei] at hq q
          cases y with
          | exc k' fs' =>
            cases hq
            obtain ⟨a', d', vs, g1, g2, g3, g4⟩ := q
            cases g1
            obtain ⟨u, h4, h5⟩ := g4.get o.glo.inj ez
            exact .inr ⟨_, g2, rfl, rfl, dd, vs, u, rfl, g3, by rw [← fl.1]; exact h4, Cc.po_now p4 rs h5⟩
          | _ => cases hq
    rcases peek_cases b (compE t N false sc b) with ⟨x, bp, rfl⟩ | hp
    · have e3 : PE (X.suite a ((a, oe) :: pn)) (.Name x bp) ((c.sui a dd).tB (toPeek (match isGl sc x with
        | true => (match t.gk.lookup x with
          | some j => .glo j
          | none => .bad)
        | false => (match okNm x && visOf sc x, ixOf N x with
          | true, some i => .var i
          | _, _ => .bad)))) := e3
      show PE (X.suite a ((a, oe) :: pn)) _ ((c.sui a dd).tE (.attr (toPeek (match isGl sc x with
        | true => (match t.gk.lookup x with
          | some j => .glo j
          | none => .bad)
        | false => (match okNm x && visOf sc x, ixOf N x with
          | true, some i => .var i
          | _, _ => .bad))) f))
      cases hg : isGl sc x with
      | true =>
        rw [hg] at e3
        cases hk : t.gk.lookup x with
        | none => simp only [hk] at e3; exact plain _ e3 fun _ => rfl
        | some j => simp only [hk] at e3; exact plain _ e3 fun _ => rfl
      | false =>
        rw [hg] at e3
        cases hv : okNm x && visOf sc x with
        | false => exact plain .bad ok_badB fun _ => rfl
        | true =>
          cases hi : ixOf N x with
          | none => exact plain .bad ok_badB fun _ => rfl
          | some i =>
            simp only [hv, hi] at e3
            obtain ⟨v1, v2⟩ := ba2 hv
            unfold okNm at v1
            obtain ⟨v3, v4⟩ := ba2 v1
            refine caught i e3 (pe_var (by show X.N[i]? = _; rw [o.hN]; exact ixOf_get hi) ?_ (by simpa using v3) (by simpa using v4))
            unfold visOf at v2
            simp only [Bool.or_eq_true, decide_eq_true_eq] at v2
            exact nm_dbg o.hsc v2
    · rw [hp] at e3 ⊢
      exact plain _ e3 fun _ => excOf_noPeek
  exr := ⟨o.exr.gx, o.exr.ex, o.exr.fx, o.exr.xf⟩
  ts := o.ts
  stk := fun z => by cases z
  frm := fun z => by cases z
  pass := fun z => by cases z
  room2 := fun z => by cases z
  blk := o.blk
end
end AM
/-! Statements, all: the recursion. -/
namespace AM
open PySem PySem.Spec PyProof.Rows L2
section
variable {t : Tab} {N ow : List Str} {k : Nat} {c : Cc} {X : Cx} {sc : Scope} {cm : Bool}
def AllSt (t : Tab) (N ow : List Str) (k : Nat) (s : Stmt) : Prop := ∀ (c : Cc) (X : Cx) (sc : Scope) (cm : Bool), Oks t N k c X sc cm → PS X s (c.tS (c.xS (compS t N ow cm sc s)))
def AllSs (t : Tab) (N ow : List Str) (k : Nat) (ss : List Stmt) : Prop := ∀ (c : Cc) (X : Cx) (sc : Scope) (cm : Bool), Oks t N k c X sc cm → PSs X ss (c.tS (c.xL (compSs t N ow cm sc ss)))
theorem eX (e : Expr) (o : Oks t N k c X sc cm) : PE X e (c.tX (compE t N cm sc e)) := ((okB e).1 c X sc cm o.toOkc).1
theorem eE (e : Expr) (o : Oks t N k c X sc cm) : PE X e (c.tE (compE t N cm sc e)) := (okB e).1.e o.toOkc
theorem eT (e : Expr) (o : Oks t N k c X sc cm) : PT X e (c.tT (compE t N cm sc e)) := ((okB e).1 c X sc cm o.toOkc).2.1
theorem g_ret {e : Option Expr} {pos : Pos} : AllSt t N ow k (.Return e pos) := fun c X sc cm o => by
  cases e with
  | none => exact s_retN
  | some e => exact s_fz (s_ret (g_retE o (eE e o)))
theorem g_expr0 {e : Expr} {pos : Pos} (o : Oks t N k c X sc cm) : PS X (.Expr e pos) (c.tS (c.xS (if notComp e = true then .expr (compE t N cm sc e) else .bad))) := by
  by_cases h : notComp e = true
  · rw [if_pos h]
    exact s_expr (eE e o) (swap_none h)
  · rw [if_neg h]
    exact s_bad
theorem g_app {b : Str} {bp apos cpos pos : Pos} {m : Str} {e : Expr} (o : Oks t N k c X sc cm) : PS X (.Expr (.Call (.Attribute (.Name b bp) m apos) [e] [] cpos) pos) (c.tS (c.xS (if (decide (m = "append") && (decide ((apos.endLine == cpos.line) = true) && !isStar e)) = true then (match slotOf N sc b with
      | some i => .app (.peek i) (compE t N cm sc e)
      | none => .bad) else .bad))) := by
  split
  · rename_i h
    obtain ⟨h1, h2⟩ := ba2 h
    obtain ⟨h2, h3⟩ := ba2 h2
    have h1 := of_decide_eq_true h1
    subst h1
    cases hs : slotOf N sc b with
    | none => exact s_bad
    | some i => exact s_app (slot_var o.toOkc hs) (eE e o) rfl (by simpa using h3) (of_decide_eq_true h2)
  · exact s_bad
theorem g_set {y : Str} {py pos : Pos} {e : Expr} (o : Oks t N k c X sc cm) : PS X (.Assign [.Name y py] e pos) (c.tS (c.xS (if notComp e = true then (match locSl N sc y with
      | some i => .asg (.name i (decide (y ∈ ow) && decide (i ≠ 0))) (compE t N cm sc e)
      | none => .bad) else .bad))) := by
  split
  · rename_i h
    cases hs : locSl N sc y with
    | none => exact s_bad
    | some i =>
      obtain ⟨h1, h2, h3⟩ := loc_sl o hs
      exact s_set (fun z => of_decide_eq_true (ba2 z).2) (by rw [o.hN]; exact o.nd) h1 h2 h3 (eX e o) (swap_none h)
  · exact s_bad
theorem g_fld {y f : Str} {py p2 pos : Pos} {e : Expr} (o : Oks t N k c X sc cm) : PS X (.Assign [.Attribute (.Name y py) f p2] e pos) (c.tS (c.xS (if notComp e = true then (match slotOf N sc y, idOf t.fld f with
      | some i, some j => .asg (.attr (.peek i) j) (compE t N cm sc e)
      | _, _ => .bad) else .bad))) := by
  split
  · rename_i h
    cases hs : slotOf N sc y with
    | none => exact s_bad
    | some i =>
      cases hf : idOf t.fld f with
      | none => exact s_bad
      | some j => exact s_fld o.hK o.glo.inj (o.glo.fld j f hf).1 (o.glo.fld j f hf).2 (slot_var o.toOkc hs) (eE e o) (swap_none h)
  · exact s_bad
theorem g_sub {y : Str} {py p2 pos : Pos} {e i : Expr} (o : Oks t N k c X sc cm) : PS X (.Assign [.Subscript (.Name y py) i p2] e pos) (c.tS (c.xS (if (notComp e && !isSlice i) = true then (match slotOf N sc y with
      | some j => .asg (.sub (.peek j) (compE t N cm sc i)) (compE t N cm sc e)
      | none => .bad) else .bad))) := by
  split
  · rename_i h
    obtain ⟨h1, h2⟩ := ba2 h
    cases hs : slotOf N sc y with
    | none => exact s_bad
    | some j => exact s_sub (Nat.lt_of_le_of_lt (by omega) o.hu) (slot_var o.toOkc hs) (eE i o) (eE e o) (by simpa using h2) (by show swapsWith e (some (.Subscript (.Name y py) i p2)) pos.line X.env = pure false; exact swap_none h1)
  · exact s_bad
theorem g_raise {x : Str} {p cpos pos : Pos} {e : Expr} (o : Oks t N k c X sc cm) : PS X (.Raise (some (.Call (.Name x p) [e] [] cpos)) none pos) (c.tS (c.xS (if (cm && (isGl sc x && !isStar e)) = true then (match t.gx.lookup x, t.fx.lookup x with
      | some ci, some f => .raise ci f (compE t N cm sc e)
      | _, _ => .bad) else .bad))) := by
  split
  · rename_i h
    obtain ⟨h1, h2⟩ := ba2 h
    obtain ⟨h2, h3⟩ := ba2 h2
    obtain ⟨g1, g2, _⟩ := isGl_gl o.hsc h2
    cases hx : t.gx.lookup x with
    | none => exact s_bad
    | some ci =>
      cases hf : t.fx.lookup x with
      | none => exact s_bad
      | some f =>
        obtain ⟨fI, fd, q, T, iC, tI, F1, hb⟩ := o.exr.fx x ci f hx hf
        exact s_raise (o.calm h1) o.tk rfl rfl T iC tI F1 (o.room2 h1) hb g1 (o.exr.gx x ci hx).1 g2 (by simpa using h3) (eE e o)
  · exact s_bad
theorem g_if {e : Expr} {a b : List Stmt} {pos : Pos} (ha : AllSs t N ow k a) (hb : AllSs t N ow k b) : AllSt t N ow k (.If e a b pos) := fun c X sc cm o => s_if (eT e o) (ha c X sc cm o) (hb c X sc cm o)
theorem g_while {e : Expr} {b r : List Stmt} {pos : Pos} (hb : AllSs t N ow k b) : AllSt t N ow k (.While e b r pos) := fun c X sc cm o => by
  cases r with
  | cons _ _ => exact s_bad
  | nil =>
    show PS X _ (c.tS (c.xS (if cm = true then .whl (compE t N cm sc e) (compSs t N ow cm sc b) else .bad)))
    by_cases h : cm = true
    · rw [if_pos h]
      exact s_while (o.pass h) (eT e o) (hb c X sc cm o)
    · rw [if_neg h]
      exact s_bad
theorem g_for {g i : Expr} {b r : List Stmt} {pos : Pos} (hb : AllSs t N ow k b) : AllSt t N ow k (.For g i b r pos) := fun c X sc cm o => by
  cases r with
  | cons _ _ => exact s_bad
  | nil =>
    show PS X _ (c.tS (c.xS (if (cm && !isSet i) = true then .for_ (compT N sc g) (itOf i (compE t N cm sc i)) (compSs t N ow cm sc b) else .bad)))
    by_cases h : (cm && !isSet i) = true
    · rw [if_pos h]
      obtain ⟨h1, h2⟩ := ba2 h
      exact s_for (o.pass h1) (o.calm h1) (((okB i).1 c X sc cm o.toOkc).2.2 h1 g) (okT1 o.hN o.nd o.hK (o.calm h1) o.ts g) (hb c X sc cm o) (isSet_fold (by simpa using h2))
    · rw [if_neg h]
      exact s_bad
/-- the clauses -/
inductive AllHd (t : Tab) (N ow : List Str) (k : Nat) : List ExceptHandler → Prop
  | nil : AllHd t N ow k []
  | cons {ty : Option Expr} {n : Option Str} {b : List Stmt} {p : Pos} {r : List ExceptHandler} (hb : AllSs t N ow k b) (hr : AllHd t N ow k r) : AllHd t N ow k (.ExceptHandler ty n b p :: r)
theorem g_hds (o : Oks t N k c X sc true) {hs : List ExceptHandler} (h : AllHd t N ow k hs) : ∀ {zs}, compH t N ow sc hs = some zs → HdsAs X hs (c.cls zs) ∧ ∀ z ∈ zs, c.P.cls.length ≤ z.1 ∧ z.1 < c.P.nex := by
  induction h with
  | nil =>
    intro zs e
    cases e
    exact ⟨.nil, fun _ hz => nomatch hz⟩
  | @cons ty n b p r hb hr ih =>
    intro zs e
    cases ty with
    | none => cases e
    | some ty =>
      cases ty with
      | Name x np =>
        cases n with
        | none => cases e
        | some n =>
          cases b with
          | nil => cases e
          | cons s0 b =>
            have e : (match isGl sc x, t.gx.lookup x, decide (sc.names.lookup n = some .local), ixOf N n, compH t N ow sc r with
              | true, some ci, true, some i, some zs => some ((ci, i, compS t N ow false sc s0 :: compSs t N ow false sc b) :: zs)
              | _, _, _, _, _ => none) = some zs := e
            cases hg : isGl sc x with
            | false => rw [hg] at e; cases e
            | true =>
              cases hx : t.gx.lookup x with
              | none => rw [hg, hx] at e; cases e
              | some ci =>
                cases hn : decide (sc.names.lookup n = some .local) with
                | false => rw [hg, hx, hn] at e; cases e
                | true =>
                  cases hi : ixOf N n with
                  | none => rw [hg, hx, hn, hi] at e; cases e
                  | some i =>
                    cases hr2 : compH t N ow sc r with
                    | none => rw [hg, hx, hn, hi, hr2] at e; cases e
                    | some zs2 =>
                      rw [hg, hx, hn, hi, hr2] at e
                      cases e
                      obtain ⟨i1, i2⟩ := ih hr2
                      obtain ⟨g1, g2, _⟩ := isGl_gl o.hsc hg
                      obtain ⟨m1, m2, m3⟩ := o.exr.gx x ci hx
                      have hn := of_decide_eq_true hn
                      refine ⟨.cons ⟨g1, g2, .inl m1⟩ (by rw [o.hN]; exact ixOf_get hi) (by show X.env.scope.names.lookup n = _; rw [o.hsc]; exact hn) (fun a oe cls d pn hz hf => ⟨fun pins s σ H D I w => ?_⟩) i1, fun z hz => ?_⟩
                      · obtain ⟨dd, rfl, rfl, w⟩ := w
                        exact (hb (c.sui a dd) _ sc false (okc_sui o m2 m3 hz hf)).run pins s σ H D I w
                      · rcases List.mem_cons.mp hz with hz | hz
                        · rw [hz]
                          exact ⟨m2, m3⟩
                        · exact i2 z hz
      | _ => cases e
theorem g_try {b : List Stmt} {h : ExceptHandler} {hs : List ExceptHandler} {oe fb : List Stmt} {pos : Pos} (hb : AllSs t N ow k b) (hh : AllHd t N ow k (h :: hs)) : AllSt t N ow k (.Try b (h :: hs) [] [] pos) := fun c X sc cm o => by
  show PS X _ (c.tS (c.xS (if cm = true then (match compH t N ow sc (h :: hs) with
      | some zs => .try_ (compSs t N ow cm sc b) zs
      | none => .bad) else .bad)))
  by_cases hcm : cm = true
  · subst hcm
    rw [if_pos rfl]
    cases hz : compH t N ow sc (h :: hs) with
    | none => exact s_bad
    | some zs =>
      obtain ⟨h1, h2⟩ := g_hds o hh hz
      exact s_try (o.stk rfl) (o.frm rfl) (by rw [o.hN]; exact o.nd) o.hK o.tk (o.xa rfl) o.exr.ex h2 (fun W pn xe tk hp => hb (c.wish W) _ sc true (okc_tr o tk hp)) h1
  · rw [if_neg hcm]
    exact s_bad
end
end AM
namespace AM
open PySem PySem.Spec PyProof.Rows L2
section
variable {t : Tab} {N ow : List Str} {k : Nat} {c : Cc} {X : Cx} {sc : Scope} {cm : Bool}
theorem g_par {u w : Str} {px py pt pt2 pos : Pos} {kt k2} {a b : Expr} {c : Cc} {X : Cx} {sc : Scope} {cm : Bool} (o : Oks t N k c X sc cm) : PS X (.Assign [.Tuple [.Name u px, .Name w py] kt pt] (.Tuple [a, b] k2 pt2) pos) (c.tS (c.xS (if (cm && parB sc u w px py a b) = true then (match ixOf N u, ixOf N w with
      | some i, some j => .par [.name i (decide (u ∈ ow) && decide (i ≠ 0)), .name j (decide (w ∈ ow) && decide (j ≠ 0))] [noStar (compE t N cm sc a), noStar (compE t N cm sc b)]
      | _, _ => .bad) else genT t N cm sc [.Name u px, .Name w py] kt pt (.Tuple [a, b] k2 pt2)))) := by
  split
  · rename_i h
    obtain ⟨h1, h2⟩ := ba2 h
    have h3 := h2
    unfold parB at h3
    simp only [Bool.and_eq_true, decide_eq_true_eq, Bool.not_eq_true'] at h3
    obtain ⟨k1, k2', k3, k4, k5, k6, k7, k8⟩ := h3
    cases hi : ixOf N u with
    | none => exact s_bad
    | some i =>
      cases hj : ixOf N w with
      | none => exact s_bad
      | some j =>
        have hij : i ≠ j := fun z => by
          have e1 := ixOf_get hi
          have e2 := ixOf_get hj
          rw [z, e2] at e1
          exact k3 (Option.some.inj e1).symm
        have nX : ∀ e : Expr, PE X e (c.tX (noStar (compE t N cm sc e))) := fun e => by
          have := eX e o
          generalize compE t N cm sc e = x at this
          cases x <;> first
            | exact this
            | exact ok_bad
        exact s_par (fun z => of_decide_eq_true (ba2 z).2) (fun z => of_decide_eq_true (ba2 z).2) (o.calm h1) (by rw [o.hN]; exact o.nd) (by rw [o.hN]; exact ixOf_get hi) (by rw [o.hN]; exact ixOf_get hj) hij (by rw [o.hsc]; exact k1) (by rw [o.hsc]; exact k2') (nX a) (nX b) (noStar_idem _) (noStar_idem _) k5 k6 (swapped_of o.blk o.hsc h2)
  · exact g_genT o (eE _ o)
theorem g_expr {e : Expr} {pos : Pos} : AllSt t N ow k (.Expr e pos) := fun c X sc cm o => by
  cases e with
  | Call fn es kws p =>
    cases fn with
    | Attribute b m apos =>
      cases b with
      | Name x bp =>
        rcases es with _ | ⟨e, _ | ⟨e2, r⟩⟩
        · cases kws <;> exact g_expr0 o
        · cases kws with
          | nil => exact g_app o
          | cons _ _ => exact g_expr0 o
        · cases kws <;> exact g_expr0 o
      | _ => exact g_expr0 o
    | _ => exact g_expr0 o
  | _ => exact g_expr0 o
theorem g_asg {ts : List Expr} {e : Expr} {pos : Pos} : AllSt t N ow k (.Assign ts e pos) := fun c X sc cm o => by
  rcases ts with _ | ⟨tg, _ | ⟨t2, r⟩⟩
  · exact s_bad
  · cases tg with
    | Name y py => exact g_set o
    | Attribute b f p2 =>
      cases b with
      | Name y py => exact g_fld o
      | _ => exact s_bad
    | Subscript b i p2 =>
      cases b with
      | Name y py => exact g_sub o
      | _ => exact s_bad
    | Tuple es kt pt =>
      have gen := g_genT (kt := kt) (pt := pt) (ts := es) (pos := pos) o (eE e o)
      rcases es with _ | ⟨a, _ | ⟨b, _ | ⟨d, r⟩⟩⟩
      · exact gen
      · cases a <;> exact gen
      · cases a with
        | Name u px =>
          cases b with
          | Name w py =>
            cases e with
            | Tuple vs k2 pt2 =>
              rcases vs with _ | ⟨v1, _ | ⟨v2, _ | ⟨v3, r⟩⟩⟩
              · exact gen
              · exact gen
              · exact g_par o
              · exact gen
            | _ => exact gen
          | _ => exact gen
        | _ => exact gen
      · cases a <;> cases b <;> exact gen
    | _ => exact s_bad
  · cases tg with
    | Attribute b f p2 => cases b <;> exact s_bad
    | Subscript b i p2 => cases b <;> exact s_bad
    | Tuple es kt pt =>
      rcases es with _ | ⟨a, _ | ⟨b, _ | ⟨d, r'⟩⟩⟩
      · exact s_bad
      · cases a <;> exact s_bad
      · cases a with
        | Name u px =>
          cases b with
          | Name w py =>
            cases e with
            | Tuple vs k2 pt2 =>
              rcases vs with _ | ⟨v1, _ | ⟨v2, _ | ⟨v3, r2⟩⟩⟩ <;> exact s_bad
            | _ => exact s_bad
          | _ => exact s_bad
        | _ => exact s_bad
      · cases a <;> cases b <;> exact s_bad
    | _ => exact s_bad
theorem g_aug {y : Str} {py pos : Pos} {op : Operator} {e : Expr} (o : Oks t N k c X sc cm) : PS X (.AugAssign (.Name y py) op e pos) (c.tS (c.xS (match augOf op, locSl N sc y with
    | some o, some i => .aug i o (compE t N cm sc e)
    | _, _ => .bad))) := by
  cases hb : augOf op with
  | none => exact s_bad
  | some b =>
    cases hs : locSl N sc y with
    | none => exact s_bad
    | some i =>
      obtain ⟨h1, h2, h3⟩ := loc_sl o hs
      exact s_aug (by rw [o.hN]; exact o.nd) h1 h2 h3 hb (eE e o)
mutual
theorem okSt : ∀ s : Stmt, AllSt t N ow k s
  | .Return _ _ => g_ret
  | .Expr _ _ => g_expr
  | .Assign _ _ _ => g_asg
  | .If _ a b _ => g_if (okSs a) (okSs b)
  | .While _ b _ _ => g_while (okSs b)
  | .For _ _ b _ _ => g_for (okSs b)
  | .Pass _ => fun c X sc cm o => s_pass
  | .Break _ => fun c X sc cm o => s_brk
  | .Continue _ => fun c X sc cm o => s_cnt
  | .Try b hs oe fb _ => by
    have h1 := okSs b
    have h2 := okHds hs
    cases hs with
    | nil => exact fun c X sc cm o => s_bad
    | cons h hs =>
      cases oe with
      | cons _ _ => exact fun c X sc cm o => s_bad
      | nil =>
        cases fb with
        | cons _ _ => exact fun c X sc cm o => s_bad
        | nil => exact g_try (oe := []) (fb := []) h1 h2
  | .Raise e f pos => fun c X sc cm o => by
    cases e with
    | none => exact s_bad
    | some e =>
      cases e with
      | Call fn es kws p =>
        cases fn with
        | Name x p2 =>
          rcases es with _ | ⟨a, _ | ⟨b, r⟩⟩
          · exact s_bad
          · cases kws with
            | cons _ _ => exact s_bad
            | nil =>
              cases f with
              | none => exact g_raise o
              | some _ => exact s_bad
          · exact s_bad
        | _ => exact s_bad
      | _ => exact s_bad
  | .FunctionDef .. => fun c X sc cm o => s_bad
  | .AsyncFunctionDef .. => fun c X sc cm o => s_bad
  | .ClassDef .. => fun c X sc cm o => s_bad
  | .Delete .. => fun c X sc cm o => s_bad
  | .TypeAlias .. => fun c X sc cm o => s_bad
  | .AugAssign tg _ _ _ => fun c X sc cm o => by
    cases tg with
    | Name y py => exact g_aug o
    | _ => exact s_bad
  | .AnnAssign .. => fun c X sc cm o => s_bad
  | .AsyncFor .. => fun c X sc cm o => s_bad
  | .With .. => fun c X sc cm o => s_bad
  | .AsyncWith .. => fun c X sc cm o => s_bad
  | .Match .. => fun c X sc cm o => s_bad
  | .TryStar .. => fun c X sc cm o => s_bad
  | .Assert .. => fun c X sc cm o => s_bad
  | .Import .. => fun c X sc cm o => s_bad
  | .ImportFrom .. => fun c X sc cm o => s_bad
  | .Global .. => fun c X sc cm o => s_bad
  | .Nonlocal .. => fun c X sc cm o => s_bad
theorem okSs : ∀ ss : List Stmt, AllSs t N ow k ss
  | [] => fun c X sc cm o => s_nil
  | s :: r => fun c X sc cm o => s_cons (okSt s c X sc cm o) (okSs r c X sc cm o)
theorem okHds : ∀ hs : List ExceptHandler, AllHd t N ow k hs
  | [] => .nil
  | .ExceptHandler _ _ b _ :: r => .cons (okSs b) (okHds r)
end
end
end AM
/-! A def's frame at its start. -/
namespace AM
open PySem PySem.Spec PyProof.Rows L2
theorem frame0_own {n : Nat} {xs : List AV} {i : Nat} {x : AV} : (frame0 n xs)[i]? ≠ some (.own x) := fun e1 => by
  unfold frame0 at e1
  rw [List.getElem?_append] at e1
  split at e1
  · rw [List.getElem?_map] at e1
    cases hx : xs[i]? with
    | none => rw [hx] at e1; cases e1
    | some z => rw [hx] at e1; cases e1
  · rw [List.getElem?_replicate] at e1
    split at e1 <;> cases e1
theorem rs_start {c : Cc} {W : Wd} {H : Hp} {h : AH} {xs : List AV} {vs : List V} {N : List Str} (r : RH c.K c.T W h H) (w : RAs c.K c.T W H xs vs) (hW : c.W0 = W) (hH : c.H0 = H) : c.Rs W (frame0 N.length xs) h (L2.start N vs) H := by
  have hl := w.len
  refine ⟨r, fun i => ?_, by rw [hW, hH]; exact Ext.refl W H, fun i j x y p hij e1 _ _ => absurd e1 frame0_own, fun _ _ v e => absurd e frame0_own⟩
  · unfold frame0 L2.start
    rw [List.getElem?_append, List.getElem?_append, List.length_map, List.length_map, hl]
    by_cases hi : i < vs.length
    · rw [if_pos hi, if_pos hi, List.getElem?_map, List.getElem?_map]
      have hx : xs[i]? = some (xs[i]'(by rw [hl]; exact hi)) := List.getElem?_eq_getElem _
      obtain ⟨v, h1, h2⟩ := w.at hx
      rw [hx, h1]
      exact ⟨v, rfl, h2⟩
    · rw [if_neg hi, if_neg hi, List.getElem?_replicate, List.getElem?_replicate]
      by_cases h2 : i - vs.length < N.length - vs.length
      · rw [if_pos h2, if_pos h2]
        exact ⟨none, rfl⟩
      · rw [if_neg h2, if_neg h2]
        rfl
end AM
/-! A def keeps its promise, from one level to the next. -/
namespace AM
open PySem PySem.Spec PyProof.Rows L2
theorem Cc.poS_of {c : Cc} {W : Wd} {H : Hp} {o : Out} {Q : VK} {E : XK} (hW : c.W0 = W) (hH : c.H0 = H) (hx : c.wx = fun cls d _ H => E cls d H) (p : poF c.K c.T W H (calEnd o) Q E) {W1 : Wd} {H1 : Hp} : c.poS W1 H1 o { nx := fun _ H' => Q .non H', rt := Q } := by
  subst hW hH
  cases o with
  | nx s h => exact fun W' H' σ m r => p W' H' .non r.ext r.toRH (by unfold RA; rfl)
  | rt v s h => exact fun W' H' σ u r w => p W' H' u r.ext r.toRH w
  | er x s h => exact fun W' H' σ d vs m r e w => by rw [hx]; exact p W' H' d vs r.ext r.toRH e w
  | bk s h => exact p.elim
  | ct s h => exact p.elim
  | stk => exact p.elim
theorem Cc.poS_ofI {c : Cc} {W : Wd} {H : Hp} {o : Out} {Q : VK} {E : XK} {x : Addr} (hW : c.W0 = W) (hH : c.H0 = H) (hm : c.me = some x) (hx : c.wx = fun cls d _ H => E cls d H) (p : poI c.K c.T W H x (iniEnd o) Q E) {W1 : Wd} {H1 : Hp} : c.poS W1 H1 o { nx := fun _ H' => Q .non H', rt := Q } := by
  subst hW hH
  cases o with
  | nx s h =>
    intro W' H' σ m r
    have p : poI c.K c.T c.W0 c.H0 x (match (s[0]? : Option Sl) with
      | some (.own v) => .ok v h
      | _ => .stk) Q E := p
    cases e0 : s[0]? with
    | none => rw [e0] at p; exact p.elim
    | some z =>
      rw [e0] at p
      cases z with
      | own v =>
        have q := r.slot 0
        rw [e0] at q
        obtain ⟨y, h1, h2, h3, h4, h5⟩ := q
        have hy := r.self x hm v e0
        rw [h1] at hy
        cases hy
        exact p W' H' r.ext r.toRH h2 h3 h5
      | _ => exact p.elim
  | er z s h => exact fun W' H' σ d vs m r e w => by rw [hx]; exact p W' H' d vs r.ext r.toRH e w
  | rt v s h => exact p.elim
  | bk s h => exact p.elim
  | ct s h => exact p.elim
  | stk => exact p.elim
/-- an instance's frame at its __init__'s start -/
theorem rs_startI {c : Cc} {W : Wd} {H H2 : Hp} {h : AH} {xs : List AV} {us : List V} {n : Nat} {N : List Str} {ci : Nat} {x dx : Addr} (r : RH c.K c.T W h H) (w : RAs c.K c.T W H xs us) (hn : N.length = n + 1) (hW : c.W0 = W) (hH : c.H0 = H) (hm : c.me = some x)
    (nx : H x = none) (nd : H dx = none) (ne : dx ≠ x) (e2 : H2 = L2.upd (L2.upd H dx (.own x)) x (.ins (c.T.cadr ci) dx [])) : Ext W H W H2 ∧ c.Rs W (.own (.obj ci []) :: frame0 n xs) h (L2.start N (.ref x :: us)) H2 := by
  have n2 : L2.upd H dx (.own x) x = none := by rw [upd_ne (Ne.symm ne)]; exact nx
  have e : Ext W H W H2 := by
    rw [e2]
    exact (Ext.laid nd).trans (Ext.laid n2)
  have r2 : RH c.K c.T W h H2 := by
    rw [e2]
    exact (r.laid nd).laid n2
  have w2 := w.mono (e.mo r)
  have hl := w.len
  have start : L2.start N (.ref x :: us) = some (.ref x) :: (us.map some ++ List.replicate (n - us.length) none) := by
    unfold L2.start
    rw [hn]
    show some (V.ref x) :: (us.map some ++ List.replicate (n + 1 - (us.length + 1)) none) = _
    rw [Nat.succ_sub_succ]
  refine ⟨e, r2, fun i => ?_, by rw [hW, hH]; exact e, fun i j y z p hij h1 h2 => ?_, fun p hp v h1 => ?_⟩
  · rw [start]
    cases i with
    | zero =>
      refine ⟨x, rfl, fun z => ?_, fun z => r.there x z nx, by rw [hH]; exact nx, dx, [], ?_, by unfold RFs; rfl⟩
      · obtain ⟨o, ho, _⟩ := r.mem z
        rw [nx] at ho
        cases ho
      · rw [e2]
        exact upd_same
    | succ i =>
      show SlR c.K c.T c.xa W c.H0 H2 (frame0 n xs)[i]? (us.map some ++ List.replicate (n - us.length) none)[i]?
      unfold frame0
      rw [List.getElem?_append, List.getElem?_append, List.length_map, List.length_map, hl]
      by_cases hi : i < us.length
      · rw [if_pos hi, if_pos hi, List.getElem?_map, List.getElem?_map]
        have hx : xs[i]? = some (xs[i]'(by rw [hl]; exact hi)) := List.getElem?_eq_getElem _
        obtain ⟨v, h1, h2⟩ := w2.at hx
        rw [hx, h1]
        exact ⟨v, rfl, h2⟩
      · rw [if_neg hi, if_neg hi, List.getElem?_replicate, List.getElem?_replicate]
        by_cases h2 : i - us.length < n - us.length
        · rw [if_pos h2, if_pos h2]
          exact ⟨none, rfl⟩
        · rw [if_neg h2, if_neg h2]
          rfl
  · cases i with
    | succ i => exact absurd h1 frame0_own
    | zero =>
      cases j with
      | zero => exact absurd rfl hij
      | succ j => exact absurd h2 frame0_own
  · rw [hm] at hp
    cases hp
    rw [start]
    rfl
section
variable {P : Program} {w : World} {K : PySem.W.Frag} {mg : Str → Option Value} {base : Heap} {T : Nm} {Pr : Prg} {t : Tab} {k : Nat}
/-- what the level k gives to the bodies -/
structure Giv (P : Program) (w : World) (K : PySem.W.Frag) (mg : Str → Option Value) (base : Heap) (T : Nm) (Pr : Prg) (t : Tab) (k : Nat) : Prop where
  glo : ∀ (c : Cc) (X : Cx), c.K = K → c.T = T → c.P = Pr → c.cal = calA Pr k → c.ini = iniA Pr k → X.prog = P → X.w = w → X.K = K → X.mg = mg → X.base = base → Glo t k c X
  exr : ∀ (c : Cc) (X : Cx), c.K = K → c.T = T → c.P = Pr → X.prog = P → X.w = w → X.K = K → X.mg = mg → X.base = base → ExR t c X
theorem oks_start {N ps : List Str} {qual : Str} {scope : Scope} {f : Addr} {cdv : Value} {A : Around} {outer : List Env} {s : Shared} {H : Hp} {E : XK} {c : Cc} (g : Giv P w K mg base T Pr t k) (S : FnScope N ps scope) (room : Room (2 * k + 2) (A.deeper (envOfC qual scope s.heap.objs.size f cdv))) (gd : A.guards = some [])
    (hK : c.K = K) (hT : c.T = T) (hP : c.P = Pr) (h1 : c.cal = calA Pr k) (h2 : c.ini = iniA Pr k) (hx : c.xa = none) (hw : c.wx = fun cls d _ H => E cls d H) : Oks t N k c (cxOf (L2.CX P w) P w K mg base N qual scope f cdv A outer s H E) scope true := by
  have gl := g.glo c (cxOf (L2.CX P w) P w K mg base N qual scope f cdv A outer s H E) hK hT hP h1 h2 rfl rfl rfl rfl rfl
  exact {
    hK := hK.symm
    hN := rfl
    nd := S.nd
    hsc := rfl
    calm := fun _ => rfl
    room := fun _ => room
    hu := by have := room.un; show (A.deeper _).units + 66 < cLine; omega
    gd := guards_deeper gd _
    tk := by rw [hw]; exact takes_of rfl rfl rfl rfl
    xa := fun _ => hx
    glo := gl
    att := fun a f nm pos h1 h2 h3 => ok_attr hx hK.symm gl.inj (gl.fld f nm h2).1 (gl.fld f nm h2).2 h3 h1
    exr := g.exr c _ hK hT hP rfl rfl rfl rfl rfl
    ts := fun x hx => ⟨hx, .inl rfl⟩
    stk := fun _ => rfl
    frm := fun _ => rfl
    pass := fun _ => passes_of rfl
    room2 := fun _ => room.mono (by omega)
    blk := by
      show Env.blockKind (envOfC qual scope s.heap.objs.size f cdv) = _
      unfold Env.blockKind
      have : (envOfC qual scope s.heap.objs.size f cdv).scope.kind = .function := S.kind
      rw [this]
      rfl }
/-- the base: nothing is promised -/
theorem fnF_zero {f : Addr} {fd : FuncData} {ps : List Str} {j n : Nat} : FnG P w K mg base n f fd ps (spF K T (calA Pr 0 j)) where
  len := fun vs H Q E ⟨_, _, _, _, _, z⟩ => z.elim
  run := fun _ _ _ _ _ _ _ _ _ _ _ _ _ _ ⟨_, _, _, _, _, z⟩ => z.elim
theorem fnI_zero {f : Addr} {fd : FuncData} {ps : List Str} {c j n : Nat} : FnG P w K mg base n f fd ps (spI K T c (iniA Pr 0 c j)) where
  len := fun vs H Q E ⟨_, _, _, _, _, _, _, _, _, _, _, _, _, _, z⟩ => z.elim
  run := fun _ _ _ _ _ _ _ _ _ _ _ _ _ _ ⟨_, _, _, _, _, _, _, _, _, _, _, _, _, _, z⟩ => z.elim
section
variable {f : Addr} {name qual : Str} {params : Arguments} {body : List Stmt} {scope : Scope} {dV kV doc pm cdv ct oc : Value} {an od : Option Addr} {osl : Array (Option Value)} {N ps ow : List Str} {j : Nat}
theorem fnF_step (lk : K.lookup f = some ⟨oc, od, .func (PySem.W.fnOf name qual params body scope dV kV doc pm an cdv ct), osl⟩) (hcd : PySem.W.codeIn K cdv qual = true) (S : FnScope N ps scope) (g : Giv P w K mg base T Pr t k) (hf : Pr.fns[j]? = some ⟨ps.length, N.length, compSs t N ow true scope body⟩) :
    FnG P w K mg base (2 * (k + 1) + 1) f (PySem.W.fnOf name qual params body scope dV kV doc pm an cdv ct) ps (spF K T (calA Pr (k + 1) j)) := by
  have run : ∀ xs h, calA Pr (k + 1) j xs h = if xs.length = ps.length then calEnd (exL Pr (calA Pr k) (iniA Pr k) (compSs t N ow true scope body) (frame0 N.length xs) h) else .stk := fun xs h => by
    show runF Pr (calA Pr k) (iniA Pr k) j xs h = _
    unfold runF
    rw [hf]
  refine FnG.of (k := 2 * k + 2) lk hcd S (fun vs H Q E ⟨W, h, xs, r, w1, p⟩ => ?_) fun A outer s H vs Q E room gd ⟨W, h, xs, r, w1, p⟩ => ?_
  · rw [run] at p
    split at p
    · rename_i hl
      rw [← w1.len]
      exact hl
    · exact p.elim
  · rw [run] at p
    split at p
    · rename_i hl
      let c : Cc := ⟨K, T, Pr, calA Pr k, iniA Pr k, W, H, none, none, fun cls d _ H => E cls d H⟩
      have o := oks_start (outer := outer) (H := H) (c := c) g S room gd rfl rfl rfl rfl rfl rfl rfl
      exact ⟨_, okSs (ow := ow) body c _ scope true o, W, frame0 N.length xs, h, rs_start r w1 rfl rfl, Cc.poS_of rfl rfl rfl p⟩
    · exact p.elim
theorem fnI_step {ci : Nat} (lk : K.lookup f = some ⟨oc, od, .func (PySem.W.fnOf name qual params body scope dV kV doc pm an cdv ct), osl⟩) (hcd : PySem.W.codeIn K cdv qual = true) (S : FnScope N ps scope) (g : Giv P w K mg base T Pr t k) (hf : Pr.fns[j]? = some ⟨ps.length, N.length, compSs t N ow true scope body⟩) (hn : N.length = (N.length - 1) + 1) :
    FnG P w K mg base (2 * (k + 1) + 1) f (PySem.W.fnOf name qual params body scope dV kV doc pm an cdv ct) ps (spI K T ci (iniA Pr (k + 1) ci j)) := by
  have run : ∀ xs h, iniA Pr (k + 1) ci j xs h = if xs.length + 1 = ps.length then iniEnd (exL Pr (calA Pr k) (iniA Pr k) (compSs t N ow true scope body) (.own (.obj ci []) :: frame0 (N.length - 1) xs) h) else .stk := fun xs h => by
    show runI Pr (calA Pr k) (iniA Pr k) ci j xs h = _
    unfold runI
    rw [hf]
  refine FnG.of (k := 2 * k + 2) lk hcd S (fun vs H Q E ⟨W, H1, h, xs, us, x, dx, ev, nx, nd, ne, eH, r, w1, p⟩ => ?_) fun A outer s H vs Q E room gd ⟨W, H1, h, xs, us, x, dx, ev, nx, nd, ne, eH, r, w1, p⟩ => ?_
  · rw [run] at p
    split at p
    · rename_i hl
      rw [ev, List.length_cons, ← w1.len]
      exact hl
    · exact p.elim
  · rw [run] at p
    split at p
    · rename_i hl
      let c : Cc := ⟨K, T, Pr, calA Pr k, iniA Pr k, W, H1, none, some x, fun cls d _ H => E cls d H⟩
      have o := oks_start (outer := outer) (H := H) (c := c) g S room gd rfl rfl rfl rfl rfl rfl rfl
      obtain ⟨_, rs⟩ := rs_startI (c := c) (N := N) (n := N.length - 1) (ci := ci) r w1 hn rfl rfl rfl nx nd ne eH
      subst ev
      exact ⟨_, okSs (ow := ow) body c _ scope true o, W, _, h, rs, Cc.poS_ofI rfl rfl rfl rfl p⟩
    · exact p.elim
end
end
end AM
/-! From what the top left to what the levels lean on. -/
namespace AM
open PySem PySem.Spec PyProof.Rows L2
/-- a def of the text -/
structure FI where
  d : He.DefD
  N : List Str
  ps : List Str
  ow : List Str
  tk : Bool
  rf : Bool
  ini : Option Nat
/-- an error class: its name, field, __init__'s parameter, __init__ -/
structure EI where
  n : Str
  f : Str
  y : Str
  d : He.DefD
/-- the text's classes, error classes, constants -/
structure Tx where
  fis : List FI
  cls : List Str
  exs : List EI
  fld : List Str
  kons : List (Str × AV)
  base : Str
section
variable (x : Tx)
def Tx.tab (tk rf : Bool) : Tab where
  gf := x.fis.zipIdx.filterMap fun p => match p.1.d.at_, p.1.ini with
    | (n, none), none => some (n, p.2)
    | _, _ => none
  gc := x.cls.zipIdx
  gx := x.exs.zipIdx.map fun p => (p.1.n, x.cls.length + p.2)
  gk := (x.kons.map (·.1)).zipIdx
  fx := x.exs.filterMap fun p => (ixOf x.fld p.f).map fun j => (p.n, j)
  fld := x.fld
  mth := []
  prp := []
  tk := tk
  rf := rf
/-- a field's name; no two of one name -/
def Tx.fnm (f : Nat) : Str := (x.fld[f]?).getD ⟨(List.replicate (f + 100) 0).toArray⟩
def Tx.nm (K : PySem.W.Frag) : Nm where
  cadr := fun i => He.ga K (((x.cls ++ x.exs.map (·.n))[i]?).getD "")
  fnm := x.fnm
  con := []
end
/-! ### checks -/
def flatB : AV → Value → Bool
  | .int i, .int j _ => decide (i = j)
  | .str y, .str z _ => decide (y = z)
  | _, _ => false
def flatsB : List AV → List Value → Bool
  | [], [] => true
  | a :: r, v :: s => flatB a v && flatsB r s
  | _, _ => false
def tupB (K : PySem.W.Frag) (p : Str × List AV) : Bool := match K.lookup (He.ga K p.1) with
  | some ⟨.type c, _, .seq its _, _⟩ => decide (c = "tuple") && (decide (its.size ≤ sizeLine) && flatsB p.2 its.toList)
  | _ => false
def clsB (K : PySem.W.Frag) (y : Str) : Bool := He.eqO (PySem.W.findIn K (.ref (He.ga K y)) "__class__") (some (some (.builtin "object.__class__"))) && decide (PySem.W.mroIn K (He.ga K y) (.type "object") = some true)
def allTy (n : Nat) : List Ty := [.int, .bool, .str, .tuple, .list, .dict] ++ (List.range n).map .cls
def kitB (K : PySem.W.Frag) (T : Nm) (n : Nat) : Bool := (none :: (allTy n).map some).all fun o => (allTy n).all fun t => decide (PySem.W.kitOne K (tagU T o) (tagU T (some t)) = some (tyExp o t))
def ogB (K : PySem.W.Frag) : Bool := He.eqO (PySem.W.specialIn K (.builtin "object.__class__") "__get__") (some (some (.builtin "getset_descriptor.__get__"))) && decide (PySem.W.takesIn K (.builtin "object.__class__") = some true)
def oexB (K : PySem.W.Frag) (C : Addr) : Bool := (match K.lookup C with
  | some ⟨.type m, _, .cls cd, sl⟩ => decide (m = "type") && (match cd.mro, sl.toList with
    | .ref D :: bm, [_, _, _, _, some (.builtin i), _] => decide (D = C) && (decide (i = "ValueError.__new__") && (!cd.hasDel && (cd.hasDict && PySem.HandSPX.refsVE bm)))
    | _, _ => false)
  | _ => false) && (He.eqO (PySem.W.findIn K (.ref C) "__setattr__") (some (some (.builtin "object.__setattr__"))) && (decide (PySem.W.subIn K (.ref C) (.type "BaseException") = some true) && (decide (PySem.W.typeIn K (.ref C) = some (.type "type")) && PySem.W.keepIn K (.ref C))))
def xfB (K : PySem.W.Frag) (C : Addr) : Bool := He.eqO (PySem.W.findIn K (.ref C) "__getattribute__") (some (some (.builtin "BaseException.__getattribute__"))) && (He.eqO (PySem.W.findIn K (.ref C) "__getattr__") (some none) && PySem.W.hasDictIn K C)
/-- an error class's __init__ -/
def exBody (W y f : Str) : List Stmt → Bool
  | [.Expr (.Call (.Attribute (.Name w _) m p2) [.Name s _, .Constant (.str _) _ _] [] p5) _, .Assign [.Attribute (.Name s2 _) g _] (.Name z _) _] => decide (w = W) && (decide (m = "__init__") && (decide (s = "self") && (decide (s2 = "self") && (decide (g = f) && (decide (z = y) && (p2.endLine == p5.line))))))
  | _ => false
def scB (N P : List Str) (sc : Scope) : Bool := decide (sc.kind = .function) && (!sc.isCoroutine && (!sc.isGenerator && (decide N.Nodup && (decide (N.take P.length = P) && (P.all (fun x => decide (sc.names.lookup x = some .local) || decide (sc.names.lookup x = some .cell)) && sc.names.all fun y => decide (y.2 ≠ .free))))))
theorem scB_ok {N P : List Str} {sc : Scope} (h : scB N P sc = true) : FnScope N P sc := by
  unfold scB at h
  simp only [Bool.and_eq_true, decide_eq_true_eq, Bool.not_eq_true', List.all_eq_true, Bool.or_eq_true] at h
  obtain ⟨h1, h2, h3, h4, h5, h6, h7⟩ := h
  exact ⟨h1, h2, h3, h4, h5, h6, h7⟩
section
variable {K : PySem.W.Frag}
theorem flatB_ok {a : AV} {v : Value} (h : flatB a v = true) (K' : PySem.W.Frag) (T : Nm) : ∃ u, RelV u v ∧ ∀ W H, RA K' T W H a u := by
  cases a with
  | int i => cases v with
    | int j t =>
      have e : i = j := of_decide_eq_true h
      exact ⟨.int i, ⟨t, by rw [e]⟩, fun _ _ => ra_int'⟩
    | _ => cases h
  | str i => cases v with
    | str j t =>
      have e : i = j := of_decide_eq_true h
      exact ⟨.str i, ⟨t, by rw [e]⟩, fun _ _ => ra_str'⟩
    | _ => cases h
  | _ => cases h
theorem flatsB_ok : ∀ {xs : List AV} {vs : List Value}, flatsB xs vs = true → ∀ (K' : PySem.W.Frag) (T : Nm), ∃ us, Vals us vs ∧ ∀ W H, RAs K' T W H xs us
  | [], [], _, _, _ => ⟨[], .nil, fun _ _ => RAs.nil⟩
  | [], _ :: _, h, _, _ => by cases h
  | _ :: _, [], h, _, _ => by cases h
  | a :: r, v :: s, h, K', T => by
    obtain ⟨h1, h2⟩ := ba2 h
    obtain ⟨u, e1, e2⟩ := flatB_ok h1 K' T
    obtain ⟨us, e3, e4⟩ := flatsB_ok h2 K' T
    exact ⟨u :: us, .cons e1 e3, fun W H => RAs.cons (e2 W H) (e4 W H)⟩
theorem tupB_ok {p : Str × List AV} (h : tupB K p = true) (T : Nm) : ∀ W H, RA K T W H (.ktup p.2) (.ref (He.ga K p.1)) := by
  unfold tupB at h
  cases q : K.lookup (He.ga K p.1) with
  | none => rw [q] at h; cases h
  | some o =>
    obtain ⟨oc, od, dt, osl⟩ := o
    rw [q] at h
    cases oc with
    | type c =>
      cases dt with
      | seq its n =>
        obtain ⟨h1, h2⟩ := ba2 (show (decide (c = "tuple") && (decide (its.size ≤ sizeLine) && flatsB p.2 its.toList)) = true from h)
        obtain ⟨h3, h4⟩ := ba2 h2
        obtain ⟨us, e1, e2⟩ := flatsB_ok h4 K T
        intro W H
        unfold RA
        exact ⟨_, us, _, its, n, rfl, ⟨q, congrArg Value.type (of_decide_eq_true h1), rfl, of_decide_eq_true h3, e1⟩, e2 W H⟩
      | _ => cases h
    | _ => cases dt <;> cases h
theorem allTy_in {n : Nat} {t : Ty} (h : tyIn n (some t)) : t ∈ allTy n := by
  cases t with
  | cls c =>
    refine List.mem_append.mpr (.inr (List.mem_map.mpr ⟨c, ?_, rfl⟩))
    exact List.mem_range.mpr h
  | _ => exact List.mem_append.mpr (.inl (by simp))
theorem isiR_of {T : Nm} {n : Nat} (h1 : kitB K T n = true) (h2 : ogB K = true) (h3 : ∀ c, c < n → ClsR K (T.cadr c)) : IsiR K T n := by
  obtain ⟨g1, g2⟩ := ba2 h2
  refine ⟨fun o t ho ht => ?_, He.eqO_ok g1, of_decide_eq_true g2, h3⟩
  unfold kitB at h1
  have m : o ∈ none :: (allTy n).map some := by
    cases o with
    | none => exact List.mem_cons_self
    | some t => exact List.mem_cons_of_mem _ (List.mem_map.mpr ⟨t, allTy_in ho, rfl⟩)
  exact of_decide_eq_true (List.all_eq_true.mp (List.all_eq_true.mp h1 o m) t (allTy_in ht))
theorem oexB_ok {C : Addr} (h : oexB K C = true) : OexC K C := by
  obtain ⟨h1, h2⟩ := ba2 h
  obtain ⟨h2, h3⟩ := ba2 h2
  obtain ⟨h3, h4⟩ := ba2 h3
  obtain ⟨h4, h5⟩ := ba2 h4
  refine ⟨?_, He.eqO_ok h2, of_decide_eq_true h3, of_decide_eq_true h4, h5⟩
  cases q : K.lookup C with
  | none => rw [q] at h1; cases h1
  | some o =>
    obtain ⟨oc, od, dt, osl⟩ := o
    rw [q] at h1
    cases oc with
    | type m =>
      cases dt with
      | cls cd =>
        obtain ⟨k1, k2⟩ := ba2 (show (decide (m = "type") && (match cd.mro, osl.toList with
          | .ref D :: bm, [_, _, _, _, some (.builtin i), _] => decide (D = C) && (decide (i = "ValueError.__new__") && (!cd.hasDel && (cd.hasDict && PySem.HandSPX.refsVE bm)))
          | _, _ => false)) = true from h1)
        obtain ⟨nm, bs, mro, ns, qn, hd, sn, sub, ab, col, del⟩ := cd
        have k1 := of_decide_eq_true k1
        subst k1
        simp only at k2
        split at k2
        · rename_i D bm a0 a1 a2 a3 i a5 el
          obtain ⟨k3, k4⟩ := ba2 k2
          obtain ⟨k4, k5⟩ := ba2 k4
          obtain ⟨k5, k6⟩ := ba2 k5
          obtain ⟨k6, k7⟩ := ba2 k6
          have k3 := of_decide_eq_true k3
          have k4 := of_decide_eq_true k4
          subst k3 k4
          have es : osl = #[a0, a1, a2, a3, some (.builtin "ValueError.__new__"), a5] := by
            rw [← Array.toList_inj, el]
          have k5 : del = false := by simpa using k5
          subst k5 k6 es
          exact ⟨nm, qn, ns, bs, bm, sn, sub, ab, col, od, a0, a1, a2, a3, a5, rfl, k7⟩
        · cases k2
      | _ => cases h1
    | _ => cases dt <;> cases h1
end
end AM
/-! Error classes, by what was checked; the levels. -/
namespace AM
open PySem PySem.Spec PyProof.Rows L2
section
variable {P : Program} {w : World} {K : PySem.W.Frag} {mg : Str → Option Value} {base : Heap}
theorem exBody_shape {W y f : Str} {b : List Stmt} (h : exBody W y f b = true) : ∃ (msg : Str) (j : Nat) (p1 p2 p3 p4 p5 p6 p7 p8 p9 p10 : Pos),
    b = [.Expr (.Call (.Attribute (.Name W p1) "__init__" p2) [.Name "self" p3, .Constant (.str msg) j p4] [] p5) p6, .Assign [.Attribute (.Name "self" p7) f p8] (.Name y p9) p10] ∧ (p2.endLine == p5.line) = true := by
  unfold exBody at h
  split at h
  · rename_i w p1 m p2 s p3 msg j p4 p5 p6 s2 p7 g p8 z p9 p10
    simp only [Bool.and_eq_true, decide_eq_true_eq] at h
    obtain ⟨rfl, rfl, rfl, rfl, rfl, rfl, h7⟩ := h
    exact ⟨_, _, _, _, _, _, _, _, _, _, _, _, rfl, h7⟩
  · cases h
/-- an error class: its place, its __init__'s parameter, its field -/
theorem ex_fn {C fI WE : Addr} {fd : FuncData} {name qual y f W : Str} {params : Arguments} {body : List Stmt} {scope : Scope} {mc : Value}
    (F : FunD K name qual params body scope [] [] fI fd) (S : FnScope ["self", y] ["self", y] scope) (hb : exBody W y f body = true) (T : OexC K C) (no : PySem.W.findIn K (.ref C) f = some none) (hgW : scope.names.lookup W = some .globalImplicit) (hdW : (W == ("__debug__" : Str)) = false) (hmW : mg W = some (.ref WE))
    (hx1 : (y == ("__debug__" : Str)) = false) (hx2 : (y == ("__classdict__" : Str)) = false) (rd : PySem.W.readsIn K WE mc = true) (ga : PySem.W.specialIn K (.ref WE) "__getattribute__" = some (some (.builtin "type.__getattribute__")))
    (at_ : PySem.W.findCls K (.ref WE) mc "__init__" = some (.val (.builtin "ValueError.__init__"))) : FnOk P w K mg base (L2.CX P w) 1 fI fd ["self", y] (spEx C f) := by
  obtain ⟨oc, od, dV, kV, doc, pm, an, cdv, ct, osl, rfl, lk, hcd, _, _⟩ := F.ex
  obtain ⟨msg, j, p1, p2, p3, p4, p5, p6, p7, p8, p9, p10, rfl, hl⟩ := exBody_shape hb
  refine fn_ex lk hcd S T no hgW hdW hmW hx1 hx2 rd ga at_ fun env => ⟨plainOf (.Name W p1) env, ?_⟩
  have e : eval (.Call (.Attribute (.Name W p1) "__init__" p2) [.Name "self" p3, .Constant (.str msg) j p4] [] p5) env = (do
      let ov ← eval (.Name W p1) env
      standAt p2.atName
      methodCall (.Name W p1) "__init__" p2 p5 env ov 2 (backTo p5 (starEach [.Name "self" p3, .Constant (.str msg) j p4] env)) (backToKw p5 (keywordEach [] env))) := rfl
  rw [e]
  congr 1
  funext ov
  congr 1
  funext _
  exact mcall_line rfl hl
end
end AM
/-! The levels, by what was checked. -/
namespace AM
open PySem PySem.Spec PyProof.Rows L2
def konB (K : PySem.W.Frag) : Str × AV → Bool
  | (n, .int i) => (He.Fa.int n i).ok K
  | (n, .str s) => (He.Fa.str n s).ok K
  | (n, .ktup xs) => (He.Fa.glo n).ok K && tupB K (n, xs)
  | _ => false
def exmB (K : PySem.W.Frag) (es : List EI) : Bool := es.zipIdx.all fun a => es.zipIdx.all fun b => decide (PySem.W.exmOne K (.ref (He.ga K a.1.n)) (.ref (He.ga K b.1.n)) = some (decide (a.2 = b.2)))
def isIni : Option (Option PySem.W.CFound) → Bool := fun _ => true
def foundB : Option PySem.W.CFound → Bool
  | some (.val v) => decide (v = .builtin "ValueError.__init__")
  | _ => false
/-- what is checked of the heap behind the top -/
def Tx.chk (x : Tx) (K : PySem.W.Frag) : Bool :=
  (biNames.all fun y => (He.Fa.free y).ok K) &&
  ((x.fis.all fun d => match d.d.at_ with
    | (n, none) => (He.Fa.glo n).ok K
    | _ => true) &&
  ((x.cls.all fun n => (He.Fa.glo n).ok K && ((He.Fa.cls n).ok K && ((He.Fa.mkr n).ok K && (clsB K n && x.fld.all fun f => (He.Fa.noat n f).ok K)))) &&
  (kitB K (x.nm K) x.cls.length && (ogB K &&
  ((x.exs.all fun p => (He.Fa.glo p.n).ok K && ((He.Fa.meth p.n "__init__").ok K && (oexB K (He.ga K p.n) && (xfB K (He.ga K p.n) && x.fld.all fun f => (He.Fa.noat p.n f).ok K)))) &&
  (exmB K x.exs && (x.kons.all (konB K) &&
  ((He.Fa.glo x.base).ok K && (PySem.W.readsIn K (He.ga K x.base) (.type "type") && (He.eqO (PySem.W.specialIn K (.ref (He.ga K x.base)) "__getattribute__") (some (some (.builtin "type.__getattribute__"))) && foundB (PySem.W.findCls K (.ref (He.ga K x.base)) (.type "type") "__init__")))))))))))
/-- what is checked of the text alone -/
def Tx.sta (x : Tx) (Pr : Prg) : Bool :=
  (x.fis.all fun d => scB d.N d.ps d.d.scope && decide (0 < d.N.length)) &&
  ((x.cls.zipIdx.all fun c => match Pr.cls[c.2]? with
    | some ⟨false, init, _, _⟩ => (match x.fis[init]? with
      | some d => decide (d.d.at_ = (c.1, some ("__init__" : Str))) && decide (d.ini = some c.2)
      | none => false)
    | _ => false) &&
  (decide (Pr.cls.length = x.cls.length) && (decide (Pr.nex = x.cls.length + x.exs.length) &&
  ((x.exs.all fun e => exBody x.base e.y e.f e.d.body && (scB ["self", e.y] ["self", e.y] e.d.scope && (decide (e.d.scope.names.lookup x.base = some .globalImplicit) && (!(x.base == ("__debug__" : Str)) && (!(e.y == ("__debug__" : Str)) && (!(e.y == ("__classdict__" : Str)) && (decide (e.d.at_ = (e.n, some ("__init__" : Str))) && decide (e.f ∈ x.fld)))))))) &&
  ((x.exs.zipIdx.all fun p => decide ((x.tab false false).gx.lookup p.1.n = some (x.cls.length + p.2)) && decide ((x.tab false false).fx.lookup p.1.n = ixOf x.fld p.1.f)) &&
  (decide x.fld.Nodup && x.fld.all fun f => decide (f.cps.size < 100)))))))
def BindOk (d : FI) : Prop := ∀ (kV doc pm : Value) (an : Option Addr) (cdv ct : Value) (us : List Value), us.length = d.ps.length → bindArgs (PySem.W.fnOf d.d.name d.d.qual d.d.params d.d.body d.d.scope .none kV doc pm an cdv ct) ⟨us, []⟩ = pure (d.ps.zip us)
def BindOkE (e : EI) : Prop := ∀ (kV doc pm : Value) (an : Option Addr) (cdv ct : Value) (us : List Value), us.length = 2 → bindArgs (PySem.W.fnOf e.d.name e.d.qual e.d.params e.d.body e.d.scope .none kV doc pm an cdv ct) ⟨us, []⟩ = pure ([("self" : Str), e.y].zip us)
def AllP {α : Type} (p : α → Prop) : List α → Prop
  | [] => True
  | a :: r => p a ∧ AllP p r
theorem AllP.at {α : Type} {p : α → Prop} : ∀ {l : List α}, AllP p l → ∀ a ∈ l, p a
  | [], _, _, h => nomatch h
  | b :: r, h, a, m => by
    rcases List.mem_cons.mp m with m | m
    · rw [m]
      exact h.1
    · exact h.2.at a m
theorem lookup_mem {α β : Type} [BEq α] [LawfulBEq α] {a : α} {b : β} : ∀ {l : List (α × β)}, l.lookup a = some b → (a, b) ∈ l
  | [], h => by cases h
  | (c, d) :: r, h => by
    rw [List.lookup_cons] at h
    cases hc : a == c with
    | true =>
      rw [hc] at h
      cases h
      rw [beq_iff_eq.mp hc]
      exact List.mem_cons_self
    | false =>
      rw [hc] at h
      exact List.mem_cons_of_mem _ (lookup_mem h)
/-- all that is known -/
structure Hd (P : Program) (w : World) (K : PySem.W.Frag) (mg : Str → Option Value) (base : Heap) (x : Tx) (Pr : Prg) : Prop where
  chk : x.chk K = true
  sta : x.sta Pr = true
  kin : K.In base
  ns : base.Ns mainGlobals mg
  fd : ∀ d ∈ x.fis, ∃ fd, FunD K d.d.name d.d.qual d.d.params d.d.body d.d.scope [] [] (He.fAd K d.d.at_) fd
  fe : ∀ e ∈ x.exs, ∃ fd, FunD K e.d.name e.d.qual e.d.params e.d.body e.d.scope [] [] (He.fAd K e.d.at_) fd
  bd : AllP BindOk x.fis
  be : AllP BindOkE x.exs
  fns : ∀ (j : Nat) (d : FI), x.fis[j]? = some d → Pr.fns[j]? = some (⟨d.ps.length, d.N.length, compSs (x.tab d.tk d.rf) d.N d.ow true d.d.scope d.d.body⟩ : FD)
  cons : Pr.cons = x.kons.map (·.2)
section
variable {P : Program} {w : World} {K : PySem.W.Frag} {mg : Str → Option Value} {base : Heap} {x : Tx} {Pr : Prg}
theorem Tx.fnm_at (x : Tx) {f : Nat} {n : Str} (h : x.fld[f]? = some n) : x.fnm f = n := by
  unfold Tx.fnm
  rw [h]
  rfl
theorem fnm_inj (h1 : x.fld.Nodup) (h2 : x.fld.all (fun f => decide (f.cps.size < 100)) = true) : ∀ f g, x.fnm f = x.fnm g → f = g := by
  intro f g e
  have big : ∀ k : Nat, (⟨(List.replicate (k + 100) 0).toArray⟩ : Str).cps.size = k + 100 := fun k => by simp
  have small : ∀ {k : Nat} {n : Str}, x.fld[k]? = some n → n.cps.size < 100 := fun {k n} hk => of_decide_eq_true (List.all_eq_true.mp h2 n (List.mem_of_getElem? hk))
  unfold Tx.fnm at e
  cases hf : x.fld[f]? with
  | some n =>
    cases hg : x.fld[g]? with
    | some m =>
      rw [hf, hg] at e
      have e : n = m := e
      subst e
      obtain ⟨lf, ef⟩ := List.getElem?_eq_some_iff.mp hf
      obtain ⟨lg, eg⟩ := List.getElem?_eq_some_iff.mp hg
      exact (List.getElem_inj h1).mp (ef.trans eg.symm)
    | none =>
      rw [hf, hg] at e
      have e : n = ⟨(List.replicate (g + 100) 0).toArray⟩ := e
      have := small hf
      rw [e, big] at this
      omega
  | none =>
    cases hg : x.fld[g]? with
    | some m =>
      rw [hf, hg] at e
      have e : (⟨(List.replicate (f + 100) 0).toArray⟩ : Str) = m := e
      have := small hg
      rw [← e, big] at this
      omega
    | none =>
      rw [hf, hg] at e
      have e : (⟨(List.replicate (f + 100) 0).toArray⟩ : Str) = ⟨(List.replicate (g + 100) 0).toArray⟩ := e
      have := congrArg (fun z : Str => z.cps.size) e
      simp only [big] at this
      omega
theorem nm_cls {j : Nat} {n : Str} (h : x.cls[j]? = some n) : (x.nm K).cadr j = He.ga K n := by
  show He.ga K (((x.cls ++ x.exs.map (·.n))[j]?).getD "") = _
  rw [List.getElem?_append, if_pos (List.getElem?_eq_some_iff.mp h).1, h]
  rfl
theorem nm_exs {j : Nat} {e : EI} (h : x.exs[j]? = some e) : (x.nm K).cadr (x.cls.length + j) = He.ga K e.n := by
  show He.ga K (((x.cls ++ x.exs.map (·.n))[x.cls.length + j]?).getD "") = _
  rw [List.getElem?_append, if_neg (by omega), Nat.add_sub_cancel_left, List.getElem?_map, h]
  rfl
theorem kon_ok (kin : K.In base) (ns : base.Ns mainGlobals mg) {p : Str × AV} (h : konB K p = true) (T : Nm) : ∃ v u, mg p.1 = some u ∧ RelV v u ∧ ∀ W H, RA K T W H p.2 v := by
  obtain ⟨n, a⟩ := p
  cases a with
  | int i =>
    obtain ⟨t, e⟩ := He.int_ok kin ns h
    exact ⟨.int i, _, e, ⟨t, rfl⟩, fun _ _ => ra_int'⟩
  | str s =>
    obtain ⟨t, e⟩ := He.str_ok kin ns h
    exact ⟨.str s, _, e, ⟨t, rfl⟩, fun _ _ => ra_str'⟩
  | ktup xs =>
    obtain ⟨h1, h2⟩ := ba2 h
    exact ⟨.ref _, _, He.glo_ok kin ns h1, rfl, tupB_ok h2 T⟩
  | _ => cases h
structure Chk (x : Tx) (K : PySem.W.Frag) : Prop where
  bi : ∀ y ∈ biNames, (He.Fa.free y).ok K = true
  gf : ∀ d ∈ x.fis, ∀ n, d.d.at_ = (n, none) → (He.Fa.glo n).ok K = true
  cl : ∀ n ∈ x.cls, (He.Fa.glo n).ok K = true ∧ Cls K (He.ga K n) ∧ Mk K (He.ga K n) (He.ma K (He.ga K n) "__init__") ∧ ClsR K (He.ga K n) ∧ ∀ f ∈ x.fld, NoAttr K (He.ga K n) f
  isi : IsiR K (x.nm K) x.cls.length
  ex : ∀ e ∈ x.exs, (He.Fa.glo e.n).ok K = true ∧ Meth K (He.ga K e.n) "__init__" (He.ma K (He.ga K e.n) "__init__") ∧ OexC K (He.ga K e.n) ∧ XfC K (He.ga K e.n) ∧ ∀ f ∈ x.fld, PySem.W.findIn K (.ref (He.ga K e.n)) f = some none
  exm : ∀ (i j : Nat) (a b : EI), x.exs[i]? = some a → x.exs[j]? = some b → PySem.W.exmOne K (.ref (He.ga K a.n)) (.ref (He.ga K b.n)) = some (decide (i = j))
  kon : ∀ p ∈ x.kons, konB K p = true
  bas : (He.Fa.glo x.base).ok K = true ∧ PySem.W.readsIn K (He.ga K x.base) (.type "type") = true ∧ PySem.W.specialIn K (.ref (He.ga K x.base)) "__getattribute__" = some (some (.builtin "type.__getattribute__")) ∧ PySem.W.findCls K (.ref (He.ga K x.base)) (.type "type") "__init__" = some (.val (.builtin "ValueError.__init__"))
theorem Tx.chk_ok (h : x.chk K = true) : Chk x K := by
  obtain ⟨h1, h⟩ := ba2 h
  obtain ⟨h2, h⟩ := ba2 h
  obtain ⟨h3, h⟩ := ba2 h
  obtain ⟨h4, h⟩ := ba2 h
  obtain ⟨h5, h⟩ := ba2 h
  obtain ⟨h6, h⟩ := ba2 h
  obtain ⟨h7, h⟩ := ba2 h
  obtain ⟨h8, h⟩ := ba2 h
  obtain ⟨h9, h⟩ := ba2 h
  obtain ⟨h10, h⟩ := ba2 h
  obtain ⟨h11, h12⟩ := ba2 h
  have isi0 : ∀ n ∈ x.cls, (He.Fa.glo n).ok K = true ∧ Cls K (He.ga K n) ∧ Mk K (He.ga K n) (He.ma K (He.ga K n) "__init__") ∧ ClsR K (He.ga K n) ∧ ∀ f ∈ x.fld, NoAttr K (He.ga K n) f := fun n hn => by
    have q := List.all_eq_true.mp h3 n hn
    obtain ⟨q1, q⟩ := ba2 q
    obtain ⟨q2, q⟩ := ba2 q
    obtain ⟨q3, q⟩ := ba2 q
    obtain ⟨q4, q5⟩ := ba2 q
    obtain ⟨q6, q7⟩ := ba2 q4
    exact ⟨q1, He.cls_ok q2, He.mkr_ok q3, ⟨He.cls_ok q2, He.eqO_ok q6, of_decide_eq_true q7⟩, fun f hf => He.noat_ok (List.all_eq_true.mp q5 f hf)⟩
  refine ⟨fun y hy => List.all_eq_true.mp h1 y hy, fun d hd n hn => ?_, isi0, ?_, fun e he => ?_, fun i j a b ha hb => ?_, fun p hp => List.all_eq_true.mp h8 p hp, h9, h10, He.eqO_ok h11, ?_⟩
  · have q := List.all_eq_true.mp h2 d hd
    rw [hn] at q
    exact q
  · refine isiR_of h4 h5 fun c hc => ?_
    have e : x.cls[c]? = some x.cls[c] := List.getElem?_eq_getElem hc
    rw [nm_cls e]
    exact (isi0 _ (List.getElem_mem hc)).2.2.2.1
  · have q := List.all_eq_true.mp h6 e he
    obtain ⟨q1, q⟩ := ba2 q
    obtain ⟨q2, q⟩ := ba2 q
    obtain ⟨q3, q⟩ := ba2 q
    obtain ⟨q4, q5⟩ := ba2 q
    obtain ⟨q6, q7⟩ := ba2 q4
    obtain ⟨q7, q8⟩ := ba2 q7
    have oe := oexB_ok q3
    exact ⟨q1, He.meth_ok q2, oe, ⟨He.eqO_ok q6, He.eqO_ok q7, oe.exC, q8⟩, fun f hf => He.noat_ok (List.all_eq_true.mp q5 f hf)⟩
  · have q := List.all_eq_true.mp (List.all_eq_true.mp h7 (a, i) (List.mem_zipIdx_iff_getElem?.mpr ha)) (b, j) (List.mem_zipIdx_iff_getElem?.mpr hb)
    exact of_decide_eq_true q
  · unfold foundB at h12
    split at h12
    · rename_i v e
      rw [e, of_decide_eq_true h12]
    · cases h12
end
end AM
/-! All defs keep their promises at every level. -/
namespace AM
open PySem PySem.Spec PyProof.Rows L2
section
variable {P : Program} {w : World} {K : PySem.W.Frag} {mg : Str → Option Value} {base : Heap} {x : Tx} {Pr : Prg}
structure Sta (x : Tx) (Pr : Prg) : Prop where
  sc : ∀ d ∈ x.fis, FnScope d.N d.ps d.d.scope ∧ 0 < d.N.length
  cl : ∀ (j : Nat) (n : Str), x.cls[j]? = some n → ∃ init ms prs d, Pr.cls[j]? = some ⟨false, init, ms, prs⟩ ∧ x.fis[init]? = some d ∧ d.d.at_ = (n, some ("__init__" : Str)) ∧ d.ini = some j
  ncl : Pr.cls.length = x.cls.length
  nex : Pr.nex = x.cls.length + x.exs.length
  ex : ∀ e ∈ x.exs, exBody x.base e.y e.f e.d.body = true ∧ FnScope ["self", e.y] ["self", e.y] e.d.scope ∧ e.d.scope.names.lookup x.base = some .globalImplicit ∧ (x.base == ("__debug__" : Str)) = false ∧ (e.y == ("__debug__" : Str)) = false ∧ (e.y == ("__classdict__" : Str)) = false ∧ e.d.at_ = (e.n, some ("__init__" : Str)) ∧ e.f ∈ x.fld
  gx : ∀ (j : Nat) (e : EI), x.exs[j]? = some e → (x.tab false false).gx.lookup e.n = some (x.cls.length + j) ∧ (x.tab false false).fx.lookup e.n = ixOf x.fld e.f
  nd : x.fld.Nodup
  sz : x.fld.all (fun f => decide (f.cps.size < 100)) = true
theorem Tx.sta_ok (h : x.sta Pr = true) : Sta x Pr := by
  obtain ⟨h1, h⟩ := ba2 h
  obtain ⟨h2, h⟩ := ba2 h
  obtain ⟨h3, h⟩ := ba2 h
  obtain ⟨h4, h⟩ := ba2 h
  obtain ⟨h5, h⟩ := ba2 h
  obtain ⟨h6, h⟩ := ba2 h
  obtain ⟨h7, h8⟩ := ba2 h
  refine ⟨fun d hd => ?_, fun j n hn => ?_, of_decide_eq_true h3, of_decide_eq_true h4, fun e he => ?_, fun j e he => ?_, of_decide_eq_true h7, h8⟩
  · obtain ⟨q1, q2⟩ := ba2 (List.all_eq_true.mp h1 d hd)
    exact ⟨scB_ok q1, of_decide_eq_true q2⟩
  · have q := List.all_eq_true.mp h2 (n, j) (List.mem_zipIdx_iff_getElem?.mpr hn)
    simp only at q
    split at q
    · rename_i init ms prs hc
      split at q
      · rename_i d hd
        obtain ⟨q1, q2⟩ := ba2 q
        exact ⟨init, ms, prs, d, hc, hd, of_decide_eq_true q1, of_decide_eq_true q2⟩
      · cases q
    · cases q
  · have q := List.all_eq_true.mp h5 e he
    simp only [Bool.and_eq_true, decide_eq_true_eq, Bool.not_eq_true'] at q
    obtain ⟨q1, q2, q3, q4, q5, q6, q7, q8⟩ := q
    exact ⟨q1, scB_ok q2, q3, q4, q5, q6, q7, q8⟩
  · have q := List.all_eq_true.mp h6 (e, j) (List.mem_zipIdx_iff_getElem?.mpr he)
    obtain ⟨q1, q2⟩ := ba2 q
    exact ⟨of_decide_eq_true q1, of_decide_eq_true q2⟩
/-- what each def promises at a level -/
def FI.sp (K : PySem.W.Frag) (T : Nm) (Pr : Prg) (k j : Nat) (d : FI) : Sp := match d.ini with
  | none => spF K T (calA Pr k j)
  | some c => spI K T c (iniA Pr k c j)
def Lev (P : Program) (w : World) (K : PySem.W.Frag) (mg : Str → Option Value) (base : Heap) (x : Tx) (Pr : Prg) (k : Nat) : Prop :=
  ∀ (j : Nat) (d : FI), x.fis[j]? = some d → ∀ fd, FunD K d.d.name d.d.qual d.d.params d.d.body d.d.scope [] [] (He.fAd K d.d.at_) fd → FnG P w K mg base (2 * k + 1) (He.fAd K d.d.at_) fd d.ps (d.sp K (x.nm K) Pr k j)
theorem gf_at {a b : Bool} {n : Str} {j : Nat} (h : (x.tab a b).gf.lookup n = some j) : ∃ d, x.fis[j]? = some d ∧ d.d.at_ = (n, none) ∧ d.ini = none := by
  have m := lookup_mem h
  obtain ⟨⟨d, i⟩, h1, h2⟩ := List.mem_filterMap.mp m
  have h1 := List.mem_zipIdx_iff_getElem?.mp h1
  simp only at h2
  split at h2
  · rename_i n' e1 e2
    cases h2
    exact ⟨d, h1, e1, e2⟩
  · cases h2
theorem gx_at {a b : Bool} {n : Str} {ci : Nat} (S : Sta x Pr) (h : (x.tab a b).gx.lookup n = some ci) : ∃ j e, x.exs[j]? = some e ∧ e.n = n ∧ ci = x.cls.length + j := by
  have m := lookup_mem h
  obtain ⟨⟨e, i⟩, h1, h2⟩ := List.mem_map.mp m
  have h1 := List.mem_zipIdx_iff_getElem?.mp h1
  cases h2
  exact ⟨i, e, h1, rfl, rfl⟩
theorem giv_of (hd : Hd P w K mg base x Pr) {k : Nat} (lev : Lev P w K mg base x Pr k) (a b : Bool) : Giv P w K mg base (x.nm K) Pr (x.tab a b) k := by
  have C := Tx.chk_ok hd.chk
  have S := Tx.sta_ok hd.sta
  have gl : ∀ {n : Str}, (He.Fa.glo n).ok K = true → mg n = some (.ref (He.ga K n)) := fun h => He.glo_ok hd.kin hd.ns h
  have inj := fnm_inj S.nd S.sz
  have flat : ∀ f nm, idOf x.fld nm = some f → x.fnm f = nm ∧ nm ∈ x.fld := fun f nm h => by
    have e := ixOf_get h
    exact ⟨x.fnm_at e, List.mem_of_getElem? e⟩
  refine ⟨?_, ?_⟩
  · intro c X hK hT hP h1 h2 e1 e2 e3 e4 e5
    obtain ⟨K1, T1, P1, l1, i1, W0, H0, xa, me, wx⟩ := c
    obtain ⟨pr, w1, K2, mg1, ba1, A, N, s0, H1, env, outer, stack, ex, fn, calm, pn, xe⟩ := X
    simp only at hK hT hP h1 h2 e1 e2 e3 e4 e5
    subst hK e3 hT hP h1 h2 e1 e2 e4 e5
    have bnd : ∀ {j : Nat} {d : FI}, x.fis[j]? = some d → ∃ fd, FunD K2 d.d.name d.d.qual d.d.params d.d.body d.d.scope [] [] (He.fAd K2 d.d.at_) fd ∧ L2.Binds K2 fd d.ps [] := fun {j d} hj => by
      have hm := List.mem_of_getElem? hj
      obtain ⟨fd, F⟩ := hd.fd d hm
      exact ⟨fd, F, F.bindsN (hd.bd.at d hm)⟩
    refine ⟨fun y hy => He.free_ok hd.kin hd.ns (C.bi y hy), fun n j hj => ?_, fun n j hj => ?_, fun n j hj => ?_, ?_, inj, fun f nm hf => ⟨(flat f nm hf).1, fun j hj => ?_⟩⟩
    · obtain ⟨d, h1, h2, h3⟩ := gf_at hj
      obtain ⟨fd, F, B⟩ := bnd h1
      have q := lev j d h1 fd F
      have ea : He.fAd K2 d.d.at_ = He.ga K2 n := by rw [h2]; rfl
      have kp := F.kp
      rw [ea] at q kp
      unfold FI.sp at q
      rw [h3] at q
      exact ⟨_, fd, d.ps, gl (C.gf d (List.mem_of_getElem? h1) n h2), kp, B, q⟩
    · have hc := List.mem_zipIdx_iff_getElem?.mp (lookup_mem (show x.cls.zipIdx.lookup n = some j from hj))
      have hc : x.cls[j]? = some n := hc
      obtain ⟨init, ms, prs, d, k1, k2, k3, k4⟩ := S.cl j n hc
      obtain ⟨g1, g2, g3, g4, g5⟩ := C.cl n (List.mem_of_getElem? hc)
      obtain ⟨fd, F, B⟩ := bnd k2
      have q := lev init d k2 fd F
      have ea : He.fAd K2 d.d.at_ = He.ma K2 (He.ga K2 n) "__init__" := by rw [k3]; rfl
      rw [ea] at q
      unfold FI.sp at q
      rw [k4] at q
      refine ⟨init, ms, prs, _, fd, d.ps, k1, ?_, ?_, B, q⟩
      · show Mk K2 ((x.nm K2).cadr j) _
        rw [nm_cls hc]
        exact g3
      · show mg1 n = some (.ref ((x.nm K2).cadr j))
        rw [nm_cls hc]
        exact gl g1
    · have hc : (x.kons.map (·.1))[j]? = some n := List.mem_zipIdx_iff_getElem?.mp (lookup_mem (show (x.kons.map (·.1)).zipIdx.lookup n = some j from hj))
      rw [List.getElem?_map] at hc
      obtain ⟨p, hp, rfl⟩ := Option.map_eq_some_iff.mp hc
      obtain ⟨v, u, q1, q2, q3⟩ := kon_ok hd.kin hd.ns (C.kon p (List.mem_of_getElem? hp)) (x.nm K2)
      refine ⟨v, u, p.2, q1, q2, ?_, fun W h H _ => q3 W H⟩
      show P1.cons[j]? = _
      rw [hd.cons, List.getElem?_map, hp]
      rfl
    · show IsiR K2 (x.nm K2) P1.cls.length
      rw [S.ncl]
      exact C.isi
    · have hj : j < x.cls.length := by
        rw [← S.ncl]
        exact hj
      have hc := List.getElem?_eq_getElem hj
      obtain ⟨g1, g2, g3, g4, g5⟩ := C.cl _ (List.getElem_mem hj)
      show Cls K2 ((x.nm K2).cadr j) ∧ NoAttr K2 ((x.nm K2).cadr j) nm
      rw [nm_cls hc]
      exact ⟨g2, g5 nm (flat f nm hf).2⟩
  · intro c X hK hT hP e1 e2 e3 e4 e5
    obtain ⟨K1, T1, P1, l1, i1, W0, H0, xa, me, wx⟩ := c
    obtain ⟨pr, w1, K2, mg1, ba1, A, N, s0, H1, env, outer, stack, ex, fn, calm, pn, xe⟩ := X
    simp only at hK hT hP e1 e2 e3 e4 e5
    subst hK e3 hT hP e1 e2 e4 e5
    have idx : ∀ {ci : Nat}, P1.cls.length ≤ ci → ci < P1.nex → ∃ j e, x.exs[j]? = some e ∧ ci = x.cls.length + j := fun {ci} h1 h2 => by
      rw [S.ncl] at h1
      rw [S.nex] at h2
      exact ⟨ci - x.cls.length, _, List.getElem?_eq_getElem (by omega), by omega⟩
    refine ⟨fun n ci h => ?_, fun a b h1 h2 h3 h4 => ?_, fun n ci f h1 h2 => ?_, fun ci f nm h1 h2 hf => ?_⟩
    · obtain ⟨j, e, h1, rfl, rfl⟩ := gx_at S h
      refine ⟨?_, ?_, ?_⟩
      · show mg1 e.n = some (.ref ((x.nm K2).cadr (x.cls.length + j)))
        rw [nm_exs h1]
        exact gl (C.ex e (List.mem_of_getElem? h1)).1
      · show P1.cls.length ≤ x.cls.length + j
        rw [S.ncl]
        omega
      · show x.cls.length + j < P1.nex
        rw [S.nex]
        have := (List.getElem?_eq_some_iff.mp h1).1
        omega
    · obtain ⟨i, e, k1, rfl⟩ := idx h1 h2
      obtain ⟨j, g, k2, rfl⟩ := idx h3 h4
      show PySem.W.exmOne K2 (.ref ((x.nm K2).cadr (x.cls.length + i))) (.ref ((x.nm K2).cadr (x.cls.length + j))) = _
      rw [nm_exs k1, nm_exs k2, C.exm i j e g k1 k2]
      congr 1
      rw [decide_eq_decide]
      omega
    · obtain ⟨j, e, k1, rfl, rfl⟩ := gx_at S h1
      have he := List.mem_of_getElem? k1
      obtain ⟨g1, g2⟩ := S.gx j e k1
      have h2 : (x.tab false false).fx.lookup e.n = some f := h2
      rw [g2] at h2
      obtain ⟨s1, s2, s3, s4, s5, s6, s7, s8⟩ := S.ex e he
      obtain ⟨c1, c2, c3, c4, c5⟩ := C.ex e he
      obtain ⟨fd, F⟩ := hd.fe e he
      have ea : He.fAd K2 e.d.at_ = He.ma K2 (He.ga K2 e.n) "__init__" := by rw [s7]; rfl
      rw [ea] at F
      obtain ⟨b1, b2, b3, b4⟩ := C.bas
      have en : x.fnm f = e.f := x.fnm_at (ixOf_get h2)
      refine ⟨_, fd, e.y, ?_, ?_, beq_iff_eq.mp c2.fn, ?_, F.bindsN fun kV doc pm an cdv ct us hl => hd.be.at e he kV doc pm an cdv ct us hl⟩
      · show OexC K2 ((x.nm K2).cadr (x.cls.length + j))
        rw [nm_exs k1]
        exact c3
      · show PySem.W.findIn K2 (.ref ((x.nm K2).cadr (x.cls.length + j))) "__init__" = _
        rw [nm_exs k1]
        exact c2.at_
      · show FnOk pr w1 K2 mg1 ba1 (L2.CX pr w1) 1 _ fd ["self", e.y] (spEx ((x.nm K2).cadr (x.cls.length + j)) (x.fnm f))
        rw [nm_exs k1, en]
        exact ex_fn F s2 s1 c3 (c5 e.f s8) s3 s4 (gl b1) s5 s6 b2 b3 b4
    · obtain ⟨i, e, k1, rfl⟩ := idx h1 h2
      obtain ⟨c1, c2, c3, c4, c5⟩ := C.ex e (List.mem_of_getElem? k1)
      show XfC K2 ((x.nm K2).cadr (x.cls.length + i)) ∧ PySem.W.findIn K2 (.ref ((x.nm K2).cadr (x.cls.length + i))) nm = _
      rw [nm_exs k1]
      exact ⟨c4, c5 nm (flat f nm hf).2⟩
theorem lev_all (hd : Hd P w K mg base x Pr) : ∀ k, Lev P w K mg base x Pr k
  | 0 => fun j d hj fd F => by
    unfold FI.sp
    cases d.ini with
    | none => exact fnF_zero
    | some c => exact fnI_zero
  | k + 1 => fun j d hj fd F => by
    have S := Tx.sta_ok hd.sta
    have g := giv_of hd (lev_all hd k) d.tk d.rf
    obtain ⟨oc, od, dV, kV, doc, pm, an, cdv, ct, osl, rfl, lk, hcd, _, _⟩ := F.ex
    obtain ⟨s1, s2⟩ := S.sc d (List.mem_of_getElem? hj)
    have hf := hd.fns j d hj
    unfold FI.sp
    cases d.ini with
    | none => exact fnF_step lk hcd s1 g hf
    | some c => exact fnI_step lk hcd s1 g hf (by omega)
end
end AM
/-! The head's look; the law's end. -/
namespace AM
open PySem PySem.Spec PyProof.Rows L2
/-! ### the look -/
/-- a list of addresses, reckoned first -/
def frL {α : Type} : List Addr → (List Addr → α) → α
  | [], k => k []
  | a :: r, k => HandSHeadRun.frNat a fun a => frL r fun r => k (a :: r)
theorem frL_eq {α : Type} : ∀ (l : List Addr) (k : List Addr → α), frL l k = k l
  | [], _ => rfl
  | a :: r, k => by
    unfold frL
    rw [HandSHeadRun.frNat_eq, frL_eq r]
def kids (g : Addr → Option Obj) (a : Addr) : List Addr := match g a with
  | some o => He.refsD o
  | none => []
def memA (a : Addr) : List Addr → Bool
  | [] => false
  | b :: r => match Nat.beq a b with
    | true => true
    | false => memA a r
def freshA : List Addr → List Addr → List Addr
  | [], _ => []
  | a :: r, seen => match memA a seen with
    | true => freshA r seen
    | false => a :: freshA r (a :: seen)
def nextA {α : Type} (g : Addr → Option Obj) (as seen : List Addr) (k : List Addr → α) : α := frL (as.flatMap (kids g)) fun l => frL (freshA l seen) k
def lawA {α : Type} (g : Addr → Option Obj) (k : List Addr → α) : α :=
  nextA g [mainGlobals] [mainGlobals] fun l1 => frL (mainGlobals :: l1) fun s1 =>
  nextA g l1 s1 fun l2 => frL (l2 ++ s1) fun s2 =>
  nextA g l2 s2 fun l3 => frL (l3 ++ s2) fun s3 =>
  nextA g l3 s3 fun l4 => frL (l4 ++ s3) fun s4 =>
  nextA g l4 s4 fun l5 => frL (cStatics :: (s1 ++ (l2 ++ (l3 ++ (l4 ++ l5))))) k
def frgA {α : Type} (g : Addr → Option Obj) : List Addr → (PySem.W.Frag → α) → α
  | [], k => k []
  | a :: r, k => match g a with
    | some o => frgA g r fun K => k ((a, o) :: K)
    | none => frgA g r k
theorem frgA_eq {α : Type} (g : Addr → Option Obj) : ∀ (l : List Addr) (k : PySem.W.Frag → α), frgA g l k = k (He.frG g l)
  | [], _ => rfl
  | a :: r, k => by
    unfold frgA He.frG
    rw [List.filterMap_cons]
    cases g a with
    | none => exact frgA_eq g r k
    | some o => exact frgA_eq g r _
abbrev Al : Type := Bool × List He.FnW
def obsK (chk : PySem.W.Frag → Bool) (fn : List He.DefD) (K : PySem.W.Frag) : Al := (chk K && fn.all fun d => d.ok K, fn.map fun d => He.fnW K d.at_)
def obsA (chk : PySem.W.Frag → Bool) (fn : List He.DefD) (g : Addr → Option Obj) : Al := lawA g fun as => frgA g as (obsK chk fn)
def valA (fn : List He.DefD) : Al := (true, fn.map He.DefD.val)
theorem nextA_eq {α : Type} (g : Addr → Option Obj) (as seen : List Addr) (k : List Addr → α) : ∃ l, nextA g as seen k = k l := ⟨_, by unfold nextA; rw [frL_eq, frL_eq]⟩
theorem obsA_eq (chk : PySem.W.Frag → Bool) (fn : List He.DefD) (g : Addr → Option Obj) : ∃ as, obsA chk fn g = obsK chk fn (He.frG g as) := by
  unfold obsA lawA
  obtain ⟨l1, e⟩ := nextA_eq g [mainGlobals] [mainGlobals] fun l1 => frL (mainGlobals :: l1) fun s1 =>
    nextA g l1 s1 fun l2 => frL (l2 ++ s1) fun s2 =>
    nextA g l2 s2 fun l3 => frL (l3 ++ s2) fun s3 =>
    nextA g l3 s3 fun l4 => frL (l4 ++ s3) fun s4 =>
    nextA g l4 s4 fun l5 => frL (cStatics :: (s1 ++ (l2 ++ (l3 ++ (l4 ++ l5))))) fun as => frgA g as (obsK chk fn)
  rw [e, frL_eq]
  generalize mainGlobals :: l1 = s1
  obtain ⟨l2, e⟩ := nextA_eq g l1 s1 fun l2 => frL (l2 ++ s1) fun s2 =>
    nextA g l2 s2 fun l3 => frL (l3 ++ s2) fun s3 =>
    nextA g l3 s3 fun l4 => frL (l4 ++ s3) fun s4 =>
    nextA g l4 s4 fun l5 => frL (cStatics :: (s1 ++ (l2 ++ (l3 ++ (l4 ++ l5))))) fun as => frgA g as (obsK chk fn)
  rw [e, frL_eq]
  generalize l2 ++ s1 = s2
  obtain ⟨l3, e⟩ := nextA_eq g l2 s2 fun l3 => frL (l3 ++ s2) fun s3 =>
    nextA g l3 s3 fun l4 => frL (l4 ++ s3) fun s4 =>
    nextA g l4 s4 fun l5 => frL (cStatics :: (s1 ++ (l2 ++ (l3 ++ (l4 ++ l5))))) fun as => frgA g as (obsK chk fn)
  rw [e, frL_eq]
  generalize l3 ++ s2 = s3
  obtain ⟨l4, e⟩ := nextA_eq g l3 s3 fun l4 => frL (l4 ++ s3) fun s4 =>
    nextA g l4 s4 fun l5 => frL (cStatics :: (s1 ++ (l2 ++ (l3 ++ (l4 ++ l5))))) fun as => frgA g as (obsK chk fn)
  rw [e, frL_eq]
  generalize l4 ++ s3 = s4
  obtain ⟨l5, e⟩ := nextA_eq g l4 s4 fun l5 => frL (cStatics :: (s1 ++ (l2 ++ (l3 ++ (l4 ++ l5))))) fun as => frgA g as (obsK chk fn)
  rw [e, frL_eq, frgA_eq]
  exact ⟨_, rfl⟩
def hookA (chk : PySem.W.Frag → Bool) (fn : List He.DefD) : PySem.W.Hook where
  α := Al
  obs := fun s => obsA chk fn s.heap.get?
  val := fun _ => valA fn
  says := fun _ h => ∃ K : PySem.W.Frag, K.In h ∧ obsK chk fn K = valA fn
  of := fun _ s e => by
    obtain ⟨as, e2⟩ := obsA_eq chk fn s.heap.get?
    exact ⟨_, He.frG_in, e2.symm.trans e⟩
  keeps := fun _ _ _ ⟨K, hK, c⟩ k => ⟨K, PySem.W.Frag.In.keeps hK k, c⟩
theorem hookA_at {chk : PySem.W.Frag → Bool} {fn : List He.DefD} (s : PySem.W.SharedT) : obsA chk fn (HandSHeadRun.getT s) = (hookA chk fn).obs s.abs := by
  show _ = obsA chk fn s.abs.heap.get?
  rw [show HandSHeadRun.getT s = s.abs.heap.get? from funext (HandSHeadRun.getT_eq s)]
theorem obsK_def {chk : PySem.W.Frag → Bool} {fn : List He.DefD} {K : PySem.W.Frag} (e : obsK chk fn K = valA fn) : chk K = true ∧ ∀ d ∈ fn, ∃ fd, FunD K d.name d.qual d.params d.body d.scope (d.dvs K) (d.kws K) (He.fAd K d.at_) fd := by
  obtain ⟨h1, h2⟩ := Prod.mk.inj (show (chk K && fn.all fun d => d.ok K, fn.map fun d => He.fnW K d.at_) = (true, fn.map He.DefD.val) from e)
  obtain ⟨h1, h3⟩ := ba2 h1
  refine ⟨h1, fun d hd => He.DefD.funD ?_ (List.all_eq_true.mp h3 d hd)⟩
  exact List.map_inj_left.mp h2 d hd
/-! ### the law's end -/
/-- the script, in a heap in which nothing else is told -/
def scrH (K : PySem.W.Frag) (a : Addr) (o : Obj) (ns : List Int) : Hp := fun b => match K.lookup a with
  | some _ => none
  | none => if b = a then some (.frz o (.lst (ns.map V.int))) else none
theorem scrH_or (K : PySem.W.Frag) (a : Addr) (o : Obj) (ns : List Int) (b : Addr) : scrH K a o ns b = none ∨ (b = a ∧ K.lookup a = none ∧ scrH K a o ns b = some (.frz o (.lst (ns.map V.int)))) := by
  unfold scrH
  cases K.lookup a with
  | some _ => exact .inl rfl
  | none =>
    by_cases h : b = a
    · exact .inr ⟨h, rfl, if_pos h⟩
    · exact .inl (if_neg h)
section
variable {P : Program} {w : World} {K : PySem.W.Frag} {mg mb : Str → Option Value} {k : Nat} {fa a : Addr} {fd : FuncData} {x : Str} {sp : Sp} {s₁ : Shared} {vs : List Value} {ns : List Int}
theorem law_G (KX : K.In s₁.heap) (hns : s₁.heap.Ns mainGlobals mg) (hb : s₁.heap.Ns builtinsNs mb) (hbb : ∀ x : Str, x ≠ "__name__" → mb x = bootBuiltins x) (hlim : s₁.heap.NoLimit) (hg : s₁.gens = #[])
    (ha : s₁.heap.get? a = some { cls := .type "list", data := .seq vs.toArray }) (hi : IntsAre vs ns) (hl : ns.length ≤ sizeLine) (hr : Room k callerA)
    (F : ∀ base : Heap, K.In base → base.Ns mainGlobals mg → FnG P w K mg base k fa fd [x] sp) (hbind : ∀ (s : Shared) (u : Value), BindsTo s fd ⟨[u], []⟩ [(x, u)])
    (hsp : ∀ H : Hp, (∃ o, H a = some (.frz o (.lst (ns.map V.int)))) ∨ (∃ (o : Obj) (its : Array Value) (n : Nat), K.lookup a = some o ∧ o.cls = .type "list" ∧ o.dict = none ∧ o.data = .seq its n ∧ its.size ≤ sizeLine ∧ Vals (ns.map V.int) its.toList) → sp [.ref a] H (fun v _ => v = .bl true) fun _ _ _ => False) :
    codeAny (model P w) callerA (.call (.ref fa) ⟨[.ref a], []⟩) (fun r s' => r = .ok (.ret (.bool true)) ∧ OldK s₁.heap s'.heap ∧ s'.os = s₁.os ∧ AllBare s'.gens) s₁ := by
  have vals := vals_ints hi
  have size := hi.length
  generalize ho : ({ cls := .type "list", data := .seq vs.toArray } : Obj) = o at ha
  have cases_ := scrH_or K a o ns
  generalize hH : scrH K a o ns = H at cases_
  have told : (∃ o, H a = some (.frz o (.lst (ns.map V.int)))) ∨ (∃ (o : Obj) (its : Array Value) (n : Nat), K.lookup a = some o ∧ o.cls = .type "list" ∧ o.dict = none ∧ o.data = .seq its n ∧ its.size ≤ sizeLine ∧ Vals (ns.map V.int) its.toList) := by
    cases hk : K.lookup a with
    | none =>
      refine .inl ⟨o, ?_⟩
      rw [← hH]
      unfold scrH
      rw [hk]
      exact if_pos rfl
    | some o' =>
      have e := KX a o' hk
      rw [ha] at e
      cases e
      subst ho
      exact .inr ⟨_, vs.toArray, _, rfl, rfl, rfl, rfl, by rw [List.size_toArray, size]; exact hl, by simpa using vals⟩
  -- what stands in the heap without the script
  have other : ∀ {b : Addr} {q : Obj}, s₁.heap.get? b = some q → (∀ its n, q.data ≠ .seq its n) → H b = none := fun {b q} e nd => by
    rcases cases_ b with z | ⟨z, _, _⟩
    · exact z
    · subst z
      rw [ha] at e
      cases e
      subst ho
      exact absurd rfl (nd _ _)
  have spaces : ∀ {b : Addr} {m : Str → Option Value}, s₁.heap.Ns b m → (hidT s₁.heap H).Ns b m := fun {b m} ⟨q, es, ep, e, dd, r⟩ => ⟨q, es, ep, hidT_get e (other e fun its n z => by rw [dd] at z; cases z), dd, r⟩
  have parts : K.In (hidT s₁.heap H) := fun b q e => hidT_get (KX b q e) (by
    rcases cases_ b with z | ⟨z, hk, _⟩
    · exact z
    · rw [z, hk] at e
      cases e)
  have held : HOk P w H s₁.heap := fun b u e => by
    rcases cases_ b with z | ⟨z, hk, e2⟩
    · rw [z] at e
      cases e
    · rw [e] at e2
      cases e2
      subst z
      subst ho
      exact ⟨ha, by rw [List.length_map]; exact hl, vs, _, vals, ha⟩
  have env : Env0 P w K mg (hidT s₁.heap H) callerA [] s₁ H := ⟨rfl, ⟨parts, spaces hns, ⟨mb, spaces hb, hbb⟩, let ⟨mc, l1, l2⟩ := hlim; ⟨mc, spaces l1, l2⟩⟩, fun b q e => of_hidT e, Nat.le_of_eq (hidT_size _ _), trivial, fun b z => absurd (show b ∈ ([] : List Addr) from z) (by simp), held, .of_eq hg⟩
  have ran := (F (hidT s₁.heap H) parts (spaces hns)).run callerA [] s₁ H ⟨[.ref a], []⟩ [.ref a] [.ref a] _ _ hr rfl env (hbind s₁ (.ref a)) (.cons rfl .nil) (hsp H told)
  refine codeAny_mono ran fun r s' z => ?_
  cases r with
  | error e =>
    obtain ⟨_, _, _, _, _, _, _, _, _, _, _, _, no⟩ := (show L2.CX P w [] H s₁ (fun _ _ _ => False) e s' from z)
    exact no.elim
  | ok fl =>
    cases fl with
    | ret u =>
      obtain ⟨v, H2, os, bare, un, ok2, rv, q⟩ := z
      have q : v = .bl true := q
      subst q
      cases (show u = Value.bool true from rv)
      refine ⟨rfl, OldK.of_keep fun b q e => ?_, os, bare⟩
      rcases cases_ b with z | ⟨z, _, e2⟩
      · exact un.keep b q e z (by intro z; exact absurd (show b ∈ ([] : List Addr) from z) (by simp)) (by simp)
      · subst z
        rw [ha] at e
        cases e
        exact (ok2 b _ (un.frzs b _ _ e2)).1
    | next => exact False.elim z
    | brk => exact False.elim z
    | cont => exact False.elim z
end
theorem walk_G {l : PySem.W.OpenLaw} {n k : Nat} {q : Program} {loose : List Str} {XP : (Str → Option Value) → Heap → Prop} {YP : World → Heap → Prop} {d : DefRec} {x : Str}
    (hn : l.most = some n) (hn2 : n ≤ sizeLine) (hdf : d.params.defaults = []) (hr : Room k callerA)
    (F : ∀ (w : World) (mg : Str → Option Value) (fa : Addr) (h : Heap), YP w h → h.Ns mainGlobals mg → mg d.name = some (.ref fa) →
      ∃ (K : PySem.W.Frag) (fd : FuncData) (sp : Sp), K.In h ∧ (∀ (s : Shared) (u : Value), BindsTo s fd ⟨[u], []⟩ [(x, u)]) ∧
        (∀ (H : Hp) (a : Addr) (ns : List Int), ns.length ≤ n → (∃ o, H a = some (.frz o (.lst (ns.map V.int)))) ∨ (∃ (o : Obj) (its : Array Value) (n : Nat), K.lookup a = some o ∧ o.cls = .type "list" ∧ o.dict = none ∧ o.data = .seq its n ∧ its.size ≤ sizeLine ∧ Vals (ns.map V.int) its.toList) → sp [.ref a] H (fun v _ => v = .bl true) fun _ _ _ => False) ∧
        ∀ base : Heap, K.In base → base.Ns mainGlobals mg → FnG l.prog w K mg base k fa fd [x] sp) :
    PySem.W.WalkO q loose XP YP l.row.toRowW d [] (fun f vs => PySem.call f vs) := by
  refine Att.attach_call hn hdf fun w s₀ s₁ mg mb fa o pm cd doc a vs ns G Y ho hd hcd hmg hobj hints hlen hg => ?_
  obtain ⟨K, fd, sp, KX, hb, hsp, hF⟩ := F w mg fa _ Y G.T.g hmg
  exact law_G KX G.T.g G.T.b G.T.builtins G.T.nolimit hg hobj hints (Nat.le_trans hlen hn2) hr hF hb fun H hS => hsp H a ns hlen hS
end AM
/-! A law, from what the machine does. -/
namespace AM
open PySem PySem.Spec PyProof.Rows L2
def Tx.defs (x : Tx) : List He.DefD := x.fis.map (·.d) ++ x.exs.map (·.d)
def Tx.bare (x : Tx) : Bool := x.defs.all fun d => d.dfl.isEmpty && d.kwd.isEmpty
theorem law_of {l : PySem.W.OpenLaw} {n k jl : Nat} {x : Tx} {Pr : Prg} {d : FI} {p : Str} {dn : Str} (hn2 : n ≤ sizeLine)
    (hs : x.sta Pr = true) (hz : x.bare = true) (hb : AllP BindOk x.fis) (he : AllP BindOkE x.exs)
    (hf : ∀ (j : Nat) (d : FI), x.fis[j]? = some d → Pr.fns[j]? = some (⟨d.ps.length, d.N.length, compSs (x.tab d.tk d.rf) d.N d.ow true d.d.scope d.d.body⟩ : FD)) (hc : Pr.cons = x.kons.map (·.2))
    (hj : x.fis[jl]? = some d) (ha : d.d.at_ = (dn, none)) (hi : d.ini = none) (hp : d.ps = [p])
    (law : ∀ ns : List Int, ns.length ≤ n → ∃ h, calA Pr k jl [.scr ns] [] = .ok (.bl true) h) :
    ∀ (w : World) (mg : Str → Option Value) (fa : Addr) (h : Heap), (hookA x.chk x.defs).says w h → h.Ns mainGlobals mg → mg dn = some (.ref fa) →
      ∃ (K : PySem.W.Frag) (fd : FuncData) (sp : Sp), K.In h ∧ (∀ (s : Shared) (u : Value), BindsTo s fd ⟨[u], []⟩ [(p, u)]) ∧
        (∀ (H : Hp) (a : Addr) (ns : List Int), ns.length ≤ n → (∃ o, H a = some (.frz o (.lst (ns.map V.int)))) ∨ (∃ (o : Obj) (its : Array Value) (n : Nat), K.lookup a = some o ∧ o.cls = .type "list" ∧ o.dict = none ∧ o.data = .seq its n ∧ its.size ≤ sizeLine ∧ Vals (ns.map V.int) its.toList) → sp [.ref a] H (fun v _ => v = .bl true) fun _ _ _ => False) ∧
        ∀ base : Heap, K.In base → base.Ns mainGlobals mg → FnG l.prog w K mg base (2 * k + 1) fa fd [p] sp := by
  intro w mg fa h ⟨K, KX, c⟩ G hmg
  obtain ⟨c1, c2⟩ := obsK_def c
  have bare : ∀ e ∈ x.defs, e.dvs K = [] ∧ e.kws K = [] := fun e m => by
    obtain ⟨q1, q2⟩ := ba2 (List.all_eq_true.mp hz e m)
    unfold He.DefD.dvs He.DefD.kws
    rw [List.isEmpty_iff.mp q1, List.isEmpty_iff.mp q2]
    exact ⟨rfl, rfl⟩
  have def_ : ∀ e ∈ x.defs, ∃ fd, FunD K e.name e.qual e.params e.body e.scope [] [] (He.fAd K e.at_) fd := fun e m => by
    obtain ⟨fd, F⟩ := c2 e m
    rw [(bare e m).1, (bare e m).2] at F
    exact ⟨fd, F⟩
  have mem := List.mem_of_getElem? hj
  have C := Tx.chk_ok c1
  obtain ⟨fd, F⟩ := def_ d.d (List.mem_append.mpr (.inl (List.mem_map.mpr ⟨d, mem, rfl⟩)))
  have ea : He.fAd K d.d.at_ = fa := by
    have e := He.glo_ok KX G (C.gf d mem dn ha)
    rw [hmg] at e
    rw [ha]
    exact (Value.ref.inj (Option.some.inj e)).symm
  refine ⟨K, fd, spF K (x.nm K) (calA Pr k jl), KX, fun s u => ?_, fun H a ns hl hS => ?_, fun base kin ns => ?_⟩
  · have b := F.bindsA (ps := d.ps) (hb.at d mem) s [u] (by rw [hp]; rfl)
    rw [hp] at b
    exact b
  · obtain ⟨h', e⟩ := law ns hl
    refine ⟨⟨[], fun _ => False⟩, [], [.scr ns], ⟨rfl, fun n v a h1 _ => by simp at h1, List.nodup_nil, fun _ z => z.elim, fun _ z => z.elim, fun _ z => by cases z⟩, RAs.cons ?_ RAs.nil, ?_⟩
    · unfold RA
      exact ⟨a, rfl, hS⟩
    · rw [e]
      intro W' H' v _ _ r
      exact ra_bl r
  · have hd : Hd l.prog w K mg base x Pr := ⟨c1, hs, kin, ns, fun e m => def_ e.d (List.mem_append.mpr (.inl (List.mem_map.mpr ⟨e, m, rfl⟩))), fun e m => def_ e.d (List.mem_append.mpr (.inr (List.mem_map.mpr ⟨e, m, rfl⟩))), hb, he, hf, hc⟩
    have q := lev_all hd k jl d hj fd F
    unfold FI.sp at q
    rw [hi, ea, hp] at q
    exact q
end AM
/-! The machine's equations, one by one. -/
namespace AM
open PySem
section
variable {α β : Type} {a : α} {h : AH} {x : AX} {f : α → AH → R β} {g : α → AH → Out} {σ : Fr} {k : Fr → AH → Out} {v : AV}
theorem w_ok : (R.ok a h).bnd f = f a h := Eq.trans rfl rfl
theorem w_err : (R.err x h : R α).bnd f = .err x h := Eq.trans rfl rfl
theorem w_stk : (R.stk : R α).bnd f = .stk := Eq.trans rfl rfl
theorem o_ok : (R.ok a h).out σ g = g a h := Eq.trans rfl rfl
theorem o_err : (R.err x h : R α).out σ g = .er x σ h := Eq.trans rfl rfl
theorem o_stk : (R.stk : R α).out σ g = .stk := Eq.trans rfl rfl
theorem t_nx : (Out.nx σ h).then_ k = k σ h := Eq.trans rfl rfl
theorem t_bk : (Out.bk σ h).then_ k = .bk σ h := Eq.trans rfl rfl
theorem t_ct : (Out.ct σ h).then_ k = .ct σ h := Eq.trans rfl rfl
theorem t_rt : (Out.rt v σ h).then_ k = .rt v σ h := Eq.trans rfl rfl
theorem t_er : (Out.er x σ h).then_ k = .er x σ h := Eq.trans rfl rfl
theorem t_stk : (Out.stk).then_ k = .stk := Eq.trans rfl rfl
theorem opt_s : opt (some a) h = .ok a h := Eq.trans rfl rfl
theorem opt_n : opt (none : Option α) h = .stk := Eq.trans rfl rfl
theorem c_ok : (R.ok a h).calm = .ok a h := Eq.trans rfl rfl
theorem c_stk : (R.stk : R α).calm = .stk := Eq.trans rfl rfl
theorem ce_nx : calEnd (.nx σ h) = .ok .non h := Eq.trans rfl rfl
theorem ce_rt : calEnd (.rt v σ h) = .ok v h := Eq.trans rfl rfl
theorem ce_er : calEnd (.er x σ h) = .err x h := Eq.trans rfl rfl
theorem ie_nx {r : Fr} : iniEnd (.nx (.own v :: r) h) = .ok v h := Eq.trans rfl rfl
theorem ie_er : iniEnd (.er x σ h) = .err x h := Eq.trans rfl rfl
end
section
variable {P : Prg} {cal : Nat → List AV → AH → R AV} {ini : Nat → Nat → List AV → AH → R AV} {σ : Fr} {h : AH} {a b c d e k i : Ex} {es : List Ex} {t g : Tg} {n m j f : Nat} {v w : AV} {o : BOp} {p q : COp} {s : AM.St} {r ss zs : List AM.St}
theorem v_con : evE P cal ini (.con v) σ h = .ok v h := by
  rw [evE]
  try rfl
/-- what a slot holds -/
def slV : Option Sl → AH → R AV
  | some (.val v), h => .ok v h
  | _, _ => .stk
def slP : Option Sl → AH → R AV
  | some (.val v), h => .ok v h
  | some (.own v), h => .ok v h
  | _, _ => .stk
theorem slV_v : slV (some (.val v)) h = .ok v h := Eq.trans rfl rfl
theorem slP_v : slP (some (.val v)) h = .ok v h := Eq.trans rfl rfl
theorem slP_o : slP (some (.own v)) h = .ok v h := Eq.trans rfl rfl
theorem v_var : evE P cal ini (.var n) σ h = slV σ[n]? h := by
  rw [evE]
  cases σ[n]? with
  | none => rfl
  | some z => cases z <;> rfl
theorem v_peek : evE P cal ini (.peek n) σ h = slP σ[n]? h := by
  rw [evE]
  cases σ[n]? with
  | none => rfl
  | some z => cases z <;> rfl
theorem v_glo : evE P cal ini (.glo n) σ h = opt P.cons[n]? h := by
  rw [evE]
  try rfl
theorem v_bop : evE P cal ini (.bop o a b) σ h = (evE P cal ini a σ h).bnd fun x h => (evE P cal ini b σ h).bnd fun y h => opt (bopV o x y) h := by
  rw [evE]
  try rfl
def negV : AV → AH → R AV
  | .int i, h => .ok (.int (-i)) h
  | _, _ => .stk
theorem v_neg : evE P cal ini (.neg a) σ h = (evE P cal ini a σ h).bnd fun x h => negV x h := by
  rw [evE]
  congr 1; funext x h; cases x <;> rfl
theorem neg_i {i : Int} : negV (.int i) h = .ok (.int (-i)) h := Eq.trans rfl rfl
theorem v_cmp : evE P cal ini (.cmp p a b) σ h = (evE P cal ini a σ h).bnd fun x h => (evE P cal ini b σ h).bnd fun y h => (opt (cmpV p x y) h).bnd fun c h => .ok (.bl c) h := by
  rw [evE]
  try rfl
theorem v_chain : evE P cal ini (.chain p q a b c) σ h = (evE P cal ini a σ h).bnd fun x h => (evE P cal ini b σ h).bnd fun y h => (opt (cmpV p x y) h).bnd fun k h =>
    if k = true then (evE P cal ini c σ h).bnd fun z h => (opt (cmpV q y z) h).bnd fun k h => .ok (.bl k) h else .ok (.bl false) h := by
  rw [evE]
  try rfl
theorem v_and : evE P cal ini (.and_ a b) σ h = (evE P cal ini a σ h).bnd fun x h => (opt (asBl x) h).bnd fun c h => if c = true then evE P cal ini b σ h else .ok (.bl false) h := by
  rw [evE]
  try rfl
theorem v_or : evE P cal ini (.or_ a b) σ h = (evE P cal ini a σ h).bnd fun x h => (opt (asBl x) h).bnd fun c h => if c = true then .ok (.bl true) h else evE P cal ini b σ h := by
  rw [evE]
  try rfl
theorem v_not : evE P cal ini (.not_ a) σ h = (evE P cal ini a σ h).bnd fun x h => (opt (asBl x) h).bnd fun c h => .ok (.bl (!c)) h := by
  rw [evE]
  try rfl
theorem v_ite : evE P cal ini (.ite a b c) σ h = (evE P cal ini a σ h).bnd fun x h => (opt (asBl x) h).bnd fun k h => if k = true then evE P cal ini b σ h else evE P cal ini c σ h := by
  rw [evE]
  try rfl
theorem v_tup : evE P cal ini (.tup es) σ h = (evL P cal ini es σ h).bnd fun vs h => if szOk vs.length = true then .ok (.tup vs) h else .stk := by
  rw [evE]
  try rfl
theorem v_lst : evE P cal ini (.lst es) σ h = (evL P cal ini es σ h).bnd fun vs h => if szOk vs.length = true then .ok (.lst vs) h else .stk := by
  rw [evE]
  try rfl
theorem v_lstR : evE P cal ini (.lstR es) σ h = (evL P cal ini es σ h).bnd fun vs h => if szOk vs.length = true then .ok (.ref h.length) (h ++ [.lst vs]) else .stk := by
  rw [evE]
  try rfl
theorem v_dsp : evE P cal ini (.dsp es) σ h = (evD P cal ini es σ h).bnd fun kvs h => if kvs.all (fun p => isK p.1) = true ∧ decide (kvs.length ≤ 15) = true then .ok (.dct false (kvs.foldl (fun d p => dPut d p.1 p.2) [])) h else .stk := by
  rw [evE]
  try rfl
theorem v_dnew {tk : Bool} : evE P cal ini (.dnew tk) σ h = .ok (.dct tk []) h := by
  rw [evE]
  try rfl
theorem v_sub : evE P cal ini (.sub a i) σ h = (evE P cal ini a σ h).bnd fun x h => (evE P cal ini i σ h).bnd fun y h => opt (subAV (deref h x) y) h := by
  rw [evE]
  try rfl
theorem v_slc : evE P cal ini (.slc a b c) σ h = (evE P cal ini a σ h).bnd fun x h => (evE P cal ini b σ h).bnd fun l h => (evE P cal ini c σ h).bnd fun u h => opt (slcAV x l u) h := by
  rw [evE]
  try rfl
theorem v_rev : evE P cal ini (.rev a) σ h = (evE P cal ini a σ h).bnd fun x h => opt (revAV x) h := by
  rw [evE]
  try rfl
def attrV (P : Prg) (f : Nat) (x : AV) (h : AH) : R AV := (opt (objOf h x) h).bnd fun o h => if o.1 < P.cls.length then opt (fGet o.2 f) h else .stk
/-- a field of a caught error, of an object -/
def atK (P : Prg) (f : Nat) (h : AH) : Option (List (Nat × AV)) → R AV → R AV
  | some fs, _ => opt (fGet fs f) h
  | none, r => r.bnd fun x h => attrV P f x h
theorem ak_n {r : R AV} : atK P f h none r = r.bnd fun x h => attrV P f x h := Eq.trans rfl rfl
theorem ak_s {r : R AV} {fs : List (Nat × AV)} : atK P f h (some fs) r = opt (fGet fs f) h := Eq.trans rfl rfl
theorem v_attr : evE P cal ini (.attr a f) σ h = atK P f h (excOf σ a) (evE P cal ini a σ h) := by
  rw [evE]
  cases excOf σ a <;> rfl
theorem v_call : evE P cal ini (.call f es) σ h = (evL P cal ini es σ h).bnd fun vs h => cal f vs h := by
  rw [evE]
  try rfl
def mkV (P : Prg) (cal : Nat → List AV → AH → R AV) (ini : Nat → Nat → List AV → AH → R AV) (c : Nat) (vs : List AV) (h : AH) : R AV := match P.cls[c]? with
  | some C => (match C.isRef with
    | true => (cal C.init (.ref h.length :: vs) (h ++ [.obj c []])).bnd fun r h' => (match r with
      | .non => .ok (.ref h.length) h'
      | _ => .stk)
    | false => ini c C.init vs h)
  | none => .stk
theorem v_mk : evE P cal ini (.mk n es) σ h = (evL P cal ini es σ h).bnd fun vs h => mkV P cal ini n vs h := by
  rw [evE]
  rfl
theorem v_bi {bi : BI} : evE P cal ini (.bi bi es) σ h = (evL P cal ini es σ h).bnd fun vs h => opt (biV bi vs) h := by
  rw [evE]
  try rfl
theorem v_isi {ts : List Ty} : evE P cal ini (.isi a ts) σ h = (evE P cal ini a σ h).bnd fun x h => if isiOk P.cls.length h x = true then opt ((tysAV h x ts).map .bl) h else .stk := by
  rw [evE]
  try rfl
def getV : AV → AV → AV → AH → R AV
  | .dct t kvs, y, z, h => if keyOk t y = true then .ok ((dGet kvs y).getD z) h else .stk
  | _, _, _, _ => .stk
theorem v_get : evE P cal ini (.get a k d) σ h = (evE P cal ini a σ h).bnd fun x h => (evE P cal ini k σ h).bnd fun y h => (evE P cal ini d σ h).bnd fun z h => getV x y z h := by
  rw [evE]
  congr 1; funext x h; congr 1; funext y h; congr 1; funext z h
  cases x <;> rfl
/-- one turn of a comprehension -/
def lcT (P : Prg) (cal : Nat → List AV → AH → R AV) (ini : Nat → Nat → List AV → AH → R AV) (e c : Ex) (g : Tg) (σ : Fr) (x : AV) (h : AH) : R (Option AV) := match bindT g x σ with
  | some σ' => (evE P cal ini c σ' h).bnd fun b h => (opt (asBl b) h).bnd fun b h => if b = true then (evE P cal ini e σ' h).bnd fun v h => .ok (some v) h else .ok none h
  | none => .stk
theorem v_lc {ws : List Nat} : evE P cal ini (.lc ws e g i c) σ h = ((evI P cal ini i σ h).bnd fun xs h => lcLoop (lcT P cal ini e c g (wipeA σ ws)) xs h).calm.bnd fun vs h => if szOk vs.length = true then .ok (.lst vs) h else .stk := by
  rw [evE]
  try rfl
theorem l_nil : evL P cal ini [] σ h = .ok [] h := by
  rw [evL]
  try rfl
/-- what is starred -/
def stA : AV → Option (List AV)
  | .tup xs => some xs
  | .lst xs => some xs
  | _ => none
theorem l_star : evL P cal ini (.star e :: es) σ h = (evE P cal ini e σ h).bnd fun v h => (opt (stA v) h).bnd fun xs h => (evL P cal ini es σ h).bnd fun vs h => .ok (xs ++ vs) h := by
  rw [evL]
  congr 1; funext v h; cases v <;> rfl
def isSt : Ex → Bool
  | .star _ => true
  | _ => false
theorem l_cons (hs : isSt e = false) : evL P cal ini (e :: es) σ h = (evE P cal ini e σ h).bnd fun v h => (evL P cal ini es σ h).bnd fun vs h => .ok (v :: vs) h := by
  cases e <;> first | (cases hs; done) | (rw [evL]; intro _ z; cases z)
theorem d_nil : evD P cal ini [] σ h = .ok [] h := by
  rw [evD]
  try rfl
theorem d_cons : evD P cal ini (k :: e :: es) σ h = (evE P cal ini k σ h).bnd fun a h => (evE P cal ini e σ h).bnd fun b h => (evD P cal ini es σ h).bnd fun r h => .ok ((a, b) :: r) h := by
  rw [evD]
  try rfl
def rngV : AV → AV → AH → R (List AV)
  | .int i, .int j, h => if smallI i = true ∧ smallI j = true then .ok (rngL i (j - i).toNat) h else .stk
  | _, _, _ => .stk
theorem i_rng : evI P cal ini (.rng a b) σ h = (evE P cal ini a σ h).bnd fun x h => (evE P cal ini b σ h).bnd fun y h => rngV x y h := by
  rw [evI]
  congr 1; funext x h; congr 1; funext y h; cases x <;> first | rfl | (cases y <;> rfl)
theorem i_enu : evI P cal ini (.enu a) σ h = (evE P cal ini a σ h).bnd fun x h => (opt (stA x) h).bnd fun xs h => .ok (enuL xs) h := by
  rw [evI]
  congr 1; funext x h; cases x <;> rfl
theorem i_seq : evI P cal ini (.seq e) σ h = (evE P cal ini e σ h).bnd fun x h => opt (itmAV x) h := by
  rw [evI]
  try rfl
/-! ### statements -/
theorem s_fz' {is : List Nat} : exS P cal ini (.fz is s) σ h = exS P cal ini s (is.foldl fzS σ) h := by
  rw [exS]
  try rfl
theorem s_exp' : exS P cal ini (.expr e) σ h = (evE P cal ini e σ h).out σ fun _ h => .nx σ h := by
  rw [exS]
  try rfl
theorem s_asg' : exS P cal ini (.asg t e) σ h = (evE P cal ini e σ h).out σ fun v h => stT P cal ini t (isFresh e) v σ h := by
  rw [exS]
  try rfl
theorem s_par' {ts : List Tg} : exS P cal ini (.par ts es) σ h = (evL P cal ini es σ h).out σ fun vs h => stPar P cal ini ts (vs.zip (es.map isFresh)) σ h := by
  rw [exS]
  try rfl
theorem s_aug' : exS P cal ini (.aug n o e) σ h = (slV σ[n]? h).out σ fun x _ => (evE P cal ini e σ h).out σ fun y h => (opt (augV o x y) h).out σ fun z h => .nx (σ.set n (.val z)) h := by
  rw [exS]
  cases σ[n]? with
  | none => rfl
  | some z => cases z <;> rfl
theorem s_app' : exS P cal ini (.app b e) σ h = (place b σ h).out σ fun p h => if p.isL σ h = true then (evE P cal ini e σ h).out σ fun y h => p.put (stApp y) σ h else .stk := by
  rw [exS]
  try rfl
theorem s_ret' : exS P cal ini (.ret e) σ h = (evE P cal ini e σ h).out σ fun v h => .rt v σ h := by
  rw [exS]
  try rfl
theorem s_retN' : exS P cal ini .retN σ h = .rt .non σ h := by
  rw [exS]
  try rfl
theorem s_ife' : exS P cal ini (.ife c ss zs) σ h = (evE P cal ini c σ h).out σ fun x h => (opt (asBl x) h).out σ fun k h => if k = true then exL P cal ini ss σ h else exL P cal ini zs σ h := by
  rw [exS]
  try rfl
theorem s_whl' : exS P cal ini (.whl c ss) σ h = whlL (fun σ h => (evE P cal ini c σ h).bnd fun x h => opt (asBl x) h) (fun σ h => exL P cal ini ss σ h) fuel σ h := by
  rw [exS]
  try rfl
/-- one turn of a for -/
def forT (P : Prg) (cal : Nat → List AV → AH → R AV) (ini : Nat → Nat → List AV → AH → R AV) (t : Tg) (ss : List AM.St) (x : AV) (σ : Fr) (h : AH) : Out := match bindT t x σ with
  | some σ => exL P cal ini ss σ h
  | none => .stk
theorem s_for' : exS P cal ini (.for_ t i ss) σ h = (evI P cal ini i σ h).out σ fun xs h => forL (forT P cal ini t ss) xs σ h := by
  rw [exS]
  try rfl
theorem s_brk' : exS P cal ini .brk σ h = .bk σ h := by
  rw [exS]
  try rfl
theorem s_cnt' : exS P cal ini .cnt σ h = .ct σ h := by
  rw [exS]
  try rfl
theorem s_pass' : exS P cal ini .pass σ h = .nx σ h := by
  rw [exS]
  try rfl
theorem s_raise' : exS P cal ini (.raise n f e) σ h = (evE P cal ini e σ h).out σ fun v h => .er ⟨n, [(f, v)]⟩ σ h := by
  rw [exS]
  try rfl
def tryV (P : Prg) (cal : Nat → List AV → AH → R AV) (ini : Nat → Nat → List AV → AH → R AV) (hs : List (Nat × Nat × List AM.St)) : Out → Out
  | .er x σ h => exH P cal ini hs x σ h
  | o => o
theorem s_try' {hs : List (Nat × Nat × List AM.St)} : exS P cal ini (.try_ ss hs) σ h = tryV P cal ini hs (exL P cal ini ss σ h) := by
  rw [exS]
  cases exL P cal ini ss σ h <;> rfl
theorem x_nil : exL P cal ini [] σ h = .nx σ h := by
  rw [exL]
  try rfl
theorem x_cons : exL P cal ini (s :: r) σ h = (exS P cal ini s σ h).then_ fun σ h => exL P cal ini r σ h := by
  rw [exL]
  try rfl
/-! ### stores -/
theorem st_name {mm fr : Bool} : stT P cal ini (.name n mm) fr v σ h = .nx (putS σ n mm fr v) h := by
  rw [stT]
  try rfl
theorem st_sub {fr : Bool} : stT P cal ini (.sub b k) fr v σ h = (place b σ h).out σ fun p h => (evE P cal ini k σ h).out σ fun k h => p.put (fun a => stSub a k v) σ h := by
  rw [stT]
  try rfl
theorem st_attr {fr : Bool} : stT P cal ini (.attr b f) fr v σ h = (place b σ h).out σ fun p h => p.put (fun a => stAttr P.cls.length a f v) σ h := by
  rw [stT]
  try rfl
theorem st_tup {fr : Bool} {ts : List Tg} {vs : List AV} : stT P cal ini (.tup ts) fr (.tup vs) σ h = if vs.length = ts.length then stTs P cal ini ts vs σ h else .stk := by
  rw [stT]
  try rfl
theorem sts_nil : stTs P cal ini [] [] σ h = .nx σ h := by
  rw [stTs]
  try rfl
theorem sts_cons {ts : List Tg} {vs : List AV} : stTs P cal ini (t :: ts) (v :: vs) σ h = (stT P cal ini t false v σ h).then_ fun σ h => stTs P cal ini ts vs σ h := by
  rw [stTs]
  try rfl
theorem stp_nil : stPar P cal ini [] [] σ h = .nx σ h := by
  rw [stPar]
  try rfl
theorem stp_cons {ts : List Tg} {ps : List (AV × Bool)} {fr : Bool} : stPar P cal ini (t :: ts) ((v, fr) :: ps) σ h = (stT P cal ini t fr v σ h).then_ fun σ h => stPar P cal ini ts ps σ h := by
  rw [stPar]
  try rfl
section
variable {f : AV → Fr → AH → Out} {x : AV} {xs : List AV}
/-- behind one turn -/
def forK (f : AV → Fr → AH → Out) (xs : List AV) : Out → Out
  | .nx σ h => forL f xs σ h
  | .ct σ h => forL f xs σ h
  | .bk σ h => .nx σ h
  | o => o
theorem fl_nil : forL f [] σ h = .nx σ h := by
  rw [forL]
theorem fl_cons : forL f (x :: xs) σ h = forK f xs (f x σ h) := by
  rw [forL]
  cases f x σ h <;> rfl
theorem fk_nx : forK f xs (.nx σ h) = forL f xs σ h := Eq.trans rfl rfl
theorem fk_ct : forK f xs (.ct σ h) = forL f xs σ h := Eq.trans rfl rfl
theorem fk_bk : forK f xs (.bk σ h) = .nx σ h := Eq.trans rfl rfl
theorem fk_rt : forK f xs (.rt v σ h) = .rt v σ h := Eq.trans rfl rfl
theorem fk_er {z : AX} : forK f xs (.er z σ h) = .er z σ h := Eq.trans rfl rfl
theorem tv_nx {hs : List (Nat × Nat × List AM.St)} : tryV P cal ini hs (.nx σ h) = .nx σ h := Eq.trans rfl rfl
theorem tv_rt {hs : List (Nat × Nat × List AM.St)} : tryV P cal ini hs (.rt v σ h) = .rt v σ h := Eq.trans rfl rfl
theorem tv_er {hs : List (Nat × Nat × List AM.St)} {z : AX} : tryV P cal ini hs (.er z σ h) = exH P cal ini hs z σ h := Eq.trans rfl rfl
end
end
/-! ### values under operators -/
section
variable {i j : Int} {x y : Str} {xs ys : List AV} {ns : List Int} {u v w : AV} {h : AH} {b c : Bool} {n m f : Nat} {kvs : List (AV × AV)} {fs : List (Nat × AV)} {P : Prg} {σ : Fr} {r : Fr} {t : Bool} {A : AV → Option AV}
theorem p_addi : bopV .add (.int i) (.int j) = some (.int (i + j)) := Eq.trans rfl rfl
theorem p_adds : bopV .add (.str x) (.str y) = if szOk (x.length + y.length) = true then some (.str (x ++ y)) else none := Eq.trans rfl rfl
theorem p_addt : bopV .add (.tup xs) (.tup ys) = if szOk (xs.length + ys.length) = true then some (.tup (xs ++ ys)) else none := Eq.trans rfl rfl
theorem p_addl : bopV .add (.lst xs) (.lst ys) = if szOk (xs.length + ys.length) = true then some (.lst (xs ++ ys)) else none := Eq.trans rfl rfl
theorem p_sub : bopV .sub (.int i) (.int j) = some (.int (i - j)) := Eq.trans rfl rfl
theorem p_muli : bopV .mul (.int i) (.int j) = if mulOk i j = true then some (.int (i * j)) else none := Eq.trans rfl rfl
theorem p_mull : bopV .mul (.lst xs) (.int i) = if repOk xs.length i = true then some (.lst (List.replicate i.toNat xs).flatten) else none := Eq.trans rfl rfl
theorem p_mult : bopV .mul (.tup xs) (.int i) = if repOk xs.length i = true then some (.tup (List.replicate i.toNat xs).flatten) else none := Eq.trans rfl rfl
theorem p_fdv : bopV .fdiv (.int i) (.int j) = if divOk i j = true then some (.int (i / j)) else none := Eq.trans rfl rfl
theorem p_mod : bopV .mod (.int i) (.int j) = if decide (0 < j) = true then some (.int (i % j)) else none := Eq.trans rfl rfl
theorem p_pow : bopV .pow (.int i) (.int j) = if powOk i j = true then some (.int (i ^ j.toNat)) else none := Eq.trans rfl rfl
theorem p_aadd : augV .add (.int i) (.int j) = some (.int (i + j)) := Eq.trans rfl rfl
theorem p_asub : augV .sub (.int i) (.int j) = some (.int (i - j)) := Eq.trans rfl rfl
theorem q_lt : cmpV .lt (.int i) (.int j) = some (decide (i < j)) := Eq.trans rfl rfl
theorem q_le : cmpV .le (.int i) (.int j) = some (decide (i ≤ j)) := Eq.trans rfl rfl
theorem q_gt : cmpV .gt (.int i) (.int j) = some (decide (j < i)) := Eq.trans rfl rfl
theorem q_ge : cmpV .ge (.int i) (.int j) = some (decide (j ≤ i)) := Eq.trans rfl rfl
theorem q_eq : cmpV .eq u v = eqAV u v := Eq.trans rfl rfl
theorem q_ne : cmpV .ne u v = (eqAV u v).map (!·) := Eq.trans rfl rfl
theorem q_is : cmpV .is_ u v = isAV u v := Eq.trans rfl rfl
theorem q_isn : cmpV .isnot u v = (isAV u v).map (!·) := Eq.trans rfl rfl
theorem q_in : cmpV .in_ u v = inAV u v := Eq.trans rfl rfl
theorem q_nin : cmpV .notin u v = (inAV u v).map (!·) := Eq.trans rfl rfl
theorem a_bl : asBl (.bl b) = some b := Eq.trans rfl rfl
theorem r_l : revAV (.lst xs) = some (.lst xs.reverse) := Eq.trans rfl rfl
theorem r_t : revAV (.tup xs) = some (.tup xs.reverse) := Eq.trans rfl rfl
theorem m_l : itmAV (.lst xs) = some xs := Eq.trans rfl rfl
theorem m_t : itmAV (.tup xs) = some xs := Eq.trans rfl rfl
theorem sb_t : subAV (.tup xs) (.int i) = L2.atI xs i := Eq.trans rfl rfl
theorem sb_l : subAV (.lst xs) (.int i) = L2.atI xs i := Eq.trans rfl rfl
theorem sb_k : subAV (.ktup xs) (.int i) = L2.atI xs i := Eq.trans rfl rfl
theorem sb_s : subAV (.scr ns) (.int i) = (L2.atI ns i).map .int := Eq.trans rfl rfl
theorem sb_d : subAV (.dct t kvs) u = if keyOk t u = true then dGet kvs u else none := Eq.trans rfl rfl
theorem df_int : deref h (.int i) = .int i := Eq.trans rfl rfl
theorem df_str : deref h (.str x) = .str x := Eq.trans rfl rfl
theorem df_tup : deref h (.tup xs) = .tup xs := Eq.trans rfl rfl
theorem df_lst : deref h (.lst xs) = .lst xs := Eq.trans rfl rfl
theorem df_ktup : deref h (.ktup xs) = .ktup xs := Eq.trans rfl rfl
theorem df_dct : deref h (.dct t kvs) = .dct t kvs := Eq.trans rfl rfl
theorem df_obj : deref h (.obj n fs) = .obj n fs := Eq.trans rfl rfl
theorem df_scr : deref h (.scr ns) = .scr ns := Eq.trans rfl rfl
theorem df_bl : deref h (.bl b) = .bl b := Eq.trans rfl rfl
theorem df_non : deref h .non = .non := Eq.trans rfl rfl
theorem df_ref : deref h (.ref n) = match h[n]? with
  | some (.lst xs) => .lst xs
  | _ => .ref n := Eq.trans rfl rfl
theorem bi_len_l : biV .len [.lst xs] = some (.int xs.length) := Eq.trans rfl rfl
theorem bi_len_t : biV .len [.tup xs] = some (.int xs.length) := Eq.trans rfl rfl
theorem bi_len_k : biV .len [.ktup xs] = some (.int xs.length) := Eq.trans rfl rfl
theorem bi_len_s : biV .len [.scr ns] = some (.int ns.length) := Eq.trans rfl rfl
theorem bi_len_x : biV .len [.str x] = if szOk x.length = true then some (.int x.length) else none := Eq.trans rfl rfl
theorem bi_len_d : biV .len [.dct t kvs] = some (.int kvs.length) := Eq.trans rfl rfl
theorem bi_int_i : biV .int [.int i] = some (.int i) := Eq.trans rfl rfl
theorem bi_int_b : biV .int [.bl b] = some (.int (if b then 1 else 0)) := Eq.trans rfl rfl
theorem bi_str : biV .str [.int i] = if i.natAbs.log2 < 1920 then some (.str (toString i)) else none := Eq.trans rfl rfl
theorem bi_max : biV .max [.int i, .int j] = some (.int (if j > i then j else i)) := Eq.trans rfl rfl
theorem bi_min : biV .min [.int i, .int j] = some (.int (if j < i then j else i)) := Eq.trans rfl rfl
theorem bi_all : biV .all [.lst xs] = (allBl xs).map .bl := Eq.trans rfl rfl
theorem bi_sum : biV .sum [.lst xs] = (sumInt xs).map .int := Eq.trans rfl rfl
theorem bi_tup_l : biV .tuple [.lst xs] = some (.tup xs) := Eq.trans rfl rfl
theorem bi_tup_t : biV .tuple [.tup xs] = some (.tup xs) := Eq.trans rfl rfl
theorem bi_lst_l : biV .list [.lst xs] = some (.lst xs) := Eq.trans rfl rfl
theorem bi_lst_t : biV .list [.tup xs] = some (.lst xs) := Eq.trans rfl rfl
theorem bi_dict : biV .dict [.dct t kvs] = some (.dct t kvs) := Eq.trans rfl rfl
theorem pt_lst : putS σ n true true (.lst xs) = σ.set n (.own (.lst xs)) := Eq.trans rfl rfl
theorem pt_dct : putS σ n true true (.dct t kvs) = σ.set n (.own (.dct t kvs)) := Eq.trans rfl rfl
theorem pt_obj : putS σ n true true (.obj m fs) = σ.set n (.own (.obj m fs)) := Eq.trans rfl rfl
theorem pt_f : putS σ n b false v = σ.set n (.val v) := by
  unfold putS
  rw [if_neg (fun z => Bool.false_ne_true z.2.1)]
theorem pt_m : putS σ n false b v = σ.set n (.val v) := by
  unfold putS
  rw [if_neg (fun z => Bool.false_ne_true z.1)]
theorem rg_i : rngV (.int i) (.int j) h = if smallI i = true ∧ smallI j = true then .ok (rngL i (j - i).toNat) h else .stk := Eq.trans rfl rfl
theorem sa_t : stA (.tup xs) = some xs := Eq.trans rfl rfl
theorem sa_l : stA (.lst xs) = some xs := Eq.trans rfl rfl
theorem gv_d : getV (.dct t kvs) u v h = if keyOk t u = true then .ok ((dGet kvs u).getD v) h else .stk := Eq.trans rfl rfl
theorem ob_o : objOf h (.obj n fs) = some (n, fs) := Eq.trans rfl rfl
theorem bt_n : bindT (.name n b) v σ = some (σ.set n (.val v)) := Eq.trans rfl rfl
theorem bt_t {ts : List Tg} : bindT (.tup ts) (.tup xs) σ = bindTs ts xs σ := Eq.trans rfl rfl
theorem bts_n : bindTs [] [] σ = some σ := Eq.trans rfl rfl
theorem bts_c {g : Tg} {ts : List Tg} : bindTs (g :: ts) (v :: xs) σ = (bindT g v σ).bind fun σ => bindTs ts xs σ := Eq.trans rfl rfl
theorem fg_c : fGet ((n, v) :: fs) m = if n = m then some v else fGet fs m := Eq.trans rfl rfl
theorem at_o : attrV P f (.obj n fs) h = (if n < P.cls.length then opt (fGet fs f) h else .stk) := Eq.trans rfl rfl
theorem ty_non {t : Ty} : tyAV h (.non) t = some false := Eq.trans rfl rfl
theorem ty_bl {t : Ty} : tyAV h (.bl b) t = some (t = .bool || t = .int) := Eq.trans rfl rfl
theorem ty_int {t : Ty} : tyAV h (.int i) t = some (decide (t = .int)) := Eq.trans rfl rfl
theorem ty_str {t : Ty} : tyAV h (.str x) t = some (decide (t = .str)) := Eq.trans rfl rfl
theorem ty_tup {t : Ty} : tyAV h (.tup xs) t = some (decide (t = .tuple)) := Eq.trans rfl rfl
theorem ty_lst {t : Ty} : tyAV h (.lst xs) t = some (decide (t = .list)) := Eq.trans rfl rfl
theorem ty_ktup {t : Ty} : tyAV h (.ktup xs) t = some (decide (t = .tuple)) := Eq.trans rfl rfl
theorem ty_dct {t : Ty} : tyAV h (.dct b kvs) t = some (decide (t = .dict)) := Eq.trans rfl rfl
theorem ty_scr {t : Ty} : tyAV h (.scr ns) t = some (decide (t = .list)) := Eq.trans rfl rfl
theorem ty_obj {t : Ty} : tyAV h (.obj n fs) t = some (decide (t = .cls n)) := Eq.trans rfl rfl
theorem tys_n : tysAV h v [] = some false := Eq.trans rfl rfl
theorem tys_c {t : Ty} {ts : List Ty} : tysAV h v (t :: ts) = (match tyAV h v t, tysAV h v ts with
    | some a, some b => some (a || b)
    | _, _ => none) := Eq.trans rfl rfl
theorem ik_bl : isiOk n h (.bl b) = true := Eq.trans rfl rfl
theorem ik_int : isiOk n h (.int i) = true := Eq.trans rfl rfl
theorem ik_str : isiOk n h (.str x) = true := Eq.trans rfl rfl
theorem ik_tup : isiOk n h (.tup xs) = true := Eq.trans rfl rfl
theorem ik_lst : isiOk n h (.lst xs) = true := Eq.trans rfl rfl
theorem ik_ktup : isiOk n h (.ktup xs) = true := Eq.trans rfl rfl
theorem ik_dct : isiOk n h (.dct t kvs) = true := Eq.trans rfl rfl
theorem ik_scr : isiOk n h (.scr ns) = true := Eq.trans rfl rfl
theorem ik_non : isiOk n h .non = true := Eq.trans rfl rfl
theorem ik_obj : isiOk n h (.obj m fs) = decide (m < n) := Eq.trans rfl rfl
theorem lc_nil {f : AV → AH → R (Option AV)} : lcLoop f [] h = .ok [] h := Eq.trans rfl rfl
theorem lc_cons {f : AV → AH → R (Option AV)} : lcLoop f (v :: xs) h = (f v h).bnd fun o h => (lcLoop f xs h).bnd fun r h => .ok (match o with
    | some v => v :: r
    | none => r) h := Eq.trans rfl rfl
theorem wp_n : wipeA σ [] = σ := Eq.trans rfl rfl
theorem wp_c {is : List Nat} : wipeA σ (n :: is) = (wipeA σ is).set n .emp := Eq.trans rfl rfl
theorem oi_n : optI .non = some none := Eq.trans rfl rfl
theorem oi_i : optI (.int i) = some (some i) := Eq.trans rfl rfl
theorem sl_t {a a2 : Option Int} (hu : optI u = some a) (hw : optI w = some a2) : slcAV (.tup xs) u w = some (.tup (cutA xs a a2)) := by
  unfold slcAV
  rw [hu, hw]
theorem sl_l {a a2 : Option Int} (hu : optI u = some a) (hw : optI w = some a2) : slcAV (.lst xs) u w = some (.lst (cutA xs a a2)) := by
  unfold slcAV
  rw [hu, hw]
end
section
variable {a b c d : Ex} {es : List Ex} {n : Nat} {v : AV} {o : BOp} {p q : COp} {g g2 : Tg} {ws ws2 : List Nat} {tt : Bool} {bi : BI} {ts : List Ty}
theorem ns_var : isSt (.var n) = false := Eq.trans rfl rfl
theorem ns_peek : isSt (.peek n) = false := Eq.trans rfl rfl
theorem ns_con : isSt (.con v) = false := Eq.trans rfl rfl
theorem ns_glo : isSt (.glo n) = false := Eq.trans rfl rfl
theorem ns_bop : isSt (.bop o a b) = false := Eq.trans rfl rfl
theorem ns_neg : isSt (.neg a) = false := Eq.trans rfl rfl
theorem ns_cmp : isSt (.cmp p a b) = false := Eq.trans rfl rfl
theorem ns_chain : isSt (.chain p q a b c) = false := Eq.trans rfl rfl
theorem ns_and : isSt (.and_ a b) = false := Eq.trans rfl rfl
theorem ns_or : isSt (.or_ a b) = false := Eq.trans rfl rfl
theorem ns_not : isSt (.not_ a) = false := Eq.trans rfl rfl
theorem ns_ite : isSt (.ite a b c) = false := Eq.trans rfl rfl
theorem ns_tup : isSt (.tup es) = false := Eq.trans rfl rfl
theorem ns_lst : isSt (.lst es) = false := Eq.trans rfl rfl
theorem ns_lstR : isSt (.lstR es) = false := Eq.trans rfl rfl
theorem ns_dsp : isSt (.dsp es) = false := Eq.trans rfl rfl
theorem ns_dnew : isSt (.dnew tt) = false := Eq.trans rfl rfl
theorem ns_sub : isSt (.sub a b) = false := Eq.trans rfl rfl
theorem ns_slc : isSt (.slc a b c) = false := Eq.trans rfl rfl
theorem ns_rev : isSt (.rev a) = false := Eq.trans rfl rfl
theorem ns_attr : isSt (.attr a n) = false := Eq.trans rfl rfl
theorem ns_prop : isSt (.prop a n) = false := Eq.trans rfl rfl
theorem ns_call : isSt (.call n es) = false := Eq.trans rfl rfl
theorem ns_mk : isSt (.mk n es) = false := Eq.trans rfl rfl
theorem ns_meth : isSt (.meth a n es) = false := Eq.trans rfl rfl
theorem ns_bi : isSt (.bi bi es) = false := Eq.trans rfl rfl
theorem ns_isi : isSt (.isi a ts) = false := Eq.trans rfl rfl
theorem ns_get : isSt (.get a b c) = false := Eq.trans rfl rfl
theorem ns_lc : isSt (.lc ws a g b c) = false := Eq.trans rfl rfl
theorem ns_lc2 : isSt (.lc2 ws ws2 a g b g2 c) = false := Eq.trans rfl rfl
theorem ns_dc : isSt (.dc ws a b g c d) = false := Eq.trans rfl rfl
theorem ns_rng : isSt (.rng a b) = false := Eq.trans rfl rfl
theorem ns_enu : isSt (.enu a) = false := Eq.trans rfl rfl
theorem ns_seq : isSt (.seq a) = false := Eq.trans rfl rfl
theorem ex_var {σ : Fr} : excOf σ (.var n) = none := Eq.trans rfl rfl
theorem ex_con {σ : Fr} : excOf σ (.con v) = none := Eq.trans rfl rfl
theorem ex_glo {σ : Fr} : excOf σ (.glo n) = none := Eq.trans rfl rfl
theorem ex_bop {σ : Fr} : excOf σ (.bop o a b) = none := Eq.trans rfl rfl
theorem ex_neg {σ : Fr} : excOf σ (.neg a) = none := Eq.trans rfl rfl
theorem ex_cmp {σ : Fr} : excOf σ (.cmp p a b) = none := Eq.trans rfl rfl
theorem ex_chain {σ : Fr} : excOf σ (.chain p q a b c) = none := Eq.trans rfl rfl
theorem ex_and {σ : Fr} : excOf σ (.and_ a b) = none := Eq.trans rfl rfl
theorem ex_or {σ : Fr} : excOf σ (.or_ a b) = none := Eq.trans rfl rfl
theorem ex_not {σ : Fr} : excOf σ (.not_ a) = none := Eq.trans rfl rfl
theorem ex_ite {σ : Fr} : excOf σ (.ite a b c) = none := Eq.trans rfl rfl
theorem ex_tup {σ : Fr} : excOf σ (.tup es) = none := Eq.trans rfl rfl
theorem ex_lst {σ : Fr} : excOf σ (.lst es) = none := Eq.trans rfl rfl
theorem ex_lstR {σ : Fr} : excOf σ (.lstR es) = none := Eq.trans rfl rfl
theorem ex_dsp {σ : Fr} : excOf σ (.dsp es) = none := Eq.trans rfl rfl
theorem ex_dnew {σ : Fr} : excOf σ (.dnew tt) = none := Eq.trans rfl rfl
theorem ex_sub {σ : Fr} : excOf σ (.sub a b) = none := Eq.trans rfl rfl
theorem ex_slc {σ : Fr} : excOf σ (.slc a b c) = none := Eq.trans rfl rfl
theorem ex_rev {σ : Fr} : excOf σ (.rev a) = none := Eq.trans rfl rfl
theorem ex_attr {σ : Fr} : excOf σ (.attr a n) = none := Eq.trans rfl rfl
theorem ex_prop {σ : Fr} : excOf σ (.prop a n) = none := Eq.trans rfl rfl
theorem ex_call {σ : Fr} : excOf σ (.call n es) = none := Eq.trans rfl rfl
theorem ex_mk {σ : Fr} : excOf σ (.mk n es) = none := Eq.trans rfl rfl
theorem ex_meth {σ : Fr} : excOf σ (.meth a n es) = none := Eq.trans rfl rfl
theorem ex_bi {σ : Fr} : excOf σ (.bi bi es) = none := Eq.trans rfl rfl
theorem ex_isi {σ : Fr} : excOf σ (.isi a ts) = none := Eq.trans rfl rfl
theorem ex_get {σ : Fr} : excOf σ (.get a b c) = none := Eq.trans rfl rfl
theorem ex_lc {σ : Fr} : excOf σ (.lc ws a g b c) = none := Eq.trans rfl rfl
theorem ex_lc2 {σ : Fr} : excOf σ (.lc2 ws ws2 a g b g2 c) = none := Eq.trans rfl rfl
theorem ex_dc {σ : Fr} : excOf σ (.dc ws a b g c d) = none := Eq.trans rfl rfl
theorem ex_rng {σ : Fr} : excOf σ (.rng a b) = none := Eq.trans rfl rfl
theorem ex_enu {σ : Fr} : excOf σ (.enu a) = none := Eq.trans rfl rfl
theorem ex_seq {σ : Fr} : excOf σ (.seq a) = none := Eq.trans rfl rfl
def excS : Option Sl → Option (List (Nat × AV))
  | some (.exc _ fs) => some fs
  | _ => none
theorem ex_peek {σ : Fr} : excOf σ (.peek n) = excS σ[n]? := by
  show (match σ[n]? with
    | some (.exc _ fs) => some fs
    | _ => none) = _
  cases σ[n]? with
  | none => rfl
  | some z => cases z <;> rfl
theorem es_e {fs : List (Nat × AV)} : excS (some (.exc n fs)) = some fs := Eq.trans rfl rfl
theorem es_v : excS (some (.val v)) = none := Eq.trans rfl rfl
theorem es_o : excS (some (.own v)) = none := Eq.trans rfl rfl
def fzV (σ : Fr) (i : Nat) : Option Sl → Fr
  | some (.own v) => σ.set i (.val v)
  | _ => σ
theorem fz_s {σ : Fr} : fzS σ n = fzV σ n σ[n]? := by
  show (match σ[n]? with
    | some (.own v) => σ.set n (.val v)
    | _ => σ) = _
  cases σ[n]? with
  | none => rfl
  | some z => cases z <;> rfl
theorem fz_o {σ : Fr} : fzV σ n (some (.own v)) = σ.set n (.val v) := Eq.trans rfl rfl
theorem fz_v {σ : Fr} : fzV σ n (some (.val v)) = σ := Eq.trans rfl rfl
theorem fz_e {σ : Fr} : fzV σ n (some .emp) = σ := Eq.trans rfl rfl
/-- where a store goes -/
def plS (i : Nat) (h : AH) : Option Sl → R Pl
  | some (.own _) => .ok (.slot i) h
  | some (.val (.ref n)) => .ok (.cell n) h
  | _ => .stk
theorem pl_p {σ : Fr} {h : AH} : place (.peek n) σ h = plS n h σ[n]? := by
  show (match σ[n]? with
    | some (.own _) => R.ok (Pl.slot n) h
    | some (.val (.ref m)) => .ok (.cell m) h
    | _ => .stk) = _
  cases σ[n]? with
  | none => rfl
  | some z =>
    cases z with
    | val u => cases u <;> rfl
    | _ => rfl
theorem ps_o {h : AH} : plS n h (some (.own v)) = .ok (.slot n) h := Eq.trans rfl rfl
theorem ps_c {h : AH} {m : Nat} : plS n h (some (.val (.ref m))) = .ok (.cell m) h := Eq.trans rfl rfl
def puS (i : Nat) (f : AV → Option AV) (σ : Fr) (h : AH) : Option Sl → Out
  | some (.own v) => (match f v with
    | some v' => .nx (σ.set i (.own v')) h
    | none => .stk)
  | _ => .stk
def puC (n : Nat) (f : AV → Option AV) (σ : Fr) (h : AH) : Option AV → Out
  | some v => (match f v with
    | some v' => .nx σ (h.set n v')
    | none => .stk)
  | none => .stk
theorem pu_s {σ : Fr} {h : AH} {f : AV → Option AV} : (Pl.slot n).put f σ h = puS n f σ h σ[n]? := by
  show (match σ[n]? with
    | some (.own v) => (match f v with
      | some v' => Out.nx (σ.set n (.own v')) h
      | none => .stk)
    | _ => .stk) = _
  cases σ[n]? with
  | none => rfl
  | some z =>
    cases z with
    | own u => rfl
    | _ => rfl
theorem pu_c {σ : Fr} {h : AH} {f : AV → Option AV} : (Pl.cell n).put f σ h = puC n f σ h h[n]? := by
  show (match h[n]? with
    | some v => (match f v with
      | some v' => Out.nx σ (h.set n v')
      | none => .stk)
    | none => .stk) = _
  cases h[n]? with
  | none => rfl
  | some u => rfl
def puSr (n : Nat) (σ : Fr) (h : AH) : Option AV → Out
  | some w => .nx (σ.set n (.own w)) h
  | none => .stk
def puCr (n : Nat) (σ : Fr) (h : AH) : Option AV → Out
  | some w => .nx σ (h.set n w)
  | none => .stk
theorem pus_o {σ : Fr} {h : AH} {f : AV → Option AV} : puS n f σ h (some (.own v)) = puSr n σ h (f v) := by
  show (match f v with
    | some v' => Out.nx (σ.set n (.own v')) h
    | none => .stk) = _
  cases f v <;> rfl
theorem puc_s {σ : Fr} {h : AH} {f : AV → Option AV} : puC n f σ h (some v) = puCr n σ h (f v) := by
  show (match f v with
    | some v' => Out.nx σ (h.set n v')
    | none => .stk) = _
  cases f v <;> rfl
theorem pur_s {σ : Fr} {h : AH} : puSr n σ h (some v) = .nx (σ.set n (.own v)) h := Eq.trans rfl rfl
theorem pur_c {σ : Fr} {h : AH} : puCr n σ h (some v) = .nx σ (h.set n v) := Eq.trans rfl rfl
def isLs : Option Sl → Bool
  | some (.own (.lst _)) => true
  | _ => false
def isLc : Option AV → Bool
  | some (.lst _) => true
  | _ => false
theorem il_s {σ : Fr} {h : AH} : (Pl.slot n).isL σ h = isLs σ[n]? := by
  show (match σ[n]? with
    | some (.own (.lst _)) => true
    | _ => false) = _
  cases σ[n]? with
  | none => rfl
  | some z =>
    cases z with
    | own u => cases u <;> rfl
    | _ => rfl
theorem il_c {σ : Fr} {h : AH} : (Pl.cell n).isL σ h = isLc h[n]? := by
  show (match h[n]? with
    | some (.lst _) => true
    | _ => false) = _
  cases h[n]? with
  | none => rfl
  | some z => cases z <;> rfl
theorem ils_o {xs : List AV} : isLs (some (.own (.lst xs))) = true := Eq.trans rfl rfl
theorem ilc_l {xs : List AV} : isLc (some (.lst xs)) = true := Eq.trans rfl rfl
theorem sp_l {y : AV} {xs : List AV} : stApp y (.lst xs) = if szOk xs.length = true then some (.lst (xs ++ [y])) else none := Eq.trans rfl rfl
theorem ss_l {xs : List AV} {i : Int} : stSub (.lst xs) (.int i) v = (L2.ixN xs.length i).map fun j => .lst (xs.set j v) := Eq.trans rfl rfl
theorem ss_d {t : Bool} {kvs : List (AV × AV)} {k : AV} : stSub (.dct t kvs) k v = if keyOk t k = true ∧ szOk kvs.length = true then some (.dct t (dPut kvs k v)) else none := Eq.trans rfl rfl
theorem sf_o {m f : Nat} {fs : List (Nat × AV)} : stAttr n (.obj m fs) f v = if decide (m < n ∧ fs.length < 900) = true then some (.obj m (fPut fs f v)) else none := Eq.trans rfl rfl
theorem ft_n {P : Prg} {cal : Nat → List AV → AH → R AV} {ini : Nat → Nat → List AV → AH → R AV} {ss : List AM.St} {σ : Fr} {h : AH} {mm : Bool} : forT P cal ini (.name n mm) ss v σ h = exL P cal ini ss (σ.set n (.val v)) h := Eq.trans rfl rfl
theorem lt_n {P : Prg} {cal : Nat → List AV → AH → R AV} {ini : Nat → Nat → List AV → AH → R AV} {σ : Fr} {h : AH} {mm : Bool} : lcT P cal ini a c (.name n mm) σ v h = (evE P cal ini c (σ.set n (.val v)) h).bnd fun b h => (opt (asBl b) h).bnd fun b h => if b = true then (evE P cal ini a (σ.set n (.val v)) h).bnd fun v h => .ok (some v) h else .ok none h := Eq.trans rfl rfl
theorem isf_var : isFresh (.var n) = false := Eq.trans rfl rfl
theorem isf_peek : isFresh (.peek n) = false := Eq.trans rfl rfl
theorem isf_con : isFresh (.con v) = false := Eq.trans rfl rfl
theorem isf_glo : isFresh (.glo n) = false := Eq.trans rfl rfl
theorem isf_bop : isFresh (.bop o a b) = false := Eq.trans rfl rfl
theorem isf_neg : isFresh (.neg a) = false := Eq.trans rfl rfl
theorem isf_cmp : isFresh (.cmp p a b) = false := Eq.trans rfl rfl
theorem isf_chain : isFresh (.chain p q a b c) = false := Eq.trans rfl rfl
theorem isf_and : isFresh (.and_ a b) = false := Eq.trans rfl rfl
theorem isf_or : isFresh (.or_ a b) = false := Eq.trans rfl rfl
theorem isf_not : isFresh (.not_ a) = false := Eq.trans rfl rfl
theorem isf_ite : isFresh (.ite a b c) = false := Eq.trans rfl rfl
theorem isf_tup : isFresh (.tup es) = false := Eq.trans rfl rfl
theorem isf_lst : isFresh (.lst es) = true := Eq.trans rfl rfl
theorem isf_lstR : isFresh (.lstR es) = false := Eq.trans rfl rfl
theorem isf_dsp : isFresh (.dsp es) = true := Eq.trans rfl rfl
theorem isf_dnew : isFresh (.dnew tt) = true := Eq.trans rfl rfl
theorem isf_sub : isFresh (.sub a b) = false := Eq.trans rfl rfl
theorem isf_slc : isFresh (.slc a b c) = false := Eq.trans rfl rfl
theorem isf_rev : isFresh (.rev a) = false := Eq.trans rfl rfl
theorem isf_attr : isFresh (.attr a n) = false := Eq.trans rfl rfl
theorem isf_prop : isFresh (.prop a n) = false := Eq.trans rfl rfl
theorem isf_call : isFresh (.call n es) = false := Eq.trans rfl rfl
theorem isf_mk : isFresh (.mk n es) = true := Eq.trans rfl rfl
theorem isf_meth : isFresh (.meth a n es) = false := Eq.trans rfl rfl
theorem isf_isi : isFresh (.isi a ts) = false := Eq.trans rfl rfl
theorem isf_get : isFresh (.get a b c) = false := Eq.trans rfl rfl
theorem isf_lc : isFresh (.lc ws a g b c) = true := Eq.trans rfl rfl
theorem isf_lc2 : isFresh (.lc2 ws ws2 a g b g2 c) = true := Eq.trans rfl rfl
theorem isf_dc : isFresh (.dc ws a b g c d) = true := Eq.trans rfl rfl
theorem isf_rng : isFresh (.rng a b) = false := Eq.trans rfl rfl
theorem isf_enu : isFresh (.enu a) = false := Eq.trans rfl rfl
theorem isf_seq : isFresh (.seq a) = false := Eq.trans rfl rfl
theorem isf_bi_len : isFresh (.bi .len es) = false := Eq.trans rfl rfl
theorem isf_bi_int : isFresh (.bi .int es) = false := Eq.trans rfl rfl
theorem isf_bi_str : isFresh (.bi .str es) = false := Eq.trans rfl rfl
theorem isf_bi_max : isFresh (.bi .max es) = false := Eq.trans rfl rfl
theorem isf_bi_min : isFresh (.bi .min es) = false := Eq.trans rfl rfl
theorem isf_bi_all : isFresh (.bi .all es) = false := Eq.trans rfl rfl
theorem isf_bi_sum : isFresh (.bi .sum es) = false := Eq.trans rfl rfl
theorem isf_bi_tuple : isFresh (.bi .tuple es) = false := Eq.trans rfl rfl
theorem isf_bi_list : isFresh (.bi .list es) = true := Eq.trans rfl rfl
theorem isf_bi_dict : isFresh (.bi .dict es) = true := Eq.trans rfl rfl
theorem isf_bi_repr : isFresh (.bi .repr es) = false := Eq.trans rfl rfl
theorem isf_bi_sorted : isFresh (.bi .sorted es) = false := Eq.trans rfl rfl
end
section
variable {P : Prg} {cal : Nat → List AV → AH → R AV} {ini : Nat → Nat → List AV → AH → R AV} {σ : Fr} {h : AH} {x : AX} {ci i : Nat} {b : List AM.St} {r : List (Nat × Nat × List AM.St)} {v : AV}
/-- behind a clause -/
def hdN (i : Nat) (σ : Fr) (o : Out) : Out := if noExc (σ.set i .emp) = true then o else .stk
def hdK (i : Nat) : Out → Out
  | .nx σ h => hdN i σ (.nx (σ.set i .emp) h)
  | .bk σ h => hdN i σ (.bk (σ.set i .emp) h)
  | .ct σ h => hdN i σ (.ct (σ.set i .emp) h)
  | .rt v σ h => hdN i σ (.rt v (σ.set i .emp) h)
  | _ => .stk
theorem xh_nil : exH P cal ini [] x σ h = .er x σ h := by
  rw [exH]
theorem xh_cons : exH P cal ini ((ci, i, b) :: r) x σ h = if P.cls.length ≤ x.c ∧ x.c < P.nex then (if x.c = ci then hdK i (exL P cal ini b (σ.set i (.exc x.c x.fs)) h) else exH P cal ini r x σ h) else .stk := by
  rw [exH]
  try rfl
theorem hk_nx : hdK i (.nx σ h) = hdN i σ (.nx (σ.set i .emp) h) := Eq.trans rfl rfl
theorem hk_bk : hdK i (.bk σ h) = hdN i σ (.bk (σ.set i .emp) h) := Eq.trans rfl rfl
theorem hk_ct : hdK i (.ct σ h) = hdN i σ (.ct (σ.set i .emp) h) := Eq.trans rfl rfl
theorem hk_rt : hdK i (.rt v σ h) = hdN i σ (.rt v (σ.set i .emp) h) := Eq.trans rfl rfl
theorem hn_n {o : Out} : hdN i σ o = if noExc (σ.set i .emp) = true then o else .stk := Eq.trans rfl rfl
theorem ne_nil : noExc [] = true := Eq.trans rfl rfl
theorem ne_val : noExc (.val v :: σ) = noExc σ := by
  show (true && noExc σ) = noExc σ
  rfl
theorem ne_own : noExc (.own v :: σ) = noExc σ := by
  show (true && noExc σ) = noExc σ
  rfl
theorem ne_emp : noExc (.emp :: σ) = noExc σ := by
  show (true && noExc σ) = noExc σ
  rfl
theorem ax_c {c : Nat} {fs : List (Nat × AV)} : (⟨c, fs⟩ : AX).c = c := Eq.trans rfl rfl
theorem ax_f {c : Nat} {fs : List (Nat × AV)} : (⟨c, fs⟩ : AX).fs = fs := Eq.trans rfl rfl
end
end AM
set_option maxHeartbeats 0
namespace LawT
open PySem PySem.Spec PyProof.Rows L2 AM
def top (i : Nat) : Stmt := PySem.Challenge.pw_weighedtrees_k68_bounded_refused.main.body.getD i (.Pass ⟨0, 0, 0, 0⟩)
def d0 : He.DefD := ⟨("is_count", none), "is_count", "is_count", defArgs (top 14), defBody (top 14), defScope (top 14), [], []⟩
def i0 : FI := ⟨d0, ["value", "least", "most"], ["value", "least", "most"], [], true, false, none⟩
def d1 : He.DefD := ⟨("is_integer", none), "is_integer", "is_integer", defArgs (top 15), defBody (top 15), defScope (top 15), [], []⟩
def i1 : FI := ⟨d1, ["value"], ["value"], [], true, false, none⟩
def d2 : He.DefD := ⟨("fraction", none), "fraction", "fraction", defArgs (top 16), defBody (top 16), defScope (top 16), [], []⟩
def i2 : FI := ⟨d2, ["top", "bottom", "one", "other"], ["top", "bottom"], [], true, false, none⟩
def d3 : He.DefD := ⟨("is_fraction", none), "is_fraction", "is_fraction", defArgs (top 17), defBody (top 17), defScope (top 17), [], []⟩
def i3 : FI := ⟨d3, ["value", "one"], ["value"], [], true, false, none⟩
def d4 : He.DefD := ⟨("over", none), "over", "over", defArgs (top 18), defBody (top 18), defScope (top 18), [], []⟩
def i4 : FI := ⟨d4, ["one", "other"], ["one", "other"], [], true, false, none⟩
def d5 : He.DefD := ⟨("is_less", none), "is_less", "is_less", defArgs (top 19), defBody (top 19), defScope (top 19), [], []⟩
def i5 : FI := ⟨d5, ["one", "other"], ["one", "other"], [], true, false, none⟩
def d6 : He.DefD := ⟨("power", none), "power", "power", defArgs (top 20), defBody (top 20), defScope (top 20), [], []⟩
def i6 : FI := ⟨d6, ["base", "often", "found", "turn"], ["base", "often"], [], true, false, none⟩
def d7 : He.DefD := ⟨("choices", none), "choices", "choices", defArgs (top 21), defBody (top 21), defScope (top 21), [], []⟩
def i7 : FI := ⟨d7, ["size", "some", "found", "turn"], ["size", "some"], [], true, false, none⟩
def d8 : He.DefD := ⟨("is_bit", none), "is_bit", "is_bit", defArgs (top 27), defBody (top 27), defScope (top 27), [], []⟩
def i8 : FI := ⟨d8, ["value"], ["value"], [], true, false, none⟩
def d9 : He.DefD := ⟨("are_bits", none), "are_bits", "are_bits", defArgs (top 28), defBody (top 28), defScope (top 28), [], []⟩
def i9 : FI := ⟨d9, ["value", "least", "most", "one"], ["value", "least", "most"], [], true, false, none⟩
def d10 : He.DefD := ⟨("is_kind", none), "is_kind", "is_kind", defArgs (top 29), defBody (top 29), defScope (top 29), [], []⟩
def i10 : FI := ⟨d10, ["value"], ["value"], [], true, false, none⟩
def d11 : He.DefD := ⟨("is_share", none), "is_share", "is_share", defArgs (top 30), defBody (top 30), defScope (top 30), [], []⟩
def i11 : FI := ⟨d11, ["value"], ["value"], [], true, false, none⟩
def d12 : He.DefD := ⟨("check_past", none), "check_past", "check_past", defArgs (top 31), defBody (top 31), defScope (top 31), [], []⟩
def i12 : FI := ⟨d12, ["depth", "past"], ["depth", "past"], [], true, false, none⟩
def d13 : He.DefD := ⟨("check_bits", none), "check_bits", "check_bits", defArgs (top 32), defBody (top 32), defScope (top 32), [], []⟩
def i13 : FI := ⟨d13, ["text"], ["text"], [], true, false, none⟩
def d14 : He.DefD := ⟨("check_bit", none), "check_bit", "check_bit", defArgs (top 33), defBody (top 33), defScope (top 33), [], []⟩
def i14 : FI := ⟨d14, ["bit"], ["bit"], [], true, false, none⟩
def d15 : He.DefD := ⟨("rows_of", none), "rows_of", "rows_of", defArgs (top 34), defBody (top 34), defScope (top 34), [], []⟩
def i15 : FI := ⟨d15, ["size", "found", "turn", "one", "bit"], ["size"], [], true, false, none⟩
def d16 : He.DefD := ⟨("row_behind", none), "row_behind", "row_behind", defArgs (top 35), defBody (top 35), defScope (top 35), [], []⟩
def i16 : FI := ⟨d16, ["depth", "past", "text", "bits"], ["depth", "past", "text"], [], true, false, none⟩
def d17 : He.DefD := ⟨("Model", some "__init__"), "__init__", "Model.__init__", defArgs (inClass (top 36) 0), defBody (inClass (top 36) 0), defScope (inClass (top 36) 0), [], []⟩
def i17 : FI := ⟨d17, ["self", "depth", "kind", "share"], ["self", "depth", "kind", "share"], [], true, false, some 0⟩
def d18 : He.DefD := ⟨("check_model", none), "check_model", "check_model", defArgs (top 37), defBody (top 37), defScope (top 37), [], []⟩
def i18 : FI := ⟨d18, ["value"], ["value"], [], true, false, none⟩
def d19 : He.DefD := ⟨("estimate_of", none), "estimate_of", "estimate_of", defArgs (top 39), defBody (top 39), defScope (top 39), [], []⟩
def i19 : FI := ⟨d19, ["kind", "zeros", "ones", "size"], ["kind", "zeros", "ones"], [], true, false, none⟩
def d20 : He.DefD := ⟨("raw_mix", none), "raw_mix", "raw_mix", defArgs (top 41), defBody (top 41), defScope (top 41), [], []⟩
def i20 : FI := ⟨d20, ["model", "counts", "node", "below", "top", "bottom", "one", "other", "part", "whole"], ["model", "counts", "node"], [], true, false, none⟩
def d21 : He.DefD := ⟨("with_bit_at", none), "with_bit_at", "with_bit_at", defArgs (top 42), defBody (top 42), defScope (top 42), [], []⟩
def i21 : FI := ⟨d21, ["counts", "row", "bit", "found", "size", "zeros", "ones"], ["counts", "row", "bit"], ["found"], true, false, none⟩
def d22 : He.DefD := ⟨("mix_of_counts", none), "mix_of_counts", "mix_of_counts", defArgs (top 43), defBody (top 43), defScope (top 43), [], []⟩
def i22 : FI := ⟨d22, ["model", "counts", "top", "bottom"], ["model", "counts"], [], true, false, none⟩
def d23 : He.DefD := ⟨("next_by_counts", none), "next_by_counts", "next_by_counts", defArgs (top 44), defBody (top 44), defScope (top 44), [], []⟩
def i23 : FI := ⟨d23, ["model", "counts", "row", "bit", "one", "other"], ["model", "counts", "row", "bit"], [], true, false, none⟩
def d24 : He.DefD := ⟨("no_counts", none), "no_counts", "no_counts", defArgs (top 47), defBody (top 47), defScope (top 47), [], []⟩
def i24 : FI := ⟨d24, ["model", "node"], ["model"], [], true, false, none⟩
def d25 : He.DefD := ⟨("check_coded", none), "check_coded", "check_coded", defArgs (top 48), defBody (top 48), defScope (top 48), [], []⟩
def i25 : FI := ⟨d25, ["model", "past", "text"], ["model", "past", "text"], [], true, false, none⟩
def d26 : He.DefD := ⟨("bits_of", none), "bits_of", "bits_of", defArgs (top 49), defBody (top 49), defScope (top 49), [], []⟩
def i26 : FI := ⟨d26, ["number", "length", "found", "turn"], ["number", "length"], ["found"], true, false, none⟩
def d27 : He.DefD := ⟨("word_of", none), "word_of", "word_of", defArgs (top 50), defBody (top 50), defScope (top 50), [], []⟩
def i27 : FI := ⟨d27, ["low", "share", "length", "number"], ["low", "share"], [], true, false, none⟩
def d28 : He.DefD := ⟨("value_of", none), "value_of", "value_of", defArgs (top 51), defBody (top 51), defScope (top 51), [], []⟩
def i28 : FI := ⟨d28, ["code", "number", "bit"], ["code"], [], true, false, none⟩
def d29 : He.DefD := ⟨("is_below", none), "is_below", "is_below", defArgs (top 52), defBody (top 52), defScope (top 52), [], []⟩
def i29 : FI := ⟨d29, ["value", "bound"], ["value", "bound"], [], true, false, none⟩
def d30 : He.DefD := ⟨("check_read", none), "check_read", "check_read", defArgs (top 54), defBody (top 54), defScope (top 54), [], []⟩
def i30 : FI := ⟨d30, ["model", "past", "count"], ["model", "past", "count"], [], true, false, none⟩
def d31 : He.DefD := ⟨("is_bits", none), "is_bits", "is_bits", defArgs (top 55), defBody (top 55), defScope (top 55), [], []⟩
def i31 : FI := ⟨d31, ["value"], ["value"], [], true, false, none⟩
def d32 : He.DefD := ⟨("check_width", none), "check_width", "check_width", defArgs (top 59), defBody (top 59), defScope (top 59), [], []⟩
def i32 : FI := ⟨d32, ["width"], ["width"], [], true, false, none⟩
def d33 : He.DefD := ⟨("check_between", none), "check_between", "check_between", defArgs (top 60), defBody (top 60), defScope (top 60), [], []⟩
def i33 : FI := ⟨d33, ["share"], ["share"], [], true, false, none⟩
def d34 : He.DefD := ⟨("Span", some "__init__"), "__init__", "Span.__init__", defArgs (inClass (top 61) 0), defBody (inClass (top 61) 0), defScope (inClass (top 61) 0), [], []⟩
def i34 : FI := ⟨d34, ["self", "width"], ["self", "width"], [], true, false, some 1⟩
def d35 : He.DefD := ⟨("word_of_span", none), "word_of_span", "word_of_span", defArgs (top 62), defBody (top 62), defScope (top 62), [], []⟩
def i35 : FI := ⟨d35, ["span", "whole"], ["span"], [], true, false, none⟩
def d36 : He.DefD := ⟨("span_of", none), "span_of", "span_of", defArgs (top 63), defBody (top 63), defScope (top 63), [], []⟩
def i36 : FI := ⟨d36, ["model", "past", "text", "width", "span", "counts", "at", "bit", "row"], ["model", "past", "text", "width"], [], true, false, none⟩
def d37 : He.DefD := ⟨("text_span", none), "text_span", "text_span", defArgs (top 64), defBody (top 64), defScope (top 64), [], []⟩
def i37 : FI := ⟨d37, ["model", "past", "text", "width"], ["model", "past", "text", "width"], [], true, false, none⟩
def d38 : He.DefD := ⟨("bounded_code", none), "bounded_code", "bounded_code", defArgs (top 65), defBody (top 65), defScope (top 65), [], []⟩
def i38 : FI := ⟨d38, ["model", "past", "text", "width"], ["model", "past", "text", "width"], [], true, false, none⟩
def d39 : He.DefD := ⟨("bounded_text", none), "bounded_text", "bounded_text", defArgs (top 66), defBody (top 66), defScope (top 66), [], []⟩
def i39 : FI := ⟨d39, ["model", "past", "count", "value", "width", "turn", "span", "counts", "text", "row", "share", "bound", "bit"], ["model", "past", "count", "value", "width"], [], true, false, none⟩
def d40 : He.DefD := ⟨("is_bounded_code", none), "is_bounded_code", "is_bounded_code", defArgs (top 67), defBody (top 67), defScope (top 67), [], []⟩
def i40 : FI := ⟨d40, ["model", "past", "count", "value", "width", "text"], ["model", "past", "count", "value", "width"], [], true, false, none⟩
def d41 : He.DefD := ⟨("read_bounded", none), "read_bounded", "read_bounded", defArgs (top 68), defBody (top 68), defScope (top 68), [], []⟩
def i41 : FI := ⟨d41, ["model", "past", "count", "code", "width"], ["model", "past", "count", "code", "width"], [], true, false, none⟩
def d42 : He.DefD := ⟨("powers_below", none), "powers_below", "powers_below", defArgs (top 69), defBody (top 69), defScope (top 69), [], []⟩
def i42 : FI := ⟨d42, ["shares", "found", "share"], ["shares"], [], true, false, none⟩
def d43 : He.DefD := ⟨("loss_by", none), "loss_by", "loss_by", defArgs (top 70), defBody (top 70), defScope (top 70), [], []⟩
def i43 : FI := ⟨d43, ["count", "least", "width", "found"], ["count", "least", "width"], [], true, false, none⟩
def d44 : He.DefD := ⟨("loss", none), "loss", "loss", defArgs (top 71), defBody (top 71), defScope (top 71), [], []⟩
def i44 : FI := ⟨d44, ["model", "past", "text", "width"], ["model", "past", "text", "width"], [], true, false, none⟩
def d45 : He.DefD := ⟨("width_for", none), "width_for", "width_for", defArgs (top 72), defBody (top 72), defScope (top 72), [], []⟩
def i45 : FI := ⟨d45, ["model", "past", "text", "most", "least", "width", "found"], ["model", "past", "text", "most"], [], true, false, none⟩
def d46 : He.DefD := ⟨("_law_numbers", none), "_law_numbers", "_law_numbers", defArgs (top 74), defBody (top 74), defScope (top 74), [], []⟩
def i46 : FI := ⟨d46, ["_law_cell", "_law_salt", "_law_often", "_law_whole", "_law_left", "_law_result", "_law_k", "_law_one"], ["_law_cell", "_law_salt", "_law_often"], ["_law_result"], true, false, none⟩
def d47 : He.DefD := ⟨("_law_opened", none), "_law_opened", "_law_opened", defArgs (top 75), defBody (top 75), defScope (top 75), [], []⟩
def i47 : FI := ⟨d47, ["_law_script", "_law_k", "_law_often", "_law_cell"], ["_law_script", "_law_k", "_law_often"], [], true, true, none⟩
def d48 : He.DefD := ⟨("_law_draw", none), "_law_draw", "_law_draw", defArgs (top 76), defBody (top 76), defScope (top 76), [], []⟩
def i48 : FI := ⟨d48, ["_law_pool", "_law_often", "_law_at"], ["_law_pool", "_law_often"], [], true, false, none⟩
def d49 : He.DefD := ⟨("_law_pick", none), "_law_pick", "_law_pick", defArgs (top 77), defBody (top 77), defScope (top 77), [], []⟩
def i49 : FI := ⟨d49, ["_law_pool", "_law_some"], ["_law_pool", "_law_some"], [], true, false, none⟩
def d50 : He.DefD := ⟨("_law_bits", none), "_law_bits", "_law_bits", defArgs (top 78), defBody (top 78), defScope (top 78), [], []⟩
def i50 : FI := ⟨d50, ["_law_pool", "_law_often", "_law_step", "_law_kind", "_law_gained"], ["_law_pool", "_law_often"], ["_law_gained"], true, false, none⟩
def d51 : He.DefD := ⟨("_law_game", none), "_law_game", "_law_game", defArgs (top 79), defBody (top 79), defScope (top 79), [], []⟩
def i51 : FI := ⟨d51, ["_law_pool", "_law_deepest", "_law_weight"], ["_law_pool", "_law_deepest"], [], true, false, none⟩
def d52 : He.DefD := ⟨("_law_model", none), "_law_model", "_law_model", defArgs (top 80), defBody (top 80), defScope (top 80), [], []⟩
def i52 : FI := ⟨d52, ["_law_game_here"], ["_law_game_here"], [], true, false, none⟩
def d53 : He.DefD := ⟨("_law_heard", none), "_law_heard", "_law_heard", defArgs (top 81), defBody (top 81), defScope (top 81), [], []⟩
def i53 : FI := ⟨d53, ["_law_way", "_law_model_here", "_law_past", "_law_one", "_law_width", "e"], ["_law_way", "_law_model_here", "_law_past", "_law_one", "_law_width"], [], true, false, none⟩
def d54 : He.DefD := ⟨("law", none), "law", "law", defArgs (top 82), defBody (top 82), defScope (top 82), [], []⟩
def i54 : FI := ⟨d54, ["_law_script", "_law_k", "_law_pool", "_law_game_here", "_law_odd", "_law_model_here", "_law_past", "_law_way"], ["_law_script"], [], true, false, none⟩
def x0 : EI := ⟨"BadModel", "part", "part", ⟨("BadModel", some "__init__"), "__init__", "BadModel.__init__", defArgs (inClass (top 3) 0), defBody (inClass (top 3) 0), defScope (inClass (top 3) 0), [], []⟩⟩
def x1 : EI := ⟨"BadBits", "value", "value", ⟨("BadBits", some "__init__"), "__init__", "BadBits.__init__", defArgs (inClass (top 4) 0), defBody (inClass (top 4) 0), defScope (inClass (top 4) 0), [], []⟩⟩
def x2 : EI := ⟨"BadPast", "value", "value", ⟨("BadPast", some "__init__"), "__init__", "BadPast.__init__", defArgs (inClass (top 5) 0), defBody (inClass (top 5) 0), defScope (inClass (top 5) 0), [], []⟩⟩
def x3 : EI := ⟨"BadBit", "value", "value", ⟨("BadBit", some "__init__"), "__init__", "BadBit.__init__", defArgs (inClass (top 6) 0), defBody (inClass (top 6) 0), defScope (inClass (top 6) 0), [], []⟩⟩
def x4 : EI := ⟨"BadFraction", "value", "value", ⟨("BadFraction", some "__init__"), "__init__", "BadFraction.__init__", defArgs (inClass (top 7) 0), defBody (inClass (top 7) 0), defScope (inClass (top 7) 0), [], []⟩⟩
def x5 : EI := ⟨"BadArgument", "value", "value", ⟨("BadArgument", some "__init__"), "__init__", "BadArgument.__init__", defArgs (inClass (top 8) 0), defBody (inClass (top 8) 0), defScope (inClass (top 8) 0), [], []⟩⟩
def x6 : EI := ⟨"BadNumber", "number", "number", ⟨("BadNumber", some "__init__"), "__init__", "BadNumber.__init__", defArgs (inClass (top 9) 0), defBody (inClass (top 9) 0), defScope (inClass (top 9) 0), [], []⟩⟩
def x7 : EI := ⟨"BadCode", "value", "value", ⟨("BadCode", some "__init__"), "__init__", "BadCode.__init__", defArgs (inClass (top 10) 0), defBody (inClass (top 10) 0), defScope (inClass (top 10) 0), [], []⟩⟩
def X : Tx where
  fis := [i0, i1, i2, i3, i4, i5, i6, i7, i8, i9, i10, i11, i12, i13, i14, i15, i16, i17, i18, i19, i20, i21, i22, i23, i24, i25, i26, i27, i28, i29, i30, i31, i32, i33, i34, i35, i36, i37, i38, i39, i40, i41, i42, i43, i44, i45, i46, i47, i48, i49, i50, i51, i52, i53, i54]
  cls := ["Model", "Span"]
  exs := [x0, x1, x2, x3, x4, x5, x6, x7]
  fld := ["depth", "kind", "share", "counts", "ends", "width", "low", "size", "shift", "part", "value", "number", "command", "line"]
  kons := [("NOUGHT", .ktup [.int 0, .int 1]), ("ONE", .ktup [.int 1, .int 1]), ("MOST_DEPTH", .int 4), ("MOST_BITS", .int 200), ("MOST_SHARE", .int 1000), ("KINDS", .ktup [.str "one", .str "half"]), ("LEAST_WIDTH", .int 8), ("MOST_WIDTH", .int 64)]
  base := "WeighError"
def B_is_count : List AM.St := [(.fz [] (.ret (.and_ (.isi (.peek 0) [.int]) (.and_ (.not_ (.isi (.peek 0) [.bool])) (.chain .le .le (.var 1) (.var 0) (.var 2))))))]
def B_is_integer : List AM.St := [(.fz [] (.ret (.and_ (.isi (.peek 0) [.int]) (.not_ (.isi (.peek 0) [.bool])))))]
def B_fraction : List AM.St := [(.par [(.name 2 false), (.name 3 false)] [(.bi .max [(.bi .int [(.var 0)]), (.bi .int [(.neg (.var 0))])]), (.var 1)]),
  (.whl (.cmp .ne (.var 3) (.con (.int 0))) [(.par [(.name 2 false), (.name 3 false)] [(.var 3), (.bop .mod (.var 2) (.var 3))])]),
  (.fz [] (.ret (.tup [(.bop .fdiv (.var 0) (.var 2)), (.bop .fdiv (.var 1) (.var 2))])))]
def B_is_fraction : List AM.St := [(.ife (.or_ (.not_ (.isi (.peek 0) [.tuple])) (.or_ (.cmp .ne (.bi .len [(.peek 0)]) (.con (.int 2))) (.not_ (.bi .all [(.lc [1] (.call 1 [(.var 1)]) (.name 1 false) (.seq (.var 0)) (.con (.bl true)))])))) [(.fz [] (.ret (.con (.bl false))))] []),
  (.fz [] (.ret (.and_ (.cmp .ge (.sub (.peek 0) (.con (.int 1))) (.con (.int 1))) (.cmp .eq (.call 2 [(.sub (.peek 0) (.con (.int 0))), (.sub (.peek 0) (.con (.int 1)))]) (.var 0)))))]
def B_over : List AM.St := [(.fz [] (.ret (.call 2 [(.bop .mul (.sub (.peek 0) (.con (.int 0))) (.sub (.peek 1) (.con (.int 1)))), (.bop .mul (.sub (.peek 0) (.con (.int 1))) (.sub (.peek 1) (.con (.int 0))))])))]
def B_is_less : List AM.St := [(.fz [] (.ret (.cmp .lt (.bop .mul (.sub (.peek 0) (.con (.int 0))) (.sub (.peek 1) (.con (.int 1)))) (.bop .mul (.sub (.peek 1) (.con (.int 0))) (.sub (.peek 0) (.con (.int 1)))))))]
def B_power : List AM.St := [(.asg (.name 2 false) (.con (.int 1))),
  (.for_ (.name 3 false) (.rng (.con (.int 0)) (.var 1)) [(.asg (.name 2 false) (.bop .mul (.var 2) (.var 0)))]),
  (.fz [] (.ret (.var 2)))]
def B_choices : List AM.St := [(.asg (.name 2 false) (.con (.int 1))),
  (.for_ (.name 3 false) (.rng (.con (.int 0)) (.var 1)) [(.asg (.name 2 false) (.bop .fdiv (.bop .mul (.var 2) (.bop .sub (.var 0) (.var 3))) (.bop .add (.var 3) (.con (.int 1)))))]),
  (.fz [] (.ret (.var 2)))]
def B_is_bit : List AM.St := [(.fz [] (.ret (.call 0 [(.var 0), (.con (.int 0)), (.con (.int 1))])))]
def B_are_bits : List AM.St := [(.fz [] (.ret (.and_ (.isi (.peek 0) [.tuple]) (.and_ (.chain .le .le (.var 1) (.bi .len [(.peek 0)]) (.var 2)) (.bi .all [(.lc [3] (.call 8 [(.var 3)]) (.name 3 false) (.seq (.var 0)) (.con (.bl true)))])))))]
def B_is_kind : List AM.St := [(.fz [] (.ret (.and_ (.isi (.peek 0) [.str]) (.cmp .in_ (.var 0) (.glo 5)))))]
def B_is_share : List AM.St := [(.ife (.or_ (.not_ (.call 3 [(.var 0)])) (.or_ (.not_ (.call 5 [(.glo 0), (.var 0)])) (.not_ (.call 5 [(.var 0), (.glo 1)])))) [(.fz [] (.ret (.con (.bl false))))] []),
  (.fz [] (.ret (.cmp .le (.sub (.peek 0) (.con (.int 1))) (.glo 4))))]
def B_check_past : List AM.St := [(.ife (.not_ (.call 9 [(.var 1), (.var 0), (.var 0)])) [(.raise 4 10 (.var 1))] [])]
def B_check_bits : List AM.St := [(.ife (.not_ (.call 9 [(.var 0), (.con (.int 0)), (.glo 3)])) [(.raise 3 10 (.var 0))] [])]
def B_check_bit : List AM.St := [(.ife (.not_ (.call 8 [(.var 0)])) [(.raise 5 10 (.var 0))] [])]
def B_rows_of : List AM.St := [(.asg (.name 1 false) (.lst [(.tup [])])),
  (.for_ (.name 2 false) (.rng (.con (.int 0)) (.var 0)) [.bad]),
  (.fz [] (.ret (.var 1)))]
def B_row_behind : List AM.St := [(.asg (.name 3 false) (.tup [(.star (.var 1)), (.star (.var 2))])),
  (.fz [] (.ret (.bi .tuple [(.rev (.slc (.peek 3) (.neg (.neg (.bop .sub (.bi .len [(.peek 3)]) (.var 0)))) (.con .non)))])))]
def B_Model___init__ : List AM.St := [(.ife (.not_ (.call 0 [(.var 1), (.con (.int 0)), (.glo 2)])) [(.raise 2 9 (.con (.str (Str.ofString "depth"))))] []),
  (.ife (.not_ (.call 10 [(.var 2)])) [(.raise 2 9 (.con (.str (Str.ofString "kind"))))] []),
  (.ife (.not_ (.call 11 [(.var 3)])) [(.raise 2 9 (.con (.str (Str.ofString "share"))))] []),
  (.asg (.attr (.peek 0) 0) (.var 1)),
  (.asg (.attr (.peek 0) 1) (.var 2)),
  (.asg (.attr (.peek 0) 2) (.var 3))]
def B_check_model : List AM.St := [(.ife (.not_ (.isi (.peek 0) [(.cls 0)])) [(.raise 7 10 (.var 0))] [])]
def B_estimate_of : List AM.St := [(.asg (.name 3 false) (.bop .add (.var 1) (.var 2))),
  (.ife (.cmp .eq (.var 0) (.con (.str (Str.ofString "one")))) [(.fz [] (.ret (.tup [(.con (.int 1)), (.bop .mul (.bop .add (.var 3) (.con (.int 1))) (.call 7 [(.var 3), (.var 1)]))])))] []),
  (.fz [] (.ret (.tup [(.bop .mul (.call 7 [(.bop .mul (.con (.int 2)) (.var 1)), (.var 1)]) (.call 7 [(.bop .mul (.con (.int 2)) (.var 2)), (.var 2)])), (.bop .mul (.call 6 [(.con (.int 4)), (.var 3)]) (.call 7 [(.var 3), (.var 1)]))])))]
def B_raw_mix : List AM.St := [(.asg (.tup [(.name 4 false), (.name 5 false)]) (.call 19 [(.attr (.peek 0) 1), (.sub (.sub (.peek 1) (.var 2)) (.con (.int 0))), (.sub (.sub (.peek 1) (.var 2)) (.con (.int 1)))])),
  (.ife (.cmp .eq (.bi .len [(.peek 2)]) (.attr (.peek 0) 0)) [(.fz [] (.ret (.tup [(.var 4), (.var 5)])))] []),
  (.par [(.name 6 false), (.name 7 false)] [(.call 20 [(.var 0), (.var 1), (.tup [(.star (.var 2)), (.con (.int 0))])]), (.call 20 [(.var 0), (.var 1), (.tup [(.star (.var 2)), (.con (.int 1))])])]),
  (.asg (.tup [(.name 8 false), (.name 9 false)]) (.attr (.peek 0) 2)),
  (.asg (.name 3 false) (.tup [(.bop .mul (.sub (.peek 6) (.con (.int 0))) (.sub (.peek 7) (.con (.int 0)))), (.bop .mul (.sub (.peek 6) (.con (.int 1))) (.sub (.peek 7) (.con (.int 1))))])),
  (.fz [] (.ret (.tup [(.bop .add (.bop .mul (.bop .mul (.var 8) (.var 4)) (.sub (.peek 3) (.con (.int 1)))) (.bop .mul (.bop .mul (.bop .sub (.var 9) (.var 8)) (.sub (.peek 3) (.con (.int 0)))) (.var 5))), (.bop .mul (.bop .mul (.var 9) (.var 5)) (.sub (.peek 3) (.con (.int 1))))])))]
def B_with_bit_at : List AM.St := [(.asg (.name 3 true) .bad),
  (.for_ (.name 4 false) (.rng (.con (.int 0)) (.bop .add (.bi .len [(.peek 1)]) (.con (.int 1)))) [(.asg (.tup [(.name 5 false), (.name 6 false)]) (.sub (.peek 3) (.slc (.peek 1) (.con .non) (.neg (.neg (.var 4)))))),
  (.asg (.sub (.peek 3) (.slc (.peek 1) (.con .non) (.neg (.neg (.var 4))))) (.ite (.cmp .eq (.var 2) (.con (.int 1))) (.tup [(.var 5), (.bop .add (.var 6) (.con (.int 1)))]) (.tup [(.bop .add (.var 5) (.con (.int 1))), (.var 6)])))]),
  (.fz [3] (.ret (.var 3)))]
def B_mix_of_counts : List AM.St := [(.asg (.tup [(.name 2 false), (.name 3 false)]) (.call 20 [(.var 0), (.var 1), (.tup [])])),
  (.fz [] (.ret (.call 2 [(.var 2), (.var 3)])))]
def B_next_by_counts : List AM.St := [(.par [(.name 4 false), (.name 5 false)] [(.call 20 [(.var 0), (.call 21 [(.var 1), (.var 2), (.var 3)]), (.tup [])]), (.call 20 [(.var 0), (.var 1), (.tup [])])]),
  (.fz [] (.ret (.call 2 [(.bop .mul (.sub (.peek 4) (.con (.int 0))) (.sub (.peek 5) (.con (.int 1)))), (.bop .mul (.sub (.peek 4) (.con (.int 1))) (.sub (.peek 5) (.con (.int 0))))])))]
def B_no_counts : List AM.St := [(.fz [] (.ret .bad))]
def B_check_coded : List AM.St := [(.expr (.call 18 [(.var 0)])),
  (.expr (.call 12 [(.attr (.peek 0) 0), (.var 1)])),
  (.expr (.call 13 [(.var 2)]))]
def B_bits_of : List AM.St := [(.asg (.name 2 true) (.lst [])),
  (.for_ (.name 3 false) (.rng (.con (.int 0)) (.var 1)) [(.app (.peek 2) (.bop .mod (.var 0) (.con (.int 2)))),
  (.asg (.name 0 false) (.bop .fdiv (.var 0) (.con (.int 2))))]),
  (.fz [2] (.ret (.bi .tuple [(.rev (.peek 2))])))]
def B_word_of : List AM.St := [(.asg (.name 2 false) (.con (.int 1))),
  (.whl (.cmp .lt (.bop .mul (.sub (.peek 1) (.con (.int 0))) (.call 6 [(.con (.int 2)), (.bop .sub (.var 2) (.con (.int 1)))])) (.sub (.peek 1) (.con (.int 1)))) [(.aug 2 .add (.con (.int 1)))]),
  (.asg (.name 3 false) (.bop .fdiv (.bop .sub (.bop .add (.bop .mul (.sub (.peek 0) (.con (.int 0))) (.call 6 [(.con (.int 2)), (.var 2)])) (.sub (.peek 0) (.con (.int 1)))) (.con (.int 1))) (.sub (.peek 0) (.con (.int 1))))),
  (.fz [] (.ret (.call 26 [(.var 3), (.var 2)])))]
def B_value_of : List AM.St := [(.asg (.name 1 false) (.con (.int 0))),
  (.for_ (.name 2 false) (.seq (.var 0)) [(.asg (.name 1 false) (.bop .add (.bop .mul (.con (.int 2)) (.var 1)) (.var 2)))]),
  (.fz [] (.ret (.tup [(.var 1), (.call 6 [(.con (.int 2)), (.bi .len [(.peek 0)])])])))]
def B_is_below : List AM.St := [(.fz [] (.ret (.call 5 [(.var 0), (.var 1)])))]
def B_check_read : List AM.St := [(.expr (.call 18 [(.var 0)])),
  (.expr (.call 12 [(.attr (.peek 0) 0), (.var 1)])),
  (.ife (.not_ (.call 0 [(.var 2), (.con (.int 0)), (.glo 3)])) [(.raise 8 11 (.var 2))] [])]
def B_is_bits : List AM.St := [(.fz [] (.ret (.and_ (.isi (.peek 0) [.tuple]) (.call 9 [(.var 0), (.con (.int 0)), (.bi .len [(.peek 0)])]))))]
def B_check_width : List AM.St := [(.ife (.not_ (.call 0 [(.var 0), (.glo 6), (.glo 7)])) [(.raise 8 11 (.var 0))] [])]
def B_check_between : List AM.St := [(.ife (.or_ (.not_ (.call 3 [(.var 0)])) (.or_ (.not_ (.call 5 [(.glo 0), (.var 0)])) (.not_ (.call 5 [(.var 0), (.glo 1)])))) [(.raise 6 10 (.var 0))] [])]
def B_Span___init__ : List AM.St := [(.expr (.call 32 [(.var 1)])),
  (.asg (.attr (.peek 0) 5) (.var 1)),
  (.asg (.attr (.peek 0) 6) (.con (.int 0))),
  (.asg (.attr (.peek 0) 7) (.call 6 [(.con (.int 2)), (.bop .sub (.var 1) (.con (.int 1)))])),
  (.asg (.attr (.peek 0) 8) (.bop .sub (.var 1) (.con (.int 1))))]
def B_word_of_span : List AM.St := [(.asg (.name 1 false) (.call 6 [(.con (.int 2)), (.attr (.peek 0) 8)])),
  (.fz [] (.ret (.call 27 [(.tup [(.attr (.peek 0) 6), (.var 1)]), (.tup [(.attr (.peek 0) 7), (.var 1)])])))]
def B_span_of : List AM.St := [(.par [(.name 4 false), (.name 5 false)] [(.mk 1 [(.var 3)]), (.call 24 [(.var 0)])]),
  (.for_ (.tup [(.name 6 false), (.name 7 false)]) (.seq .bad) [(.asg (.name 8 false) (.call 16 [(.attr (.peek 0) 0), (.var 1), (.slc (.peek 2) (.con .non) (.neg (.neg (.var 6))))])),
  (.asg (.name 4 false) .bad),
  (.asg (.name 5 false) (.call 21 [(.var 5), (.var 8), (.var 7)]))]),
  (.fz [] (.ret (.var 4)))]
def B_text_span : List AM.St := [(.expr (.call 25 [(.var 0), (.var 1), (.var 2)])),
  (.expr (.call 32 [(.var 3)])),
  (.fz [] (.ret (.call 36 [(.var 0), (.var 1), (.var 2), (.var 3)])))]
def B_bounded_code : List AM.St := [(.fz [] (.ret (.call 35 [(.call 37 [(.var 0), (.var 1), (.var 2), (.var 3)])])))]
def B_bounded_text : List AM.St := [.bad,
  (.for_ (.name 5 false) (.rng (.con (.int 0)) (.var 2)) [(.asg (.name 9 false) (.call 16 [(.attr (.peek 0) 0), (.var 1), (.var 8)])),
  (.asg (.name 10 false) (.call 23 [(.var 0), (.var 7), (.var 9), (.con (.int 0))])),
  (.asg (.name 11 false) (.tup [(.bop .add (.attr (.peek 6) 6) .bad), (.call 6 [(.con (.int 2)), (.attr (.peek 6) 8)])])),
  (.asg (.name 12 false) (.ite (.call 29 [(.var 3), (.var 11)]) (.con (.int 0)) (.con (.int 1)))),
  (.par [(.name 6 false), (.name 7 false)] [.bad, (.call 21 [(.var 7), (.var 9), (.var 12)])]),
  (.asg (.name 8 false) (.tup [(.star (.var 8)), (.var 12)]))]),
  (.fz [] (.ret (.var 8)))]
def B_is_bounded_code : List AM.St := [(.expr (.call 30 [(.var 0), (.var 1), (.var 2)])),
  (.expr (.call 32 [(.var 4)])),
  (.ife (.or_ (.not_ (.call 31 [(.var 3)])) (.cmp .eq (.bi .len [(.peek 3)]) (.con (.int 0)))) [(.fz [] (.ret (.con (.bl false))))] []),
  (.asg (.name 5 false) (.call 39 [(.var 0), (.var 1), (.var 2), (.call 28 [(.var 3)]), (.var 4)])),
  (.fz [] (.ret (.cmp .eq (.call 35 [(.call 36 [(.var 0), (.var 1), (.var 5), (.var 4)])]) (.var 3))))]
def B_read_bounded : List AM.St := [(.ife (.not_ (.call 40 [(.var 0), (.var 1), (.var 2), (.var 3), (.var 4)])) [(.raise 9 10 (.var 3))] []),
  (.fz [] (.ret (.call 39 [(.var 0), (.var 1), (.var 2), (.call 28 [(.var 3)]), (.var 4)])))]
def B_powers_below : List AM.St := [(.asg (.name 1 false) (.con (.int 0))),
  (.for_ (.name 2 false) (.seq (.var 0)) [(.whl (.cmp .lt (.bop .mul (.sub (.peek 2) (.con (.int 0))) (.call 6 [(.con (.int 2)), (.var 1)])) (.sub (.peek 2) (.con (.int 1)))) [(.aug 1 .add (.con (.int 1)))])]),
  (.fz [] (.ret (.var 1)))]
def B_loss_by : List AM.St := [(.ife (.cmp .ge (.var 1) (.bop .sub (.var 2) (.con (.int 1)))) [(.fz [] (.ret (.con .non)))] []),
  (.asg (.name 3 false) (.call 2 [(.var 0), (.call 6 [(.con (.int 2)), (.bop .sub (.bop .sub (.var 2) (.con (.int 1))) (.var 1))])])),
  (.fz [] (.ret (.ite (.call 5 [(.var 3), (.glo 1)]) (.var 3) (.con .non))))]
def B_loss : List AM.St := [(.expr (.call 25 [(.var 0), (.var 1), (.var 2)])),
  (.expr (.call 32 [(.var 3)])),
  (.fz [] (.ret (.call 43 [(.bi .len [(.peek 2)]), (.call 42 [(.bi .list [.bad])]), (.var 3)])))]
def B_width_for : List AM.St := [(.expr (.call 25 [(.var 0), (.var 1), (.var 2)])),
  (.ife (.or_ (.not_ (.call 3 [(.var 3)])) (.cmp .lt (.sub (.peek 3) (.con (.int 0))) (.con (.int 0)))) [(.raise 6 10 (.var 3))] []),
  (.asg (.name 4 false) (.call 42 [(.bi .list [.bad])])),
  (.for_ (.name 5 false) (.rng (.glo 6) (.bop .add (.glo 7) (.con (.int 1)))) [(.asg (.name 6 false) (.call 43 [(.bi .len [(.peek 2)]), (.var 4), (.var 5)])),
  (.ife (.and_ (.cmp .isnot (.var 6) (.con .non)) (.not_ (.call 5 [(.var 3), (.var 6)]))) [(.fz [] (.ret (.var 5)))] [])]),
  (.fz [] (.ret (.con .non)))]
def B__law_numbers : List AM.St := [(.asg (.name 3 false) (.bi .max [(.bi .int [(.var 0)]), (.bi .int [(.bop .sub (.neg (.con (.int 1))) (.var 0))])])),
  (.asg (.name 4 false) (.var 3)),
  (.asg (.name 5 true) (.lst [])),
  (.for_ (.name 6 false) (.rng (.con (.int 0)) (.var 2)) [(.ife (.and_ (.cmp .ge (.var 3) (.bop .pow (.con (.int 10)) (.con (.int 18)))) (.cmp .gt (.var 4) (.con (.int 0)))) [(.app (.peek 5) (.bop .mod (.bi .int [(.var 4)]) (.con (.int 840)))),
  (.asg (.name 4 false) (.bop .fdiv (.var 4) (.con (.int 840))))] [(.asg (.name 7 false) (.bop .mod (.bi .int [(.bop .pow (.bop .add (.bop .add (.bop .mod (.bi .int [(.var 3)]) (.con (.int 2147483629))) (.bop .mul (.con (.int 7717)) (.var 1))) (.con (.int 3))) (.con (.int 3)))]) (.con (.int 2147483647)))),
  (.asg (.name 7 false) (.bop .mod (.bi .int [(.bop .mul (.bop .add (.var 7) (.bop .mul (.con (.int 99991)) (.bop .add (.var 6) (.con (.int 1))))) (.bop .add (.var 6) (.con (.int 5))))]) (.con (.int 2147483629)))),
  (.asg (.name 7 false) (.bop .mod (.bi .int [(.bop .mul (.bop .mod (.bi .int [(.bop .pow (.var 7) (.con (.int 5)))]) (.con (.int 2147483647))) (.con (.int 48271)))]) (.con (.int 2147483629)))),
  (.app (.peek 5) (.bop .mod (.bi .int [(.bop .fdiv (.var 7) (.con (.int 16)))]) (.con (.int 840))))])]),
  (.fz [5] (.ret (.var 5)))]
def B__law_opened : List AM.St := [(.asg (.name 3 false) (.ite (.cmp .ne (.var 0) (.lst [])) (.sub (.peek 0) (.var 1)) (.con (.int 5)))),
  (.fz [] (.ret (.lstR [(.call 46 [(.var 3), (.var 1), (.var 2)]), (.con (.int 0))])))]
def B__law_draw : List AM.St := [(.asg (.name 2 false) (.sub (.peek 0) (.con (.int 1)))),
  (.asg (.sub (.peek 0) (.con (.int 1))) (.bop .add (.var 2) (.con (.int 1)))),
  (.fz [] (.ret (.ite (.cmp .lt (.var 2) (.bi .len [(.sub (.peek 0) (.con (.int 0)))])) (.bop .mod (.bi .int [(.sub (.sub (.peek 0) (.con (.int 0))) (.var 2))]) (.var 1)) (.con (.int 0)))))]
def B__law_pick : List AM.St := [(.fz [] (.ret (.sub (.peek 1) (.call 48 [(.var 0), (.bi .len [(.peek 1)])]))))]
def B__law_bits : List AM.St := [(.par [(.name 3 false), (.name 4 true)] [(.call 48 [(.var 0), (.con (.int 4))]), (.lst [])]),
  (.for_ (.name 2 false) (.rng (.con (.int 0)) (.var 1)) [(.app (.peek 4) (.sub (.lst [(.call 48 [(.var 0), (.con (.int 2))]), (.bi .int [(.cmp .eq (.call 48 [(.var 0), (.con (.int 6))]) (.con (.int 0)))]), (.bop .mod (.var 2) (.con (.int 2))), (.bi .int [(.cmp .gt (.call 48 [(.var 0), (.con (.int 9))]) (.con (.int 0)))])]) (.var 3)))]),
  (.fz [4] (.ret (.bi .tuple [(.var 4)])))]
def B__law_game : List AM.St := [(.asg (.name 2 false) (.call 49 [(.var 0), (.lst [(.tup [(.con (.int 1)), (.con (.int 2))]), (.tup [(.con (.int 1)), (.con (.int 2))]), (.tup [(.con (.int 1)), (.con (.int 3))]), (.tup [(.con (.int 3)), (.con (.int 4))]), (.tup [(.con (.int 1)), (.con (.int 1000))]), (.tup [(.con (.int 999)), (.con (.int 1000))]), (.tup [(.con (.int 2)), (.con (.int 7))])])])),
  (.fz [] (.ret (.dsp [(.con (.str (Str.ofString "depth"))), (.call 48 [(.var 0), (.bop .add (.var 1) (.con (.int 1)))]), (.con (.str (Str.ofString "kind"))), (.call 49 [(.var 0), (.lst [(.con (.str (Str.ofString "one"))), (.con (.str (Str.ofString "half")))])]), (.con (.str (Str.ofString "share"))), (.var 2)])))]
def B__law_model : List AM.St := [(.fz [] (.ret (.mk 0 [(.sub (.peek 0) (.con (.str (Str.ofString "depth")))), (.sub (.peek 0) (.con (.str (Str.ofString "kind")))), (.sub (.peek 0) (.con (.str (Str.ofString "share"))))])))]
def B__law_heard : List AM.St := [(.try_ [(.ife (.cmp .eq (.var 0) (.con (.int 0))) [(.expr (.call 37 [(.var 1), (.var 2), (.var 3), (.var 4)]))] [(.ife (.cmp .eq (.var 0) (.con (.int 1))) [(.expr (.call 38 [(.var 1), (.var 2), (.var 3), (.var 4)]))] [(.ife (.cmp .eq (.var 0) (.con (.int 2))) [(.expr (.call 44 [(.var 1), (.var 2), (.var 3), (.var 4)]))] [(.ife (.cmp .eq (.var 0) (.con (.int 3))) [(.expr (.call 45 [(.var 1), (.var 2), (.var 3), (.var 4)]))] [(.ife (.cmp .eq (.var 0) (.con (.int 4))) [(.expr (.call 41 [(.var 1), (.var 2), (.var 3), (.con .non), (.var 4)]))] [(.expr (.call 40 [(.var 1), (.var 2), (.var 3), (.con .non), (.var 4)]))])])])])])] [(4, 5, [(.fz [] (.ret (.lst [(.con (.str (Str.ofString "past"))), (.bi .repr [(.attr (.peek 5) 10)])])))]), (3, 5, [(.fz [] (.ret (.lst [(.con (.str (Str.ofString "bits"))), (.bi .repr [(.attr (.peek 5) 10)])])))]), (8, 5, [(.fz [] (.ret (.lst [(.con (.str (Str.ofString "number"))), (.bi .repr [(.attr (.peek 5) 11)])])))]), (6, 5, [(.fz [] (.ret (.lst [(.con (.str (Str.ofString "fraction"))), (.bi .repr [(.attr (.peek 5) 10)])])))]), (9, 5, [(.fz [] (.ret (.lst [(.con (.str (Str.ofString "code"))), (.bi .repr [(.attr (.peek 5) 10)])])))]), (7, 5, [(.fz [] (.ret (.lst [(.con (.str (Str.ofString "argument"))), (.bi .repr [(.attr (.peek 5) 10)])])))])]),
  (.fz [] (.ret (.lst [(.con (.str (Str.ofString "none")))])))]
def B_law : List AM.St := [(.for_ (.name 1 false) (.rng (.con (.int 0)) (.bi .max [(.con (.int 1)), (.bi .min [(.bi .len [(.peek 0)]), (.con (.int 5))])])) [(.asg (.name 2 false) (.call 47 [(.var 0), (.var 1), (.con (.int 60))])),
  (.asg (.name 3 false) (.call 51 [(.var 2), (.con (.int 4))])),
  (.asg (.tup [(.name 5 false), (.name 6 false)]) (.tup [(.call 52 [(.var 3)]), (.call 50 [(.var 2), (.sub (.peek 3) (.con (.str (Str.ofString "depth"))))])])),
  (.for_ (.name 4 false) (.seq (.lst [(.con .non), (.con (.str (Str.ofString "model"))), (.var 6), (.con (.int 3))])) [(.ife (.cmp .ne (.lc [7] (.call 53 [(.var 7), (.var 4), (.con .non), (.con .non), (.con .non)]) (.name 7 false) (.rng (.con (.int 0)) (.con (.int 6))) (.con (.bl true))) (.bop .mul (.lst [(.lst [(.con (.str (Str.ofString "argument"))), (.bi .repr [(.var 4)])])]) (.con (.int 6)))) [(.fz [] (.ret (.con (.bl false))))] [])]),
  (.for_ (.name 4 false) (.seq (.lst [(.con .non), (.bi .list [(.var 6)]), (.bop .add (.var 6) (.tup [(.con (.int 0))])), (.con (.str (Str.ofString "0"))), (.bop .mul (.tup [(.con (.int 2))]) (.bop .add (.sub (.peek 3) (.con (.str (Str.ofString "depth")))) (.con (.int 1))))])) [(.ife (.cmp .ne (.lc [7] (.call 53 [(.var 7), (.var 5), (.var 4), (.con .non), (.con .non)]) (.name 7 false) (.rng (.con (.int 0)) (.con (.int 6))) (.con (.bl true))) (.bop .mul (.lst [(.lst [(.con (.str (Str.ofString "past"))), (.bi .repr [(.var 4)])])]) (.con (.int 6)))) [(.fz [] (.ret (.con (.bl false))))] [])]),
  (.for_ (.name 4 false) (.seq (.lst [(.con .non), (.lst [(.con (.int 0))]), (.tup [(.con (.int 2))]), (.tup [(.con (.bl true))]), (.con (.str (Str.ofString "01"))), (.bop .mul (.tup [(.con (.int 0))]) (.con (.int 201))), (.con (.int 5))])) [(.ife (.cmp .ne (.lc [7] (.call 53 [(.var 7), (.var 5), (.var 6), (.var 4), (.con .non)]) (.name 7 false) (.rng (.con (.int 0)) (.con (.int 4))) (.con (.bl true))) (.bop .mul (.lst [(.lst [(.con (.str (Str.ofString "bits"))), (.bi .repr [(.var 4)])])]) (.con (.int 4)))) [(.fz [] (.ret (.con (.bl false))))] [])]),
  (.for_ (.name 4 false) (.seq (.lst [(.con .non), (.neg (.con (.int 1))), (.con (.int 201)), (.con (.bl true)), (.con (.str (Str.ofString "3"))), (.tup [(.con (.int 0))])])) [(.ife (.cmp .ne (.lc [7] (.call 53 [(.var 7), (.var 5), (.var 6), (.var 4), (.con (.int 8))]) (.name 7 false) (.seq (.lst [(.con (.int 4)), (.con (.int 5))])) (.con (.bl true))) (.bop .mul (.lst [(.lst [(.con (.str (Str.ofString "number"))), (.bi .repr [(.var 4)])])]) (.con (.int 2)))) [(.fz [] (.ret (.con (.bl false))))] [])]),
  (.for_ (.name 4 false) (.seq (.lst [(.con .non), (.con (.int 7)), (.con (.int 65)), (.con (.bl true)), (.con (.str (Str.ofString "8"))), (.tup [(.con (.int 8))])])) [(.ife (.cmp .ne (.lc [7] (.call 53 [(.var 7), (.var 5), (.var 6), (.tup [(.con (.int 0)), (.con (.int 1))]), (.var 4)]) (.name 7 false) (.seq (.lst [(.con (.int 0)), (.con (.int 1)), (.con (.int 2))])) (.con (.bl true))) (.bop .mul (.lst [(.lst [(.con (.str (Str.ofString "number"))), (.bi .repr [(.var 4)])])]) (.con (.int 3)))) [(.fz [] (.ret (.con (.bl false))))] []),
  (.ife (.cmp .ne (.call 53 [(.con (.int 5)), (.var 5), (.var 6), (.con (.int 3)), (.var 4)]) (.lst [(.con (.str (Str.ofString "number"))), (.bi .repr [(.var 4)])])) [(.fz [] (.ret (.con (.bl false))))] [])]),
  (.for_ (.name 4 false) (.seq (.lst [(.con .non), (.tup [(.neg (.con (.int 1))), (.con (.int 2))]), (.tup [(.con (.int 2)), (.con (.int 4))]), (.con (.int 1)), (.con (.str (Str.ofString "0"))), (.lst [(.con (.int 0)), (.con (.int 1))]), (.tup [(.con (.int 0)), (.con (.int 0))]), (.tup [(.con (.bl true)), (.con (.int 1))]), (.tup [(.con (.int 1)), (.con (.int 2)), (.con (.int 3))])])) [(.ife (.cmp .ne (.call 53 [(.con (.int 3)), (.var 5), (.var 6), (.tup [(.con (.int 0)), (.con (.int 1))]), (.var 4)]) (.lst [(.con (.str (Str.ofString "fraction"))), (.bi .repr [(.var 4)])])) [(.fz [] (.ret (.con (.bl false))))] [])]),
  (.ife (.or_ (.cmp .ne (.call 53 [(.con (.int 4)), (.var 5), (.var 6), (.con (.int 3)), (.con (.int 8))]) (.lst [(.con (.str (Str.ofString "code"))), (.con (.str (Str.ofString "None")))])) (.cmp .ne (.call 53 [(.con (.int 5)), (.var 5), (.var 6), (.con (.int 3)), (.con (.int 8))]) (.lst [(.con (.str (Str.ofString "none")))]))) [(.fz [] (.ret (.con (.bl false))))] [])]),
  (.fz [] (.ret (.con (.bl true))))]
def Pr : Prg where
  fns := [⟨3, 3, B_is_count⟩, ⟨1, 1, B_is_integer⟩, ⟨2, 4, B_fraction⟩, ⟨1, 2, B_is_fraction⟩, ⟨2, 2, B_over⟩, ⟨2, 2, B_is_less⟩, ⟨2, 4, B_power⟩, ⟨2, 4, B_choices⟩, ⟨1, 1, B_is_bit⟩, ⟨3, 4, B_are_bits⟩, ⟨1, 1, B_is_kind⟩, ⟨1, 1, B_is_share⟩, ⟨2, 2, B_check_past⟩, ⟨1, 1, B_check_bits⟩, ⟨1, 1, B_check_bit⟩, ⟨1, 5, B_rows_of⟩, ⟨3, 4, B_row_behind⟩, ⟨4, 4, B_Model___init__⟩, ⟨1, 1, B_check_model⟩, ⟨3, 4, B_estimate_of⟩, ⟨3, 10, B_raw_mix⟩, ⟨3, 7, B_with_bit_at⟩, ⟨2, 4, B_mix_of_counts⟩, ⟨4, 6, B_next_by_counts⟩, ⟨1, 2, B_no_counts⟩, ⟨3, 3, B_check_coded⟩, ⟨2, 4, B_bits_of⟩, ⟨2, 4, B_word_of⟩, ⟨1, 3, B_value_of⟩, ⟨2, 2, B_is_below⟩, ⟨3, 3, B_check_read⟩, ⟨1, 1, B_is_bits⟩, ⟨1, 1, B_check_width⟩, ⟨1, 1, B_check_between⟩, ⟨2, 2, B_Span___init__⟩, ⟨1, 2, B_word_of_span⟩, ⟨4, 9, B_span_of⟩, ⟨4, 4, B_text_span⟩, ⟨4, 4, B_bounded_code⟩, ⟨5, 13, B_bounded_text⟩, ⟨5, 6, B_is_bounded_code⟩, ⟨5, 5, B_read_bounded⟩, ⟨1, 3, B_powers_below⟩, ⟨3, 4, B_loss_by⟩, ⟨4, 4, B_loss⟩, ⟨4, 7, B_width_for⟩, ⟨3, 8, B__law_numbers⟩, ⟨3, 4, B__law_opened⟩, ⟨2, 3, B__law_draw⟩, ⟨2, 2, B__law_pick⟩, ⟨2, 5, B__law_bits⟩, ⟨2, 3, B__law_game⟩, ⟨1, 1, B__law_model⟩, ⟨5, 6, B__law_heard⟩, ⟨1, 8, B_law⟩]
  cls := [⟨false, 17, [], []⟩, ⟨false, 34, [], []⟩]
  cons := [.ktup [.int 0, .int 1], .ktup [.int 1, .int 1], .int 4, .int 200, .int 1000, .ktup [.str "one", .str "half"], .int 8, .int 64]
  nex := 10
theorem u_is_count (k : Nat) (a0 a1 a2 : AV) (h : AH) : calA Pr (k + 1) 0 [a0, a1, a2] h = calEnd (exL Pr (calA Pr k) (iniA Pr k) B_is_count [.val a0, .val a1, .val a2] h) := rfl
theorem u_is_integer (k : Nat) (a0 : AV) (h : AH) : calA Pr (k + 1) 1 [a0] h = calEnd (exL Pr (calA Pr k) (iniA Pr k) B_is_integer [.val a0] h) := rfl
theorem u_fraction (k : Nat) (a0 a1 : AV) (h : AH) : calA Pr (k + 1) 2 [a0, a1] h = calEnd (exL Pr (calA Pr k) (iniA Pr k) B_fraction [.val a0, .val a1, .emp, .emp] h) := rfl
theorem u_is_fraction (k : Nat) (a0 : AV) (h : AH) : calA Pr (k + 1) 3 [a0] h = calEnd (exL Pr (calA Pr k) (iniA Pr k) B_is_fraction [.val a0, .emp] h) := rfl
theorem u_over (k : Nat) (a0 a1 : AV) (h : AH) : calA Pr (k + 1) 4 [a0, a1] h = calEnd (exL Pr (calA Pr k) (iniA Pr k) B_over [.val a0, .val a1] h) := rfl
theorem u_is_less (k : Nat) (a0 a1 : AV) (h : AH) : calA Pr (k + 1) 5 [a0, a1] h = calEnd (exL Pr (calA Pr k) (iniA Pr k) B_is_less [.val a0, .val a1] h) := rfl
theorem u_power (k : Nat) (a0 a1 : AV) (h : AH) : calA Pr (k + 1) 6 [a0, a1] h = calEnd (exL Pr (calA Pr k) (iniA Pr k) B_power [.val a0, .val a1, .emp, .emp] h) := rfl
theorem u_choices (k : Nat) (a0 a1 : AV) (h : AH) : calA Pr (k + 1) 7 [a0, a1] h = calEnd (exL Pr (calA Pr k) (iniA Pr k) B_choices [.val a0, .val a1, .emp, .emp] h) := rfl
theorem u_is_bit (k : Nat) (a0 : AV) (h : AH) : calA Pr (k + 1) 8 [a0] h = calEnd (exL Pr (calA Pr k) (iniA Pr k) B_is_bit [.val a0] h) := rfl
theorem u_are_bits (k : Nat) (a0 a1 a2 : AV) (h : AH) : calA Pr (k + 1) 9 [a0, a1, a2] h = calEnd (exL Pr (calA Pr k) (iniA Pr k) B_are_bits [.val a0, .val a1, .val a2, .emp] h) := rfl
theorem u_is_kind (k : Nat) (a0 : AV) (h : AH) : calA Pr (k + 1) 10 [a0] h = calEnd (exL Pr (calA Pr k) (iniA Pr k) B_is_kind [.val a0] h) := rfl
theorem u_is_share (k : Nat) (a0 : AV) (h : AH) : calA Pr (k + 1) 11 [a0] h = calEnd (exL Pr (calA Pr k) (iniA Pr k) B_is_share [.val a0] h) := rfl
theorem u_check_past (k : Nat) (a0 a1 : AV) (h : AH) : calA Pr (k + 1) 12 [a0, a1] h = calEnd (exL Pr (calA Pr k) (iniA Pr k) B_check_past [.val a0, .val a1] h) := rfl
theorem u_check_bits (k : Nat) (a0 : AV) (h : AH) : calA Pr (k + 1) 13 [a0] h = calEnd (exL Pr (calA Pr k) (iniA Pr k) B_check_bits [.val a0] h) := rfl
theorem u_check_bit (k : Nat) (a0 : AV) (h : AH) : calA Pr (k + 1) 14 [a0] h = calEnd (exL Pr (calA Pr k) (iniA Pr k) B_check_bit [.val a0] h) := rfl
theorem u_rows_of (k : Nat) (a0 : AV) (h : AH) : calA Pr (k + 1) 15 [a0] h = calEnd (exL Pr (calA Pr k) (iniA Pr k) B_rows_of [.val a0, .emp, .emp, .emp, .emp] h) := rfl
theorem u_row_behind (k : Nat) (a0 a1 a2 : AV) (h : AH) : calA Pr (k + 1) 16 [a0, a1, a2] h = calEnd (exL Pr (calA Pr k) (iniA Pr k) B_row_behind [.val a0, .val a1, .val a2, .emp] h) := rfl
theorem u_Model___init__ (k : Nat) (a1 a2 a3 : AV) (h : AH) : iniA Pr (k + 1) 0 17 [a1, a2, a3] h = iniEnd (exL Pr (calA Pr k) (iniA Pr k) B_Model___init__ [.own (.obj 0 []), .val a1, .val a2, .val a3] h) := rfl
theorem u_check_model (k : Nat) (a0 : AV) (h : AH) : calA Pr (k + 1) 18 [a0] h = calEnd (exL Pr (calA Pr k) (iniA Pr k) B_check_model [.val a0] h) := rfl
theorem u_estimate_of (k : Nat) (a0 a1 a2 : AV) (h : AH) : calA Pr (k + 1) 19 [a0, a1, a2] h = calEnd (exL Pr (calA Pr k) (iniA Pr k) B_estimate_of [.val a0, .val a1, .val a2, .emp] h) := rfl
theorem u_raw_mix (k : Nat) (a0 a1 a2 : AV) (h : AH) : calA Pr (k + 1) 20 [a0, a1, a2] h = calEnd (exL Pr (calA Pr k) (iniA Pr k) B_raw_mix [.val a0, .val a1, .val a2, .emp, .emp, .emp, .emp, .emp, .emp, .emp] h) := rfl
theorem u_with_bit_at (k : Nat) (a0 a1 a2 : AV) (h : AH) : calA Pr (k + 1) 21 [a0, a1, a2] h = calEnd (exL Pr (calA Pr k) (iniA Pr k) B_with_bit_at [.val a0, .val a1, .val a2, .emp, .emp, .emp, .emp] h) := rfl
theorem u_mix_of_counts (k : Nat) (a0 a1 : AV) (h : AH) : calA Pr (k + 1) 22 [a0, a1] h = calEnd (exL Pr (calA Pr k) (iniA Pr k) B_mix_of_counts [.val a0, .val a1, .emp, .emp] h) := rfl
theorem u_next_by_counts (k : Nat) (a0 a1 a2 a3 : AV) (h : AH) : calA Pr (k + 1) 23 [a0, a1, a2, a3] h = calEnd (exL Pr (calA Pr k) (iniA Pr k) B_next_by_counts [.val a0, .val a1, .val a2, .val a3, .emp, .emp] h) := rfl
theorem u_no_counts (k : Nat) (a0 : AV) (h : AH) : calA Pr (k + 1) 24 [a0] h = calEnd (exL Pr (calA Pr k) (iniA Pr k) B_no_counts [.val a0, .emp] h) := rfl
theorem u_check_coded (k : Nat) (a0 a1 a2 : AV) (h : AH) : calA Pr (k + 1) 25 [a0, a1, a2] h = calEnd (exL Pr (calA Pr k) (iniA Pr k) B_check_coded [.val a0, .val a1, .val a2] h) := rfl
theorem u_bits_of (k : Nat) (a0 a1 : AV) (h : AH) : calA Pr (k + 1) 26 [a0, a1] h = calEnd (exL Pr (calA Pr k) (iniA Pr k) B_bits_of [.val a0, .val a1, .emp, .emp] h) := rfl
theorem u_word_of (k : Nat) (a0 a1 : AV) (h : AH) : calA Pr (k + 1) 27 [a0, a1] h = calEnd (exL Pr (calA Pr k) (iniA Pr k) B_word_of [.val a0, .val a1, .emp, .emp] h) := rfl
theorem u_value_of (k : Nat) (a0 : AV) (h : AH) : calA Pr (k + 1) 28 [a0] h = calEnd (exL Pr (calA Pr k) (iniA Pr k) B_value_of [.val a0, .emp, .emp] h) := rfl
theorem u_is_below (k : Nat) (a0 a1 : AV) (h : AH) : calA Pr (k + 1) 29 [a0, a1] h = calEnd (exL Pr (calA Pr k) (iniA Pr k) B_is_below [.val a0, .val a1] h) := rfl
theorem u_check_read (k : Nat) (a0 a1 a2 : AV) (h : AH) : calA Pr (k + 1) 30 [a0, a1, a2] h = calEnd (exL Pr (calA Pr k) (iniA Pr k) B_check_read [.val a0, .val a1, .val a2] h) := rfl
theorem u_is_bits (k : Nat) (a0 : AV) (h : AH) : calA Pr (k + 1) 31 [a0] h = calEnd (exL Pr (calA Pr k) (iniA Pr k) B_is_bits [.val a0] h) := rfl
theorem u_check_width (k : Nat) (a0 : AV) (h : AH) : calA Pr (k + 1) 32 [a0] h = calEnd (exL Pr (calA Pr k) (iniA Pr k) B_check_width [.val a0] h) := rfl
theorem u_check_between (k : Nat) (a0 : AV) (h : AH) : calA Pr (k + 1) 33 [a0] h = calEnd (exL Pr (calA Pr k) (iniA Pr k) B_check_between [.val a0] h) := rfl
theorem u_Span___init__ (k : Nat) (a1 : AV) (h : AH) : iniA Pr (k + 1) 1 34 [a1] h = iniEnd (exL Pr (calA Pr k) (iniA Pr k) B_Span___init__ [.own (.obj 1 []), .val a1] h) := rfl
theorem u_word_of_span (k : Nat) (a0 : AV) (h : AH) : calA Pr (k + 1) 35 [a0] h = calEnd (exL Pr (calA Pr k) (iniA Pr k) B_word_of_span [.val a0, .emp] h) := rfl
theorem u_span_of (k : Nat) (a0 a1 a2 a3 : AV) (h : AH) : calA Pr (k + 1) 36 [a0, a1, a2, a3] h = calEnd (exL Pr (calA Pr k) (iniA Pr k) B_span_of [.val a0, .val a1, .val a2, .val a3, .emp, .emp, .emp, .emp, .emp] h) := rfl
theorem u_text_span (k : Nat) (a0 a1 a2 a3 : AV) (h : AH) : calA Pr (k + 1) 37 [a0, a1, a2, a3] h = calEnd (exL Pr (calA Pr k) (iniA Pr k) B_text_span [.val a0, .val a1, .val a2, .val a3] h) := rfl
theorem u_bounded_code (k : Nat) (a0 a1 a2 a3 : AV) (h : AH) : calA Pr (k + 1) 38 [a0, a1, a2, a3] h = calEnd (exL Pr (calA Pr k) (iniA Pr k) B_bounded_code [.val a0, .val a1, .val a2, .val a3] h) := rfl
theorem u_bounded_text (k : Nat) (a0 a1 a2 a3 a4 : AV) (h : AH) : calA Pr (k + 1) 39 [a0, a1, a2, a3, a4] h = calEnd (exL Pr (calA Pr k) (iniA Pr k) B_bounded_text [.val a0, .val a1, .val a2, .val a3, .val a4, .emp, .emp, .emp, .emp, .emp, .emp, .emp, .emp] h) := rfl
theorem u_is_bounded_code (k : Nat) (a0 a1 a2 a3 a4 : AV) (h : AH) : calA Pr (k + 1) 40 [a0, a1, a2, a3, a4] h = calEnd (exL Pr (calA Pr k) (iniA Pr k) B_is_bounded_code [.val a0, .val a1, .val a2, .val a3, .val a4, .emp] h) := rfl
theorem u_read_bounded (k : Nat) (a0 a1 a2 a3 a4 : AV) (h : AH) : calA Pr (k + 1) 41 [a0, a1, a2, a3, a4] h = calEnd (exL Pr (calA Pr k) (iniA Pr k) B_read_bounded [.val a0, .val a1, .val a2, .val a3, .val a4] h) := rfl
theorem u_powers_below (k : Nat) (a0 : AV) (h : AH) : calA Pr (k + 1) 42 [a0] h = calEnd (exL Pr (calA Pr k) (iniA Pr k) B_powers_below [.val a0, .emp, .emp] h) := rfl
theorem u_loss_by (k : Nat) (a0 a1 a2 : AV) (h : AH) : calA Pr (k + 1) 43 [a0, a1, a2] h = calEnd (exL Pr (calA Pr k) (iniA Pr k) B_loss_by [.val a0, .val a1, .val a2, .emp] h) := rfl
theorem u_loss (k : Nat) (a0 a1 a2 a3 : AV) (h : AH) : calA Pr (k + 1) 44 [a0, a1, a2, a3] h = calEnd (exL Pr (calA Pr k) (iniA Pr k) B_loss [.val a0, .val a1, .val a2, .val a3] h) := rfl
theorem u_width_for (k : Nat) (a0 a1 a2 a3 : AV) (h : AH) : calA Pr (k + 1) 45 [a0, a1, a2, a3] h = calEnd (exL Pr (calA Pr k) (iniA Pr k) B_width_for [.val a0, .val a1, .val a2, .val a3, .emp, .emp, .emp] h) := rfl
theorem u__law_numbers (k : Nat) (a0 a1 a2 : AV) (h : AH) : calA Pr (k + 1) 46 [a0, a1, a2] h = calEnd (exL Pr (calA Pr k) (iniA Pr k) B__law_numbers [.val a0, .val a1, .val a2, .emp, .emp, .emp, .emp, .emp] h) := rfl
theorem u__law_opened (k : Nat) (a0 a1 a2 : AV) (h : AH) : calA Pr (k + 1) 47 [a0, a1, a2] h = calEnd (exL Pr (calA Pr k) (iniA Pr k) B__law_opened [.val a0, .val a1, .val a2, .emp] h) := rfl
theorem u__law_draw (k : Nat) (a0 a1 : AV) (h : AH) : calA Pr (k + 1) 48 [a0, a1] h = calEnd (exL Pr (calA Pr k) (iniA Pr k) B__law_draw [.val a0, .val a1, .emp] h) := rfl
theorem u__law_pick (k : Nat) (a0 a1 : AV) (h : AH) : calA Pr (k + 1) 49 [a0, a1] h = calEnd (exL Pr (calA Pr k) (iniA Pr k) B__law_pick [.val a0, .val a1] h) := rfl
theorem u__law_bits (k : Nat) (a0 a1 : AV) (h : AH) : calA Pr (k + 1) 50 [a0, a1] h = calEnd (exL Pr (calA Pr k) (iniA Pr k) B__law_bits [.val a0, .val a1, .emp, .emp, .emp] h) := rfl
theorem u__law_game (k : Nat) (a0 a1 : AV) (h : AH) : calA Pr (k + 1) 51 [a0, a1] h = calEnd (exL Pr (calA Pr k) (iniA Pr k) B__law_game [.val a0, .val a1, .emp] h) := rfl
theorem u__law_model (k : Nat) (a0 : AV) (h : AH) : calA Pr (k + 1) 52 [a0] h = calEnd (exL Pr (calA Pr k) (iniA Pr k) B__law_model [.val a0] h) := rfl
theorem u__law_heard (k : Nat) (a0 a1 a2 a3 a4 : AV) (h : AH) : calA Pr (k + 1) 53 [a0, a1, a2, a3, a4] h = calEnd (exL Pr (calA Pr k) (iniA Pr k) B__law_heard [.val a0, .val a1, .val a2, .val a3, .val a4, .emp] h) := rfl
theorem u_law (k : Nat) (a0 : AV) (h : AH) : calA Pr (k + 1) 54 [a0] h = calEnd (exL Pr (calA Pr k) (iniA Pr k) B_law [.val a0, .emp, .emp, .emp, .emp, .emp, .emp, .emp] h) := rfl
end LawT
set_option maxHeartbeats 0
namespace LawT
open PySem PySem.Spec PyProof.Rows L2 AM
theorem sta : X.sta Pr = true := by decide +kernel
theorem bare : X.bare = true := by decide +kernel
theorem b0 : BindOk i0 := fun _ _ _ _ _ _ us hl => match us, hl with | [_, _, _], _ => rfl
theorem b1 : BindOk i1 := fun _ _ _ _ _ _ us hl => match us, hl with | [_], _ => rfl
theorem b2 : BindOk i2 := fun _ _ _ _ _ _ us hl => match us, hl with | [_, _], _ => rfl
theorem b3 : BindOk i3 := fun _ _ _ _ _ _ us hl => match us, hl with | [_], _ => rfl
theorem b4 : BindOk i4 := fun _ _ _ _ _ _ us hl => match us, hl with | [_, _], _ => rfl
theorem b5 : BindOk i5 := fun _ _ _ _ _ _ us hl => match us, hl with | [_, _], _ => rfl
theorem b6 : BindOk i6 := fun _ _ _ _ _ _ us hl => match us, hl with | [_, _], _ => rfl
theorem b7 : BindOk i7 := fun _ _ _ _ _ _ us hl => match us, hl with | [_, _], _ => rfl
theorem b8 : BindOk i8 := fun _ _ _ _ _ _ us hl => match us, hl with | [_], _ => rfl
theorem b9 : BindOk i9 := fun _ _ _ _ _ _ us hl => match us, hl with | [_, _, _], _ => rfl
theorem b10 : BindOk i10 := fun _ _ _ _ _ _ us hl => match us, hl with | [_], _ => rfl
theorem b11 : BindOk i11 := fun _ _ _ _ _ _ us hl => match us, hl with | [_], _ => rfl
theorem b12 : BindOk i12 := fun _ _ _ _ _ _ us hl => match us, hl with | [_, _], _ => rfl
theorem b13 : BindOk i13 := fun _ _ _ _ _ _ us hl => match us, hl with | [_], _ => rfl
theorem b14 : BindOk i14 := fun _ _ _ _ _ _ us hl => match us, hl with | [_], _ => rfl
theorem b15 : BindOk i15 := fun _ _ _ _ _ _ us hl => match us, hl with | [_], _ => rfl
theorem b16 : BindOk i16 := fun _ _ _ _ _ _ us hl => match us, hl with | [_, _, _], _ => rfl
theorem b17 : BindOk i17 := fun _ _ _ _ _ _ us hl => match us, hl with | [_, _, _, _], _ => rfl
theorem b18 : BindOk i18 := fun _ _ _ _ _ _ us hl => match us, hl with | [_], _ => rfl
theorem b19 : BindOk i19 := fun _ _ _ _ _ _ us hl => match us, hl with | [_, _, _], _ => rfl
theorem b20 : BindOk i20 := fun _ _ _ _ _ _ us hl => match us, hl with | [_, _, _], _ => rfl
theorem b21 : BindOk i21 := fun _ _ _ _ _ _ us hl => match us, hl with | [_, _, _], _ => rfl
theorem b22 : BindOk i22 := fun _ _ _ _ _ _ us hl => match us, hl with | [_, _], _ => rfl
theorem b23 : BindOk i23 := fun _ _ _ _ _ _ us hl => match us, hl with | [_, _, _, _], _ => rfl
theorem b24 : BindOk i24 := fun _ _ _ _ _ _ us hl => match us, hl with | [_], _ => rfl
theorem b25 : BindOk i25 := fun _ _ _ _ _ _ us hl => match us, hl with | [_, _, _], _ => rfl
theorem b26 : BindOk i26 := fun _ _ _ _ _ _ us hl => match us, hl with | [_, _], _ => rfl
theorem b27 : BindOk i27 := fun _ _ _ _ _ _ us hl => match us, hl with | [_, _], _ => rfl
theorem b28 : BindOk i28 := fun _ _ _ _ _ _ us hl => match us, hl with | [_], _ => rfl
theorem b29 : BindOk i29 := fun _ _ _ _ _ _ us hl => match us, hl with | [_, _], _ => rfl
theorem b30 : BindOk i30 := fun _ _ _ _ _ _ us hl => match us, hl with | [_, _, _], _ => rfl
theorem b31 : BindOk i31 := fun _ _ _ _ _ _ us hl => match us, hl with | [_], _ => rfl
theorem b32 : BindOk i32 := fun _ _ _ _ _ _ us hl => match us, hl with | [_], _ => rfl
theorem b33 : BindOk i33 := fun _ _ _ _ _ _ us hl => match us, hl with | [_], _ => rfl
theorem b34 : BindOk i34 := fun _ _ _ _ _ _ us hl => match us, hl with | [_, _], _ => rfl
theorem b35 : BindOk i35 := fun _ _ _ _ _ _ us hl => match us, hl with | [_], _ => rfl
theorem b36 : BindOk i36 := fun _ _ _ _ _ _ us hl => match us, hl with | [_, _, _, _], _ => rfl
theorem b37 : BindOk i37 := fun _ _ _ _ _ _ us hl => match us, hl with | [_, _, _, _], _ => rfl
theorem b38 : BindOk i38 := fun _ _ _ _ _ _ us hl => match us, hl with | [_, _, _, _], _ => rfl
theorem b39 : BindOk i39 := fun _ _ _ _ _ _ us hl => match us, hl with | [_, _, _, _, _], _ => rfl
theorem b40 : BindOk i40 := fun _ _ _ _ _ _ us hl => match us, hl with | [_, _, _, _, _], _ => rfl
theorem b41 : BindOk i41 := fun _ _ _ _ _ _ us hl => match us, hl with | [_, _, _, _, _], _ => rfl
theorem b42 : BindOk i42 := fun _ _ _ _ _ _ us hl => match us, hl with | [_], _ => rfl
theorem b43 : BindOk i43 := fun _ _ _ _ _ _ us hl => match us, hl with | [_, _, _], _ => rfl
theorem b44 : BindOk i44 := fun _ _ _ _ _ _ us hl => match us, hl with | [_, _, _, _], _ => rfl
theorem b45 : BindOk i45 := fun _ _ _ _ _ _ us hl => match us, hl with | [_, _, _, _], _ => rfl
theorem b46 : BindOk i46 := fun _ _ _ _ _ _ us hl => match us, hl with | [_, _, _], _ => rfl
theorem b47 : BindOk i47 := fun _ _ _ _ _ _ us hl => match us, hl with | [_, _, _], _ => rfl
theorem b48 : BindOk i48 := fun _ _ _ _ _ _ us hl => match us, hl with | [_, _], _ => rfl
theorem b49 : BindOk i49 := fun _ _ _ _ _ _ us hl => match us, hl with | [_, _], _ => rfl
theorem b50 : BindOk i50 := fun _ _ _ _ _ _ us hl => match us, hl with | [_, _], _ => rfl
theorem b51 : BindOk i51 := fun _ _ _ _ _ _ us hl => match us, hl with | [_, _], _ => rfl
theorem b52 : BindOk i52 := fun _ _ _ _ _ _ us hl => match us, hl with | [_], _ => rfl
theorem b53 : BindOk i53 := fun _ _ _ _ _ _ us hl => match us, hl with | [_, _, _, _, _], _ => rfl
theorem b54 : BindOk i54 := fun _ _ _ _ _ _ us hl => match us, hl with | [_], _ => rfl
theorem e0 : BindOkE x0 := fun _ _ _ _ _ _ us hl => match us, hl with | [_, _], _ => rfl
theorem e1 : BindOkE x1 := fun _ _ _ _ _ _ us hl => match us, hl with | [_, _], _ => rfl
theorem e2 : BindOkE x2 := fun _ _ _ _ _ _ us hl => match us, hl with | [_, _], _ => rfl
theorem e3 : BindOkE x3 := fun _ _ _ _ _ _ us hl => match us, hl with | [_, _], _ => rfl
theorem e4 : BindOkE x4 := fun _ _ _ _ _ _ us hl => match us, hl with | [_, _], _ => rfl
theorem e5 : BindOkE x5 := fun _ _ _ _ _ _ us hl => match us, hl with | [_, _], _ => rfl
theorem e6 : BindOkE x6 := fun _ _ _ _ _ _ us hl => match us, hl with | [_, _], _ => rfl
theorem e7 : BindOkE x7 := fun _ _ _ _ _ _ us hl => match us, hl with | [_, _], _ => rfl
theorem bd : AM.AllP BindOk X.fis := ⟨b0, b1, b2, b3, b4, b5, b6, b7, b8, b9, b10, b11, b12, b13, b14, b15, b16, b17, b18, b19, b20, b21, b22, b23, b24, b25, b26, b27, b28, b29, b30, b31, b32, b33, b34, b35, b36, b37, b38, b39, b40, b41, b42, b43, b44, b45, b46, b47, b48, b49, b50, b51, b52, b53, b54, True.intro⟩
theorem be : AM.AllP BindOkE X.exs := ⟨e0, e1, e2, e3, e4, e5, e6, e7, True.intro⟩
theorem fnsE : Pr.fns = X.fis.map fun d => (⟨d.ps.length, d.N.length, compSs (X.tab d.tk d.rf) d.N d.ow true d.d.scope d.d.body⟩ : FD) := by kernel_rfl
theorem fns (j : Nat) (d : FI) (h : X.fis[j]? = some d) : Pr.fns[j]? = some (⟨d.ps.length, d.N.length, compSs (X.tab d.tk d.rf) d.N d.ow true d.d.scope d.d.body⟩ : FD) := by
  rw [fnsE, List.getElem?_map, h]
  rfl
def loose0 : List Str := ["_wall", "WeighError", "BadModel", "BadBits", "BadPast", "BadBit", "BadFraction", "BadArgument", "BadNumber", "BadCode", "NOUGHT", "ONE", "is_count", "is_integer", "fraction", "is_fraction", "over", "is_less", "power", "choices"]
def loose1 : List Str := ["MOST_DEPTH", "MOST_BITS", "MOST_SHARE", "KINDS", "is_bit", "are_bits", "is_kind", "is_share", "check_past", "check_bits", "check_bit", "rows_of", "row_behind", "Model", "check_model", "estimate_of", "raw_mix", "with_bit_at", "mix_of_counts", "next_by_counts"]
def loose2 : List Str := ["shares_along", "no_counts", "check_coded", "bits_of", "word_of", "value_of", "is_below", "check_read", "is_bits", "LEAST_WIDTH", "MOST_WIDTH", "check_width", "check_between", "Span", "word_of_span", "span_of", "text_span", "bounded_code", "bounded_text", "is_bounded_code"]
def loose3 : List Str := ["read_bounded", "powers_below", "loss_by", "loss", "width_for", "_law_numbers", "_law_opened", "_law_draw", "_law_pick", "_law_bits", "_law_game", "_law_model", "_law_heard"]
def loose : List Str := loose0 ++ loose1 ++ loose2 ++ loose3
abbrev RowL : PySem.W.OpenRow := PySem.W.OpenLaw.row PySem.Challenge.rw_weighedtrees_k68_bounded_refused
theorem run (w : World) : HandSHeadRun.RunEq RowL (PySem.W.view RowL.prog [82]) (hookA X.chk X.defs) (fun s => obsA X.chk X.defs (HandSHeadRun.getT s)) 7000 loose w := by
  intro os
  kernel_rfl
end LawT
set_option maxHeartbeats 0
namespace LawT
open PySem AM
/-! ### loops -/
theorem forL_inv {f : AV → Fr → AH → Out} (I : Nat → Fr → AH → Prop) : ∀ (xs : List AV) (n : Nat) {σ : Fr} {h : AH}, I n σ h → (∀ i x σ h, xs[i]? = some x → I (n + i) σ h → ∃ σ' h', f x σ h = .nx σ' h' ∧ I (n + i + 1) σ' h') → ∃ σ' h', forL f xs σ h = .nx σ' h' ∧ I (n + xs.length) σ' h'
  | [], n, σ, h, h0, _ => ⟨σ, h, rfl, h0⟩
  | x :: xs, n, σ, h, h0, st => by
    obtain ⟨σ1, h1, e, i1⟩ := st 0 x σ h rfl h0
    obtain ⟨σ2, h2, e2, i2⟩ := forL_inv I xs (n + 1) i1 fun i y σ h hy hi => by
      have := st (i + 1) y σ h hy (by rw [show n + (i + 1) = n + 1 + i by omega]; exact hi)
      rw [show n + (i + 1) + 1 = n + 1 + i + 1 by omega] at this
      exact this
    refine ⟨σ2, h2, ?_, by rw [show n + (x :: xs).length = n + 1 + xs.length by simp; omega]; exact i2⟩
    show (match f x σ h with
      | .nx σ h => forL f xs σ h
      | .ct σ h => forL f xs σ h
      | .bk σ h => .nx σ h
      | o => o) = _
    rw [e]
    exact e2
theorem rngL_at {a : Int} {n i : Nat} {x : AV} (h : (rngL a n)[i]? = some x) : x = .int (a + i) ∧ i < n := by
  unfold rngL at h
  rw [List.getElem?_map] at h
  obtain ⟨j, hj, rfl⟩ := Option.map_eq_some_iff.mp h
  obtain ⟨h1, h2⟩ := List.getElem?_eq_some_iff.mp hj
  rw [List.getElem_range] at h2
  rw [List.length_range] at h1
  exact ⟨by rw [h2], h1⟩
theorem rngL_len {a : Int} {n : Nat} : (rngL a n).length = n := by
  unfold rngL
  rw [List.length_map, List.length_range]
/-! ### numbers -/
theorem divOk_of {i j : Int} (h1 : 0 < j) (h2 : j < 2 ^ 64) : divOk i j = true := by
  unfold divOk
  rw [Bool.and_eq_true]
  refine ⟨decide_eq_true h1, ?_⟩
  rw [Bool.not_eq_true']
  unfold PySem.Builtin.divisionGoesByPylong
  have hj : j.natAbs < 2 ^ 64 := by omega
  have h0 : j.natAbs ≠ 0 := by omega
  have hl : j.natAbs.log2 < 64 := (Nat.log2_lt h0).mpr hj
  have : (if (j == 0) = true then 0 else j.natAbs.log2 / 30 + 1) ≤ 300 := by
    split <;> omega
  simp only [Bool.and_eq_false_iff]
  left
  simp only [decide_eq_false_iff_not]
  show ¬ (300 < if (j == 0) = true then 0 else j.natAbs.log2 / 30 + 1)
  omega
theorem log2_small {n : Nat} (h : n < 2 ^ 1000) : n.log2 < 1000 := by
  by_cases h0 : n = 0
  · subst h0
    rw [Nat.log2_zero]
    omega
  · exact (Nat.log2_lt h0).mpr h
theorem mulOk_of {i j : Int} (h1 : i.natAbs < 2 ^ 1000) (h2 : j.natAbs < 2 ^ 1000) : mulOk i j = true := by
  unfold mulOk
  have := log2_small h1
  have := log2_small h2
  rw [decide_eq_true_eq]
  omega
theorem powOk_of {i j : Int} (h1 : 0 ≤ j) (h2 : j ≤ 1000) (h3 : i.natAbs < 2 ^ 64) : powOk i j = true := by
  unfold powOk
  simp only [Bool.and_eq_true, decide_eq_true_eq]
  exact ⟨h1, h2, h3⟩

end LawT
set_option maxHeartbeats 0
namespace LawT
open PySem AM
theorem numbers (k : Nat) (c salt : Int) (hs : 0 ≤ salt ∧ salt ≤ 1000) (n : Nat) (hn : n ≤ 1000) (h : AH) : ∃ ns : List Int, ns.length = n ∧ (∀ x ∈ ns, 0 ≤ x ∧ x < 840) ∧ calA Pr (k + 1) 46 [.int c, .int salt, .int n] h = .ok (.lst (ns.map .int)) h := by
  rw [u__law_numbers]
  unfold B__law_numbers
  have z0 : szOk 0 = true := by decide
  have s1 : smallI 0 = true := by decide
  have s2 : smallI (n : Int) = true := by unfold smallI; rw [decide_eq_true_eq]; omega
  simp only [w_ok, w_err, w_stk, o_ok, o_err, o_stk, t_nx, t_bk, t_ct, t_rt, t_er, t_stk, opt_s, opt_n, c_ok, c_stk, ce_nx, ce_rt, ce_er, ie_nx, ie_er, v_con, slV_v, slP_v, slP_o, v_var, v_peek, v_glo, v_bop, v_neg, neg_i, v_cmp, v_chain, v_and, v_or, v_not, v_ite, v_tup, v_lst, v_lstR, v_dsp, v_dnew, v_sub, v_slc, v_rev, ak_n, ak_s, v_attr, v_call, v_mk, v_bi, v_isi, v_get, v_lc, l_nil, l_star, l_cons, d_nil, d_cons, i_rng, i_enu, i_seq, s_fz', s_exp', s_asg', s_par', s_aug', s_app', s_ret', s_retN', s_ife', s_whl', s_for', s_brk', s_cnt', s_pass', s_raise', s_try', x_nil, x_cons, st_name, st_sub, st_attr, st_tup, sts_nil, sts_cons, stp_nil, stp_cons, fl_nil, fl_cons, fk_nx, fk_ct, fk_bk, fk_rt, fk_er, tv_nx, tv_rt, tv_er, p_addi, p_adds, p_addt, p_addl, p_sub, p_muli, p_mull, p_mult, p_fdv, p_mod, p_pow, p_aadd, p_asub, q_lt, q_le, q_gt, q_ge, q_eq, q_ne, q_is, q_isn, q_in, q_nin, a_bl, r_l, r_t, m_l, m_t, sb_t, sb_l, sb_k, sb_s, sb_d, df_int, df_str, df_tup, df_lst, df_ktup, df_dct, df_obj, df_scr, df_bl, df_non, df_ref, bi_len_l, bi_len_t, bi_len_k, bi_len_s, bi_len_x, bi_len_d, bi_int_i, bi_int_b, bi_str, bi_max, bi_min, bi_all, bi_sum, bi_tup_l, bi_tup_t, bi_lst_l, bi_lst_t, bi_dict, pt_lst, pt_dct, pt_obj, pt_f, pt_m, rg_i, sa_t, sa_l, gv_d, ob_o, bt_n, bt_t, bts_n, bts_c, fg_c, at_o, ty_non, ty_bl, ty_int, ty_str, ty_tup, ty_lst, ty_ktup, ty_dct, ty_scr, ty_obj, tys_n, tys_c, ik_bl, ik_int, ik_str, ik_tup, ik_lst, ik_ktup, ik_dct, ik_scr, ik_non, ik_obj, lc_nil, lc_cons, wp_n, wp_c, oi_n, oi_i, sl_t, sl_l, ns_var, ns_peek, ns_con, ns_glo, ns_bop, ns_neg, ns_cmp, ns_chain, ns_and, ns_or, ns_not, ns_ite, ns_tup, ns_lst, ns_lstR, ns_dsp, ns_dnew, ns_sub, ns_slc, ns_rev, ns_attr, ns_prop, ns_call, ns_mk, ns_meth, ns_bi, ns_isi, ns_get, ns_lc, ns_lc2, ns_dc, ns_rng, ns_enu, ns_seq, ex_var, ex_con, ex_glo, ex_bop, ex_neg, ex_cmp, ex_chain, ex_and, ex_or, ex_not, ex_ite, ex_tup, ex_lst, ex_lstR, ex_dsp, ex_dnew, ex_sub, ex_slc, ex_rev, ex_attr, ex_prop, ex_call, ex_mk, ex_meth, ex_bi, ex_isi, ex_get, ex_lc, ex_lc2, ex_dc, ex_rng, ex_enu, ex_seq, ex_peek, es_e, es_v, es_o, fz_s, fz_o, fz_v, fz_e, pl_p, ps_o, ps_c, pu_s, pu_c, pus_o, puc_s, pur_s, pur_c, il_s, il_c, ils_o, ilc_l, sp_l, ss_l, ss_d, sf_o, ft_n, lt_n, isf_var, isf_peek, isf_con, isf_glo, isf_bop, isf_neg, isf_cmp, isf_chain, isf_and, isf_or, isf_not, isf_ite, isf_tup, isf_lst, isf_lstR, isf_dsp, isf_dnew, isf_sub, isf_slc, isf_rev, isf_attr, isf_prop, isf_call, isf_mk, isf_meth, isf_isi, isf_get, isf_lc, isf_lc2, isf_dc, isf_rng, isf_enu, isf_seq, isf_bi_len, isf_bi_int, isf_bi_str, isf_bi_max, isf_bi_min, isf_bi_all, isf_bi_sum, isf_bi_tuple, isf_bi_list, isf_bi_dict, isf_bi_repr, isf_bi_sorted, xh_nil, xh_cons, hk_nx, hk_bk, hk_ct, hk_rt, hn_n, ne_nil, ne_val, ne_own, ne_emp, ax_c, ax_f, List.foldl_cons, List.foldl_nil, List.getElem?_cons_zero, List.getElem?_cons_succ, List.set_cons_zero, List.set_cons_succ, if_true, if_false, ite_true, ite_false, reduceIte, reduceCtorEq, List.length_cons, List.length_nil, List.map_cons, List.map_nil, List.zip_cons_cons, List.zip_nil_left, Option.map_some, Option.map_none, Option.getD_some, Option.getD_none, Option.bind_some, and_true, true_and, and_self, Bool.not_true, Bool.not_false, Bool.or_true, Bool.or_false, Bool.true_or, Bool.false_or, Bool.and_true, Bool.true_and, Bool.and_false, Bool.false_and, decide_true, decide_false, Bool.false_eq_true, z0, s1, s2, Int.sub_zero, Int.toNat_natCast]
  generalize hw : (if -1 - c > c then -1 - c else c) = whole
  have w0 : 0 ≤ whole := by rw [← hw]; split <;> omega
  generalize hF : forT Pr _ _ _ _ = F
  obtain ⟨σ', h', e, rfl, left, ns, s6, s7, rfl, len, rg⟩ := forL_inv (f := F)
    (fun i σ h' => h' = h ∧ ∃ (left : Int) (ns : List Int) (s6 s7 : Sl), σ = [.val (.int c), .val (.int salt), .val (.int n), .val (.int whole), .val (.int left), .own (.lst (ns.map .int)), s6, s7] ∧ ns.length = i ∧ ∀ x ∈ ns, 0 ≤ x ∧ x < 840) (rngL 0 n) 0 (σ := [.val (.int c), .val (.int salt), .val (.int n), .val (.int whole), .val (.int whole), .own (.lst []), .emp, .emp]) (h := h)
    ⟨rfl, whole, [], .emp, .emp, rfl, rfl, fun _ z => nomatch z⟩ (by
      rintro i x σ h' hx ⟨rfl, left, ns, s6, s7, rfl, len, rg⟩
      obtain ⟨rfl, hi⟩ := rngL_at hx
      have sz : szOk ns.length = true := by
        unfold szOk
        rw [decide_eq_true_eq]
        omega
      have p18 : powOk 10 18 = true := by decide
      have d1 : divOk left 840 = true := divOk_of (by omega) (by omega)
      have m1 : mulOk 7717 salt = true := mulOk_of (by omega) (by omega)
      generalize hi1 : (0 : Int) + (i : Int) = i1
      have i1b : 0 ≤ i1 ∧ i1 ≤ 1000 := by omega
      have m2 : mulOk 99991 (i1 + 1) = true := mulOk_of (by omega) (by omega)
      generalize ha : whole % 2147483629 + 7717 * salt + 3 = a
      have ab : 0 ≤ a ∧ a < 2 ^ 32 := by omega
      have p1 : powOk a 3 = true := powOk_of (by omega) (by omega) (by omega)
      generalize hb : a ^ (3 : Int).toNat % 2147483647 = b
      have bb : 0 ≤ b ∧ b < 2 ^ 32 := by omega
      have m3 : mulOk (b + 99991 * (i1 + 1)) (i1 + 5) = true := mulOk_of (by omega) (by omega)
      generalize hc : (b + 99991 * (i1 + 1)) * (i1 + 5) % 2147483629 = d
      have db : 0 ≤ d ∧ d < 2 ^ 32 := by omega
      have p2 : powOk d 5 = true := powOk_of (by omega) (by omega) (by omega)
      generalize he : d ^ (5 : Int).toNat % 2147483647 = e
      have eb : 0 ≤ e ∧ e < 2 ^ 32 := by omega
      have m4 : mulOk e 48271 = true := mulOk_of (by omega) (by omega)
      generalize hg : e * 48271 % 2147483629 = f
      have fb : 0 ≤ f ∧ f < 2 ^ 32 := by omega
      have d2 : divOk f 16 = true := divOk_of (by omega) (by omega)
      have k1 : (decide ((0 : Int) < 840)) = true := by decide
      have k2 : (decide ((0 : Int) < 2147483629)) = true := by decide
      have k3 : (decide ((0 : Int) < 2147483647)) = true := by decide
      rw [← hF, ft_n]
      by_cases c1 : (10 : Int) ^ (18 : Int).toNat ≤ whole
      · by_cases c2 : 0 < left
        · simp only [w_ok, w_err, w_stk, o_ok, o_err, o_stk, t_nx, t_bk, t_ct, t_rt, t_er, t_stk, opt_s, opt_n, c_ok, c_stk, ce_nx, ce_rt, ce_er, ie_nx, ie_er, v_con, slV_v, slP_v, slP_o, v_var, v_peek, v_glo, v_bop, v_neg, neg_i, v_cmp, v_chain, v_and, v_or, v_not, v_ite, v_tup, v_lst, v_lstR, v_dsp, v_dnew, v_sub, v_slc, v_rev, ak_n, ak_s, v_attr, v_call, v_mk, v_bi, v_isi, v_get, v_lc, l_nil, l_star, l_cons, d_nil, d_cons, i_rng, i_enu, i_seq, s_fz', s_exp', s_asg', s_par', s_aug', s_app', s_ret', s_retN', s_ife', s_whl', s_for', s_brk', s_cnt', s_pass', s_raise', s_try', x_nil, x_cons, st_name, st_sub, st_attr, st_tup, sts_nil, sts_cons, stp_nil, stp_cons, fl_nil, fl_cons, fk_nx, fk_ct, fk_bk, fk_rt, fk_er, tv_nx, tv_rt, tv_er, p_addi, p_adds, p_addt, p_addl, p_sub, p_muli, p_mull, p_mult, p_fdv, p_mod, p_pow, p_aadd, p_asub, q_lt, q_le, q_gt, q_ge, q_eq, q_ne, q_is, q_isn, q_in, q_nin, a_bl, r_l, r_t, m_l, m_t, sb_t, sb_l, sb_k, sb_s, sb_d, df_int, df_str, df_tup, df_lst, df_ktup, df_dct, df_obj, df_scr, df_bl, df_non, df_ref, bi_len_l, bi_len_t, bi_len_k, bi_len_s, bi_len_x, bi_len_d, bi_int_i, bi_int_b, bi_str, bi_max, bi_min, bi_all, bi_sum, bi_tup_l, bi_tup_t, bi_lst_l, bi_lst_t, bi_dict, pt_lst, pt_dct, pt_obj, pt_f, pt_m, rg_i, sa_t, sa_l, gv_d, ob_o, bt_n, bt_t, bts_n, bts_c, fg_c, at_o, ty_non, ty_bl, ty_int, ty_str, ty_tup, ty_lst, ty_ktup, ty_dct, ty_scr, ty_obj, tys_n, tys_c, ik_bl, ik_int, ik_str, ik_tup, ik_lst, ik_ktup, ik_dct, ik_scr, ik_non, ik_obj, lc_nil, lc_cons, wp_n, wp_c, oi_n, oi_i, sl_t, sl_l, ns_var, ns_peek, ns_con, ns_glo, ns_bop, ns_neg, ns_cmp, ns_chain, ns_and, ns_or, ns_not, ns_ite, ns_tup, ns_lst, ns_lstR, ns_dsp, ns_dnew, ns_sub, ns_slc, ns_rev, ns_attr, ns_prop, ns_call, ns_mk, ns_meth, ns_bi, ns_isi, ns_get, ns_lc, ns_lc2, ns_dc, ns_rng, ns_enu, ns_seq, ex_var, ex_con, ex_glo, ex_bop, ex_neg, ex_cmp, ex_chain, ex_and, ex_or, ex_not, ex_ite, ex_tup, ex_lst, ex_lstR, ex_dsp, ex_dnew, ex_sub, ex_slc, ex_rev, ex_attr, ex_prop, ex_call, ex_mk, ex_meth, ex_bi, ex_isi, ex_get, ex_lc, ex_lc2, ex_dc, ex_rng, ex_enu, ex_seq, ex_peek, es_e, es_v, es_o, fz_s, fz_o, fz_v, fz_e, pl_p, ps_o, ps_c, pu_s, pu_c, pus_o, puc_s, pur_s, pur_c, il_s, il_c, ils_o, ilc_l, sp_l, ss_l, ss_d, sf_o, ft_n, lt_n, isf_var, isf_peek, isf_con, isf_glo, isf_bop, isf_neg, isf_cmp, isf_chain, isf_and, isf_or, isf_not, isf_ite, isf_tup, isf_lst, isf_lstR, isf_dsp, isf_dnew, isf_sub, isf_slc, isf_rev, isf_attr, isf_prop, isf_call, isf_mk, isf_meth, isf_isi, isf_get, isf_lc, isf_lc2, isf_dc, isf_rng, isf_enu, isf_seq, isf_bi_len, isf_bi_int, isf_bi_str, isf_bi_max, isf_bi_min, isf_bi_all, isf_bi_sum, isf_bi_tuple, isf_bi_list, isf_bi_dict, isf_bi_repr, isf_bi_sorted, xh_nil, xh_cons, hk_nx, hk_bk, hk_ct, hk_rt, hn_n, ne_nil, ne_val, ne_own, ne_emp, ax_c, ax_f, List.foldl_cons, List.foldl_nil, List.getElem?_cons_zero, List.getElem?_cons_succ, List.set_cons_zero, List.set_cons_succ, if_true, if_false, ite_true, ite_false, reduceIte, reduceCtorEq, List.length_cons, List.length_nil, List.map_cons, List.map_nil, List.zip_cons_cons, List.zip_nil_left, Option.map_some, Option.map_none, Option.getD_some, Option.getD_none, Option.bind_some, and_true, true_and, and_self, Bool.not_true, Bool.not_false, Bool.or_true, Bool.or_false, Bool.true_or, Bool.false_or, Bool.and_true, Bool.true_and, Bool.and_false, Bool.false_and, decide_true, decide_false, Bool.false_eq_true, p18, c1, c2, k1, d1, List.length_map, sz]
          refine ⟨_, _, rfl, rfl, left / 840, ns ++ [left % 840], .val (.int i1), s7, by simp, by simp [len], fun x hx => ?_⟩
          rcases List.mem_append.mp hx with hx | hx
          · exact rg x hx
          · rw [List.mem_singleton.mp hx]
            omega
        · simp only [w_ok, w_err, w_stk, o_ok, o_err, o_stk, t_nx, t_bk, t_ct, t_rt, t_er, t_stk, opt_s, opt_n, c_ok, c_stk, ce_nx, ce_rt, ce_er, ie_nx, ie_er, v_con, slV_v, slP_v, slP_o, v_var, v_peek, v_glo, v_bop, v_neg, neg_i, v_cmp, v_chain, v_and, v_or, v_not, v_ite, v_tup, v_lst, v_lstR, v_dsp, v_dnew, v_sub, v_slc, v_rev, ak_n, ak_s, v_attr, v_call, v_mk, v_bi, v_isi, v_get, v_lc, l_nil, l_star, l_cons, d_nil, d_cons, i_rng, i_enu, i_seq, s_fz', s_exp', s_asg', s_par', s_aug', s_app', s_ret', s_retN', s_ife', s_whl', s_for', s_brk', s_cnt', s_pass', s_raise', s_try', x_nil, x_cons, st_name, st_sub, st_attr, st_tup, sts_nil, sts_cons, stp_nil, stp_cons, fl_nil, fl_cons, fk_nx, fk_ct, fk_bk, fk_rt, fk_er, tv_nx, tv_rt, tv_er, p_addi, p_adds, p_addt, p_addl, p_sub, p_muli, p_mull, p_mult, p_fdv, p_mod, p_pow, p_aadd, p_asub, q_lt, q_le, q_gt, q_ge, q_eq, q_ne, q_is, q_isn, q_in, q_nin, a_bl, r_l, r_t, m_l, m_t, sb_t, sb_l, sb_k, sb_s, sb_d, df_int, df_str, df_tup, df_lst, df_ktup, df_dct, df_obj, df_scr, df_bl, df_non, df_ref, bi_len_l, bi_len_t, bi_len_k, bi_len_s, bi_len_x, bi_len_d, bi_int_i, bi_int_b, bi_str, bi_max, bi_min, bi_all, bi_sum, bi_tup_l, bi_tup_t, bi_lst_l, bi_lst_t, bi_dict, pt_lst, pt_dct, pt_obj, pt_f, pt_m, rg_i, sa_t, sa_l, gv_d, ob_o, bt_n, bt_t, bts_n, bts_c, fg_c, at_o, ty_non, ty_bl, ty_int, ty_str, ty_tup, ty_lst, ty_ktup, ty_dct, ty_scr, ty_obj, tys_n, tys_c, ik_bl, ik_int, ik_str, ik_tup, ik_lst, ik_ktup, ik_dct, ik_scr, ik_non, ik_obj, lc_nil, lc_cons, wp_n, wp_c, oi_n, oi_i, sl_t, sl_l, ns_var, ns_peek, ns_con, ns_glo, ns_bop, ns_neg, ns_cmp, ns_chain, ns_and, ns_or, ns_not, ns_ite, ns_tup, ns_lst, ns_lstR, ns_dsp, ns_dnew, ns_sub, ns_slc, ns_rev, ns_attr, ns_prop, ns_call, ns_mk, ns_meth, ns_bi, ns_isi, ns_get, ns_lc, ns_lc2, ns_dc, ns_rng, ns_enu, ns_seq, ex_var, ex_con, ex_glo, ex_bop, ex_neg, ex_cmp, ex_chain, ex_and, ex_or, ex_not, ex_ite, ex_tup, ex_lst, ex_lstR, ex_dsp, ex_dnew, ex_sub, ex_slc, ex_rev, ex_attr, ex_prop, ex_call, ex_mk, ex_meth, ex_bi, ex_isi, ex_get, ex_lc, ex_lc2, ex_dc, ex_rng, ex_enu, ex_seq, ex_peek, es_e, es_v, es_o, fz_s, fz_o, fz_v, fz_e, pl_p, ps_o, ps_c, pu_s, pu_c, pus_o, puc_s, pur_s, pur_c, il_s, il_c, ils_o, ilc_l, sp_l, ss_l, ss_d, sf_o, ft_n, lt_n, isf_var, isf_peek, isf_con, isf_glo, isf_bop, isf_neg, isf_cmp, isf_chain, isf_and, isf_or, isf_not, isf_ite, isf_tup, isf_lst, isf_lstR, isf_dsp, isf_dnew, isf_sub, isf_slc, isf_rev, isf_attr, isf_prop, isf_call, isf_mk, isf_meth, isf_isi, isf_get, isf_lc, isf_lc2, isf_dc, isf_rng, isf_enu, isf_seq, isf_bi_len, isf_bi_int, isf_bi_str, isf_bi_max, isf_bi_min, isf_bi_all, isf_bi_sum, isf_bi_tuple, isf_bi_list, isf_bi_dict, isf_bi_repr, isf_bi_sorted, xh_nil, xh_cons, hk_nx, hk_bk, hk_ct, hk_rt, hn_n, ne_nil, ne_val, ne_own, ne_emp, ax_c, ax_f, List.foldl_cons, List.foldl_nil, List.getElem?_cons_zero, List.getElem?_cons_succ, List.set_cons_zero, List.set_cons_succ, if_true, if_false, ite_true, ite_false, reduceIte, reduceCtorEq, List.length_cons, List.length_nil, List.map_cons, List.map_nil, List.zip_cons_cons, List.zip_nil_left, Option.map_some, Option.map_none, Option.getD_some, Option.getD_none, Option.bind_some, and_true, true_and, and_self, Bool.not_true, Bool.not_false, Bool.or_true, Bool.or_false, Bool.true_or, Bool.false_or, Bool.and_true, Bool.true_and, Bool.and_false, Bool.false_and, decide_true, decide_false, Bool.false_eq_true, p18, c1, c2, k1, k2, k3, m1, ha, p1, hb, m2, m3, hc, p2, he, m4, hg, d2, List.length_map, sz]
          refine ⟨_, _, rfl, rfl, left, ns ++ [f / 16 % 840], .val (.int i1), _, by simp; rfl, by simp [len], fun x hx => ?_⟩
          rcases List.mem_append.mp hx with hx | hx
          · exact rg x hx
          · rw [List.mem_singleton.mp hx]
            omega
      · simp only [w_ok, w_err, w_stk, o_ok, o_err, o_stk, t_nx, t_bk, t_ct, t_rt, t_er, t_stk, opt_s, opt_n, c_ok, c_stk, ce_nx, ce_rt, ce_er, ie_nx, ie_er, v_con, slV_v, slP_v, slP_o, v_var, v_peek, v_glo, v_bop, v_neg, neg_i, v_cmp, v_chain, v_and, v_or, v_not, v_ite, v_tup, v_lst, v_lstR, v_dsp, v_dnew, v_sub, v_slc, v_rev, ak_n, ak_s, v_attr, v_call, v_mk, v_bi, v_isi, v_get, v_lc, l_nil, l_star, l_cons, d_nil, d_cons, i_rng, i_enu, i_seq, s_fz', s_exp', s_asg', s_par', s_aug', s_app', s_ret', s_retN', s_ife', s_whl', s_for', s_brk', s_cnt', s_pass', s_raise', s_try', x_nil, x_cons, st_name, st_sub, st_attr, st_tup, sts_nil, sts_cons, stp_nil, stp_cons, fl_nil, fl_cons, fk_nx, fk_ct, fk_bk, fk_rt, fk_er, tv_nx, tv_rt, tv_er, p_addi, p_adds, p_addt, p_addl, p_sub, p_muli, p_mull, p_mult, p_fdv, p_mod, p_pow, p_aadd, p_asub, q_lt, q_le, q_gt, q_ge, q_eq, q_ne, q_is, q_isn, q_in, q_nin, a_bl, r_l, r_t, m_l, m_t, sb_t, sb_l, sb_k, sb_s, sb_d, df_int, df_str, df_tup, df_lst, df_ktup, df_dct, df_obj, df_scr, df_bl, df_non, df_ref, bi_len_l, bi_len_t, bi_len_k, bi_len_s, bi_len_x, bi_len_d, bi_int_i, bi_int_b, bi_str, bi_max, bi_min, bi_all, bi_sum, bi_tup_l, bi_tup_t, bi_lst_l, bi_lst_t, bi_dict, pt_lst, pt_dct, pt_obj, pt_f, pt_m, rg_i, sa_t, sa_l, gv_d, ob_o, bt_n, bt_t, bts_n, bts_c, fg_c, at_o, ty_non, ty_bl, ty_int, ty_str, ty_tup, ty_lst, ty_ktup, ty_dct, ty_scr, ty_obj, tys_n, tys_c, ik_bl, ik_int, ik_str, ik_tup, ik_lst, ik_ktup, ik_dct, ik_scr, ik_non, ik_obj, lc_nil, lc_cons, wp_n, wp_c, oi_n, oi_i, sl_t, sl_l, ns_var, ns_peek, ns_con, ns_glo, ns_bop, ns_neg, ns_cmp, ns_chain, ns_and, ns_or, ns_not, ns_ite, ns_tup, ns_lst, ns_lstR, ns_dsp, ns_dnew, ns_sub, ns_slc, ns_rev, ns_attr, ns_prop, ns_call, ns_mk, ns_meth, ns_bi, ns_isi, ns_get, ns_lc, ns_lc2, ns_dc, ns_rng, ns_enu, ns_seq, ex_var, ex_con, ex_glo, ex_bop, ex_neg, ex_cmp, ex_chain, ex_and, ex_or, ex_not, ex_ite, ex_tup, ex_lst, ex_lstR, ex_dsp, ex_dnew, ex_sub, ex_slc, ex_rev, ex_attr, ex_prop, ex_call, ex_mk, ex_meth, ex_bi, ex_isi, ex_get, ex_lc, ex_lc2, ex_dc, ex_rng, ex_enu, ex_seq, ex_peek, es_e, es_v, es_o, fz_s, fz_o, fz_v, fz_e, pl_p, ps_o, ps_c, pu_s, pu_c, pus_o, puc_s, pur_s, pur_c, il_s, il_c, ils_o, ilc_l, sp_l, ss_l, ss_d, sf_o, ft_n, lt_n, isf_var, isf_peek, isf_con, isf_glo, isf_bop, isf_neg, isf_cmp, isf_chain, isf_and, isf_or, isf_not, isf_ite, isf_tup, isf_lst, isf_lstR, isf_dsp, isf_dnew, isf_sub, isf_slc, isf_rev, isf_attr, isf_prop, isf_call, isf_mk, isf_meth, isf_isi, isf_get, isf_lc, isf_lc2, isf_dc, isf_rng, isf_enu, isf_seq, isf_bi_len, isf_bi_int, isf_bi_str, isf_bi_max, isf_bi_min, isf_bi_all, isf_bi_sum, isf_bi_tuple, isf_bi_list, isf_bi_dict, isf_bi_repr, isf_bi_sorted, xh_nil, xh_cons, hk_nx, hk_bk, hk_ct, hk_rt, hn_n, ne_nil, ne_val, ne_own, ne_emp, ax_c, ax_f, List.foldl_cons, List.foldl_nil, List.getElem?_cons_zero, List.getElem?_cons_succ, List.set_cons_zero, List.set_cons_succ, if_true, if_false, ite_true, ite_false, reduceIte, reduceCtorEq, List.length_cons, List.length_nil, List.map_cons, List.map_nil, List.zip_cons_cons, List.zip_nil_left, Option.map_some, Option.map_none, Option.getD_some, Option.getD_none, Option.bind_some, and_true, true_and, and_self, Bool.not_true, Bool.not_false, Bool.or_true, Bool.or_false, Bool.true_or, Bool.false_or, Bool.and_true, Bool.true_and, Bool.and_false, Bool.false_and, decide_true, decide_false, Bool.false_eq_true, p18, c1, k1, k2, k3, m1, ha, p1, hb, m2, m3, hc, p2, he, m4, hg, d2, List.length_map, sz]
        refine ⟨_, _, rfl, rfl, left, ns ++ [f / 16 % 840], .val (.int i1), _, by simp; rfl, by simp [len], fun x hx => ?_⟩
        rcases List.mem_append.mp hx with hx | hx
        · exact rg x hx
        · rw [List.mem_singleton.mp hx]
          omega)
  rw [e]
  simp only [w_ok, w_err, w_stk, o_ok, o_err, o_stk, t_nx, t_bk, t_ct, t_rt, t_er, t_stk, opt_s, opt_n, c_ok, c_stk, ce_nx, ce_rt, ce_er, ie_nx, ie_er, v_con, slV_v, slP_v, slP_o, v_var, v_peek, v_glo, v_bop, v_neg, neg_i, v_cmp, v_chain, v_and, v_or, v_not, v_ite, v_tup, v_lst, v_lstR, v_dsp, v_dnew, v_sub, v_slc, v_rev, ak_n, ak_s, v_attr, v_call, v_mk, v_bi, v_isi, v_get, v_lc, l_nil, l_star, l_cons, d_nil, d_cons, i_rng, i_enu, i_seq, s_fz', s_exp', s_asg', s_par', s_aug', s_app', s_ret', s_retN', s_ife', s_whl', s_for', s_brk', s_cnt', s_pass', s_raise', s_try', x_nil, x_cons, st_name, st_sub, st_attr, st_tup, sts_nil, sts_cons, stp_nil, stp_cons, fl_nil, fl_cons, fk_nx, fk_ct, fk_bk, fk_rt, fk_er, tv_nx, tv_rt, tv_er, p_addi, p_adds, p_addt, p_addl, p_sub, p_muli, p_mull, p_mult, p_fdv, p_mod, p_pow, p_aadd, p_asub, q_lt, q_le, q_gt, q_ge, q_eq, q_ne, q_is, q_isn, q_in, q_nin, a_bl, r_l, r_t, m_l, m_t, sb_t, sb_l, sb_k, sb_s, sb_d, df_int, df_str, df_tup, df_lst, df_ktup, df_dct, df_obj, df_scr, df_bl, df_non, df_ref, bi_len_l, bi_len_t, bi_len_k, bi_len_s, bi_len_x, bi_len_d, bi_int_i, bi_int_b, bi_str, bi_max, bi_min, bi_all, bi_sum, bi_tup_l, bi_tup_t, bi_lst_l, bi_lst_t, bi_dict, pt_lst, pt_dct, pt_obj, pt_f, pt_m, rg_i, sa_t, sa_l, gv_d, ob_o, bt_n, bt_t, bts_n, bts_c, fg_c, at_o, ty_non, ty_bl, ty_int, ty_str, ty_tup, ty_lst, ty_ktup, ty_dct, ty_scr, ty_obj, tys_n, tys_c, ik_bl, ik_int, ik_str, ik_tup, ik_lst, ik_ktup, ik_dct, ik_scr, ik_non, ik_obj, lc_nil, lc_cons, wp_n, wp_c, oi_n, oi_i, sl_t, sl_l, ns_var, ns_peek, ns_con, ns_glo, ns_bop, ns_neg, ns_cmp, ns_chain, ns_and, ns_or, ns_not, ns_ite, ns_tup, ns_lst, ns_lstR, ns_dsp, ns_dnew, ns_sub, ns_slc, ns_rev, ns_attr, ns_prop, ns_call, ns_mk, ns_meth, ns_bi, ns_isi, ns_get, ns_lc, ns_lc2, ns_dc, ns_rng, ns_enu, ns_seq, ex_var, ex_con, ex_glo, ex_bop, ex_neg, ex_cmp, ex_chain, ex_and, ex_or, ex_not, ex_ite, ex_tup, ex_lst, ex_lstR, ex_dsp, ex_dnew, ex_sub, ex_slc, ex_rev, ex_attr, ex_prop, ex_call, ex_mk, ex_meth, ex_bi, ex_isi, ex_get, ex_lc, ex_lc2, ex_dc, ex_rng, ex_enu, ex_seq, ex_peek, es_e, es_v, es_o, fz_s, fz_o, fz_v, fz_e, pl_p, ps_o, ps_c, pu_s, pu_c, pus_o, puc_s, pur_s, pur_c, il_s, il_c, ils_o, ilc_l, sp_l, ss_l, ss_d, sf_o, ft_n, lt_n, isf_var, isf_peek, isf_con, isf_glo, isf_bop, isf_neg, isf_cmp, isf_chain, isf_and, isf_or, isf_not, isf_ite, isf_tup, isf_lst, isf_lstR, isf_dsp, isf_dnew, isf_sub, isf_slc, isf_rev, isf_attr, isf_prop, isf_call, isf_mk, isf_meth, isf_isi, isf_get, isf_lc, isf_lc2, isf_dc, isf_rng, isf_enu, isf_seq, isf_bi_len, isf_bi_int, isf_bi_str, isf_bi_max, isf_bi_min, isf_bi_all, isf_bi_sum, isf_bi_tuple, isf_bi_list, isf_bi_dict, isf_bi_repr, isf_bi_sorted, xh_nil, xh_cons, hk_nx, hk_bk, hk_ct, hk_rt, hn_n, ne_nil, ne_val, ne_own, ne_emp, ax_c, ax_f, List.foldl_cons, List.foldl_nil, List.getElem?_cons_zero, List.getElem?_cons_succ, List.set_cons_zero, List.set_cons_succ, if_true, if_false, ite_true, ite_false, reduceIte, reduceCtorEq, List.length_cons, List.length_nil, List.map_cons, List.map_nil, List.zip_cons_cons, List.zip_nil_left, Option.map_some, Option.map_none, Option.getD_some, Option.getD_none, Option.bind_some, and_true, true_and, and_self, Bool.not_true, Bool.not_false, Bool.or_true, Bool.or_false, Bool.true_or, Bool.false_or, Bool.and_true, Bool.true_and, Bool.and_false, Bool.false_and, decide_true, decide_false, Bool.false_eq_true]
  rw [rngL_len, Nat.zero_add] at len
  exact ⟨ns, len, rg, rfl⟩

end LawT
set_option maxHeartbeats 0
namespace LawT
open PySem AM
theorem at0 {α : Type} {a : α} {r : List α} : L2.atI (a :: r) 0 = some a := by
  unfold L2.atI L2.ixN
  simp
theorem at_n {α : Type} {xs : List α} {i : Nat} (h : i < xs.length) : L2.atI xs (i : Int) = some xs[i] := by
  unfold L2.atI L2.ixN
  simp [h]
theorem at1 {α : Type} {a b : α} {r : List α} : L2.atI (a :: b :: r) 1 = some b := at_n (xs := a :: b :: r) (i := 1) (by simp)
theorem at2 {α : Type} {a b c : α} {r : List α} : L2.atI (a :: b :: c :: r) 2 = some c := at_n (xs := a :: b :: c :: r) (i := 2) (by simp)
theorem at3 {α : Type} {a b c d : α} {r : List α} : L2.atI (a :: b :: c :: d :: r) 3 = some d := at_n (xs := a :: b :: c :: d :: r) (i := 3) (by simp)
theorem ix21 : L2.ixN 2 1 = some 1 := by decide
theorem ix20 : L2.ixN 2 0 = some 0 := by decide
/-- what a pool is: its numbers, its place -/
def Pool (h : AH) (n : Nat) (ns : List Int) (a : Nat) : Prop := h[n]? = some (.lst [.lst (ns.map .int), .int a])
def drawn (ns : List Int) (a : Nat) (m : Int) : Int := if h : a < ns.length then ns[a] % m else 0
theorem drawn_lt {ns : List Int} {a : Nat} {m : Int} (h : 0 < m) : 0 ≤ drawn ns a m ∧ drawn ns a m < m := by
  unfold drawn
  split
  · exact ⟨Int.emod_nonneg _ (by omega), Int.emod_lt_of_pos _ h⟩
  · omega
/-- behind a draw -/
def poolH (h : AH) (n : Nat) (ns : List Int) (a : Nat) : AH := h.set n (.lst [.lst (ns.map .int), .int a])
theorem poolH_pool {h : AH} {n : Nat} {ns : List Int} {a b : Nat} (p : Pool h n ns a) : Pool (poolH h n ns b) n ns b := by
  unfold Pool poolH at *
  rw [List.getElem?_set_self (List.getElem?_eq_some_iff.mp p).1]
theorem poolH_poolH {h : AH} {n : Nat} {ns : List Int} {a b : Nat} : poolH (poolH h n ns a) n ns b = poolH h n ns b := by
  unfold poolH
  rw [List.set_set]
theorem draw (k : Nat) {h : AH} {n : Nat} {ns : List Int} {a : Nat} {m : Int} (p : Pool h n ns a) (hm : 0 < m) :
    calA Pr (k + 1) 48 [.ref n, .int m] h = .ok (.int (drawn ns a m)) (poolH h n ns (a + 1)) := by
  rw [u__law_draw]
  unfold B__law_draw
  have p2 : (poolH h n ns (a + 1))[n]? = some (.lst [.lst (ns.map .int), .int ((a + 1 : Nat) : Int)]) := poolH_pool p
  have p : h[n]? = some (.lst [.lst (ns.map .int), .int a]) := p
  have e2 : h.set n (.lst [.lst (ns.map .int), .int ((a + 1 : Nat) : Int)]) = poolH h n ns (a + 1) := rfl
  simp only [w_ok, w_err, w_stk, o_ok, o_err, o_stk, t_nx, t_bk, t_ct, t_rt, t_er, t_stk, opt_s, opt_n, c_ok, c_stk, ce_nx, ce_rt, ce_er, ie_nx, ie_er, v_con, slV_v, slP_v, slP_o, v_var, v_peek, v_glo, v_bop, v_neg, neg_i, v_cmp, v_chain, v_and, v_or, v_not, v_ite, v_tup, v_lst, v_lstR, v_dsp, v_dnew, v_sub, v_slc, v_rev, ak_n, ak_s, v_attr, v_call, v_mk, v_bi, v_isi, v_get, v_lc, l_nil, l_star, l_cons, d_nil, d_cons, i_rng, i_enu, i_seq, s_fz', s_exp', s_asg', s_par', s_aug', s_app', s_ret', s_retN', s_ife', s_whl', s_for', s_brk', s_cnt', s_pass', s_raise', s_try', x_nil, x_cons, st_name, st_sub, st_attr, st_tup, sts_nil, sts_cons, stp_nil, stp_cons, fl_nil, fl_cons, fk_nx, fk_ct, fk_bk, fk_rt, fk_er, tv_nx, tv_rt, tv_er, p_addi, p_adds, p_addt, p_addl, p_sub, p_muli, p_mull, p_mult, p_fdv, p_mod, p_pow, p_aadd, p_asub, q_lt, q_le, q_gt, q_ge, q_eq, q_ne, q_is, q_isn, q_in, q_nin, a_bl, r_l, r_t, m_l, m_t, sb_t, sb_l, sb_k, sb_s, sb_d, df_int, df_str, df_tup, df_lst, df_ktup, df_dct, df_obj, df_scr, df_bl, df_non, df_ref, bi_len_l, bi_len_t, bi_len_k, bi_len_s, bi_len_x, bi_len_d, bi_int_i, bi_int_b, bi_str, bi_max, bi_min, bi_all, bi_sum, bi_tup_l, bi_tup_t, bi_lst_l, bi_lst_t, bi_dict, pt_lst, pt_dct, pt_obj, pt_f, pt_m, rg_i, sa_t, sa_l, gv_d, ob_o, bt_n, bt_t, bts_n, bts_c, fg_c, at_o, ty_non, ty_bl, ty_int, ty_str, ty_tup, ty_lst, ty_ktup, ty_dct, ty_scr, ty_obj, tys_n, tys_c, ik_bl, ik_int, ik_str, ik_tup, ik_lst, ik_ktup, ik_dct, ik_scr, ik_non, ik_obj, lc_nil, lc_cons, wp_n, wp_c, oi_n, oi_i, sl_t, sl_l, ns_var, ns_peek, ns_con, ns_glo, ns_bop, ns_neg, ns_cmp, ns_chain, ns_and, ns_or, ns_not, ns_ite, ns_tup, ns_lst, ns_lstR, ns_dsp, ns_dnew, ns_sub, ns_slc, ns_rev, ns_attr, ns_prop, ns_call, ns_mk, ns_meth, ns_bi, ns_isi, ns_get, ns_lc, ns_lc2, ns_dc, ns_rng, ns_enu, ns_seq, ex_var, ex_con, ex_glo, ex_bop, ex_neg, ex_cmp, ex_chain, ex_and, ex_or, ex_not, ex_ite, ex_tup, ex_lst, ex_lstR, ex_dsp, ex_dnew, ex_sub, ex_slc, ex_rev, ex_attr, ex_prop, ex_call, ex_mk, ex_meth, ex_bi, ex_isi, ex_get, ex_lc, ex_lc2, ex_dc, ex_rng, ex_enu, ex_seq, ex_peek, es_e, es_v, es_o, fz_s, fz_o, fz_v, fz_e, pl_p, ps_o, ps_c, pu_s, pu_c, pus_o, puc_s, pur_s, pur_c, il_s, il_c, ils_o, ilc_l, sp_l, ss_l, ss_d, sf_o, ft_n, lt_n, isf_var, isf_peek, isf_con, isf_glo, isf_bop, isf_neg, isf_cmp, isf_chain, isf_and, isf_or, isf_not, isf_ite, isf_tup, isf_lst, isf_lstR, isf_dsp, isf_dnew, isf_sub, isf_slc, isf_rev, isf_attr, isf_prop, isf_call, isf_mk, isf_meth, isf_isi, isf_get, isf_lc, isf_lc2, isf_dc, isf_rng, isf_enu, isf_seq, isf_bi_len, isf_bi_int, isf_bi_str, isf_bi_max, isf_bi_min, isf_bi_all, isf_bi_sum, isf_bi_tuple, isf_bi_list, isf_bi_dict, isf_bi_repr, isf_bi_sorted, xh_nil, xh_cons, hk_nx, hk_bk, hk_ct, hk_rt, hn_n, ne_nil, ne_val, ne_own, ne_emp, ax_c, ax_f, List.foldl_cons, List.foldl_nil, List.getElem?_cons_zero, List.getElem?_cons_succ, List.set_cons_zero, List.set_cons_succ, if_true, if_false, ite_true, ite_false, reduceIte, reduceCtorEq, List.length_cons, List.length_nil, List.map_cons, List.map_nil, List.zip_cons_cons, List.zip_nil_left, Option.map_some, Option.map_none, Option.getD_some, Option.getD_none, Option.bind_some, and_true, true_and, and_self, Bool.not_true, Bool.not_false, Bool.or_true, Bool.or_false, Bool.true_or, Bool.false_or, Bool.and_true, Bool.true_and, Bool.and_false, Bool.false_and, decide_true, decide_false, Bool.false_eq_true, p, at0, at1, ix21, Nat.reduceAdd, ← Int.natCast_add_one, e2, p2, List.length_map]
  by_cases c : a < ns.length
  · have c2 : (decide ((a : Int) < (ns.length : Int))) = true := by rw [decide_eq_true_eq]; omega
    have c3 : (decide (0 < m)) = true := decide_eq_true hm
    have g : L2.atI (ns.map AV.int) (a : Int) = some (.int ns[a]) := by
      rw [at_n (by rw [List.length_map]; exact c), List.getElem_map]
    simp only [w_ok, w_err, w_stk, o_ok, o_err, o_stk, t_nx, t_bk, t_ct, t_rt, t_er, t_stk, opt_s, opt_n, c_ok, c_stk, ce_nx, ce_rt, ce_er, ie_nx, ie_er, v_con, slV_v, slP_v, slP_o, v_var, v_peek, v_glo, v_bop, v_neg, neg_i, v_cmp, v_chain, v_and, v_or, v_not, v_ite, v_tup, v_lst, v_lstR, v_dsp, v_dnew, v_sub, v_slc, v_rev, ak_n, ak_s, v_attr, v_call, v_mk, v_bi, v_isi, v_get, v_lc, l_nil, l_star, l_cons, d_nil, d_cons, i_rng, i_enu, i_seq, s_fz', s_exp', s_asg', s_par', s_aug', s_app', s_ret', s_retN', s_ife', s_whl', s_for', s_brk', s_cnt', s_pass', s_raise', s_try', x_nil, x_cons, st_name, st_sub, st_attr, st_tup, sts_nil, sts_cons, stp_nil, stp_cons, fl_nil, fl_cons, fk_nx, fk_ct, fk_bk, fk_rt, fk_er, tv_nx, tv_rt, tv_er, p_addi, p_adds, p_addt, p_addl, p_sub, p_muli, p_mull, p_mult, p_fdv, p_mod, p_pow, p_aadd, p_asub, q_lt, q_le, q_gt, q_ge, q_eq, q_ne, q_is, q_isn, q_in, q_nin, a_bl, r_l, r_t, m_l, m_t, sb_t, sb_l, sb_k, sb_s, sb_d, df_int, df_str, df_tup, df_lst, df_ktup, df_dct, df_obj, df_scr, df_bl, df_non, df_ref, bi_len_l, bi_len_t, bi_len_k, bi_len_s, bi_len_x, bi_len_d, bi_int_i, bi_int_b, bi_str, bi_max, bi_min, bi_all, bi_sum, bi_tup_l, bi_tup_t, bi_lst_l, bi_lst_t, bi_dict, pt_lst, pt_dct, pt_obj, pt_f, pt_m, rg_i, sa_t, sa_l, gv_d, ob_o, bt_n, bt_t, bts_n, bts_c, fg_c, at_o, ty_non, ty_bl, ty_int, ty_str, ty_tup, ty_lst, ty_ktup, ty_dct, ty_scr, ty_obj, tys_n, tys_c, ik_bl, ik_int, ik_str, ik_tup, ik_lst, ik_ktup, ik_dct, ik_scr, ik_non, ik_obj, lc_nil, lc_cons, wp_n, wp_c, oi_n, oi_i, sl_t, sl_l, ns_var, ns_peek, ns_con, ns_glo, ns_bop, ns_neg, ns_cmp, ns_chain, ns_and, ns_or, ns_not, ns_ite, ns_tup, ns_lst, ns_lstR, ns_dsp, ns_dnew, ns_sub, ns_slc, ns_rev, ns_attr, ns_prop, ns_call, ns_mk, ns_meth, ns_bi, ns_isi, ns_get, ns_lc, ns_lc2, ns_dc, ns_rng, ns_enu, ns_seq, ex_var, ex_con, ex_glo, ex_bop, ex_neg, ex_cmp, ex_chain, ex_and, ex_or, ex_not, ex_ite, ex_tup, ex_lst, ex_lstR, ex_dsp, ex_dnew, ex_sub, ex_slc, ex_rev, ex_attr, ex_prop, ex_call, ex_mk, ex_meth, ex_bi, ex_isi, ex_get, ex_lc, ex_lc2, ex_dc, ex_rng, ex_enu, ex_seq, ex_peek, es_e, es_v, es_o, fz_s, fz_o, fz_v, fz_e, pl_p, ps_o, ps_c, pu_s, pu_c, pus_o, puc_s, pur_s, pur_c, il_s, il_c, ils_o, ilc_l, sp_l, ss_l, ss_d, sf_o, ft_n, lt_n, isf_var, isf_peek, isf_con, isf_glo, isf_bop, isf_neg, isf_cmp, isf_chain, isf_and, isf_or, isf_not, isf_ite, isf_tup, isf_lst, isf_lstR, isf_dsp, isf_dnew, isf_sub, isf_slc, isf_rev, isf_attr, isf_prop, isf_call, isf_mk, isf_meth, isf_isi, isf_get, isf_lc, isf_lc2, isf_dc, isf_rng, isf_enu, isf_seq, isf_bi_len, isf_bi_int, isf_bi_str, isf_bi_max, isf_bi_min, isf_bi_all, isf_bi_sum, isf_bi_tuple, isf_bi_list, isf_bi_dict, isf_bi_repr, isf_bi_sorted, xh_nil, xh_cons, hk_nx, hk_bk, hk_ct, hk_rt, hn_n, ne_nil, ne_val, ne_own, ne_emp, ax_c, ax_f, List.foldl_cons, List.foldl_nil, List.getElem?_cons_zero, List.getElem?_cons_succ, List.set_cons_zero, List.set_cons_succ, if_true, if_false, ite_true, ite_false, reduceIte, reduceCtorEq, List.length_cons, List.length_nil, List.map_cons, List.map_nil, List.zip_cons_cons, List.zip_nil_left, Option.map_some, Option.map_none, Option.getD_some, Option.getD_none, Option.bind_some, and_true, true_and, and_self, Bool.not_true, Bool.not_false, Bool.or_true, Bool.or_false, Bool.true_or, Bool.false_or, Bool.and_true, Bool.true_and, Bool.and_false, Bool.false_and, decide_true, decide_false, Bool.false_eq_true, c2, c3, g, drawn, c, p2, at0, dite_true]
  · have c2 : (decide ((a : Int) < (ns.length : Int))) = false := by rw [decide_eq_false_iff_not]; omega
    simp only [w_ok, w_err, w_stk, o_ok, o_err, o_stk, t_nx, t_bk, t_ct, t_rt, t_er, t_stk, opt_s, opt_n, c_ok, c_stk, ce_nx, ce_rt, ce_er, ie_nx, ie_er, v_con, slV_v, slP_v, slP_o, v_var, v_peek, v_glo, v_bop, v_neg, neg_i, v_cmp, v_chain, v_and, v_or, v_not, v_ite, v_tup, v_lst, v_lstR, v_dsp, v_dnew, v_sub, v_slc, v_rev, ak_n, ak_s, v_attr, v_call, v_mk, v_bi, v_isi, v_get, v_lc, l_nil, l_star, l_cons, d_nil, d_cons, i_rng, i_enu, i_seq, s_fz', s_exp', s_asg', s_par', s_aug', s_app', s_ret', s_retN', s_ife', s_whl', s_for', s_brk', s_cnt', s_pass', s_raise', s_try', x_nil, x_cons, st_name, st_sub, st_attr, st_tup, sts_nil, sts_cons, stp_nil, stp_cons, fl_nil, fl_cons, fk_nx, fk_ct, fk_bk, fk_rt, fk_er, tv_nx, tv_rt, tv_er, p_addi, p_adds, p_addt, p_addl, p_sub, p_muli, p_mull, p_mult, p_fdv, p_mod, p_pow, p_aadd, p_asub, q_lt, q_le, q_gt, q_ge, q_eq, q_ne, q_is, q_isn, q_in, q_nin, a_bl, r_l, r_t, m_l, m_t, sb_t, sb_l, sb_k, sb_s, sb_d, df_int, df_str, df_tup, df_lst, df_ktup, df_dct, df_obj, df_scr, df_bl, df_non, df_ref, bi_len_l, bi_len_t, bi_len_k, bi_len_s, bi_len_x, bi_len_d, bi_int_i, bi_int_b, bi_str, bi_max, bi_min, bi_all, bi_sum, bi_tup_l, bi_tup_t, bi_lst_l, bi_lst_t, bi_dict, pt_lst, pt_dct, pt_obj, pt_f, pt_m, rg_i, sa_t, sa_l, gv_d, ob_o, bt_n, bt_t, bts_n, bts_c, fg_c, at_o, ty_non, ty_bl, ty_int, ty_str, ty_tup, ty_lst, ty_ktup, ty_dct, ty_scr, ty_obj, tys_n, tys_c, ik_bl, ik_int, ik_str, ik_tup, ik_lst, ik_ktup, ik_dct, ik_scr, ik_non, ik_obj, lc_nil, lc_cons, wp_n, wp_c, oi_n, oi_i, sl_t, sl_l, ns_var, ns_peek, ns_con, ns_glo, ns_bop, ns_neg, ns_cmp, ns_chain, ns_and, ns_or, ns_not, ns_ite, ns_tup, ns_lst, ns_lstR, ns_dsp, ns_dnew, ns_sub, ns_slc, ns_rev, ns_attr, ns_prop, ns_call, ns_mk, ns_meth, ns_bi, ns_isi, ns_get, ns_lc, ns_lc2, ns_dc, ns_rng, ns_enu, ns_seq, ex_var, ex_con, ex_glo, ex_bop, ex_neg, ex_cmp, ex_chain, ex_and, ex_or, ex_not, ex_ite, ex_tup, ex_lst, ex_lstR, ex_dsp, ex_dnew, ex_sub, ex_slc, ex_rev, ex_attr, ex_prop, ex_call, ex_mk, ex_meth, ex_bi, ex_isi, ex_get, ex_lc, ex_lc2, ex_dc, ex_rng, ex_enu, ex_seq, ex_peek, es_e, es_v, es_o, fz_s, fz_o, fz_v, fz_e, pl_p, ps_o, ps_c, pu_s, pu_c, pus_o, puc_s, pur_s, pur_c, il_s, il_c, ils_o, ilc_l, sp_l, ss_l, ss_d, sf_o, ft_n, lt_n, isf_var, isf_peek, isf_con, isf_glo, isf_bop, isf_neg, isf_cmp, isf_chain, isf_and, isf_or, isf_not, isf_ite, isf_tup, isf_lst, isf_lstR, isf_dsp, isf_dnew, isf_sub, isf_slc, isf_rev, isf_attr, isf_prop, isf_call, isf_mk, isf_meth, isf_isi, isf_get, isf_lc, isf_lc2, isf_dc, isf_rng, isf_enu, isf_seq, isf_bi_len, isf_bi_int, isf_bi_str, isf_bi_max, isf_bi_min, isf_bi_all, isf_bi_sum, isf_bi_tuple, isf_bi_list, isf_bi_dict, isf_bi_repr, isf_bi_sorted, xh_nil, xh_cons, hk_nx, hk_bk, hk_ct, hk_rt, hn_n, ne_nil, ne_val, ne_own, ne_emp, ax_c, ax_f, List.foldl_cons, List.foldl_nil, List.getElem?_cons_zero, List.getElem?_cons_succ, List.set_cons_zero, List.set_cons_succ, if_true, if_false, ite_true, ite_false, reduceIte, reduceCtorEq, List.length_cons, List.length_nil, List.map_cons, List.map_nil, List.zip_cons_cons, List.zip_nil_left, Option.map_some, Option.map_none, Option.getD_some, Option.getD_none, Option.bind_some, and_true, true_and, and_self, Bool.not_true, Bool.not_false, Bool.or_true, Bool.or_false, Bool.true_or, Bool.false_or, Bool.and_true, Bool.true_and, Bool.and_false, Bool.false_and, decide_true, decide_false, Bool.false_eq_true, c2, drawn, c, dite_false]
theorem pick (k : Nat) {h : AH} {n : Nat} {ns : List Int} {a : Nat} {xs : List AV} (p : Pool h n ns a) (hx : 0 < xs.length) :
    ∃ v, v ∈ xs ∧ calA Pr (k + 2) 49 [.ref n, .lst xs] h = .ok v (poolH h n ns (a + 1)) := by
  rw [u__law_pick]
  unfold B__law_pick
  obtain ⟨d1, d2⟩ := drawn_lt (ns := ns) (a := a) (m := (xs.length : Int)) (by omega)
  have hd := draw k p (m := (xs.length : Int)) (by omega)
  generalize drawn ns a (xs.length : Int) = d at *
  obtain ⟨i, rfl⟩ := Int.eq_ofNat_of_zero_le d1
  have hi : i < xs.length := by omega
  refine ⟨xs[i], List.getElem_mem hi, ?_⟩
  simp only [w_ok, w_err, w_stk, o_ok, o_err, o_stk, t_nx, t_bk, t_ct, t_rt, t_er, t_stk, opt_s, opt_n, c_ok, c_stk, ce_nx, ce_rt, ce_er, ie_nx, ie_er, v_con, slV_v, slP_v, slP_o, v_var, v_peek, v_glo, v_bop, v_neg, neg_i, v_cmp, v_chain, v_and, v_or, v_not, v_ite, v_tup, v_lst, v_lstR, v_dsp, v_dnew, v_sub, v_slc, v_rev, ak_n, ak_s, v_attr, v_call, v_mk, v_bi, v_isi, v_get, v_lc, l_nil, l_star, l_cons, d_nil, d_cons, i_rng, i_enu, i_seq, s_fz', s_exp', s_asg', s_par', s_aug', s_app', s_ret', s_retN', s_ife', s_whl', s_for', s_brk', s_cnt', s_pass', s_raise', s_try', x_nil, x_cons, st_name, st_sub, st_attr, st_tup, sts_nil, sts_cons, stp_nil, stp_cons, fl_nil, fl_cons, fk_nx, fk_ct, fk_bk, fk_rt, fk_er, tv_nx, tv_rt, tv_er, p_addi, p_adds, p_addt, p_addl, p_sub, p_muli, p_mull, p_mult, p_fdv, p_mod, p_pow, p_aadd, p_asub, q_lt, q_le, q_gt, q_ge, q_eq, q_ne, q_is, q_isn, q_in, q_nin, a_bl, r_l, r_t, m_l, m_t, sb_t, sb_l, sb_k, sb_s, sb_d, df_int, df_str, df_tup, df_lst, df_ktup, df_dct, df_obj, df_scr, df_bl, df_non, df_ref, bi_len_l, bi_len_t, bi_len_k, bi_len_s, bi_len_x, bi_len_d, bi_int_i, bi_int_b, bi_str, bi_max, bi_min, bi_all, bi_sum, bi_tup_l, bi_tup_t, bi_lst_l, bi_lst_t, bi_dict, pt_lst, pt_dct, pt_obj, pt_f, pt_m, rg_i, sa_t, sa_l, gv_d, ob_o, bt_n, bt_t, bts_n, bts_c, fg_c, at_o, ty_non, ty_bl, ty_int, ty_str, ty_tup, ty_lst, ty_ktup, ty_dct, ty_scr, ty_obj, tys_n, tys_c, ik_bl, ik_int, ik_str, ik_tup, ik_lst, ik_ktup, ik_dct, ik_scr, ik_non, ik_obj, lc_nil, lc_cons, wp_n, wp_c, oi_n, oi_i, sl_t, sl_l, ns_var, ns_peek, ns_con, ns_glo, ns_bop, ns_neg, ns_cmp, ns_chain, ns_and, ns_or, ns_not, ns_ite, ns_tup, ns_lst, ns_lstR, ns_dsp, ns_dnew, ns_sub, ns_slc, ns_rev, ns_attr, ns_prop, ns_call, ns_mk, ns_meth, ns_bi, ns_isi, ns_get, ns_lc, ns_lc2, ns_dc, ns_rng, ns_enu, ns_seq, ex_var, ex_con, ex_glo, ex_bop, ex_neg, ex_cmp, ex_chain, ex_and, ex_or, ex_not, ex_ite, ex_tup, ex_lst, ex_lstR, ex_dsp, ex_dnew, ex_sub, ex_slc, ex_rev, ex_attr, ex_prop, ex_call, ex_mk, ex_meth, ex_bi, ex_isi, ex_get, ex_lc, ex_lc2, ex_dc, ex_rng, ex_enu, ex_seq, ex_peek, es_e, es_v, es_o, fz_s, fz_o, fz_v, fz_e, pl_p, ps_o, ps_c, pu_s, pu_c, pus_o, puc_s, pur_s, pur_c, il_s, il_c, ils_o, ilc_l, sp_l, ss_l, ss_d, sf_o, ft_n, lt_n, isf_var, isf_peek, isf_con, isf_glo, isf_bop, isf_neg, isf_cmp, isf_chain, isf_and, isf_or, isf_not, isf_ite, isf_tup, isf_lst, isf_lstR, isf_dsp, isf_dnew, isf_sub, isf_slc, isf_rev, isf_attr, isf_prop, isf_call, isf_mk, isf_meth, isf_isi, isf_get, isf_lc, isf_lc2, isf_dc, isf_rng, isf_enu, isf_seq, isf_bi_len, isf_bi_int, isf_bi_str, isf_bi_max, isf_bi_min, isf_bi_all, isf_bi_sum, isf_bi_tuple, isf_bi_list, isf_bi_dict, isf_bi_repr, isf_bi_sorted, xh_nil, xh_cons, hk_nx, hk_bk, hk_ct, hk_rt, hn_n, ne_nil, ne_val, ne_own, ne_emp, ax_c, ax_f, List.foldl_cons, List.foldl_nil, List.getElem?_cons_zero, List.getElem?_cons_succ, List.set_cons_zero, List.set_cons_succ, if_true, if_false, ite_true, ite_false, reduceIte, reduceCtorEq, List.length_cons, List.length_nil, List.map_cons, List.map_nil, List.zip_cons_cons, List.zip_nil_left, Option.map_some, Option.map_none, Option.getD_some, Option.getD_none, Option.bind_some, and_true, true_and, and_self, Bool.not_true, Bool.not_false, Bool.or_true, Bool.or_false, Bool.true_or, Bool.false_or, Bool.and_true, Bool.true_and, Bool.and_false, Bool.false_and, decide_true, decide_false, Bool.false_eq_true, hd, at_n hi]

end LawT
set_option maxHeartbeats 0
namespace LawT
open PySem AM
theorem ints_lay : ∀ ns : List Int, PyData.canLayAll0 (ns.map .int) = true
  | [] => rfl
  | _ :: r => by
    show (true && PyData.canLayAll0 (r.map PyData.int)) = true
    rw [ints_lay r]
    rfl
theorem ints_depth : ∀ ns : List Int, PyData.depthAll (ns.map .int) = 0
  | [] => rfl
  | _ :: r => by
    show max 0 (PyData.depthAll (r.map PyData.int)) = 0
    rw [ints_depth r]
    rfl
theorem ints_shaped (ns : List Int) : SeqAt.shaped (.list (ns.map .int)) = true := by
  unfold SeqAt.shaped
  show (PyData.canLayAll0 (ns.map PyData.int) && decide (PyData.depthAll (ns.map PyData.int) + 1 ≤ 64)) = true
  rw [ints_lay, ints_depth]
  rfl
theorem scr_eq (ns : List Int) : eqAV (.scr ns) (.lst []) = some ns.isEmpty := by
  have e : eqAV (.scr ns) (.lst []) = if SeqAt.shaped (.list (ns.map .int)) = true ∧ SeqAt.shaped (.list []) = true then some (PyData.eqv (.list (ns.map .int)) (.list [])) else none := rfl
  rw [e, if_pos ⟨ints_shaped ns, ints_shaped []⟩]
  cases ns <;> rfl
/-- a new pool -/
theorem opened (k : Nat) (cs : List Int) (i : Nat) (hi : cs = [] ∨ i < cs.length) (hi2 : i ≤ 1000) (n : Nat) (hn : n ≤ 1000) (h : AH) : ∃ ns : List Int, ns.length = n ∧ (∀ x ∈ ns, 0 ≤ x ∧ x < 840) ∧
    calA Pr (k + 2) 47 [.scr cs, .int i, .int n] h = .ok (.ref h.length) (h ++ [.lst [.lst (ns.map .int), .int ((0 : Nat) : Int)]]) := by
  rw [u__law_opened]
  unfold B__law_opened
  have z0 : szOk 0 = true := by decide
  have z2 : szOk 2 = true := by decide
  rcases hi with rfl | hi
  · obtain ⟨ns, e1, e2, e3⟩ := numbers k 5 i ⟨by omega, by omega⟩ n hn h
    simp only [w_ok, w_err, w_stk, o_ok, o_err, o_stk, t_nx, t_bk, t_ct, t_rt, t_er, t_stk, opt_s, opt_n, c_ok, c_stk, ce_nx, ce_rt, ce_er, ie_nx, ie_er, v_con, slV_v, slP_v, slP_o, v_var, v_peek, v_glo, v_bop, v_neg, neg_i, v_cmp, v_chain, v_and, v_or, v_not, v_ite, v_tup, v_lst, v_lstR, v_dsp, v_dnew, v_sub, v_slc, v_rev, ak_n, ak_s, v_attr, v_call, v_mk, v_bi, v_isi, v_get, v_lc, l_nil, l_star, l_cons, d_nil, d_cons, i_rng, i_enu, i_seq, s_fz', s_exp', s_asg', s_par', s_aug', s_app', s_ret', s_retN', s_ife', s_whl', s_for', s_brk', s_cnt', s_pass', s_raise', s_try', x_nil, x_cons, st_name, st_sub, st_attr, st_tup, sts_nil, sts_cons, stp_nil, stp_cons, fl_nil, fl_cons, fk_nx, fk_ct, fk_bk, fk_rt, fk_er, tv_nx, tv_rt, tv_er, p_addi, p_adds, p_addt, p_addl, p_sub, p_muli, p_mull, p_mult, p_fdv, p_mod, p_pow, p_aadd, p_asub, q_lt, q_le, q_gt, q_ge, q_eq, q_ne, q_is, q_isn, q_in, q_nin, a_bl, r_l, r_t, m_l, m_t, sb_t, sb_l, sb_k, sb_s, sb_d, df_int, df_str, df_tup, df_lst, df_ktup, df_dct, df_obj, df_scr, df_bl, df_non, df_ref, bi_len_l, bi_len_t, bi_len_k, bi_len_s, bi_len_x, bi_len_d, bi_int_i, bi_int_b, bi_str, bi_max, bi_min, bi_all, bi_sum, bi_tup_l, bi_tup_t, bi_lst_l, bi_lst_t, bi_dict, pt_lst, pt_dct, pt_obj, pt_f, pt_m, rg_i, sa_t, sa_l, gv_d, ob_o, bt_n, bt_t, bts_n, bts_c, fg_c, at_o, ty_non, ty_bl, ty_int, ty_str, ty_tup, ty_lst, ty_ktup, ty_dct, ty_scr, ty_obj, tys_n, tys_c, ik_bl, ik_int, ik_str, ik_tup, ik_lst, ik_ktup, ik_dct, ik_scr, ik_non, ik_obj, lc_nil, lc_cons, wp_n, wp_c, oi_n, oi_i, sl_t, sl_l, ns_var, ns_peek, ns_con, ns_glo, ns_bop, ns_neg, ns_cmp, ns_chain, ns_and, ns_or, ns_not, ns_ite, ns_tup, ns_lst, ns_lstR, ns_dsp, ns_dnew, ns_sub, ns_slc, ns_rev, ns_attr, ns_prop, ns_call, ns_mk, ns_meth, ns_bi, ns_isi, ns_get, ns_lc, ns_lc2, ns_dc, ns_rng, ns_enu, ns_seq, ex_var, ex_con, ex_glo, ex_bop, ex_neg, ex_cmp, ex_chain, ex_and, ex_or, ex_not, ex_ite, ex_tup, ex_lst, ex_lstR, ex_dsp, ex_dnew, ex_sub, ex_slc, ex_rev, ex_attr, ex_prop, ex_call, ex_mk, ex_meth, ex_bi, ex_isi, ex_get, ex_lc, ex_lc2, ex_dc, ex_rng, ex_enu, ex_seq, ex_peek, es_e, es_v, es_o, fz_s, fz_o, fz_v, fz_e, pl_p, ps_o, ps_c, pu_s, pu_c, pus_o, puc_s, pur_s, pur_c, il_s, il_c, ils_o, ilc_l, sp_l, ss_l, ss_d, sf_o, ft_n, lt_n, isf_var, isf_peek, isf_con, isf_glo, isf_bop, isf_neg, isf_cmp, isf_chain, isf_and, isf_or, isf_not, isf_ite, isf_tup, isf_lst, isf_lstR, isf_dsp, isf_dnew, isf_sub, isf_slc, isf_rev, isf_attr, isf_prop, isf_call, isf_mk, isf_meth, isf_isi, isf_get, isf_lc, isf_lc2, isf_dc, isf_rng, isf_enu, isf_seq, isf_bi_len, isf_bi_int, isf_bi_str, isf_bi_max, isf_bi_min, isf_bi_all, isf_bi_sum, isf_bi_tuple, isf_bi_list, isf_bi_dict, isf_bi_repr, isf_bi_sorted, xh_nil, xh_cons, hk_nx, hk_bk, hk_ct, hk_rt, hn_n, ne_nil, ne_val, ne_own, ne_emp, ax_c, ax_f, List.foldl_cons, List.foldl_nil, List.getElem?_cons_zero, List.getElem?_cons_succ, List.set_cons_zero, List.set_cons_succ, if_true, if_false, ite_true, ite_false, reduceIte, reduceCtorEq, List.length_cons, List.length_nil, List.map_cons, List.map_nil, List.zip_cons_cons, List.zip_nil_left, Option.map_some, Option.map_none, Option.getD_some, Option.getD_none, Option.bind_some, and_true, true_and, and_self, Bool.not_true, Bool.not_false, Bool.or_true, Bool.or_false, Bool.true_or, Bool.false_or, Bool.and_true, Bool.true_and, Bool.and_false, Bool.false_and, decide_true, decide_false, Bool.false_eq_true, z0, scr_eq, List.isEmpty_nil, e3, Nat.reduceAdd, z2]
    exact ⟨ns, e1, e2, rfl⟩
  · have he : cs.isEmpty = false := by cases cs; (simp at hi); rfl
    obtain ⟨ns, e1, e2, e3⟩ := numbers k cs[i] i ⟨by omega, by omega⟩ n hn h
    simp only [w_ok, w_err, w_stk, o_ok, o_err, o_stk, t_nx, t_bk, t_ct, t_rt, t_er, t_stk, opt_s, opt_n, c_ok, c_stk, ce_nx, ce_rt, ce_er, ie_nx, ie_er, v_con, slV_v, slP_v, slP_o, v_var, v_peek, v_glo, v_bop, v_neg, neg_i, v_cmp, v_chain, v_and, v_or, v_not, v_ite, v_tup, v_lst, v_lstR, v_dsp, v_dnew, v_sub, v_slc, v_rev, ak_n, ak_s, v_attr, v_call, v_mk, v_bi, v_isi, v_get, v_lc, l_nil, l_star, l_cons, d_nil, d_cons, i_rng, i_enu, i_seq, s_fz', s_exp', s_asg', s_par', s_aug', s_app', s_ret', s_retN', s_ife', s_whl', s_for', s_brk', s_cnt', s_pass', s_raise', s_try', x_nil, x_cons, st_name, st_sub, st_attr, st_tup, sts_nil, sts_cons, stp_nil, stp_cons, fl_nil, fl_cons, fk_nx, fk_ct, fk_bk, fk_rt, fk_er, tv_nx, tv_rt, tv_er, p_addi, p_adds, p_addt, p_addl, p_sub, p_muli, p_mull, p_mult, p_fdv, p_mod, p_pow, p_aadd, p_asub, q_lt, q_le, q_gt, q_ge, q_eq, q_ne, q_is, q_isn, q_in, q_nin, a_bl, r_l, r_t, m_l, m_t, sb_t, sb_l, sb_k, sb_s, sb_d, df_int, df_str, df_tup, df_lst, df_ktup, df_dct, df_obj, df_scr, df_bl, df_non, df_ref, bi_len_l, bi_len_t, bi_len_k, bi_len_s, bi_len_x, bi_len_d, bi_int_i, bi_int_b, bi_str, bi_max, bi_min, bi_all, bi_sum, bi_tup_l, bi_tup_t, bi_lst_l, bi_lst_t, bi_dict, pt_lst, pt_dct, pt_obj, pt_f, pt_m, rg_i, sa_t, sa_l, gv_d, ob_o, bt_n, bt_t, bts_n, bts_c, fg_c, at_o, ty_non, ty_bl, ty_int, ty_str, ty_tup, ty_lst, ty_ktup, ty_dct, ty_scr, ty_obj, tys_n, tys_c, ik_bl, ik_int, ik_str, ik_tup, ik_lst, ik_ktup, ik_dct, ik_scr, ik_non, ik_obj, lc_nil, lc_cons, wp_n, wp_c, oi_n, oi_i, sl_t, sl_l, ns_var, ns_peek, ns_con, ns_glo, ns_bop, ns_neg, ns_cmp, ns_chain, ns_and, ns_or, ns_not, ns_ite, ns_tup, ns_lst, ns_lstR, ns_dsp, ns_dnew, ns_sub, ns_slc, ns_rev, ns_attr, ns_prop, ns_call, ns_mk, ns_meth, ns_bi, ns_isi, ns_get, ns_lc, ns_lc2, ns_dc, ns_rng, ns_enu, ns_seq, ex_var, ex_con, ex_glo, ex_bop, ex_neg, ex_cmp, ex_chain, ex_and, ex_or, ex_not, ex_ite, ex_tup, ex_lst, ex_lstR, ex_dsp, ex_dnew, ex_sub, ex_slc, ex_rev, ex_attr, ex_prop, ex_call, ex_mk, ex_meth, ex_bi, ex_isi, ex_get, ex_lc, ex_lc2, ex_dc, ex_rng, ex_enu, ex_seq, ex_peek, es_e, es_v, es_o, fz_s, fz_o, fz_v, fz_e, pl_p, ps_o, ps_c, pu_s, pu_c, pus_o, puc_s, pur_s, pur_c, il_s, il_c, ils_o, ilc_l, sp_l, ss_l, ss_d, sf_o, ft_n, lt_n, isf_var, isf_peek, isf_con, isf_glo, isf_bop, isf_neg, isf_cmp, isf_chain, isf_and, isf_or, isf_not, isf_ite, isf_tup, isf_lst, isf_lstR, isf_dsp, isf_dnew, isf_sub, isf_slc, isf_rev, isf_attr, isf_prop, isf_call, isf_mk, isf_meth, isf_isi, isf_get, isf_lc, isf_lc2, isf_dc, isf_rng, isf_enu, isf_seq, isf_bi_len, isf_bi_int, isf_bi_str, isf_bi_max, isf_bi_min, isf_bi_all, isf_bi_sum, isf_bi_tuple, isf_bi_list, isf_bi_dict, isf_bi_repr, isf_bi_sorted, xh_nil, xh_cons, hk_nx, hk_bk, hk_ct, hk_rt, hn_n, ne_nil, ne_val, ne_own, ne_emp, ax_c, ax_f, List.foldl_cons, List.foldl_nil, List.getElem?_cons_zero, List.getElem?_cons_succ, List.set_cons_zero, List.set_cons_succ, if_true, if_false, ite_true, ite_false, reduceIte, reduceCtorEq, List.length_cons, List.length_nil, List.map_cons, List.map_nil, List.zip_cons_cons, List.zip_nil_left, Option.map_some, Option.map_none, Option.getD_some, Option.getD_none, Option.bind_some, and_true, true_and, and_self, Bool.not_true, Bool.not_false, Bool.or_true, Bool.or_false, Bool.true_or, Bool.false_or, Bool.and_true, Bool.true_and, Bool.and_false, Bool.false_and, decide_true, decide_false, Bool.false_eq_true, z0, scr_eq, he, at_n hi, e3, Nat.reduceAdd, z2]
    exact ⟨ns, e1, e2, rfl⟩
theorem opened_pool {h : AH} {ns : List Int} {a : Nat} : Pool (h ++ [.lst [.lst (ns.map .int), .int a]]) h.length ns a := by
  unfold Pool
  simp
theorem at_small {xs : List AV} {d : Int} (h1 : 0 ≤ d) (h2 : d < xs.length) : ∃ v, v ∈ xs ∧ L2.atI xs d = some v := by
  obtain ⟨i, rfl⟩ := Int.eq_ofNat_of_zero_le h1
  have hi : i < xs.length := by omega
  exact ⟨_, List.getElem_mem hi, at_n hi⟩
/-- drawn bits -/
theorem bits (k : Nat) {h : AH} {n : Nat} {ns : List Int} {a d : Nat} (p : Pool h n ns a) (hd : d ≤ 1000) : ∃ (bs : List Int) (b : Nat), bs.length = d ∧ (∀ x ∈ bs, x = 0 ∨ x = 1) ∧
    calA Pr (k + 2) 50 [.ref n, .int d] h = .ok (.tup (bs.map .int)) (poolH h n ns b) := by
  rw [u__law_bits]
  unfold B__law_bits
  have z0 : szOk 0 = true := by decide
  have z4 : szOk 4 = true := by decide
  have s1 : smallI 0 = true := by decide
  have s2 : smallI (d : Int) = true := by unfold smallI; rw [decide_eq_true_eq]; omega
  obtain ⟨k1, k2⟩ := drawn_lt (ns := ns) (a := a) (m := 4) (by omega)
  simp only [w_ok, w_err, w_stk, o_ok, o_err, o_stk, t_nx, t_bk, t_ct, t_rt, t_er, t_stk, opt_s, opt_n, c_ok, c_stk, ce_nx, ce_rt, ce_er, ie_nx, ie_er, v_con, slV_v, slP_v, slP_o, v_var, v_peek, v_glo, v_bop, v_neg, neg_i, v_cmp, v_chain, v_and, v_or, v_not, v_ite, v_tup, v_lst, v_lstR, v_dsp, v_dnew, v_sub, v_slc, v_rev, ak_n, ak_s, v_attr, v_call, v_mk, v_bi, v_isi, v_get, v_lc, l_nil, l_star, l_cons, d_nil, d_cons, i_rng, i_enu, i_seq, s_fz', s_exp', s_asg', s_par', s_aug', s_app', s_ret', s_retN', s_ife', s_whl', s_for', s_brk', s_cnt', s_pass', s_raise', s_try', x_nil, x_cons, st_name, st_sub, st_attr, st_tup, sts_nil, sts_cons, stp_nil, stp_cons, fl_nil, fl_cons, fk_nx, fk_ct, fk_bk, fk_rt, fk_er, tv_nx, tv_rt, tv_er, p_addi, p_adds, p_addt, p_addl, p_sub, p_muli, p_mull, p_mult, p_fdv, p_mod, p_pow, p_aadd, p_asub, q_lt, q_le, q_gt, q_ge, q_eq, q_ne, q_is, q_isn, q_in, q_nin, a_bl, r_l, r_t, m_l, m_t, sb_t, sb_l, sb_k, sb_s, sb_d, df_int, df_str, df_tup, df_lst, df_ktup, df_dct, df_obj, df_scr, df_bl, df_non, df_ref, bi_len_l, bi_len_t, bi_len_k, bi_len_s, bi_len_x, bi_len_d, bi_int_i, bi_int_b, bi_str, bi_max, bi_min, bi_all, bi_sum, bi_tup_l, bi_tup_t, bi_lst_l, bi_lst_t, bi_dict, pt_lst, pt_dct, pt_obj, pt_f, pt_m, rg_i, sa_t, sa_l, gv_d, ob_o, bt_n, bt_t, bts_n, bts_c, fg_c, at_o, ty_non, ty_bl, ty_int, ty_str, ty_tup, ty_lst, ty_ktup, ty_dct, ty_scr, ty_obj, tys_n, tys_c, ik_bl, ik_int, ik_str, ik_tup, ik_lst, ik_ktup, ik_dct, ik_scr, ik_non, ik_obj, lc_nil, lc_cons, wp_n, wp_c, oi_n, oi_i, sl_t, sl_l, ns_var, ns_peek, ns_con, ns_glo, ns_bop, ns_neg, ns_cmp, ns_chain, ns_and, ns_or, ns_not, ns_ite, ns_tup, ns_lst, ns_lstR, ns_dsp, ns_dnew, ns_sub, ns_slc, ns_rev, ns_attr, ns_prop, ns_call, ns_mk, ns_meth, ns_bi, ns_isi, ns_get, ns_lc, ns_lc2, ns_dc, ns_rng, ns_enu, ns_seq, ex_var, ex_con, ex_glo, ex_bop, ex_neg, ex_cmp, ex_chain, ex_and, ex_or, ex_not, ex_ite, ex_tup, ex_lst, ex_lstR, ex_dsp, ex_dnew, ex_sub, ex_slc, ex_rev, ex_attr, ex_prop, ex_call, ex_mk, ex_meth, ex_bi, ex_isi, ex_get, ex_lc, ex_lc2, ex_dc, ex_rng, ex_enu, ex_seq, ex_peek, es_e, es_v, es_o, fz_s, fz_o, fz_v, fz_e, pl_p, ps_o, ps_c, pu_s, pu_c, pus_o, puc_s, pur_s, pur_c, il_s, il_c, ils_o, ilc_l, sp_l, ss_l, ss_d, sf_o, ft_n, lt_n, isf_var, isf_peek, isf_con, isf_glo, isf_bop, isf_neg, isf_cmp, isf_chain, isf_and, isf_or, isf_not, isf_ite, isf_tup, isf_lst, isf_lstR, isf_dsp, isf_dnew, isf_sub, isf_slc, isf_rev, isf_attr, isf_prop, isf_call, isf_mk, isf_meth, isf_isi, isf_get, isf_lc, isf_lc2, isf_dc, isf_rng, isf_enu, isf_seq, isf_bi_len, isf_bi_int, isf_bi_str, isf_bi_max, isf_bi_min, isf_bi_all, isf_bi_sum, isf_bi_tuple, isf_bi_list, isf_bi_dict, isf_bi_repr, isf_bi_sorted, xh_nil, xh_cons, hk_nx, hk_bk, hk_ct, hk_rt, hn_n, ne_nil, ne_val, ne_own, ne_emp, ax_c, ax_f, List.foldl_cons, List.foldl_nil, List.getElem?_cons_zero, List.getElem?_cons_succ, List.set_cons_zero, List.set_cons_succ, if_true, if_false, ite_true, ite_false, reduceIte, reduceCtorEq, List.length_cons, List.length_nil, List.map_cons, List.map_nil, List.zip_cons_cons, List.zip_nil_left, Option.map_some, Option.map_none, Option.getD_some, Option.getD_none, Option.bind_some, and_true, true_and, and_self, Bool.not_true, Bool.not_false, Bool.or_true, Bool.or_false, Bool.true_or, Bool.false_or, Bool.and_true, Bool.true_and, Bool.and_false, Bool.false_and, decide_true, decide_false, Bool.false_eq_true, z0, s1, s2, draw k p (m := 4) (by omega), Int.sub_zero, Int.toNat_natCast]
  generalize hkind : drawn ns a 4 = kind at *
  generalize hF : forT Pr _ _ _ _ = F
  obtain ⟨σ', h', e, b, bs, s2, rfl, rfl, len, rg⟩ := forL_inv (f := F)
    (fun i σ h' => ∃ (b : Nat) (bs : List Int) (s2 : Sl), h' = poolH h n ns b ∧ σ = [.val (.ref n), .val (.int d), s2, .val (.int kind), .own (.lst (bs.map .int))] ∧ bs.length = i ∧ ∀ x ∈ bs, x = 0 ∨ x = 1) (rngL 0 d) 0 (σ := [.val (.ref n), .val (.int d), .emp, .val (.int kind), .own (.lst [])]) (h := poolH h n ns (a + 1))
    ⟨a + 1, [], .emp, rfl, rfl, rfl, fun _ z => nomatch z⟩ (by
      rintro i x σ h' hx ⟨b, bs, s2, rfl, rfl, len, rg⟩
      obtain ⟨rfl, hi⟩ := rngL_at hx
      have sz : szOk bs.length = true := by
        unfold szOk
        rw [decide_eq_true_eq]
        omega
      rw [← hF, ft_n]
      have pb : Pool (poolH h n ns b) n ns b := poolH_pool p
      obtain ⟨q1, q2⟩ := drawn_lt (ns := ns) (a := b) (m := 2) (by omega)
      have pc : Pool (poolH h n ns (b + 1)) n ns (b + 1) := poolH_pool p
      have pd : Pool (poolH h n ns (b + 1 + 1)) n ns (b + 1 + 1) := poolH_pool p
      have c2 : (decide ((0 : Int) < 2)) = true := by decide
      have dat_i : ∀ i : Int, dat (.int i) = some (.int i) := fun _ => rfl
      have eqi : ∀ i j : Int, eqAV (.int i) (.int j) = some (i == j) := fun i j => rfl
      simp only [w_ok, w_err, w_stk, o_ok, o_err, o_stk, t_nx, t_bk, t_ct, t_rt, t_er, t_stk, opt_s, opt_n, c_ok, c_stk, ce_nx, ce_rt, ce_er, ie_nx, ie_er, v_con, slV_v, slP_v, slP_o, v_var, v_peek, v_glo, v_bop, v_neg, neg_i, v_cmp, v_chain, v_and, v_or, v_not, v_ite, v_tup, v_lst, v_lstR, v_dsp, v_dnew, v_sub, v_slc, v_rev, ak_n, ak_s, v_attr, v_call, v_mk, v_bi, v_isi, v_get, v_lc, l_nil, l_star, l_cons, d_nil, d_cons, i_rng, i_enu, i_seq, s_fz', s_exp', s_asg', s_par', s_aug', s_app', s_ret', s_retN', s_ife', s_whl', s_for', s_brk', s_cnt', s_pass', s_raise', s_try', x_nil, x_cons, st_name, st_sub, st_attr, st_tup, sts_nil, sts_cons, stp_nil, stp_cons, fl_nil, fl_cons, fk_nx, fk_ct, fk_bk, fk_rt, fk_er, tv_nx, tv_rt, tv_er, p_addi, p_adds, p_addt, p_addl, p_sub, p_muli, p_mull, p_mult, p_fdv, p_mod, p_pow, p_aadd, p_asub, q_lt, q_le, q_gt, q_ge, q_eq, q_ne, q_is, q_isn, q_in, q_nin, a_bl, r_l, r_t, m_l, m_t, sb_t, sb_l, sb_k, sb_s, sb_d, df_int, df_str, df_tup, df_lst, df_ktup, df_dct, df_obj, df_scr, df_bl, df_non, df_ref, bi_len_l, bi_len_t, bi_len_k, bi_len_s, bi_len_x, bi_len_d, bi_int_i, bi_int_b, bi_str, bi_max, bi_min, bi_all, bi_sum, bi_tup_l, bi_tup_t, bi_lst_l, bi_lst_t, bi_dict, pt_lst, pt_dct, pt_obj, pt_f, pt_m, rg_i, sa_t, sa_l, gv_d, ob_o, bt_n, bt_t, bts_n, bts_c, fg_c, at_o, ty_non, ty_bl, ty_int, ty_str, ty_tup, ty_lst, ty_ktup, ty_dct, ty_scr, ty_obj, tys_n, tys_c, ik_bl, ik_int, ik_str, ik_tup, ik_lst, ik_ktup, ik_dct, ik_scr, ik_non, ik_obj, lc_nil, lc_cons, wp_n, wp_c, oi_n, oi_i, sl_t, sl_l, ns_var, ns_peek, ns_con, ns_glo, ns_bop, ns_neg, ns_cmp, ns_chain, ns_and, ns_or, ns_not, ns_ite, ns_tup, ns_lst, ns_lstR, ns_dsp, ns_dnew, ns_sub, ns_slc, ns_rev, ns_attr, ns_prop, ns_call, ns_mk, ns_meth, ns_bi, ns_isi, ns_get, ns_lc, ns_lc2, ns_dc, ns_rng, ns_enu, ns_seq, ex_var, ex_con, ex_glo, ex_bop, ex_neg, ex_cmp, ex_chain, ex_and, ex_or, ex_not, ex_ite, ex_tup, ex_lst, ex_lstR, ex_dsp, ex_dnew, ex_sub, ex_slc, ex_rev, ex_attr, ex_prop, ex_call, ex_mk, ex_meth, ex_bi, ex_isi, ex_get, ex_lc, ex_lc2, ex_dc, ex_rng, ex_enu, ex_seq, ex_peek, es_e, es_v, es_o, fz_s, fz_o, fz_v, fz_e, pl_p, ps_o, ps_c, pu_s, pu_c, pus_o, puc_s, pur_s, pur_c, il_s, il_c, ils_o, ilc_l, sp_l, ss_l, ss_d, sf_o, ft_n, lt_n, isf_var, isf_peek, isf_con, isf_glo, isf_bop, isf_neg, isf_cmp, isf_chain, isf_and, isf_or, isf_not, isf_ite, isf_tup, isf_lst, isf_lstR, isf_dsp, isf_dnew, isf_sub, isf_slc, isf_rev, isf_attr, isf_prop, isf_call, isf_mk, isf_meth, isf_isi, isf_get, isf_lc, isf_lc2, isf_dc, isf_rng, isf_enu, isf_seq, isf_bi_len, isf_bi_int, isf_bi_str, isf_bi_max, isf_bi_min, isf_bi_all, isf_bi_sum, isf_bi_tuple, isf_bi_list, isf_bi_dict, isf_bi_repr, isf_bi_sorted, xh_nil, xh_cons, hk_nx, hk_bk, hk_ct, hk_rt, hn_n, ne_nil, ne_val, ne_own, ne_emp, ax_c, ax_f, List.foldl_cons, List.foldl_nil, List.getElem?_cons_zero, List.getElem?_cons_succ, List.set_cons_zero, List.set_cons_succ, if_true, if_false, ite_true, ite_false, reduceIte, reduceCtorEq, List.length_cons, List.length_nil, List.map_cons, List.map_nil, List.zip_cons_cons, List.zip_nil_left, Option.map_some, Option.map_none, Option.getD_some, Option.getD_none, Option.bind_some, and_true, true_and, and_self, Bool.not_true, Bool.not_false, Bool.or_true, Bool.or_false, Bool.true_or, Bool.false_or, Bool.and_true, Bool.true_and, Bool.and_false, Bool.false_and, decide_true, decide_false, Bool.false_eq_true, draw k pb (m := 2) (by omega), draw k pc (m := 6) (by omega), draw k pd (m := 9) (by omega), eqi, c2, Nat.reduceAdd, z4, poolH_poolH]
      have hm : ∀ (v : AV), v ∈ [AV.int (drawn ns b 2), AV.int (if (drawn ns (b + 1) 6 == 0) = true then 1 else 0), AV.int ((0 + (i : Int)) % 2), AV.int (if decide (0 < drawn ns (b + 1 + 1) 9) = true then 1 else 0)] → ∃ z : Int, v = .int z ∧ (z = 0 ∨ z = 1) := by
        intro v hv
        simp only [List.mem_cons, List.not_mem_nil, or_false] at hv
        rcases hv with rfl | rfl | rfl | rfl
        · exact ⟨_, rfl, by omega⟩
        · refine ⟨_, rfl, ?_⟩
          split <;> omega
        · exact ⟨_, rfl, by omega⟩
        · refine ⟨_, rfl, ?_⟩
          split <;> omega
      generalize hL : [AV.int (drawn ns b 2), AV.int (if (drawn ns (b + 1) 6 == 0) = true then 1 else 0), AV.int ((0 + (i : Int)) % 2), AV.int (if decide (0 < drawn ns (b + 1 + 1) 9) = true then 1 else 0)] = L at *
      obtain ⟨v, v1, v2⟩ := at_small (xs := L) k1 (by rw [← hL]; exact k2)
      obtain ⟨z, rfl, z2⟩ := hm v v1
      simp only [w_ok, w_err, w_stk, o_ok, o_err, o_stk, t_nx, t_bk, t_ct, t_rt, t_er, t_stk, opt_s, opt_n, c_ok, c_stk, ce_nx, ce_rt, ce_er, ie_nx, ie_er, v_con, slV_v, slP_v, slP_o, v_var, v_peek, v_glo, v_bop, v_neg, neg_i, v_cmp, v_chain, v_and, v_or, v_not, v_ite, v_tup, v_lst, v_lstR, v_dsp, v_dnew, v_sub, v_slc, v_rev, ak_n, ak_s, v_attr, v_call, v_mk, v_bi, v_isi, v_get, v_lc, l_nil, l_star, l_cons, d_nil, d_cons, i_rng, i_enu, i_seq, s_fz', s_exp', s_asg', s_par', s_aug', s_app', s_ret', s_retN', s_ife', s_whl', s_for', s_brk', s_cnt', s_pass', s_raise', s_try', x_nil, x_cons, st_name, st_sub, st_attr, st_tup, sts_nil, sts_cons, stp_nil, stp_cons, fl_nil, fl_cons, fk_nx, fk_ct, fk_bk, fk_rt, fk_er, tv_nx, tv_rt, tv_er, p_addi, p_adds, p_addt, p_addl, p_sub, p_muli, p_mull, p_mult, p_fdv, p_mod, p_pow, p_aadd, p_asub, q_lt, q_le, q_gt, q_ge, q_eq, q_ne, q_is, q_isn, q_in, q_nin, a_bl, r_l, r_t, m_l, m_t, sb_t, sb_l, sb_k, sb_s, sb_d, df_int, df_str, df_tup, df_lst, df_ktup, df_dct, df_obj, df_scr, df_bl, df_non, df_ref, bi_len_l, bi_len_t, bi_len_k, bi_len_s, bi_len_x, bi_len_d, bi_int_i, bi_int_b, bi_str, bi_max, bi_min, bi_all, bi_sum, bi_tup_l, bi_tup_t, bi_lst_l, bi_lst_t, bi_dict, pt_lst, pt_dct, pt_obj, pt_f, pt_m, rg_i, sa_t, sa_l, gv_d, ob_o, bt_n, bt_t, bts_n, bts_c, fg_c, at_o, ty_non, ty_bl, ty_int, ty_str, ty_tup, ty_lst, ty_ktup, ty_dct, ty_scr, ty_obj, tys_n, tys_c, ik_bl, ik_int, ik_str, ik_tup, ik_lst, ik_ktup, ik_dct, ik_scr, ik_non, ik_obj, lc_nil, lc_cons, wp_n, wp_c, oi_n, oi_i, sl_t, sl_l, ns_var, ns_peek, ns_con, ns_glo, ns_bop, ns_neg, ns_cmp, ns_chain, ns_and, ns_or, ns_not, ns_ite, ns_tup, ns_lst, ns_lstR, ns_dsp, ns_dnew, ns_sub, ns_slc, ns_rev, ns_attr, ns_prop, ns_call, ns_mk, ns_meth, ns_bi, ns_isi, ns_get, ns_lc, ns_lc2, ns_dc, ns_rng, ns_enu, ns_seq, ex_var, ex_con, ex_glo, ex_bop, ex_neg, ex_cmp, ex_chain, ex_and, ex_or, ex_not, ex_ite, ex_tup, ex_lst, ex_lstR, ex_dsp, ex_dnew, ex_sub, ex_slc, ex_rev, ex_attr, ex_prop, ex_call, ex_mk, ex_meth, ex_bi, ex_isi, ex_get, ex_lc, ex_lc2, ex_dc, ex_rng, ex_enu, ex_seq, ex_peek, es_e, es_v, es_o, fz_s, fz_o, fz_v, fz_e, pl_p, ps_o, ps_c, pu_s, pu_c, pus_o, puc_s, pur_s, pur_c, il_s, il_c, ils_o, ilc_l, sp_l, ss_l, ss_d, sf_o, ft_n, lt_n, isf_var, isf_peek, isf_con, isf_glo, isf_bop, isf_neg, isf_cmp, isf_chain, isf_and, isf_or, isf_not, isf_ite, isf_tup, isf_lst, isf_lstR, isf_dsp, isf_dnew, isf_sub, isf_slc, isf_rev, isf_attr, isf_prop, isf_call, isf_mk, isf_meth, isf_isi, isf_get, isf_lc, isf_lc2, isf_dc, isf_rng, isf_enu, isf_seq, isf_bi_len, isf_bi_int, isf_bi_str, isf_bi_max, isf_bi_min, isf_bi_all, isf_bi_sum, isf_bi_tuple, isf_bi_list, isf_bi_dict, isf_bi_repr, isf_bi_sorted, xh_nil, xh_cons, hk_nx, hk_bk, hk_ct, hk_rt, hn_n, ne_nil, ne_val, ne_own, ne_emp, ax_c, ax_f, List.foldl_cons, List.foldl_nil, List.getElem?_cons_zero, List.getElem?_cons_succ, List.set_cons_zero, List.set_cons_succ, if_true, if_false, ite_true, ite_false, reduceIte, reduceCtorEq, List.length_cons, List.length_nil, List.map_cons, List.map_nil, List.zip_cons_cons, List.zip_nil_left, Option.map_some, Option.map_none, Option.getD_some, Option.getD_none, Option.bind_some, and_true, true_and, and_self, Bool.not_true, Bool.not_false, Bool.or_true, Bool.or_false, Bool.true_or, Bool.false_or, Bool.and_true, Bool.true_and, Bool.and_false, Bool.false_and, decide_true, decide_false, Bool.false_eq_true, v2, List.length_map, sz]
      refine ⟨_, _, rfl, b + 1 + 1 + 1, bs ++ [z], _, rfl, by simp; rfl, by simp [len], fun x hx => ?_⟩
      rcases List.mem_append.mp hx with hx | hx
      · exact rg x hx
      · rw [List.mem_singleton.mp hx]
        exact z2)
  rw [e]
  simp only [w_ok, w_err, w_stk, o_ok, o_err, o_stk, t_nx, t_bk, t_ct, t_rt, t_er, t_stk, opt_s, opt_n, c_ok, c_stk, ce_nx, ce_rt, ce_er, ie_nx, ie_er, v_con, slV_v, slP_v, slP_o, v_var, v_peek, v_glo, v_bop, v_neg, neg_i, v_cmp, v_chain, v_and, v_or, v_not, v_ite, v_tup, v_lst, v_lstR, v_dsp, v_dnew, v_sub, v_slc, v_rev, ak_n, ak_s, v_attr, v_call, v_mk, v_bi, v_isi, v_get, v_lc, l_nil, l_star, l_cons, d_nil, d_cons, i_rng, i_enu, i_seq, s_fz', s_exp', s_asg', s_par', s_aug', s_app', s_ret', s_retN', s_ife', s_whl', s_for', s_brk', s_cnt', s_pass', s_raise', s_try', x_nil, x_cons, st_name, st_sub, st_attr, st_tup, sts_nil, sts_cons, stp_nil, stp_cons, fl_nil, fl_cons, fk_nx, fk_ct, fk_bk, fk_rt, fk_er, tv_nx, tv_rt, tv_er, p_addi, p_adds, p_addt, p_addl, p_sub, p_muli, p_mull, p_mult, p_fdv, p_mod, p_pow, p_aadd, p_asub, q_lt, q_le, q_gt, q_ge, q_eq, q_ne, q_is, q_isn, q_in, q_nin, a_bl, r_l, r_t, m_l, m_t, sb_t, sb_l, sb_k, sb_s, sb_d, df_int, df_str, df_tup, df_lst, df_ktup, df_dct, df_obj, df_scr, df_bl, df_non, df_ref, bi_len_l, bi_len_t, bi_len_k, bi_len_s, bi_len_x, bi_len_d, bi_int_i, bi_int_b, bi_str, bi_max, bi_min, bi_all, bi_sum, bi_tup_l, bi_tup_t, bi_lst_l, bi_lst_t, bi_dict, pt_lst, pt_dct, pt_obj, pt_f, pt_m, rg_i, sa_t, sa_l, gv_d, ob_o, bt_n, bt_t, bts_n, bts_c, fg_c, at_o, ty_non, ty_bl, ty_int, ty_str, ty_tup, ty_lst, ty_ktup, ty_dct, ty_scr, ty_obj, tys_n, tys_c, ik_bl, ik_int, ik_str, ik_tup, ik_lst, ik_ktup, ik_dct, ik_scr, ik_non, ik_obj, lc_nil, lc_cons, wp_n, wp_c, oi_n, oi_i, sl_t, sl_l, ns_var, ns_peek, ns_con, ns_glo, ns_bop, ns_neg, ns_cmp, ns_chain, ns_and, ns_or, ns_not, ns_ite, ns_tup, ns_lst, ns_lstR, ns_dsp, ns_dnew, ns_sub, ns_slc, ns_rev, ns_attr, ns_prop, ns_call, ns_mk, ns_meth, ns_bi, ns_isi, ns_get, ns_lc, ns_lc2, ns_dc, ns_rng, ns_enu, ns_seq, ex_var, ex_con, ex_glo, ex_bop, ex_neg, ex_cmp, ex_chain, ex_and, ex_or, ex_not, ex_ite, ex_tup, ex_lst, ex_lstR, ex_dsp, ex_dnew, ex_sub, ex_slc, ex_rev, ex_attr, ex_prop, ex_call, ex_mk, ex_meth, ex_bi, ex_isi, ex_get, ex_lc, ex_lc2, ex_dc, ex_rng, ex_enu, ex_seq, ex_peek, es_e, es_v, es_o, fz_s, fz_o, fz_v, fz_e, pl_p, ps_o, ps_c, pu_s, pu_c, pus_o, puc_s, pur_s, pur_c, il_s, il_c, ils_o, ilc_l, sp_l, ss_l, ss_d, sf_o, ft_n, lt_n, isf_var, isf_peek, isf_con, isf_glo, isf_bop, isf_neg, isf_cmp, isf_chain, isf_and, isf_or, isf_not, isf_ite, isf_tup, isf_lst, isf_lstR, isf_dsp, isf_dnew, isf_sub, isf_slc, isf_rev, isf_attr, isf_prop, isf_call, isf_mk, isf_meth, isf_isi, isf_get, isf_lc, isf_lc2, isf_dc, isf_rng, isf_enu, isf_seq, isf_bi_len, isf_bi_int, isf_bi_str, isf_bi_max, isf_bi_min, isf_bi_all, isf_bi_sum, isf_bi_tuple, isf_bi_list, isf_bi_dict, isf_bi_repr, isf_bi_sorted, xh_nil, xh_cons, hk_nx, hk_bk, hk_ct, hk_rt, hn_n, ne_nil, ne_val, ne_own, ne_emp, ax_c, ax_f, List.foldl_cons, List.foldl_nil, List.getElem?_cons_zero, List.getElem?_cons_succ, List.set_cons_zero, List.set_cons_succ, if_true, if_false, ite_true, ite_false, reduceIte, reduceCtorEq, List.length_cons, List.length_nil, List.map_cons, List.map_nil, List.zip_cons_cons, List.zip_nil_left, Option.map_some, Option.map_none, Option.getD_some, Option.getD_none, Option.bind_some, and_true, true_and, and_self, Bool.not_true, Bool.not_false, Bool.or_true, Bool.or_false, Bool.true_or, Bool.false_or, Bool.and_true, Bool.true_and, Bool.and_false, Bool.false_and, decide_true, decide_false, Bool.false_eq_true]
  rw [rngL_len, Nat.zero_add] at len
  exact ⟨bs, b, len, rg, rfl⟩

end LawT
set_option maxHeartbeats 0
namespace LawT
open PySem AM
def shares : List AV := [.tup [.int 1, .int 2], .tup [.int 1, .int 2], .tup [.int 1, .int 3], .tup [.int 3, .int 4], .tup [.int 1, .int 1000], .tup [.int 999, .int 1000], .tup [.int 2, .int 7]]
def kinds : List AV := [.str (Str.ofString "one"), .str (Str.ofString "half")]
def modelV (d : Int) (kd sh : AV) : AV := .obj 0 [(0, .int d), (1, kd), (2, sh)]
theorem share_ok (k : Nat) (h : AH) {sh : AV} (hs : sh ∈ shares) : calA Pr (k + 4) 11 [sh] h = .ok (.bl true) h := by
  unfold shares at hs
  simp only [List.mem_cons, List.not_mem_nil, or_false] at hs
  rcases hs with rfl | rfl | rfl | rfl | rfl | rfl | rfl <;> kernel_rfl
theorem kind_ok (k : Nat) (h : AH) {kd : AV} (hs : kd ∈ kinds) : calA Pr (k + 1) 10 [kd] h = .ok (.bl true) h := by
  unfold kinds at hs
  simp only [List.mem_cons, List.not_mem_nil, or_false] at hs
  rcases hs with rfl | rfl <;> kernel_rfl
theorem count_ok (k : Nat) (h : AH) {i l m : Int} (h1 : l ≤ i) (h2 : i ≤ m) : calA Pr (k + 1) 0 [.int i, .int l, .int m] h = .ok (.bl true) h := by
  rw [u_is_count]
  unfold B_is_count
  have c : decide (Ty.bool = Ty.int) = false := by decide
  simp only [w_ok, w_err, w_stk, o_ok, o_err, o_stk, t_nx, t_bk, t_ct, t_rt, t_er, t_stk, opt_s, opt_n, c_ok, c_stk, ce_nx, ce_rt, ce_er, ie_nx, ie_er, v_con, slV_v, slP_v, slP_o, v_var, v_peek, v_glo, v_bop, v_neg, neg_i, v_cmp, v_chain, v_and, v_or, v_not, v_ite, v_tup, v_lst, v_lstR, v_dsp, v_dnew, v_sub, v_slc, v_rev, ak_n, ak_s, v_attr, v_call, v_mk, v_bi, v_isi, v_get, v_lc, l_nil, l_star, l_cons, d_nil, d_cons, i_rng, i_enu, i_seq, s_fz', s_exp', s_asg', s_par', s_aug', s_app', s_ret', s_retN', s_ife', s_whl', s_for', s_brk', s_cnt', s_pass', s_raise', s_try', x_nil, x_cons, st_name, st_sub, st_attr, st_tup, sts_nil, sts_cons, stp_nil, stp_cons, fl_nil, fl_cons, fk_nx, fk_ct, fk_bk, fk_rt, fk_er, tv_nx, tv_rt, tv_er, p_addi, p_adds, p_addt, p_addl, p_sub, p_muli, p_mull, p_mult, p_fdv, p_mod, p_pow, p_aadd, p_asub, q_lt, q_le, q_gt, q_ge, q_eq, q_ne, q_is, q_isn, q_in, q_nin, a_bl, r_l, r_t, m_l, m_t, sb_t, sb_l, sb_k, sb_s, sb_d, df_int, df_str, df_tup, df_lst, df_ktup, df_dct, df_obj, df_scr, df_bl, df_non, df_ref, bi_len_l, bi_len_t, bi_len_k, bi_len_s, bi_len_x, bi_len_d, bi_int_i, bi_int_b, bi_str, bi_max, bi_min, bi_all, bi_sum, bi_tup_l, bi_tup_t, bi_lst_l, bi_lst_t, bi_dict, pt_lst, pt_dct, pt_obj, pt_f, pt_m, rg_i, sa_t, sa_l, gv_d, ob_o, bt_n, bt_t, bts_n, bts_c, fg_c, at_o, ty_non, ty_bl, ty_int, ty_str, ty_tup, ty_lst, ty_ktup, ty_dct, ty_scr, ty_obj, tys_n, tys_c, ik_bl, ik_int, ik_str, ik_tup, ik_lst, ik_ktup, ik_dct, ik_scr, ik_non, ik_obj, lc_nil, lc_cons, wp_n, wp_c, oi_n, oi_i, sl_t, sl_l, ns_var, ns_peek, ns_con, ns_glo, ns_bop, ns_neg, ns_cmp, ns_chain, ns_and, ns_or, ns_not, ns_ite, ns_tup, ns_lst, ns_lstR, ns_dsp, ns_dnew, ns_sub, ns_slc, ns_rev, ns_attr, ns_prop, ns_call, ns_mk, ns_meth, ns_bi, ns_isi, ns_get, ns_lc, ns_lc2, ns_dc, ns_rng, ns_enu, ns_seq, ex_var, ex_con, ex_glo, ex_bop, ex_neg, ex_cmp, ex_chain, ex_and, ex_or, ex_not, ex_ite, ex_tup, ex_lst, ex_lstR, ex_dsp, ex_dnew, ex_sub, ex_slc, ex_rev, ex_attr, ex_prop, ex_call, ex_mk, ex_meth, ex_bi, ex_isi, ex_get, ex_lc, ex_lc2, ex_dc, ex_rng, ex_enu, ex_seq, ex_peek, es_e, es_v, es_o, fz_s, fz_o, fz_v, fz_e, pl_p, ps_o, ps_c, pu_s, pu_c, pus_o, puc_s, pur_s, pur_c, il_s, il_c, ils_o, ilc_l, sp_l, ss_l, ss_d, sf_o, ft_n, lt_n, isf_var, isf_peek, isf_con, isf_glo, isf_bop, isf_neg, isf_cmp, isf_chain, isf_and, isf_or, isf_not, isf_ite, isf_tup, isf_lst, isf_lstR, isf_dsp, isf_dnew, isf_sub, isf_slc, isf_rev, isf_attr, isf_prop, isf_call, isf_mk, isf_meth, isf_isi, isf_get, isf_lc, isf_lc2, isf_dc, isf_rng, isf_enu, isf_seq, isf_bi_len, isf_bi_int, isf_bi_str, isf_bi_max, isf_bi_min, isf_bi_all, isf_bi_sum, isf_bi_tuple, isf_bi_list, isf_bi_dict, isf_bi_repr, isf_bi_sorted, xh_nil, xh_cons, hk_nx, hk_bk, hk_ct, hk_rt, hn_n, ne_nil, ne_val, ne_own, ne_emp, ax_c, ax_f, List.foldl_cons, List.foldl_nil, List.getElem?_cons_zero, List.getElem?_cons_succ, List.set_cons_zero, List.set_cons_succ, if_true, if_false, ite_true, ite_false, reduceIte, reduceCtorEq, List.length_cons, List.length_nil, List.map_cons, List.map_nil, List.zip_cons_cons, List.zip_nil_left, Option.map_some, Option.map_none, Option.getD_some, Option.getD_none, Option.bind_some, and_true, true_and, and_self, Bool.not_true, Bool.not_false, Bool.or_true, Bool.or_false, Bool.true_or, Bool.false_or, Bool.and_true, Bool.true_and, Bool.and_false, Bool.false_and, decide_true, decide_false, Bool.false_eq_true, h1, h2, c]
theorem cons_depth : Pr.cons[2]? = some (.int 4) := by rfl
theorem ncls : decide (0 < Pr.cls.length) = true := by rfl
theorem model_ok (k : Nat) (h : AH) {d : Int} {kd sh : AV} (h1 : 0 ≤ d) (h2 : d ≤ 4) (hk : kd ∈ kinds) (hs : sh ∈ shares) : iniA Pr (k + 5) 0 17 [.int d, kd, sh] h = .ok (modelV d kd sh) h := by
  rw [u_Model___init__]
  unfold B_Model___init__
  have a1 : decide (0 < Pr.cls.length ∧ (0 : Nat) < 900) = true := by rfl
  have a2 : decide (0 < Pr.cls.length ∧ (1 : Nat) < 900) = true := by rfl
  have a3 : decide (0 < Pr.cls.length ∧ (2 : Nat) < 900) = true := by rfl
  simp only [w_ok, w_err, w_stk, o_ok, o_err, o_stk, t_nx, t_bk, t_ct, t_rt, t_er, t_stk, opt_s, opt_n, c_ok, c_stk, ce_nx, ce_rt, ce_er, ie_nx, ie_er, v_con, slV_v, slP_v, slP_o, v_var, v_peek, v_glo, v_bop, v_neg, neg_i, v_cmp, v_chain, v_and, v_or, v_not, v_ite, v_tup, v_lst, v_lstR, v_dsp, v_dnew, v_sub, v_slc, v_rev, ak_n, ak_s, v_attr, v_call, v_mk, v_bi, v_isi, v_get, v_lc, l_nil, l_star, l_cons, d_nil, d_cons, i_rng, i_enu, i_seq, s_fz', s_exp', s_asg', s_par', s_aug', s_app', s_ret', s_retN', s_ife', s_whl', s_for', s_brk', s_cnt', s_pass', s_raise', s_try', x_nil, x_cons, st_name, st_sub, st_attr, st_tup, sts_nil, sts_cons, stp_nil, stp_cons, fl_nil, fl_cons, fk_nx, fk_ct, fk_bk, fk_rt, fk_er, tv_nx, tv_rt, tv_er, p_addi, p_adds, p_addt, p_addl, p_sub, p_muli, p_mull, p_mult, p_fdv, p_mod, p_pow, p_aadd, p_asub, q_lt, q_le, q_gt, q_ge, q_eq, q_ne, q_is, q_isn, q_in, q_nin, a_bl, r_l, r_t, m_l, m_t, sb_t, sb_l, sb_k, sb_s, sb_d, df_int, df_str, df_tup, df_lst, df_ktup, df_dct, df_obj, df_scr, df_bl, df_non, df_ref, bi_len_l, bi_len_t, bi_len_k, bi_len_s, bi_len_x, bi_len_d, bi_int_i, bi_int_b, bi_str, bi_max, bi_min, bi_all, bi_sum, bi_tup_l, bi_tup_t, bi_lst_l, bi_lst_t, bi_dict, pt_lst, pt_dct, pt_obj, pt_f, pt_m, rg_i, sa_t, sa_l, gv_d, ob_o, bt_n, bt_t, bts_n, bts_c, fg_c, at_o, ty_non, ty_bl, ty_int, ty_str, ty_tup, ty_lst, ty_ktup, ty_dct, ty_scr, ty_obj, tys_n, tys_c, ik_bl, ik_int, ik_str, ik_tup, ik_lst, ik_ktup, ik_dct, ik_scr, ik_non, ik_obj, lc_nil, lc_cons, wp_n, wp_c, oi_n, oi_i, sl_t, sl_l, ns_var, ns_peek, ns_con, ns_glo, ns_bop, ns_neg, ns_cmp, ns_chain, ns_and, ns_or, ns_not, ns_ite, ns_tup, ns_lst, ns_lstR, ns_dsp, ns_dnew, ns_sub, ns_slc, ns_rev, ns_attr, ns_prop, ns_call, ns_mk, ns_meth, ns_bi, ns_isi, ns_get, ns_lc, ns_lc2, ns_dc, ns_rng, ns_enu, ns_seq, ex_var, ex_con, ex_glo, ex_bop, ex_neg, ex_cmp, ex_chain, ex_and, ex_or, ex_not, ex_ite, ex_tup, ex_lst, ex_lstR, ex_dsp, ex_dnew, ex_sub, ex_slc, ex_rev, ex_attr, ex_prop, ex_call, ex_mk, ex_meth, ex_bi, ex_isi, ex_get, ex_lc, ex_lc2, ex_dc, ex_rng, ex_enu, ex_seq, ex_peek, es_e, es_v, es_o, fz_s, fz_o, fz_v, fz_e, pl_p, ps_o, ps_c, pu_s, pu_c, pus_o, puc_s, pur_s, pur_c, il_s, il_c, ils_o, ilc_l, sp_l, ss_l, ss_d, sf_o, ft_n, lt_n, isf_var, isf_peek, isf_con, isf_glo, isf_bop, isf_neg, isf_cmp, isf_chain, isf_and, isf_or, isf_not, isf_ite, isf_tup, isf_lst, isf_lstR, isf_dsp, isf_dnew, isf_sub, isf_slc, isf_rev, isf_attr, isf_prop, isf_call, isf_mk, isf_meth, isf_isi, isf_get, isf_lc, isf_lc2, isf_dc, isf_rng, isf_enu, isf_seq, isf_bi_len, isf_bi_int, isf_bi_str, isf_bi_max, isf_bi_min, isf_bi_all, isf_bi_sum, isf_bi_tuple, isf_bi_list, isf_bi_dict, isf_bi_repr, isf_bi_sorted, xh_nil, xh_cons, hk_nx, hk_bk, hk_ct, hk_rt, hn_n, ne_nil, ne_val, ne_own, ne_emp, ax_c, ax_f, List.foldl_cons, List.foldl_nil, List.getElem?_cons_zero, List.getElem?_cons_succ, List.set_cons_zero, List.set_cons_succ, if_true, if_false, ite_true, ite_false, reduceIte, reduceCtorEq, List.length_cons, List.length_nil, List.map_cons, List.map_nil, List.zip_cons_cons, List.zip_nil_left, Option.map_some, Option.map_none, Option.getD_some, Option.getD_none, Option.bind_some, and_true, true_and, and_self, Bool.not_true, Bool.not_false, Bool.or_true, Bool.or_false, Bool.true_or, Bool.false_or, Bool.and_true, Bool.true_and, Bool.and_false, Bool.false_and, decide_true, decide_false, Bool.false_eq_true, cons_depth, count_ok (k + 3) h h1 h2, kind_ok (k + 3) h hk, share_ok k h hs, a1, a2, a3, fPut, Nat.reduceAdd]
  rfl
theorem str_same (x y : String) : AV.same (.str (Str.ofString x)) (.str (Str.ofString y)) = decide (Str.ofString x = Str.ofString y) := rfl
/-- what a game is -/
def gameV (d : Int) (kd sh : AV) : AV := .dct false [(.str (Str.ofString "depth"), .int d), (.str (Str.ofString "kind"), kd), (.str (Str.ofString "share"), sh)]
theorem game_put (a b c : AV) : ([(.str (Str.ofString "depth"), a), (.str (Str.ofString "kind"), b), (.str (Str.ofString "share"), c)] : List (AV × AV)).foldl (fun d p => dPut d p.1 p.2) [] = [(.str (Str.ofString "depth"), a), (.str (Str.ofString "kind"), b), (.str (Str.ofString "share"), c)] := by kernel_rfl
theorem game (k : Nat) {h : AH} {n : Nat} {ns : List Int} {a : Nat} {m : Int} (p : Pool h n ns a) (hm : 0 ≤ m) : ∃ (d : Int) (kd sh : AV) (b : Nat), 0 ≤ d ∧ d ≤ m ∧ kd ∈ kinds ∧ sh ∈ shares ∧
    calA Pr (k + 3) 51 [.ref n, .int m] h = .ok (gameV d kd sh) (poolH h n ns b) := by
  rw [u__law_game]
  unfold B__law_game
  have z7 : szOk 7 = true := by decide
  have z2 : szOk 2 = true := by decide
  obtain ⟨sh, s1, s2⟩ := pick k p (xs := shares) (by decide)
  have s2 : calA Pr (k + 2) 49 [.ref n, .lst [.tup [.int 1, .int 2], .tup [.int 1, .int 2], .tup [.int 1, .int 3], .tup [.int 3, .int 4], .tup [.int 1, .int 1000], .tup [.int 999, .int 1000], .tup [.int 2, .int 7]]] h = .ok sh (poolH h n ns (a + 1)) := s2
  have p1 : Pool (poolH h n ns (a + 1)) n ns (a + 1) := poolH_pool p
  have p2 : Pool (poolH h n ns (a + 1 + 1)) n ns (a + 1 + 1) := poolH_pool p
  have d1 := draw (k + 1) p1 (m := m + 1) (by omega)
  obtain ⟨d2, d3⟩ := drawn_lt (ns := ns) (a := a + 1) (m := m + 1) (by omega)
  obtain ⟨kd, k1, k2⟩ := pick k p2 (xs := kinds) (by decide)
  have k2 : calA Pr (k + 2) 49 [.ref n, .lst [.str (Str.ofString "one"), .str (Str.ofString "half")]] (poolH h n ns (a + 1 + 1)) = .ok kd (poolH (poolH h n ns (a + 1 + 1)) n ns (a + 1 + 1 + 1)) := k2
  have a1 : ([(.str (Str.ofString "depth"), .int (drawn ns (a + 1) (m + 1))), (.str (Str.ofString "kind"), kd), (.str (Str.ofString "share"), sh)] : List (AV × AV)).all (fun p => isK p.1) = true := rfl
  have e3 : decide ((0 + 1 + 1 + 1) ≤ 15) = true := by decide
  simp only [w_ok, w_err, w_stk, o_ok, o_err, o_stk, t_nx, t_bk, t_ct, t_rt, t_er, t_stk, opt_s, opt_n, c_ok, c_stk, ce_nx, ce_rt, ce_er, ie_nx, ie_er, v_con, slV_v, slP_v, slP_o, v_var, v_peek, v_glo, v_bop, v_neg, neg_i, v_cmp, v_chain, v_and, v_or, v_not, v_ite, v_tup, v_lst, v_lstR, v_dsp, v_dnew, v_sub, v_slc, v_rev, ak_n, ak_s, v_attr, v_call, v_mk, v_bi, v_isi, v_get, v_lc, l_nil, l_star, l_cons, d_nil, d_cons, i_rng, i_enu, i_seq, s_fz', s_exp', s_asg', s_par', s_aug', s_app', s_ret', s_retN', s_ife', s_whl', s_for', s_brk', s_cnt', s_pass', s_raise', s_try', x_nil, x_cons, st_name, st_sub, st_attr, st_tup, sts_nil, sts_cons, stp_nil, stp_cons, fl_nil, fl_cons, fk_nx, fk_ct, fk_bk, fk_rt, fk_er, tv_nx, tv_rt, tv_er, p_addi, p_adds, p_addt, p_addl, p_sub, p_muli, p_mull, p_mult, p_fdv, p_mod, p_pow, p_aadd, p_asub, q_lt, q_le, q_gt, q_ge, q_eq, q_ne, q_is, q_isn, q_in, q_nin, a_bl, r_l, r_t, m_l, m_t, sb_t, sb_l, sb_k, sb_s, sb_d, df_int, df_str, df_tup, df_lst, df_ktup, df_dct, df_obj, df_scr, df_bl, df_non, df_ref, bi_len_l, bi_len_t, bi_len_k, bi_len_s, bi_len_x, bi_len_d, bi_int_i, bi_int_b, bi_str, bi_max, bi_min, bi_all, bi_sum, bi_tup_l, bi_tup_t, bi_lst_l, bi_lst_t, bi_dict, pt_lst, pt_dct, pt_obj, pt_f, pt_m, rg_i, sa_t, sa_l, gv_d, ob_o, bt_n, bt_t, bts_n, bts_c, fg_c, at_o, ty_non, ty_bl, ty_int, ty_str, ty_tup, ty_lst, ty_ktup, ty_dct, ty_scr, ty_obj, tys_n, tys_c, ik_bl, ik_int, ik_str, ik_tup, ik_lst, ik_ktup, ik_dct, ik_scr, ik_non, ik_obj, lc_nil, lc_cons, wp_n, wp_c, oi_n, oi_i, sl_t, sl_l, ns_var, ns_peek, ns_con, ns_glo, ns_bop, ns_neg, ns_cmp, ns_chain, ns_and, ns_or, ns_not, ns_ite, ns_tup, ns_lst, ns_lstR, ns_dsp, ns_dnew, ns_sub, ns_slc, ns_rev, ns_attr, ns_prop, ns_call, ns_mk, ns_meth, ns_bi, ns_isi, ns_get, ns_lc, ns_lc2, ns_dc, ns_rng, ns_enu, ns_seq, ex_var, ex_con, ex_glo, ex_bop, ex_neg, ex_cmp, ex_chain, ex_and, ex_or, ex_not, ex_ite, ex_tup, ex_lst, ex_lstR, ex_dsp, ex_dnew, ex_sub, ex_slc, ex_rev, ex_attr, ex_prop, ex_call, ex_mk, ex_meth, ex_bi, ex_isi, ex_get, ex_lc, ex_lc2, ex_dc, ex_rng, ex_enu, ex_seq, ex_peek, es_e, es_v, es_o, fz_s, fz_o, fz_v, fz_e, pl_p, ps_o, ps_c, pu_s, pu_c, pus_o, puc_s, pur_s, pur_c, il_s, il_c, ils_o, ilc_l, sp_l, ss_l, ss_d, sf_o, ft_n, lt_n, isf_var, isf_peek, isf_con, isf_glo, isf_bop, isf_neg, isf_cmp, isf_chain, isf_and, isf_or, isf_not, isf_ite, isf_tup, isf_lst, isf_lstR, isf_dsp, isf_dnew, isf_sub, isf_slc, isf_rev, isf_attr, isf_prop, isf_call, isf_mk, isf_meth, isf_isi, isf_get, isf_lc, isf_lc2, isf_dc, isf_rng, isf_enu, isf_seq, isf_bi_len, isf_bi_int, isf_bi_str, isf_bi_max, isf_bi_min, isf_bi_all, isf_bi_sum, isf_bi_tuple, isf_bi_list, isf_bi_dict, isf_bi_repr, isf_bi_sorted, xh_nil, xh_cons, hk_nx, hk_bk, hk_ct, hk_rt, hn_n, ne_nil, ne_val, ne_own, ne_emp, ax_c, ax_f, List.foldl_cons, List.foldl_nil, List.getElem?_cons_zero, List.getElem?_cons_succ, List.set_cons_zero, List.set_cons_succ, if_true, if_false, ite_true, ite_false, reduceIte, reduceCtorEq, List.length_cons, List.length_nil, List.map_cons, List.map_nil, List.zip_cons_cons, List.zip_nil_left, Option.map_some, Option.map_none, Option.getD_some, Option.getD_none, Option.bind_some, and_true, true_and, and_self, Bool.not_true, Bool.not_false, Bool.or_true, Bool.or_false, Bool.true_or, Bool.false_or, Bool.and_true, Bool.true_and, Bool.and_false, Bool.false_and, decide_true, decide_false, Bool.false_eq_true, Nat.reduceAdd, z7, z2, s2, d1, k2, poolH_poolH, a1, game_put]
  exact ⟨_, kd, sh, a + 1 + 1 + 1, d2, by omega, k1, s1, rfl⟩
theorem game_at (d : Int) (kd sh : AV) : dGet [(.str (Str.ofString "depth"), .int d), (.str (Str.ofString "kind"), kd), (.str (Str.ofString "share"), sh)] (.str (Str.ofString "depth")) = some (.int d) ∧ dGet [(.str (Str.ofString "depth"), .int d), (.str (Str.ofString "kind"), kd), (.str (Str.ofString "share"), sh)] (.str (Str.ofString "kind")) = some kd ∧ dGet [(.str (Str.ofString "depth"), .int d), (.str (Str.ofString "kind"), kd), (.str (Str.ofString "share"), sh)] (.str (Str.ofString "share")) = some sh := by
  refine ⟨?_, ?_, ?_⟩ <;> kernel_rfl
theorem keyS (x : String) : keyOk false (.str (Str.ofString x)) = true := rfl
theorem mk_model (P : Prg) (cal ini) (vs : List AV) (h : AH) (hc : P.cls[0]? = some ⟨false, 17, [], []⟩) : mkV P cal ini 0 vs h = ini 0 17 vs h := by
  unfold mkV
  rw [hc]
theorem model (k : Nat) (h : AH) {d : Int} {kd sh : AV} (h1 : 0 ≤ d) (h2 : d ≤ 4) (hk : kd ∈ kinds) (hs : sh ∈ shares) : calA Pr (k + 6) 52 [gameV d kd sh] h = .ok (modelV d kd sh) h := by
  rw [u__law_model]
  unfold B__law_model gameV
  obtain ⟨g1, g2, g3⟩ := game_at d kd sh
  simp only [w_ok, w_err, w_stk, o_ok, o_err, o_stk, t_nx, t_bk, t_ct, t_rt, t_er, t_stk, opt_s, opt_n, c_ok, c_stk, ce_nx, ce_rt, ce_er, ie_nx, ie_er, v_con, slV_v, slP_v, slP_o, v_var, v_peek, v_glo, v_bop, v_neg, neg_i, v_cmp, v_chain, v_and, v_or, v_not, v_ite, v_tup, v_lst, v_lstR, v_dsp, v_dnew, v_sub, v_slc, v_rev, ak_n, ak_s, v_attr, v_call, v_mk, v_bi, v_isi, v_get, v_lc, l_nil, l_star, l_cons, d_nil, d_cons, i_rng, i_enu, i_seq, s_fz', s_exp', s_asg', s_par', s_aug', s_app', s_ret', s_retN', s_ife', s_whl', s_for', s_brk', s_cnt', s_pass', s_raise', s_try', x_nil, x_cons, st_name, st_sub, st_attr, st_tup, sts_nil, sts_cons, stp_nil, stp_cons, fl_nil, fl_cons, fk_nx, fk_ct, fk_bk, fk_rt, fk_er, tv_nx, tv_rt, tv_er, p_addi, p_adds, p_addt, p_addl, p_sub, p_muli, p_mull, p_mult, p_fdv, p_mod, p_pow, p_aadd, p_asub, q_lt, q_le, q_gt, q_ge, q_eq, q_ne, q_is, q_isn, q_in, q_nin, a_bl, r_l, r_t, m_l, m_t, sb_t, sb_l, sb_k, sb_s, sb_d, df_int, df_str, df_tup, df_lst, df_ktup, df_dct, df_obj, df_scr, df_bl, df_non, df_ref, bi_len_l, bi_len_t, bi_len_k, bi_len_s, bi_len_x, bi_len_d, bi_int_i, bi_int_b, bi_str, bi_max, bi_min, bi_all, bi_sum, bi_tup_l, bi_tup_t, bi_lst_l, bi_lst_t, bi_dict, pt_lst, pt_dct, pt_obj, pt_f, pt_m, rg_i, sa_t, sa_l, gv_d, ob_o, bt_n, bt_t, bts_n, bts_c, fg_c, at_o, ty_non, ty_bl, ty_int, ty_str, ty_tup, ty_lst, ty_ktup, ty_dct, ty_scr, ty_obj, tys_n, tys_c, ik_bl, ik_int, ik_str, ik_tup, ik_lst, ik_ktup, ik_dct, ik_scr, ik_non, ik_obj, lc_nil, lc_cons, wp_n, wp_c, oi_n, oi_i, sl_t, sl_l, ns_var, ns_peek, ns_con, ns_glo, ns_bop, ns_neg, ns_cmp, ns_chain, ns_and, ns_or, ns_not, ns_ite, ns_tup, ns_lst, ns_lstR, ns_dsp, ns_dnew, ns_sub, ns_slc, ns_rev, ns_attr, ns_prop, ns_call, ns_mk, ns_meth, ns_bi, ns_isi, ns_get, ns_lc, ns_lc2, ns_dc, ns_rng, ns_enu, ns_seq, ex_var, ex_con, ex_glo, ex_bop, ex_neg, ex_cmp, ex_chain, ex_and, ex_or, ex_not, ex_ite, ex_tup, ex_lst, ex_lstR, ex_dsp, ex_dnew, ex_sub, ex_slc, ex_rev, ex_attr, ex_prop, ex_call, ex_mk, ex_meth, ex_bi, ex_isi, ex_get, ex_lc, ex_lc2, ex_dc, ex_rng, ex_enu, ex_seq, ex_peek, es_e, es_v, es_o, fz_s, fz_o, fz_v, fz_e, pl_p, ps_o, ps_c, pu_s, pu_c, pus_o, puc_s, pur_s, pur_c, il_s, il_c, ils_o, ilc_l, sp_l, ss_l, ss_d, sf_o, ft_n, lt_n, isf_var, isf_peek, isf_con, isf_glo, isf_bop, isf_neg, isf_cmp, isf_chain, isf_and, isf_or, isf_not, isf_ite, isf_tup, isf_lst, isf_lstR, isf_dsp, isf_dnew, isf_sub, isf_slc, isf_rev, isf_attr, isf_prop, isf_call, isf_mk, isf_meth, isf_isi, isf_get, isf_lc, isf_lc2, isf_dc, isf_rng, isf_enu, isf_seq, isf_bi_len, isf_bi_int, isf_bi_str, isf_bi_max, isf_bi_min, isf_bi_all, isf_bi_sum, isf_bi_tuple, isf_bi_list, isf_bi_dict, isf_bi_repr, isf_bi_sorted, xh_nil, xh_cons, hk_nx, hk_bk, hk_ct, hk_rt, hn_n, ne_nil, ne_val, ne_own, ne_emp, ax_c, ax_f, List.foldl_cons, List.foldl_nil, List.getElem?_cons_zero, List.getElem?_cons_succ, List.set_cons_zero, List.set_cons_succ, if_true, if_false, ite_true, ite_false, reduceIte, reduceCtorEq, List.length_cons, List.length_nil, List.map_cons, List.map_nil, List.zip_cons_cons, List.zip_nil_left, Option.map_some, Option.map_none, Option.getD_some, Option.getD_none, Option.bind_some, and_true, true_and, and_self, Bool.not_true, Bool.not_false, Bool.or_true, Bool.or_false, Bool.true_or, Bool.false_or, Bool.and_true, Bool.true_and, Bool.and_false, Bool.false_and, decide_true, decide_false, Bool.false_eq_true, keyS, g1, g2, g3, mk_model Pr _ _ _ _ rfl, model_ok k h h1 h2 hk hs]

end LawT
set_option maxHeartbeats 0
namespace LawT
open PySem AM
/-! ### refusals -/
/-- neither an object nor a cell -/
def plainV : AV → Bool
  | .obj _ _ => false
  | .ref _ => false
  | _ => true
theorem cm_ok (k : Nat) (h : AH) {d : Int} {kd sh : AV} : calA Pr (k + 1) 18 [modelV d kd sh] h = .ok .non h := by
  rw [u_check_model]
  unfold B_check_model modelV
  have c : decide (Ty.cls 0 = Ty.cls 0) = true := by decide
  simp only [w_ok, w_err, w_stk, o_ok, o_err, o_stk, t_nx, t_bk, t_ct, t_rt, t_er, t_stk, opt_s, opt_n, c_ok, c_stk, ce_nx, ce_rt, ce_er, ie_nx, ie_er, v_con, slV_v, slP_v, slP_o, v_var, v_peek, v_glo, v_bop, v_neg, neg_i, v_cmp, v_chain, v_and, v_or, v_not, v_ite, v_tup, v_lst, v_lstR, v_dsp, v_dnew, v_sub, v_slc, v_rev, ak_n, ak_s, v_attr, v_call, v_mk, v_bi, v_isi, v_get, v_lc, l_nil, l_star, l_cons, d_nil, d_cons, i_rng, i_enu, i_seq, s_fz', s_exp', s_asg', s_par', s_aug', s_app', s_ret', s_retN', s_ife', s_whl', s_for', s_brk', s_cnt', s_pass', s_raise', s_try', x_nil, x_cons, st_name, st_sub, st_attr, st_tup, sts_nil, sts_cons, stp_nil, stp_cons, fl_nil, fl_cons, fk_nx, fk_ct, fk_bk, fk_rt, fk_er, tv_nx, tv_rt, tv_er, p_addi, p_adds, p_addt, p_addl, p_sub, p_muli, p_mull, p_mult, p_fdv, p_mod, p_pow, p_aadd, p_asub, q_lt, q_le, q_gt, q_ge, q_eq, q_ne, q_is, q_isn, q_in, q_nin, a_bl, r_l, r_t, m_l, m_t, sb_t, sb_l, sb_k, sb_s, sb_d, df_int, df_str, df_tup, df_lst, df_ktup, df_dct, df_obj, df_scr, df_bl, df_non, df_ref, bi_len_l, bi_len_t, bi_len_k, bi_len_s, bi_len_x, bi_len_d, bi_int_i, bi_int_b, bi_str, bi_max, bi_min, bi_all, bi_sum, bi_tup_l, bi_tup_t, bi_lst_l, bi_lst_t, bi_dict, pt_lst, pt_dct, pt_obj, pt_f, pt_m, rg_i, sa_t, sa_l, gv_d, ob_o, bt_n, bt_t, bts_n, bts_c, fg_c, at_o, ty_non, ty_bl, ty_int, ty_str, ty_tup, ty_lst, ty_ktup, ty_dct, ty_scr, ty_obj, tys_n, tys_c, ik_bl, ik_int, ik_str, ik_tup, ik_lst, ik_ktup, ik_dct, ik_scr, ik_non, ik_obj, lc_nil, lc_cons, wp_n, wp_c, oi_n, oi_i, sl_t, sl_l, ns_var, ns_peek, ns_con, ns_glo, ns_bop, ns_neg, ns_cmp, ns_chain, ns_and, ns_or, ns_not, ns_ite, ns_tup, ns_lst, ns_lstR, ns_dsp, ns_dnew, ns_sub, ns_slc, ns_rev, ns_attr, ns_prop, ns_call, ns_mk, ns_meth, ns_bi, ns_isi, ns_get, ns_lc, ns_lc2, ns_dc, ns_rng, ns_enu, ns_seq, ex_var, ex_con, ex_glo, ex_bop, ex_neg, ex_cmp, ex_chain, ex_and, ex_or, ex_not, ex_ite, ex_tup, ex_lst, ex_lstR, ex_dsp, ex_dnew, ex_sub, ex_slc, ex_rev, ex_attr, ex_prop, ex_call, ex_mk, ex_meth, ex_bi, ex_isi, ex_get, ex_lc, ex_lc2, ex_dc, ex_rng, ex_enu, ex_seq, ex_peek, es_e, es_v, es_o, fz_s, fz_o, fz_v, fz_e, pl_p, ps_o, ps_c, pu_s, pu_c, pus_o, puc_s, pur_s, pur_c, il_s, il_c, ils_o, ilc_l, sp_l, ss_l, ss_d, sf_o, ft_n, lt_n, isf_var, isf_peek, isf_con, isf_glo, isf_bop, isf_neg, isf_cmp, isf_chain, isf_and, isf_or, isf_not, isf_ite, isf_tup, isf_lst, isf_lstR, isf_dsp, isf_dnew, isf_sub, isf_slc, isf_rev, isf_attr, isf_prop, isf_call, isf_mk, isf_meth, isf_isi, isf_get, isf_lc, isf_lc2, isf_dc, isf_rng, isf_enu, isf_seq, isf_bi_len, isf_bi_int, isf_bi_str, isf_bi_max, isf_bi_min, isf_bi_all, isf_bi_sum, isf_bi_tuple, isf_bi_list, isf_bi_dict, isf_bi_repr, isf_bi_sorted, xh_nil, xh_cons, hk_nx, hk_bk, hk_ct, hk_rt, hn_n, ne_nil, ne_val, ne_own, ne_emp, ax_c, ax_f, List.foldl_cons, List.foldl_nil, List.getElem?_cons_zero, List.getElem?_cons_succ, List.set_cons_zero, List.set_cons_succ, if_true, if_false, ite_true, ite_false, reduceIte, reduceCtorEq, List.length_cons, List.length_nil, List.map_cons, List.map_nil, List.zip_cons_cons, List.zip_nil_left, Option.map_some, Option.map_none, Option.getD_some, Option.getD_none, Option.bind_some, and_true, true_and, and_self, Bool.not_true, Bool.not_false, Bool.or_true, Bool.or_false, Bool.true_or, Bool.false_or, Bool.and_true, Bool.true_and, Bool.and_false, Bool.false_and, decide_true, decide_false, Bool.false_eq_true, ncls, c]
theorem cm_bad (k : Nat) (h : AH) {o : AV} (ho : plainV o = true) : calA Pr (k + 1) 18 [o] h = .err ⟨7, [(10, o)]⟩ h := by
  rw [u_check_model]
  unfold B_check_model
  cases o <;> first | (cases ho; done) | skip
  all_goals simp only [w_ok, w_err, w_stk, o_ok, o_err, o_stk, t_nx, t_bk, t_ct, t_rt, t_er, t_stk, opt_s, opt_n, c_ok, c_stk, ce_nx, ce_rt, ce_er, ie_nx, ie_er, v_con, slV_v, slP_v, slP_o, v_var, v_peek, v_glo, v_bop, v_neg, neg_i, v_cmp, v_chain, v_and, v_or, v_not, v_ite, v_tup, v_lst, v_lstR, v_dsp, v_dnew, v_sub, v_slc, v_rev, ak_n, ak_s, v_attr, v_call, v_mk, v_bi, v_isi, v_get, v_lc, l_nil, l_star, l_cons, d_nil, d_cons, i_rng, i_enu, i_seq, s_fz', s_exp', s_asg', s_par', s_aug', s_app', s_ret', s_retN', s_ife', s_whl', s_for', s_brk', s_cnt', s_pass', s_raise', s_try', x_nil, x_cons, st_name, st_sub, st_attr, st_tup, sts_nil, sts_cons, stp_nil, stp_cons, fl_nil, fl_cons, fk_nx, fk_ct, fk_bk, fk_rt, fk_er, tv_nx, tv_rt, tv_er, p_addi, p_adds, p_addt, p_addl, p_sub, p_muli, p_mull, p_mult, p_fdv, p_mod, p_pow, p_aadd, p_asub, q_lt, q_le, q_gt, q_ge, q_eq, q_ne, q_is, q_isn, q_in, q_nin, a_bl, r_l, r_t, m_l, m_t, sb_t, sb_l, sb_k, sb_s, sb_d, df_int, df_str, df_tup, df_lst, df_ktup, df_dct, df_obj, df_scr, df_bl, df_non, df_ref, bi_len_l, bi_len_t, bi_len_k, bi_len_s, bi_len_x, bi_len_d, bi_int_i, bi_int_b, bi_str, bi_max, bi_min, bi_all, bi_sum, bi_tup_l, bi_tup_t, bi_lst_l, bi_lst_t, bi_dict, pt_lst, pt_dct, pt_obj, pt_f, pt_m, rg_i, sa_t, sa_l, gv_d, ob_o, bt_n, bt_t, bts_n, bts_c, fg_c, at_o, ty_non, ty_bl, ty_int, ty_str, ty_tup, ty_lst, ty_ktup, ty_dct, ty_scr, ty_obj, tys_n, tys_c, ik_bl, ik_int, ik_str, ik_tup, ik_lst, ik_ktup, ik_dct, ik_scr, ik_non, ik_obj, lc_nil, lc_cons, wp_n, wp_c, oi_n, oi_i, sl_t, sl_l, ns_var, ns_peek, ns_con, ns_glo, ns_bop, ns_neg, ns_cmp, ns_chain, ns_and, ns_or, ns_not, ns_ite, ns_tup, ns_lst, ns_lstR, ns_dsp, ns_dnew, ns_sub, ns_slc, ns_rev, ns_attr, ns_prop, ns_call, ns_mk, ns_meth, ns_bi, ns_isi, ns_get, ns_lc, ns_lc2, ns_dc, ns_rng, ns_enu, ns_seq, ex_var, ex_con, ex_glo, ex_bop, ex_neg, ex_cmp, ex_chain, ex_and, ex_or, ex_not, ex_ite, ex_tup, ex_lst, ex_lstR, ex_dsp, ex_dnew, ex_sub, ex_slc, ex_rev, ex_attr, ex_prop, ex_call, ex_mk, ex_meth, ex_bi, ex_isi, ex_get, ex_lc, ex_lc2, ex_dc, ex_rng, ex_enu, ex_seq, ex_peek, es_e, es_v, es_o, fz_s, fz_o, fz_v, fz_e, pl_p, ps_o, ps_c, pu_s, pu_c, pus_o, puc_s, pur_s, pur_c, il_s, il_c, ils_o, ilc_l, sp_l, ss_l, ss_d, sf_o, ft_n, lt_n, isf_var, isf_peek, isf_con, isf_glo, isf_bop, isf_neg, isf_cmp, isf_chain, isf_and, isf_or, isf_not, isf_ite, isf_tup, isf_lst, isf_lstR, isf_dsp, isf_dnew, isf_sub, isf_slc, isf_rev, isf_attr, isf_prop, isf_call, isf_mk, isf_meth, isf_isi, isf_get, isf_lc, isf_lc2, isf_dc, isf_rng, isf_enu, isf_seq, isf_bi_len, isf_bi_int, isf_bi_str, isf_bi_max, isf_bi_min, isf_bi_all, isf_bi_sum, isf_bi_tuple, isf_bi_list, isf_bi_dict, isf_bi_repr, isf_bi_sorted, xh_nil, xh_cons, hk_nx, hk_bk, hk_ct, hk_rt, hn_n, ne_nil, ne_val, ne_own, ne_emp, ax_c, ax_f, List.foldl_cons, List.foldl_nil, List.getElem?_cons_zero, List.getElem?_cons_succ, List.set_cons_zero, List.set_cons_succ, if_true, if_false, ite_true, ite_false, reduceIte, reduceCtorEq, List.length_cons, List.length_nil, List.map_cons, List.map_nil, List.zip_cons_cons, List.zip_nil_left, Option.map_some, Option.map_none, Option.getD_some, Option.getD_none, Option.bind_some, and_true, true_and, and_self, Bool.not_true, Bool.not_false, Bool.or_true, Bool.or_false, Bool.true_or, Bool.false_or, Bool.and_true, Bool.true_and, Bool.and_false, Bool.false_and, decide_true, decide_false, Bool.false_eq_true, show decide (Ty.cls 0 = Ty.bool) = false from by decide, show decide (Ty.cls 0 = Ty.int) = false from by decide, show decide (Ty.cls 0 = Ty.str) = false from by decide, show decide (Ty.cls 0 = Ty.tuple) = false from by decide, show decide (Ty.cls 0 = Ty.list) = false from by decide, show decide (Ty.cls 0 = Ty.dict) = false from by decide]
theorem allBl_true : ∀ n : Nat, allBl (List.replicate n (.bl true)) = some true
  | 0 => rfl
  | n + 1 => by
    show (allBl (List.replicate n (.bl true))).map (true && ·) = some true
    rw [allBl_true n]
    rfl
theorem lc_const {f : AV → AH → R (Option AV)} {v : AV} {h : AH} : ∀ (xs : List AV), (∀ x ∈ xs, f x h = .ok (some v) h) → lcLoop f xs h = .ok (List.replicate xs.length v) h
  | [], _ => rfl
  | x :: xs, H => by
    rw [lc_cons, H x List.mem_cons_self, w_ok, lc_const xs fun y hy => H y (List.mem_cons_of_mem _ hy), w_ok]
    rfl
theorem bit_ok (k : Nat) (h : AH) {b : Int} (hb : b = 0 ∨ b = 1) : calA Pr (k + 2) 8 [.int b] h = .ok (.bl true) h := by
  rw [u_is_bit]
  unfold B_is_bit
  simp only [w_ok, w_err, w_stk, o_ok, o_err, o_stk, t_nx, t_bk, t_ct, t_rt, t_er, t_stk, opt_s, opt_n, c_ok, c_stk, ce_nx, ce_rt, ce_er, ie_nx, ie_er, v_con, slV_v, slP_v, slP_o, v_var, v_peek, v_glo, v_bop, v_neg, neg_i, v_cmp, v_chain, v_and, v_or, v_not, v_ite, v_tup, v_lst, v_lstR, v_dsp, v_dnew, v_sub, v_slc, v_rev, ak_n, ak_s, v_attr, v_call, v_mk, v_bi, v_isi, v_get, v_lc, l_nil, l_star, l_cons, d_nil, d_cons, i_rng, i_enu, i_seq, s_fz', s_exp', s_asg', s_par', s_aug', s_app', s_ret', s_retN', s_ife', s_whl', s_for', s_brk', s_cnt', s_pass', s_raise', s_try', x_nil, x_cons, st_name, st_sub, st_attr, st_tup, sts_nil, sts_cons, stp_nil, stp_cons, fl_nil, fl_cons, fk_nx, fk_ct, fk_bk, fk_rt, fk_er, tv_nx, tv_rt, tv_er, p_addi, p_adds, p_addt, p_addl, p_sub, p_muli, p_mull, p_mult, p_fdv, p_mod, p_pow, p_aadd, p_asub, q_lt, q_le, q_gt, q_ge, q_eq, q_ne, q_is, q_isn, q_in, q_nin, a_bl, r_l, r_t, m_l, m_t, sb_t, sb_l, sb_k, sb_s, sb_d, df_int, df_str, df_tup, df_lst, df_ktup, df_dct, df_obj, df_scr, df_bl, df_non, df_ref, bi_len_l, bi_len_t, bi_len_k, bi_len_s, bi_len_x, bi_len_d, bi_int_i, bi_int_b, bi_str, bi_max, bi_min, bi_all, bi_sum, bi_tup_l, bi_tup_t, bi_lst_l, bi_lst_t, bi_dict, pt_lst, pt_dct, pt_obj, pt_f, pt_m, rg_i, sa_t, sa_l, gv_d, ob_o, bt_n, bt_t, bts_n, bts_c, fg_c, at_o, ty_non, ty_bl, ty_int, ty_str, ty_tup, ty_lst, ty_ktup, ty_dct, ty_scr, ty_obj, tys_n, tys_c, ik_bl, ik_int, ik_str, ik_tup, ik_lst, ik_ktup, ik_dct, ik_scr, ik_non, ik_obj, lc_nil, lc_cons, wp_n, wp_c, oi_n, oi_i, sl_t, sl_l, ns_var, ns_peek, ns_con, ns_glo, ns_bop, ns_neg, ns_cmp, ns_chain, ns_and, ns_or, ns_not, ns_ite, ns_tup, ns_lst, ns_lstR, ns_dsp, ns_dnew, ns_sub, ns_slc, ns_rev, ns_attr, ns_prop, ns_call, ns_mk, ns_meth, ns_bi, ns_isi, ns_get, ns_lc, ns_lc2, ns_dc, ns_rng, ns_enu, ns_seq, ex_var, ex_con, ex_glo, ex_bop, ex_neg, ex_cmp, ex_chain, ex_and, ex_or, ex_not, ex_ite, ex_tup, ex_lst, ex_lstR, ex_dsp, ex_dnew, ex_sub, ex_slc, ex_rev, ex_attr, ex_prop, ex_call, ex_mk, ex_meth, ex_bi, ex_isi, ex_get, ex_lc, ex_lc2, ex_dc, ex_rng, ex_enu, ex_seq, ex_peek, es_e, es_v, es_o, fz_s, fz_o, fz_v, fz_e, pl_p, ps_o, ps_c, pu_s, pu_c, pus_o, puc_s, pur_s, pur_c, il_s, il_c, ils_o, ilc_l, sp_l, ss_l, ss_d, sf_o, ft_n, lt_n, isf_var, isf_peek, isf_con, isf_glo, isf_bop, isf_neg, isf_cmp, isf_chain, isf_and, isf_or, isf_not, isf_ite, isf_tup, isf_lst, isf_lstR, isf_dsp, isf_dnew, isf_sub, isf_slc, isf_rev, isf_attr, isf_prop, isf_call, isf_mk, isf_meth, isf_isi, isf_get, isf_lc, isf_lc2, isf_dc, isf_rng, isf_enu, isf_seq, isf_bi_len, isf_bi_int, isf_bi_str, isf_bi_max, isf_bi_min, isf_bi_all, isf_bi_sum, isf_bi_tuple, isf_bi_list, isf_bi_dict, isf_bi_repr, isf_bi_sorted, xh_nil, xh_cons, hk_nx, hk_bk, hk_ct, hk_rt, hn_n, ne_nil, ne_val, ne_own, ne_emp, ax_c, ax_f, List.foldl_cons, List.foldl_nil, List.getElem?_cons_zero, List.getElem?_cons_succ, List.set_cons_zero, List.set_cons_succ, if_true, if_false, ite_true, ite_false, reduceIte, reduceCtorEq, List.length_cons, List.length_nil, List.map_cons, List.map_nil, List.zip_cons_cons, List.zip_nil_left, Option.map_some, Option.map_none, Option.getD_some, Option.getD_none, Option.bind_some, and_true, true_and, and_self, Bool.not_true, Bool.not_false, Bool.or_true, Bool.or_false, Bool.true_or, Bool.false_or, Bool.and_true, Bool.true_and, Bool.and_false, Bool.false_and, decide_true, decide_false, Bool.false_eq_true, count_ok k h (show (0 : Int) ≤ b by omega) (show b ≤ 1 by omega)]
theorem are_ok (k : Nat) (h : AH) {bs : List Int} {l m : Int} (hb : ∀ x ∈ bs, x = 0 ∨ x = 1) (h1 : l ≤ bs.length) (h2 : (bs.length : Int) ≤ m) (hs : bs.length ≤ 1000) : calA Pr (k + 3) 9 [.tup (bs.map .int), .int l, .int m] h = .ok (.bl true) h := by
  rw [u_are_bits]
  unfold B_are_bits
  have c : decide (Ty.tuple = Ty.tuple) = true := by decide
  have sz : szOk bs.length = true := by unfold szOk; rw [decide_eq_true_eq]; omega
  simp only [w_ok, w_err, w_stk, o_ok, o_err, o_stk, t_nx, t_bk, t_ct, t_rt, t_er, t_stk, opt_s, opt_n, c_ok, c_stk, ce_nx, ce_rt, ce_er, ie_nx, ie_er, v_con, slV_v, slP_v, slP_o, v_var, v_peek, v_glo, v_bop, v_neg, neg_i, v_cmp, v_chain, v_and, v_or, v_not, v_ite, v_tup, v_lst, v_lstR, v_dsp, v_dnew, v_sub, v_slc, v_rev, ak_n, ak_s, v_attr, v_call, v_mk, v_bi, v_isi, v_get, v_lc, l_nil, l_star, l_cons, d_nil, d_cons, i_rng, i_enu, i_seq, s_fz', s_exp', s_asg', s_par', s_aug', s_app', s_ret', s_retN', s_ife', s_whl', s_for', s_brk', s_cnt', s_pass', s_raise', s_try', x_nil, x_cons, st_name, st_sub, st_attr, st_tup, sts_nil, sts_cons, stp_nil, stp_cons, fl_nil, fl_cons, fk_nx, fk_ct, fk_bk, fk_rt, fk_er, tv_nx, tv_rt, tv_er, p_addi, p_adds, p_addt, p_addl, p_sub, p_muli, p_mull, p_mult, p_fdv, p_mod, p_pow, p_aadd, p_asub, q_lt, q_le, q_gt, q_ge, q_eq, q_ne, q_is, q_isn, q_in, q_nin, a_bl, r_l, r_t, m_l, m_t, sb_t, sb_l, sb_k, sb_s, sb_d, df_int, df_str, df_tup, df_lst, df_ktup, df_dct, df_obj, df_scr, df_bl, df_non, df_ref, bi_len_l, bi_len_t, bi_len_k, bi_len_s, bi_len_x, bi_len_d, bi_int_i, bi_int_b, bi_str, bi_max, bi_min, bi_all, bi_sum, bi_tup_l, bi_tup_t, bi_lst_l, bi_lst_t, bi_dict, pt_lst, pt_dct, pt_obj, pt_f, pt_m, rg_i, sa_t, sa_l, gv_d, ob_o, bt_n, bt_t, bts_n, bts_c, fg_c, at_o, ty_non, ty_bl, ty_int, ty_str, ty_tup, ty_lst, ty_ktup, ty_dct, ty_scr, ty_obj, tys_n, tys_c, ik_bl, ik_int, ik_str, ik_tup, ik_lst, ik_ktup, ik_dct, ik_scr, ik_non, ik_obj, lc_nil, lc_cons, wp_n, wp_c, oi_n, oi_i, sl_t, sl_l, ns_var, ns_peek, ns_con, ns_glo, ns_bop, ns_neg, ns_cmp, ns_chain, ns_and, ns_or, ns_not, ns_ite, ns_tup, ns_lst, ns_lstR, ns_dsp, ns_dnew, ns_sub, ns_slc, ns_rev, ns_attr, ns_prop, ns_call, ns_mk, ns_meth, ns_bi, ns_isi, ns_get, ns_lc, ns_lc2, ns_dc, ns_rng, ns_enu, ns_seq, ex_var, ex_con, ex_glo, ex_bop, ex_neg, ex_cmp, ex_chain, ex_and, ex_or, ex_not, ex_ite, ex_tup, ex_lst, ex_lstR, ex_dsp, ex_dnew, ex_sub, ex_slc, ex_rev, ex_attr, ex_prop, ex_call, ex_mk, ex_meth, ex_bi, ex_isi, ex_get, ex_lc, ex_lc2, ex_dc, ex_rng, ex_enu, ex_seq, ex_peek, es_e, es_v, es_o, fz_s, fz_o, fz_v, fz_e, pl_p, ps_o, ps_c, pu_s, pu_c, pus_o, puc_s, pur_s, pur_c, il_s, il_c, ils_o, ilc_l, sp_l, ss_l, ss_d, sf_o, ft_n, lt_n, isf_var, isf_peek, isf_con, isf_glo, isf_bop, isf_neg, isf_cmp, isf_chain, isf_and, isf_or, isf_not, isf_ite, isf_tup, isf_lst, isf_lstR, isf_dsp, isf_dnew, isf_sub, isf_slc, isf_rev, isf_attr, isf_prop, isf_call, isf_mk, isf_meth, isf_isi, isf_get, isf_lc, isf_lc2, isf_dc, isf_rng, isf_enu, isf_seq, isf_bi_len, isf_bi_int, isf_bi_str, isf_bi_max, isf_bi_min, isf_bi_all, isf_bi_sum, isf_bi_tuple, isf_bi_list, isf_bi_dict, isf_bi_repr, isf_bi_sorted, xh_nil, xh_cons, hk_nx, hk_bk, hk_ct, hk_rt, hn_n, ne_nil, ne_val, ne_own, ne_emp, ax_c, ax_f, List.foldl_cons, List.foldl_nil, List.getElem?_cons_zero, List.getElem?_cons_succ, List.set_cons_zero, List.set_cons_succ, if_true, if_false, ite_true, ite_false, reduceIte, reduceCtorEq, List.length_cons, List.length_nil, List.map_cons, List.map_nil, List.zip_cons_cons, List.zip_nil_left, Option.map_some, Option.map_none, Option.getD_some, Option.getD_none, Option.bind_some, and_true, true_and, and_self, Bool.not_true, Bool.not_false, Bool.or_true, Bool.or_false, Bool.true_or, Bool.false_or, Bool.and_true, Bool.true_and, Bool.and_false, Bool.false_and, decide_true, decide_false, Bool.false_eq_true, List.length_map, c, h1, h2]
  rw [lc_const (v := .bl true)]
  · simp only [w_ok, w_err, w_stk, o_ok, o_err, o_stk, t_nx, t_bk, t_ct, t_rt, t_er, t_stk, opt_s, opt_n, c_ok, c_stk, ce_nx, ce_rt, ce_er, ie_nx, ie_er, v_con, slV_v, slP_v, slP_o, v_var, v_peek, v_glo, v_bop, v_neg, neg_i, v_cmp, v_chain, v_and, v_or, v_not, v_ite, v_tup, v_lst, v_lstR, v_dsp, v_dnew, v_sub, v_slc, v_rev, ak_n, ak_s, v_attr, v_call, v_mk, v_bi, v_isi, v_get, v_lc, l_nil, l_star, l_cons, d_nil, d_cons, i_rng, i_enu, i_seq, s_fz', s_exp', s_asg', s_par', s_aug', s_app', s_ret', s_retN', s_ife', s_whl', s_for', s_brk', s_cnt', s_pass', s_raise', s_try', x_nil, x_cons, st_name, st_sub, st_attr, st_tup, sts_nil, sts_cons, stp_nil, stp_cons, fl_nil, fl_cons, fk_nx, fk_ct, fk_bk, fk_rt, fk_er, tv_nx, tv_rt, tv_er, p_addi, p_adds, p_addt, p_addl, p_sub, p_muli, p_mull, p_mult, p_fdv, p_mod, p_pow, p_aadd, p_asub, q_lt, q_le, q_gt, q_ge, q_eq, q_ne, q_is, q_isn, q_in, q_nin, a_bl, r_l, r_t, m_l, m_t, sb_t, sb_l, sb_k, sb_s, sb_d, df_int, df_str, df_tup, df_lst, df_ktup, df_dct, df_obj, df_scr, df_bl, df_non, df_ref, bi_len_l, bi_len_t, bi_len_k, bi_len_s, bi_len_x, bi_len_d, bi_int_i, bi_int_b, bi_str, bi_max, bi_min, bi_all, bi_sum, bi_tup_l, bi_tup_t, bi_lst_l, bi_lst_t, bi_dict, pt_lst, pt_dct, pt_obj, pt_f, pt_m, rg_i, sa_t, sa_l, gv_d, ob_o, bt_n, bt_t, bts_n, bts_c, fg_c, at_o, ty_non, ty_bl, ty_int, ty_str, ty_tup, ty_lst, ty_ktup, ty_dct, ty_scr, ty_obj, tys_n, tys_c, ik_bl, ik_int, ik_str, ik_tup, ik_lst, ik_ktup, ik_dct, ik_scr, ik_non, ik_obj, lc_nil, lc_cons, wp_n, wp_c, oi_n, oi_i, sl_t, sl_l, ns_var, ns_peek, ns_con, ns_glo, ns_bop, ns_neg, ns_cmp, ns_chain, ns_and, ns_or, ns_not, ns_ite, ns_tup, ns_lst, ns_lstR, ns_dsp, ns_dnew, ns_sub, ns_slc, ns_rev, ns_attr, ns_prop, ns_call, ns_mk, ns_meth, ns_bi, ns_isi, ns_get, ns_lc, ns_lc2, ns_dc, ns_rng, ns_enu, ns_seq, ex_var, ex_con, ex_glo, ex_bop, ex_neg, ex_cmp, ex_chain, ex_and, ex_or, ex_not, ex_ite, ex_tup, ex_lst, ex_lstR, ex_dsp, ex_dnew, ex_sub, ex_slc, ex_rev, ex_attr, ex_prop, ex_call, ex_mk, ex_meth, ex_bi, ex_isi, ex_get, ex_lc, ex_lc2, ex_dc, ex_rng, ex_enu, ex_seq, ex_peek, es_e, es_v, es_o, fz_s, fz_o, fz_v, fz_e, pl_p, ps_o, ps_c, pu_s, pu_c, pus_o, puc_s, pur_s, pur_c, il_s, il_c, ils_o, ilc_l, sp_l, ss_l, ss_d, sf_o, ft_n, lt_n, isf_var, isf_peek, isf_con, isf_glo, isf_bop, isf_neg, isf_cmp, isf_chain, isf_and, isf_or, isf_not, isf_ite, isf_tup, isf_lst, isf_lstR, isf_dsp, isf_dnew, isf_sub, isf_slc, isf_rev, isf_attr, isf_prop, isf_call, isf_mk, isf_meth, isf_isi, isf_get, isf_lc, isf_lc2, isf_dc, isf_rng, isf_enu, isf_seq, isf_bi_len, isf_bi_int, isf_bi_str, isf_bi_max, isf_bi_min, isf_bi_all, isf_bi_sum, isf_bi_tuple, isf_bi_list, isf_bi_dict, isf_bi_repr, isf_bi_sorted, xh_nil, xh_cons, hk_nx, hk_bk, hk_ct, hk_rt, hn_n, ne_nil, ne_val, ne_own, ne_emp, ax_c, ax_f, List.foldl_cons, List.foldl_nil, List.getElem?_cons_zero, List.getElem?_cons_succ, List.set_cons_zero, List.set_cons_succ, if_true, if_false, ite_true, ite_false, reduceIte, reduceCtorEq, List.length_cons, List.length_nil, List.map_cons, List.map_nil, List.zip_cons_cons, List.zip_nil_left, Option.map_some, Option.map_none, Option.getD_some, Option.getD_none, Option.bind_some, and_true, true_and, and_self, Bool.not_true, Bool.not_false, Bool.or_true, Bool.or_false, Bool.true_or, Bool.false_or, Bool.and_true, Bool.true_and, Bool.and_false, Bool.false_and, decide_true, decide_false, Bool.false_eq_true, List.length_replicate, List.length_map, sz, allBl_true]
  · intro x hx
    obtain ⟨b, hb1, rfl⟩ := List.mem_map.mp hx
    simp only [w_ok, w_err, w_stk, o_ok, o_err, o_stk, t_nx, t_bk, t_ct, t_rt, t_er, t_stk, opt_s, opt_n, c_ok, c_stk, ce_nx, ce_rt, ce_er, ie_nx, ie_er, v_con, slV_v, slP_v, slP_o, v_var, v_peek, v_glo, v_bop, v_neg, neg_i, v_cmp, v_chain, v_and, v_or, v_not, v_ite, v_tup, v_lst, v_lstR, v_dsp, v_dnew, v_sub, v_slc, v_rev, ak_n, ak_s, v_attr, v_call, v_mk, v_bi, v_isi, v_get, v_lc, l_nil, l_star, l_cons, d_nil, d_cons, i_rng, i_enu, i_seq, s_fz', s_exp', s_asg', s_par', s_aug', s_app', s_ret', s_retN', s_ife', s_whl', s_for', s_brk', s_cnt', s_pass', s_raise', s_try', x_nil, x_cons, st_name, st_sub, st_attr, st_tup, sts_nil, sts_cons, stp_nil, stp_cons, fl_nil, fl_cons, fk_nx, fk_ct, fk_bk, fk_rt, fk_er, tv_nx, tv_rt, tv_er, p_addi, p_adds, p_addt, p_addl, p_sub, p_muli, p_mull, p_mult, p_fdv, p_mod, p_pow, p_aadd, p_asub, q_lt, q_le, q_gt, q_ge, q_eq, q_ne, q_is, q_isn, q_in, q_nin, a_bl, r_l, r_t, m_l, m_t, sb_t, sb_l, sb_k, sb_s, sb_d, df_int, df_str, df_tup, df_lst, df_ktup, df_dct, df_obj, df_scr, df_bl, df_non, df_ref, bi_len_l, bi_len_t, bi_len_k, bi_len_s, bi_len_x, bi_len_d, bi_int_i, bi_int_b, bi_str, bi_max, bi_min, bi_all, bi_sum, bi_tup_l, bi_tup_t, bi_lst_l, bi_lst_t, bi_dict, pt_lst, pt_dct, pt_obj, pt_f, pt_m, rg_i, sa_t, sa_l, gv_d, ob_o, bt_n, bt_t, bts_n, bts_c, fg_c, at_o, ty_non, ty_bl, ty_int, ty_str, ty_tup, ty_lst, ty_ktup, ty_dct, ty_scr, ty_obj, tys_n, tys_c, ik_bl, ik_int, ik_str, ik_tup, ik_lst, ik_ktup, ik_dct, ik_scr, ik_non, ik_obj, lc_nil, lc_cons, wp_n, wp_c, oi_n, oi_i, sl_t, sl_l, ns_var, ns_peek, ns_con, ns_glo, ns_bop, ns_neg, ns_cmp, ns_chain, ns_and, ns_or, ns_not, ns_ite, ns_tup, ns_lst, ns_lstR, ns_dsp, ns_dnew, ns_sub, ns_slc, ns_rev, ns_attr, ns_prop, ns_call, ns_mk, ns_meth, ns_bi, ns_isi, ns_get, ns_lc, ns_lc2, ns_dc, ns_rng, ns_enu, ns_seq, ex_var, ex_con, ex_glo, ex_bop, ex_neg, ex_cmp, ex_chain, ex_and, ex_or, ex_not, ex_ite, ex_tup, ex_lst, ex_lstR, ex_dsp, ex_dnew, ex_sub, ex_slc, ex_rev, ex_attr, ex_prop, ex_call, ex_mk, ex_meth, ex_bi, ex_isi, ex_get, ex_lc, ex_lc2, ex_dc, ex_rng, ex_enu, ex_seq, ex_peek, es_e, es_v, es_o, fz_s, fz_o, fz_v, fz_e, pl_p, ps_o, ps_c, pu_s, pu_c, pus_o, puc_s, pur_s, pur_c, il_s, il_c, ils_o, ilc_l, sp_l, ss_l, ss_d, sf_o, ft_n, lt_n, isf_var, isf_peek, isf_con, isf_glo, isf_bop, isf_neg, isf_cmp, isf_chain, isf_and, isf_or, isf_not, isf_ite, isf_tup, isf_lst, isf_lstR, isf_dsp, isf_dnew, isf_sub, isf_slc, isf_rev, isf_attr, isf_prop, isf_call, isf_mk, isf_meth, isf_isi, isf_get, isf_lc, isf_lc2, isf_dc, isf_rng, isf_enu, isf_seq, isf_bi_len, isf_bi_int, isf_bi_str, isf_bi_max, isf_bi_min, isf_bi_all, isf_bi_sum, isf_bi_tuple, isf_bi_list, isf_bi_dict, isf_bi_repr, isf_bi_sorted, xh_nil, xh_cons, hk_nx, hk_bk, hk_ct, hk_rt, hn_n, ne_nil, ne_val, ne_own, ne_emp, ax_c, ax_f, List.foldl_cons, List.foldl_nil, List.getElem?_cons_zero, List.getElem?_cons_succ, List.set_cons_zero, List.set_cons_succ, if_true, if_false, ite_true, ite_false, reduceIte, reduceCtorEq, List.length_cons, List.length_nil, List.map_cons, List.map_nil, List.zip_cons_cons, List.zip_nil_left, Option.map_some, Option.map_none, Option.getD_some, Option.getD_none, Option.bind_some, and_true, true_and, and_self, Bool.not_true, Bool.not_false, Bool.or_true, Bool.or_false, Bool.true_or, Bool.false_or, Bool.and_true, Bool.true_and, Bool.and_false, Bool.false_and, decide_true, decide_false, Bool.false_eq_true, bit_ok k h (hb b hb1)]
theorem are_len (k : Nat) (h : AH) {xs : List AV} {l m : Int} (hx : ¬ (l ≤ (xs.length : Int) ∧ (xs.length : Int) ≤ m)) : calA Pr (k + 3) 9 [.tup xs, .int l, .int m] h = .ok (.bl false) h := by
  rw [u_are_bits]
  unfold B_are_bits
  have c : decide (Ty.tuple = Ty.tuple) = true := by decide
  by_cases h1 : l ≤ (xs.length : Int)
  · have h2 : ¬ (xs.length : Int) ≤ m := fun z => hx ⟨h1, z⟩
    simp only [w_ok, w_err, w_stk, o_ok, o_err, o_stk, t_nx, t_bk, t_ct, t_rt, t_er, t_stk, opt_s, opt_n, c_ok, c_stk, ce_nx, ce_rt, ce_er, ie_nx, ie_er, v_con, slV_v, slP_v, slP_o, v_var, v_peek, v_glo, v_bop, v_neg, neg_i, v_cmp, v_chain, v_and, v_or, v_not, v_ite, v_tup, v_lst, v_lstR, v_dsp, v_dnew, v_sub, v_slc, v_rev, ak_n, ak_s, v_attr, v_call, v_mk, v_bi, v_isi, v_get, v_lc, l_nil, l_star, l_cons, d_nil, d_cons, i_rng, i_enu, i_seq, s_fz', s_exp', s_asg', s_par', s_aug', s_app', s_ret', s_retN', s_ife', s_whl', s_for', s_brk', s_cnt', s_pass', s_raise', s_try', x_nil, x_cons, st_name, st_sub, st_attr, st_tup, sts_nil, sts_cons, stp_nil, stp_cons, fl_nil, fl_cons, fk_nx, fk_ct, fk_bk, fk_rt, fk_er, tv_nx, tv_rt, tv_er, p_addi, p_adds, p_addt, p_addl, p_sub, p_muli, p_mull, p_mult, p_fdv, p_mod, p_pow, p_aadd, p_asub, q_lt, q_le, q_gt, q_ge, q_eq, q_ne, q_is, q_isn, q_in, q_nin, a_bl, r_l, r_t, m_l, m_t, sb_t, sb_l, sb_k, sb_s, sb_d, df_int, df_str, df_tup, df_lst, df_ktup, df_dct, df_obj, df_scr, df_bl, df_non, df_ref, bi_len_l, bi_len_t, bi_len_k, bi_len_s, bi_len_x, bi_len_d, bi_int_i, bi_int_b, bi_str, bi_max, bi_min, bi_all, bi_sum, bi_tup_l, bi_tup_t, bi_lst_l, bi_lst_t, bi_dict, pt_lst, pt_dct, pt_obj, pt_f, pt_m, rg_i, sa_t, sa_l, gv_d, ob_o, bt_n, bt_t, bts_n, bts_c, fg_c, at_o, ty_non, ty_bl, ty_int, ty_str, ty_tup, ty_lst, ty_ktup, ty_dct, ty_scr, ty_obj, tys_n, tys_c, ik_bl, ik_int, ik_str, ik_tup, ik_lst, ik_ktup, ik_dct, ik_scr, ik_non, ik_obj, lc_nil, lc_cons, wp_n, wp_c, oi_n, oi_i, sl_t, sl_l, ns_var, ns_peek, ns_con, ns_glo, ns_bop, ns_neg, ns_cmp, ns_chain, ns_and, ns_or, ns_not, ns_ite, ns_tup, ns_lst, ns_lstR, ns_dsp, ns_dnew, ns_sub, ns_slc, ns_rev, ns_attr, ns_prop, ns_call, ns_mk, ns_meth, ns_bi, ns_isi, ns_get, ns_lc, ns_lc2, ns_dc, ns_rng, ns_enu, ns_seq, ex_var, ex_con, ex_glo, ex_bop, ex_neg, ex_cmp, ex_chain, ex_and, ex_or, ex_not, ex_ite, ex_tup, ex_lst, ex_lstR, ex_dsp, ex_dnew, ex_sub, ex_slc, ex_rev, ex_attr, ex_prop, ex_call, ex_mk, ex_meth, ex_bi, ex_isi, ex_get, ex_lc, ex_lc2, ex_dc, ex_rng, ex_enu, ex_seq, ex_peek, es_e, es_v, es_o, fz_s, fz_o, fz_v, fz_e, pl_p, ps_o, ps_c, pu_s, pu_c, pus_o, puc_s, pur_s, pur_c, il_s, il_c, ils_o, ilc_l, sp_l, ss_l, ss_d, sf_o, ft_n, lt_n, isf_var, isf_peek, isf_con, isf_glo, isf_bop, isf_neg, isf_cmp, isf_chain, isf_and, isf_or, isf_not, isf_ite, isf_tup, isf_lst, isf_lstR, isf_dsp, isf_dnew, isf_sub, isf_slc, isf_rev, isf_attr, isf_prop, isf_call, isf_mk, isf_meth, isf_isi, isf_get, isf_lc, isf_lc2, isf_dc, isf_rng, isf_enu, isf_seq, isf_bi_len, isf_bi_int, isf_bi_str, isf_bi_max, isf_bi_min, isf_bi_all, isf_bi_sum, isf_bi_tuple, isf_bi_list, isf_bi_dict, isf_bi_repr, isf_bi_sorted, xh_nil, xh_cons, hk_nx, hk_bk, hk_ct, hk_rt, hn_n, ne_nil, ne_val, ne_own, ne_emp, ax_c, ax_f, List.foldl_cons, List.foldl_nil, List.getElem?_cons_zero, List.getElem?_cons_succ, List.set_cons_zero, List.set_cons_succ, if_true, if_false, ite_true, ite_false, reduceIte, reduceCtorEq, List.length_cons, List.length_nil, List.map_cons, List.map_nil, List.zip_cons_cons, List.zip_nil_left, Option.map_some, Option.map_none, Option.getD_some, Option.getD_none, Option.bind_some, and_true, true_and, and_self, Bool.not_true, Bool.not_false, Bool.or_true, Bool.or_false, Bool.true_or, Bool.false_or, Bool.and_true, Bool.true_and, Bool.and_false, Bool.false_and, decide_true, decide_false, Bool.false_eq_true, c, h1, h2]
  · simp only [w_ok, w_err, w_stk, o_ok, o_err, o_stk, t_nx, t_bk, t_ct, t_rt, t_er, t_stk, opt_s, opt_n, c_ok, c_stk, ce_nx, ce_rt, ce_er, ie_nx, ie_er, v_con, slV_v, slP_v, slP_o, v_var, v_peek, v_glo, v_bop, v_neg, neg_i, v_cmp, v_chain, v_and, v_or, v_not, v_ite, v_tup, v_lst, v_lstR, v_dsp, v_dnew, v_sub, v_slc, v_rev, ak_n, ak_s, v_attr, v_call, v_mk, v_bi, v_isi, v_get, v_lc, l_nil, l_star, l_cons, d_nil, d_cons, i_rng, i_enu, i_seq, s_fz', s_exp', s_asg', s_par', s_aug', s_app', s_ret', s_retN', s_ife', s_whl', s_for', s_brk', s_cnt', s_pass', s_raise', s_try', x_nil, x_cons, st_name, st_sub, st_attr, st_tup, sts_nil, sts_cons, stp_nil, stp_cons, fl_nil, fl_cons, fk_nx, fk_ct, fk_bk, fk_rt, fk_er, tv_nx, tv_rt, tv_er, p_addi, p_adds, p_addt, p_addl, p_sub, p_muli, p_mull, p_mult, p_fdv, p_mod, p_pow, p_aadd, p_asub, q_lt, q_le, q_gt, q_ge, q_eq, q_ne, q_is, q_isn, q_in, q_nin, a_bl, r_l, r_t, m_l, m_t, sb_t, sb_l, sb_k, sb_s, sb_d, df_int, df_str, df_tup, df_lst, df_ktup, df_dct, df_obj, df_scr, df_bl, df_non, df_ref, bi_len_l, bi_len_t, bi_len_k, bi_len_s, bi_len_x, bi_len_d, bi_int_i, bi_int_b, bi_str, bi_max, bi_min, bi_all, bi_sum, bi_tup_l, bi_tup_t, bi_lst_l, bi_lst_t, bi_dict, pt_lst, pt_dct, pt_obj, pt_f, pt_m, rg_i, sa_t, sa_l, gv_d, ob_o, bt_n, bt_t, bts_n, bts_c, fg_c, at_o, ty_non, ty_bl, ty_int, ty_str, ty_tup, ty_lst, ty_ktup, ty_dct, ty_scr, ty_obj, tys_n, tys_c, ik_bl, ik_int, ik_str, ik_tup, ik_lst, ik_ktup, ik_dct, ik_scr, ik_non, ik_obj, lc_nil, lc_cons, wp_n, wp_c, oi_n, oi_i, sl_t, sl_l, ns_var, ns_peek, ns_con, ns_glo, ns_bop, ns_neg, ns_cmp, ns_chain, ns_and, ns_or, ns_not, ns_ite, ns_tup, ns_lst, ns_lstR, ns_dsp, ns_dnew, ns_sub, ns_slc, ns_rev, ns_attr, ns_prop, ns_call, ns_mk, ns_meth, ns_bi, ns_isi, ns_get, ns_lc, ns_lc2, ns_dc, ns_rng, ns_enu, ns_seq, ex_var, ex_con, ex_glo, ex_bop, ex_neg, ex_cmp, ex_chain, ex_and, ex_or, ex_not, ex_ite, ex_tup, ex_lst, ex_lstR, ex_dsp, ex_dnew, ex_sub, ex_slc, ex_rev, ex_attr, ex_prop, ex_call, ex_mk, ex_meth, ex_bi, ex_isi, ex_get, ex_lc, ex_lc2, ex_dc, ex_rng, ex_enu, ex_seq, ex_peek, es_e, es_v, es_o, fz_s, fz_o, fz_v, fz_e, pl_p, ps_o, ps_c, pu_s, pu_c, pus_o, puc_s, pur_s, pur_c, il_s, il_c, ils_o, ilc_l, sp_l, ss_l, ss_d, sf_o, ft_n, lt_n, isf_var, isf_peek, isf_con, isf_glo, isf_bop, isf_neg, isf_cmp, isf_chain, isf_and, isf_or, isf_not, isf_ite, isf_tup, isf_lst, isf_lstR, isf_dsp, isf_dnew, isf_sub, isf_slc, isf_rev, isf_attr, isf_prop, isf_call, isf_mk, isf_meth, isf_isi, isf_get, isf_lc, isf_lc2, isf_dc, isf_rng, isf_enu, isf_seq, isf_bi_len, isf_bi_int, isf_bi_str, isf_bi_max, isf_bi_min, isf_bi_all, isf_bi_sum, isf_bi_tuple, isf_bi_list, isf_bi_dict, isf_bi_repr, isf_bi_sorted, xh_nil, xh_cons, hk_nx, hk_bk, hk_ct, hk_rt, hn_n, ne_nil, ne_val, ne_own, ne_emp, ax_c, ax_f, List.foldl_cons, List.foldl_nil, List.getElem?_cons_zero, List.getElem?_cons_succ, List.set_cons_zero, List.set_cons_succ, if_true, if_false, ite_true, ite_false, reduceIte, reduceCtorEq, List.length_cons, List.length_nil, List.map_cons, List.map_nil, List.zip_cons_cons, List.zip_nil_left, Option.map_some, Option.map_none, Option.getD_some, Option.getD_none, Option.bind_some, and_true, true_and, and_self, Bool.not_true, Bool.not_false, Bool.or_true, Bool.or_false, Bool.true_or, Bool.false_or, Bool.and_true, Bool.true_and, Bool.and_false, Bool.false_and, decide_true, decide_false, Bool.false_eq_true, c, h1]
/-- no tuple -/
def noTup : AV → Bool
  | .tup _ => false
  | .ktup _ => false
  | .obj _ _ => false
  | .ref _ => false
  | _ => true
theorem are_no (k : Nat) (h : AH) {o l m : AV} (ho : noTup o = true) : calA Pr (k + 1) 9 [o, l, m] h = .ok (.bl false) h := by
  rw [u_are_bits]
  unfold B_are_bits
  cases o <;> first | (cases ho; done) | skip
  all_goals simp only [w_ok, w_err, w_stk, o_ok, o_err, o_stk, t_nx, t_bk, t_ct, t_rt, t_er, t_stk, opt_s, opt_n, c_ok, c_stk, ce_nx, ce_rt, ce_er, ie_nx, ie_er, v_con, slV_v, slP_v, slP_o, v_var, v_peek, v_glo, v_bop, v_neg, neg_i, v_cmp, v_chain, v_and, v_or, v_not, v_ite, v_tup, v_lst, v_lstR, v_dsp, v_dnew, v_sub, v_slc, v_rev, ak_n, ak_s, v_attr, v_call, v_mk, v_bi, v_isi, v_get, v_lc, l_nil, l_star, l_cons, d_nil, d_cons, i_rng, i_enu, i_seq, s_fz', s_exp', s_asg', s_par', s_aug', s_app', s_ret', s_retN', s_ife', s_whl', s_for', s_brk', s_cnt', s_pass', s_raise', s_try', x_nil, x_cons, st_name, st_sub, st_attr, st_tup, sts_nil, sts_cons, stp_nil, stp_cons, fl_nil, fl_cons, fk_nx, fk_ct, fk_bk, fk_rt, fk_er, tv_nx, tv_rt, tv_er, p_addi, p_adds, p_addt, p_addl, p_sub, p_muli, p_mull, p_mult, p_fdv, p_mod, p_pow, p_aadd, p_asub, q_lt, q_le, q_gt, q_ge, q_eq, q_ne, q_is, q_isn, q_in, q_nin, a_bl, r_l, r_t, m_l, m_t, sb_t, sb_l, sb_k, sb_s, sb_d, df_int, df_str, df_tup, df_lst, df_ktup, df_dct, df_obj, df_scr, df_bl, df_non, df_ref, bi_len_l, bi_len_t, bi_len_k, bi_len_s, bi_len_x, bi_len_d, bi_int_i, bi_int_b, bi_str, bi_max, bi_min, bi_all, bi_sum, bi_tup_l, bi_tup_t, bi_lst_l, bi_lst_t, bi_dict, pt_lst, pt_dct, pt_obj, pt_f, pt_m, rg_i, sa_t, sa_l, gv_d, ob_o, bt_n, bt_t, bts_n, bts_c, fg_c, at_o, ty_non, ty_bl, ty_int, ty_str, ty_tup, ty_lst, ty_ktup, ty_dct, ty_scr, ty_obj, tys_n, tys_c, ik_bl, ik_int, ik_str, ik_tup, ik_lst, ik_ktup, ik_dct, ik_scr, ik_non, ik_obj, lc_nil, lc_cons, wp_n, wp_c, oi_n, oi_i, sl_t, sl_l, ns_var, ns_peek, ns_con, ns_glo, ns_bop, ns_neg, ns_cmp, ns_chain, ns_and, ns_or, ns_not, ns_ite, ns_tup, ns_lst, ns_lstR, ns_dsp, ns_dnew, ns_sub, ns_slc, ns_rev, ns_attr, ns_prop, ns_call, ns_mk, ns_meth, ns_bi, ns_isi, ns_get, ns_lc, ns_lc2, ns_dc, ns_rng, ns_enu, ns_seq, ex_var, ex_con, ex_glo, ex_bop, ex_neg, ex_cmp, ex_chain, ex_and, ex_or, ex_not, ex_ite, ex_tup, ex_lst, ex_lstR, ex_dsp, ex_dnew, ex_sub, ex_slc, ex_rev, ex_attr, ex_prop, ex_call, ex_mk, ex_meth, ex_bi, ex_isi, ex_get, ex_lc, ex_lc2, ex_dc, ex_rng, ex_enu, ex_seq, ex_peek, es_e, es_v, es_o, fz_s, fz_o, fz_v, fz_e, pl_p, ps_o, ps_c, pu_s, pu_c, pus_o, puc_s, pur_s, pur_c, il_s, il_c, ils_o, ilc_l, sp_l, ss_l, ss_d, sf_o, ft_n, lt_n, isf_var, isf_peek, isf_con, isf_glo, isf_bop, isf_neg, isf_cmp, isf_chain, isf_and, isf_or, isf_not, isf_ite, isf_tup, isf_lst, isf_lstR, isf_dsp, isf_dnew, isf_sub, isf_slc, isf_rev, isf_attr, isf_prop, isf_call, isf_mk, isf_meth, isf_isi, isf_get, isf_lc, isf_lc2, isf_dc, isf_rng, isf_enu, isf_seq, isf_bi_len, isf_bi_int, isf_bi_str, isf_bi_max, isf_bi_min, isf_bi_all, isf_bi_sum, isf_bi_tuple, isf_bi_list, isf_bi_dict, isf_bi_repr, isf_bi_sorted, xh_nil, xh_cons, hk_nx, hk_bk, hk_ct, hk_rt, hn_n, ne_nil, ne_val, ne_own, ne_emp, ax_c, ax_f, List.foldl_cons, List.foldl_nil, List.getElem?_cons_zero, List.getElem?_cons_succ, List.set_cons_zero, List.set_cons_succ, if_true, if_false, ite_true, ite_false, reduceIte, reduceCtorEq, List.length_cons, List.length_nil, List.map_cons, List.map_nil, List.zip_cons_cons, List.zip_nil_left, Option.map_some, Option.map_none, Option.getD_some, Option.getD_none, Option.bind_some, and_true, true_and, and_self, Bool.not_true, Bool.not_false, Bool.or_true, Bool.or_false, Bool.true_or, Bool.false_or, Bool.and_true, Bool.true_and, Bool.and_false, Bool.false_and, decide_true, decide_false, Bool.false_eq_true, show decide (Ty.tuple = Ty.bool) = false from by decide, show decide (Ty.tuple = Ty.int) = false from by decide, show decide (Ty.tuple = Ty.str) = false from by decide, show decide (Ty.tuple = Ty.list) = false from by decide, show decide (Ty.tuple = Ty.dict) = false from by decide]
theorem cp_ok (k : Nat) (h : AH) {bs : List Int} (hb : ∀ x ∈ bs, x = 0 ∨ x = 1) (hs : bs.length ≤ 1000) : calA Pr (k + 4) 12 [.int bs.length, .tup (bs.map .int)] h = .ok .non h := by
  rw [u_check_past]
  unfold B_check_past
  simp only [w_ok, w_err, w_stk, o_ok, o_err, o_stk, t_nx, t_bk, t_ct, t_rt, t_er, t_stk, opt_s, opt_n, c_ok, c_stk, ce_nx, ce_rt, ce_er, ie_nx, ie_er, v_con, slV_v, slP_v, slP_o, v_var, v_peek, v_glo, v_bop, v_neg, neg_i, v_cmp, v_chain, v_and, v_or, v_not, v_ite, v_tup, v_lst, v_lstR, v_dsp, v_dnew, v_sub, v_slc, v_rev, ak_n, ak_s, v_attr, v_call, v_mk, v_bi, v_isi, v_get, v_lc, l_nil, l_star, l_cons, d_nil, d_cons, i_rng, i_enu, i_seq, s_fz', s_exp', s_asg', s_par', s_aug', s_app', s_ret', s_retN', s_ife', s_whl', s_for', s_brk', s_cnt', s_pass', s_raise', s_try', x_nil, x_cons, st_name, st_sub, st_attr, st_tup, sts_nil, sts_cons, stp_nil, stp_cons, fl_nil, fl_cons, fk_nx, fk_ct, fk_bk, fk_rt, fk_er, tv_nx, tv_rt, tv_er, p_addi, p_adds, p_addt, p_addl, p_sub, p_muli, p_mull, p_mult, p_fdv, p_mod, p_pow, p_aadd, p_asub, q_lt, q_le, q_gt, q_ge, q_eq, q_ne, q_is, q_isn, q_in, q_nin, a_bl, r_l, r_t, m_l, m_t, sb_t, sb_l, sb_k, sb_s, sb_d, df_int, df_str, df_tup, df_lst, df_ktup, df_dct, df_obj, df_scr, df_bl, df_non, df_ref, bi_len_l, bi_len_t, bi_len_k, bi_len_s, bi_len_x, bi_len_d, bi_int_i, bi_int_b, bi_str, bi_max, bi_min, bi_all, bi_sum, bi_tup_l, bi_tup_t, bi_lst_l, bi_lst_t, bi_dict, pt_lst, pt_dct, pt_obj, pt_f, pt_m, rg_i, sa_t, sa_l, gv_d, ob_o, bt_n, bt_t, bts_n, bts_c, fg_c, at_o, ty_non, ty_bl, ty_int, ty_str, ty_tup, ty_lst, ty_ktup, ty_dct, ty_scr, ty_obj, tys_n, tys_c, ik_bl, ik_int, ik_str, ik_tup, ik_lst, ik_ktup, ik_dct, ik_scr, ik_non, ik_obj, lc_nil, lc_cons, wp_n, wp_c, oi_n, oi_i, sl_t, sl_l, ns_var, ns_peek, ns_con, ns_glo, ns_bop, ns_neg, ns_cmp, ns_chain, ns_and, ns_or, ns_not, ns_ite, ns_tup, ns_lst, ns_lstR, ns_dsp, ns_dnew, ns_sub, ns_slc, ns_rev, ns_attr, ns_prop, ns_call, ns_mk, ns_meth, ns_bi, ns_isi, ns_get, ns_lc, ns_lc2, ns_dc, ns_rng, ns_enu, ns_seq, ex_var, ex_con, ex_glo, ex_bop, ex_neg, ex_cmp, ex_chain, ex_and, ex_or, ex_not, ex_ite, ex_tup, ex_lst, ex_lstR, ex_dsp, ex_dnew, ex_sub, ex_slc, ex_rev, ex_attr, ex_prop, ex_call, ex_mk, ex_meth, ex_bi, ex_isi, ex_get, ex_lc, ex_lc2, ex_dc, ex_rng, ex_enu, ex_seq, ex_peek, es_e, es_v, es_o, fz_s, fz_o, fz_v, fz_e, pl_p, ps_o, ps_c, pu_s, pu_c, pus_o, puc_s, pur_s, pur_c, il_s, il_c, ils_o, ilc_l, sp_l, ss_l, ss_d, sf_o, ft_n, lt_n, isf_var, isf_peek, isf_con, isf_glo, isf_bop, isf_neg, isf_cmp, isf_chain, isf_and, isf_or, isf_not, isf_ite, isf_tup, isf_lst, isf_lstR, isf_dsp, isf_dnew, isf_sub, isf_slc, isf_rev, isf_attr, isf_prop, isf_call, isf_mk, isf_meth, isf_isi, isf_get, isf_lc, isf_lc2, isf_dc, isf_rng, isf_enu, isf_seq, isf_bi_len, isf_bi_int, isf_bi_str, isf_bi_max, isf_bi_min, isf_bi_all, isf_bi_sum, isf_bi_tuple, isf_bi_list, isf_bi_dict, isf_bi_repr, isf_bi_sorted, xh_nil, xh_cons, hk_nx, hk_bk, hk_ct, hk_rt, hn_n, ne_nil, ne_val, ne_own, ne_emp, ax_c, ax_f, List.foldl_cons, List.foldl_nil, List.getElem?_cons_zero, List.getElem?_cons_succ, List.set_cons_zero, List.set_cons_succ, if_true, if_false, ite_true, ite_false, reduceIte, reduceCtorEq, List.length_cons, List.length_nil, List.map_cons, List.map_nil, List.zip_cons_cons, List.zip_nil_left, Option.map_some, Option.map_none, Option.getD_some, Option.getD_none, Option.bind_some, and_true, true_and, and_self, Bool.not_true, Bool.not_false, Bool.or_true, Bool.or_false, Bool.true_or, Bool.false_or, Bool.and_true, Bool.true_and, Bool.and_false, Bool.false_and, decide_true, decide_false, Bool.false_eq_true, are_ok k h hb (Int.le_refl _) (Int.le_refl _) hs]
/-- no past of a depth -/
def BadP (d : Int) (o : AV) : Prop := ∀ (k : Nat) (h : AH), calA Pr (k + 4) 12 [.int d, o] h = .err ⟨4, [(10, o)]⟩ h
theorem bp_no {d : Int} {o : AV} (ho : noTup o = true) : BadP d o := fun k h => by
  rw [u_check_past]
  unfold B_check_past
  simp only [w_ok, w_err, w_stk, o_ok, o_err, o_stk, t_nx, t_bk, t_ct, t_rt, t_er, t_stk, opt_s, opt_n, c_ok, c_stk, ce_nx, ce_rt, ce_er, ie_nx, ie_er, v_con, slV_v, slP_v, slP_o, v_var, v_peek, v_glo, v_bop, v_neg, neg_i, v_cmp, v_chain, v_and, v_or, v_not, v_ite, v_tup, v_lst, v_lstR, v_dsp, v_dnew, v_sub, v_slc, v_rev, ak_n, ak_s, v_attr, v_call, v_mk, v_bi, v_isi, v_get, v_lc, l_nil, l_star, l_cons, d_nil, d_cons, i_rng, i_enu, i_seq, s_fz', s_exp', s_asg', s_par', s_aug', s_app', s_ret', s_retN', s_ife', s_whl', s_for', s_brk', s_cnt', s_pass', s_raise', s_try', x_nil, x_cons, st_name, st_sub, st_attr, st_tup, sts_nil, sts_cons, stp_nil, stp_cons, fl_nil, fl_cons, fk_nx, fk_ct, fk_bk, fk_rt, fk_er, tv_nx, tv_rt, tv_er, p_addi, p_adds, p_addt, p_addl, p_sub, p_muli, p_mull, p_mult, p_fdv, p_mod, p_pow, p_aadd, p_asub, q_lt, q_le, q_gt, q_ge, q_eq, q_ne, q_is, q_isn, q_in, q_nin, a_bl, r_l, r_t, m_l, m_t, sb_t, sb_l, sb_k, sb_s, sb_d, df_int, df_str, df_tup, df_lst, df_ktup, df_dct, df_obj, df_scr, df_bl, df_non, df_ref, bi_len_l, bi_len_t, bi_len_k, bi_len_s, bi_len_x, bi_len_d, bi_int_i, bi_int_b, bi_str, bi_max, bi_min, bi_all, bi_sum, bi_tup_l, bi_tup_t, bi_lst_l, bi_lst_t, bi_dict, pt_lst, pt_dct, pt_obj, pt_f, pt_m, rg_i, sa_t, sa_l, gv_d, ob_o, bt_n, bt_t, bts_n, bts_c, fg_c, at_o, ty_non, ty_bl, ty_int, ty_str, ty_tup, ty_lst, ty_ktup, ty_dct, ty_scr, ty_obj, tys_n, tys_c, ik_bl, ik_int, ik_str, ik_tup, ik_lst, ik_ktup, ik_dct, ik_scr, ik_non, ik_obj, lc_nil, lc_cons, wp_n, wp_c, oi_n, oi_i, sl_t, sl_l, ns_var, ns_peek, ns_con, ns_glo, ns_bop, ns_neg, ns_cmp, ns_chain, ns_and, ns_or, ns_not, ns_ite, ns_tup, ns_lst, ns_lstR, ns_dsp, ns_dnew, ns_sub, ns_slc, ns_rev, ns_attr, ns_prop, ns_call, ns_mk, ns_meth, ns_bi, ns_isi, ns_get, ns_lc, ns_lc2, ns_dc, ns_rng, ns_enu, ns_seq, ex_var, ex_con, ex_glo, ex_bop, ex_neg, ex_cmp, ex_chain, ex_and, ex_or, ex_not, ex_ite, ex_tup, ex_lst, ex_lstR, ex_dsp, ex_dnew, ex_sub, ex_slc, ex_rev, ex_attr, ex_prop, ex_call, ex_mk, ex_meth, ex_bi, ex_isi, ex_get, ex_lc, ex_lc2, ex_dc, ex_rng, ex_enu, ex_seq, ex_peek, es_e, es_v, es_o, fz_s, fz_o, fz_v, fz_e, pl_p, ps_o, ps_c, pu_s, pu_c, pus_o, puc_s, pur_s, pur_c, il_s, il_c, ils_o, ilc_l, sp_l, ss_l, ss_d, sf_o, ft_n, lt_n, isf_var, isf_peek, isf_con, isf_glo, isf_bop, isf_neg, isf_cmp, isf_chain, isf_and, isf_or, isf_not, isf_ite, isf_tup, isf_lst, isf_lstR, isf_dsp, isf_dnew, isf_sub, isf_slc, isf_rev, isf_attr, isf_prop, isf_call, isf_mk, isf_meth, isf_isi, isf_get, isf_lc, isf_lc2, isf_dc, isf_rng, isf_enu, isf_seq, isf_bi_len, isf_bi_int, isf_bi_str, isf_bi_max, isf_bi_min, isf_bi_all, isf_bi_sum, isf_bi_tuple, isf_bi_list, isf_bi_dict, isf_bi_repr, isf_bi_sorted, xh_nil, xh_cons, hk_nx, hk_bk, hk_ct, hk_rt, hn_n, ne_nil, ne_val, ne_own, ne_emp, ax_c, ax_f, List.foldl_cons, List.foldl_nil, List.getElem?_cons_zero, List.getElem?_cons_succ, List.set_cons_zero, List.set_cons_succ, if_true, if_false, ite_true, ite_false, reduceIte, reduceCtorEq, List.length_cons, List.length_nil, List.map_cons, List.map_nil, List.zip_cons_cons, List.zip_nil_left, Option.map_some, Option.map_none, Option.getD_some, Option.getD_none, Option.bind_some, and_true, true_and, and_self, Bool.not_true, Bool.not_false, Bool.or_true, Bool.or_false, Bool.true_or, Bool.false_or, Bool.and_true, Bool.true_and, Bool.and_false, Bool.false_and, decide_true, decide_false, Bool.false_eq_true, are_no (k + 2) h ho]
theorem bp_len {d : Int} {xs : List AV} (hx : (xs.length : Int) ≠ d) : BadP d (.tup xs) := fun k h => by
  rw [u_check_past]
  unfold B_check_past
  simp only [w_ok, w_err, w_stk, o_ok, o_err, o_stk, t_nx, t_bk, t_ct, t_rt, t_er, t_stk, opt_s, opt_n, c_ok, c_stk, ce_nx, ce_rt, ce_er, ie_nx, ie_er, v_con, slV_v, slP_v, slP_o, v_var, v_peek, v_glo, v_bop, v_neg, neg_i, v_cmp, v_chain, v_and, v_or, v_not, v_ite, v_tup, v_lst, v_lstR, v_dsp, v_dnew, v_sub, v_slc, v_rev, ak_n, ak_s, v_attr, v_call, v_mk, v_bi, v_isi, v_get, v_lc, l_nil, l_star, l_cons, d_nil, d_cons, i_rng, i_enu, i_seq, s_fz', s_exp', s_asg', s_par', s_aug', s_app', s_ret', s_retN', s_ife', s_whl', s_for', s_brk', s_cnt', s_pass', s_raise', s_try', x_nil, x_cons, st_name, st_sub, st_attr, st_tup, sts_nil, sts_cons, stp_nil, stp_cons, fl_nil, fl_cons, fk_nx, fk_ct, fk_bk, fk_rt, fk_er, tv_nx, tv_rt, tv_er, p_addi, p_adds, p_addt, p_addl, p_sub, p_muli, p_mull, p_mult, p_fdv, p_mod, p_pow, p_aadd, p_asub, q_lt, q_le, q_gt, q_ge, q_eq, q_ne, q_is, q_isn, q_in, q_nin, a_bl, r_l, r_t, m_l, m_t, sb_t, sb_l, sb_k, sb_s, sb_d, df_int, df_str, df_tup, df_lst, df_ktup, df_dct, df_obj, df_scr, df_bl, df_non, df_ref, bi_len_l, bi_len_t, bi_len_k, bi_len_s, bi_len_x, bi_len_d, bi_int_i, bi_int_b, bi_str, bi_max, bi_min, bi_all, bi_sum, bi_tup_l, bi_tup_t, bi_lst_l, bi_lst_t, bi_dict, pt_lst, pt_dct, pt_obj, pt_f, pt_m, rg_i, sa_t, sa_l, gv_d, ob_o, bt_n, bt_t, bts_n, bts_c, fg_c, at_o, ty_non, ty_bl, ty_int, ty_str, ty_tup, ty_lst, ty_ktup, ty_dct, ty_scr, ty_obj, tys_n, tys_c, ik_bl, ik_int, ik_str, ik_tup, ik_lst, ik_ktup, ik_dct, ik_scr, ik_non, ik_obj, lc_nil, lc_cons, wp_n, wp_c, oi_n, oi_i, sl_t, sl_l, ns_var, ns_peek, ns_con, ns_glo, ns_bop, ns_neg, ns_cmp, ns_chain, ns_and, ns_or, ns_not, ns_ite, ns_tup, ns_lst, ns_lstR, ns_dsp, ns_dnew, ns_sub, ns_slc, ns_rev, ns_attr, ns_prop, ns_call, ns_mk, ns_meth, ns_bi, ns_isi, ns_get, ns_lc, ns_lc2, ns_dc, ns_rng, ns_enu, ns_seq, ex_var, ex_con, ex_glo, ex_bop, ex_neg, ex_cmp, ex_chain, ex_and, ex_or, ex_not, ex_ite, ex_tup, ex_lst, ex_lstR, ex_dsp, ex_dnew, ex_sub, ex_slc, ex_rev, ex_attr, ex_prop, ex_call, ex_mk, ex_meth, ex_bi, ex_isi, ex_get, ex_lc, ex_lc2, ex_dc, ex_rng, ex_enu, ex_seq, ex_peek, es_e, es_v, es_o, fz_s, fz_o, fz_v, fz_e, pl_p, ps_o, ps_c, pu_s, pu_c, pus_o, puc_s, pur_s, pur_c, il_s, il_c, ils_o, ilc_l, sp_l, ss_l, ss_d, sf_o, ft_n, lt_n, isf_var, isf_peek, isf_con, isf_glo, isf_bop, isf_neg, isf_cmp, isf_chain, isf_and, isf_or, isf_not, isf_ite, isf_tup, isf_lst, isf_lstR, isf_dsp, isf_dnew, isf_sub, isf_slc, isf_rev, isf_attr, isf_prop, isf_call, isf_mk, isf_meth, isf_isi, isf_get, isf_lc, isf_lc2, isf_dc, isf_rng, isf_enu, isf_seq, isf_bi_len, isf_bi_int, isf_bi_str, isf_bi_max, isf_bi_min, isf_bi_all, isf_bi_sum, isf_bi_tuple, isf_bi_list, isf_bi_dict, isf_bi_repr, isf_bi_sorted, xh_nil, xh_cons, hk_nx, hk_bk, hk_ct, hk_rt, hn_n, ne_nil, ne_val, ne_own, ne_emp, ax_c, ax_f, List.foldl_cons, List.foldl_nil, List.getElem?_cons_zero, List.getElem?_cons_succ, List.set_cons_zero, List.set_cons_succ, if_true, if_false, ite_true, ite_false, reduceIte, reduceCtorEq, List.length_cons, List.length_nil, List.map_cons, List.map_nil, List.zip_cons_cons, List.zip_nil_left, Option.map_some, Option.map_none, Option.getD_some, Option.getD_none, Option.bind_some, and_true, true_and, and_self, Bool.not_true, Bool.not_false, Bool.or_true, Bool.or_false, Bool.true_or, Bool.false_or, Bool.and_true, Bool.true_and, Bool.and_false, Bool.false_and, decide_true, decide_false, Bool.false_eq_true, are_len k h (xs := xs) (l := d) (m := d) (by omega)]
/-- no text -/
def BadB (o : AV) : Prop := ∀ (k : Nat) (h : AH), calA Pr (k + 4) 13 [o] h = .err ⟨3, [(10, o)]⟩ h

end LawT
set_option maxHeartbeats 0
namespace LawT
open PySem AM
theorem eqi (i j : Int) : eqAV (.int i) (.int j) = some (i == j) := rfl
theorem clsL : Pr.cls.length = 2 := rfl
theorem nexL : Pr.nex = 10 := rfl
/-- an error's class, field, tag -/
def Cl (c f : Nat) (tag : AV) : Prop := (c = 4 ∧ f = 10 ∧ tag = .str (Str.ofString "past")) ∨ (c = 3 ∧ f = 10 ∧ tag = .str (Str.ofString "bits")) ∨ (c = 8 ∧ f = 11 ∧ tag = .str (Str.ofString "number")) ∨ (c = 6 ∧ f = 10 ∧ tag = .str (Str.ofString "fraction")) ∨ (c = 9 ∧ f = 10 ∧ tag = .str (Str.ofString "code")) ∨ (c = 7 ∧ f = 10 ∧ tag = .str (Str.ofString "argument"))
/-- a call that raises -/
def Er (f : Nat) (args : List AV) (c g : Nat) (v : AV) : Prop := ∀ (k : Nat) (h : AH), calA Pr (k + 10) f args h = .err ⟨c, [(g, v)]⟩ h
theorem z2 : szOk 2 = true := by decide
theorem z1 : szOk 1 = true := by decide
def heardHs : List (Nat × Nat × List AM.St) := match B__law_heard with
  | .try_ _ hs :: _ => hs
  | _ => []
/-- what is heard of an error -/
theorem heard_end (k : Nat) (h : AH) {c f : Nat} {tag v w m p o wd : AV} {s : Str} (cl : Cl c f tag) (rp : biV .repr [v] = some (.str s)) {hs : List (Nat × Nat × List AM.St)} (hh : hs = heardHs) :
    exH Pr (calA Pr k) (iniA Pr k) hs ⟨c, [(f, v)]⟩ [.val w, .val m, .val p, .val o, .val wd, .emp] h = .rt (.lst [tag, .str s]) [.val w, .val m, .val p, .val o, .val wd, .emp] h := by
  subst hh
  simp only [heardHs, B__law_heard]
  rcases cl with ⟨rfl, rfl, rfl⟩ | ⟨rfl, rfl, rfl⟩ | ⟨rfl, rfl, rfl⟩ | ⟨rfl, rfl, rfl⟩ | ⟨rfl, rfl, rfl⟩ | ⟨rfl, rfl, rfl⟩ <;>
    simp [w_ok, w_err, w_stk, o_ok, o_err, o_stk, t_nx, t_bk, t_ct, t_rt, t_er, t_stk, opt_s, opt_n, c_ok, c_stk, ce_nx, ce_rt, ce_er, ie_nx, ie_er, v_con, slV_v, slP_v, slP_o, v_var, v_peek, v_glo, v_bop, v_neg, neg_i, v_cmp, v_chain, v_and, v_or, v_not, v_ite, v_tup, v_lst, v_lstR, v_dsp, v_dnew, v_sub, v_slc, v_rev, ak_n, ak_s, v_attr, v_call, v_mk, v_bi, v_isi, v_get, v_lc, l_nil, l_star, l_cons, d_nil, d_cons, i_rng, i_enu, i_seq, s_fz', s_exp', s_asg', s_par', s_aug', s_app', s_ret', s_retN', s_ife', s_whl', s_for', s_brk', s_cnt', s_pass', s_raise', s_try', x_nil, x_cons, st_name, st_sub, st_attr, st_tup, sts_nil, sts_cons, stp_nil, stp_cons, fl_nil, fl_cons, fk_nx, fk_ct, fk_bk, fk_rt, fk_er, tv_nx, tv_rt, tv_er, p_addi, p_adds, p_addt, p_addl, p_sub, p_muli, p_mull, p_mult, p_fdv, p_mod, p_pow, p_aadd, p_asub, q_lt, q_le, q_gt, q_ge, q_eq, q_ne, q_is, q_isn, q_in, q_nin, a_bl, r_l, r_t, m_l, m_t, sb_t, sb_l, sb_k, sb_s, sb_d, df_int, df_str, df_tup, df_lst, df_ktup, df_dct, df_obj, df_scr, df_bl, df_non, df_ref, bi_len_l, bi_len_t, bi_len_k, bi_len_s, bi_len_x, bi_len_d, bi_int_i, bi_int_b, bi_str, bi_max, bi_min, bi_all, bi_sum, bi_tup_l, bi_tup_t, bi_lst_l, bi_lst_t, bi_dict, pt_lst, pt_dct, pt_obj, pt_f, pt_m, rg_i, sa_t, sa_l, gv_d, ob_o, bt_n, bt_t, bts_n, bts_c, fg_c, at_o, ty_non, ty_bl, ty_int, ty_str, ty_tup, ty_lst, ty_ktup, ty_dct, ty_scr, ty_obj, tys_n, tys_c, ik_bl, ik_int, ik_str, ik_tup, ik_lst, ik_ktup, ik_dct, ik_scr, ik_non, ik_obj, lc_nil, lc_cons, wp_n, wp_c, oi_n, oi_i, sl_t, sl_l, ns_var, ns_peek, ns_con, ns_glo, ns_bop, ns_neg, ns_cmp, ns_chain, ns_and, ns_or, ns_not, ns_ite, ns_tup, ns_lst, ns_lstR, ns_dsp, ns_dnew, ns_sub, ns_slc, ns_rev, ns_attr, ns_prop, ns_call, ns_mk, ns_meth, ns_bi, ns_isi, ns_get, ns_lc, ns_lc2, ns_dc, ns_rng, ns_enu, ns_seq, ex_var, ex_con, ex_glo, ex_bop, ex_neg, ex_cmp, ex_chain, ex_and, ex_or, ex_not, ex_ite, ex_tup, ex_lst, ex_lstR, ex_dsp, ex_dnew, ex_sub, ex_slc, ex_rev, ex_attr, ex_prop, ex_call, ex_mk, ex_meth, ex_bi, ex_isi, ex_get, ex_lc, ex_lc2, ex_dc, ex_rng, ex_enu, ex_seq, ex_peek, es_e, es_v, es_o, fz_s, fz_o, fz_v, fz_e, pl_p, ps_o, ps_c, pu_s, pu_c, pus_o, puc_s, pur_s, pur_c, il_s, il_c, ils_o, ilc_l, sp_l, ss_l, ss_d, sf_o, ft_n, lt_n, isf_var, isf_peek, isf_con, isf_glo, isf_bop, isf_neg, isf_cmp, isf_chain, isf_and, isf_or, isf_not, isf_ite, isf_tup, isf_lst, isf_lstR, isf_dsp, isf_dnew, isf_sub, isf_slc, isf_rev, isf_attr, isf_prop, isf_call, isf_mk, isf_meth, isf_isi, isf_get, isf_lc, isf_lc2, isf_dc, isf_rng, isf_enu, isf_seq, isf_bi_len, isf_bi_int, isf_bi_str, isf_bi_max, isf_bi_min, isf_bi_all, isf_bi_sum, isf_bi_tuple, isf_bi_list, isf_bi_dict, isf_bi_repr, isf_bi_sorted, xh_nil, xh_cons, hk_nx, hk_bk, hk_ct, hk_rt, hn_n, ne_nil, ne_val, ne_own, ne_emp, ax_c, ax_f, List.foldl_cons, List.foldl_nil, List.getElem?_cons_zero, List.getElem?_cons_succ, List.set_cons_zero, List.set_cons_succ, if_true, if_false, ite_true, ite_false, reduceIte, reduceCtorEq, List.length_cons, List.length_nil, List.map_cons, List.map_nil, List.zip_cons_cons, List.zip_nil_left, Option.map_some, Option.map_none, Option.getD_some, Option.getD_none, Option.bind_some, and_true, true_and, and_self, Bool.not_true, Bool.not_false, Bool.or_true, Bool.or_false, Bool.true_or, Bool.false_or, Bool.and_true, Bool.true_and, Bool.and_false, Bool.false_and, decide_true, decide_false, Bool.false_eq_true, clsL, nexL, rp, z2]

theorem heard0 (k : Nat) (h : AH) {c f : Nat} {tag v m p o wd : AV} {s : Str} (E : Er 37 [m, p, o, wd] c f v) (cl : Cl c f tag) (rp : biV .repr [v] = some (.str s)) : calA Pr (k + 11) 53 [.int 0, m, p, o, wd] h = .ok (.lst [tag, .str s]) h := by
  rw [u__law_heard]
  unfold B__law_heard
  simp [w_ok, w_err, w_stk, o_ok, o_err, o_stk, t_nx, t_bk, t_ct, t_rt, t_er, t_stk, opt_s, opt_n, c_ok, c_stk, ce_nx, ce_rt, ce_er, ie_nx, ie_er, v_con, slV_v, slP_v, slP_o, v_var, v_peek, v_glo, v_bop, v_neg, neg_i, v_cmp, v_chain, v_and, v_or, v_not, v_ite, v_tup, v_lst, v_lstR, v_dsp, v_dnew, v_sub, v_slc, v_rev, ak_n, ak_s, v_attr, v_call, v_mk, v_bi, v_isi, v_get, v_lc, l_nil, l_star, l_cons, d_nil, d_cons, i_rng, i_enu, i_seq, s_fz', s_exp', s_asg', s_par', s_aug', s_app', s_ret', s_retN', s_ife', s_whl', s_for', s_brk', s_cnt', s_pass', s_raise', s_try', x_nil, x_cons, st_name, st_sub, st_attr, st_tup, sts_nil, sts_cons, stp_nil, stp_cons, fl_nil, fl_cons, fk_nx, fk_ct, fk_bk, fk_rt, fk_er, tv_nx, tv_rt, tv_er, p_addi, p_adds, p_addt, p_addl, p_sub, p_muli, p_mull, p_mult, p_fdv, p_mod, p_pow, p_aadd, p_asub, q_lt, q_le, q_gt, q_ge, q_eq, q_ne, q_is, q_isn, q_in, q_nin, a_bl, r_l, r_t, m_l, m_t, sb_t, sb_l, sb_k, sb_s, sb_d, df_int, df_str, df_tup, df_lst, df_ktup, df_dct, df_obj, df_scr, df_bl, df_non, df_ref, bi_len_l, bi_len_t, bi_len_k, bi_len_s, bi_len_x, bi_len_d, bi_int_i, bi_int_b, bi_str, bi_max, bi_min, bi_all, bi_sum, bi_tup_l, bi_tup_t, bi_lst_l, bi_lst_t, bi_dict, pt_lst, pt_dct, pt_obj, pt_f, pt_m, rg_i, sa_t, sa_l, gv_d, ob_o, bt_n, bt_t, bts_n, bts_c, fg_c, at_o, ty_non, ty_bl, ty_int, ty_str, ty_tup, ty_lst, ty_ktup, ty_dct, ty_scr, ty_obj, tys_n, tys_c, ik_bl, ik_int, ik_str, ik_tup, ik_lst, ik_ktup, ik_dct, ik_scr, ik_non, ik_obj, lc_nil, lc_cons, wp_n, wp_c, oi_n, oi_i, sl_t, sl_l, ns_var, ns_peek, ns_con, ns_glo, ns_bop, ns_neg, ns_cmp, ns_chain, ns_and, ns_or, ns_not, ns_ite, ns_tup, ns_lst, ns_lstR, ns_dsp, ns_dnew, ns_sub, ns_slc, ns_rev, ns_attr, ns_prop, ns_call, ns_mk, ns_meth, ns_bi, ns_isi, ns_get, ns_lc, ns_lc2, ns_dc, ns_rng, ns_enu, ns_seq, ex_var, ex_con, ex_glo, ex_bop, ex_neg, ex_cmp, ex_chain, ex_and, ex_or, ex_not, ex_ite, ex_tup, ex_lst, ex_lstR, ex_dsp, ex_dnew, ex_sub, ex_slc, ex_rev, ex_attr, ex_prop, ex_call, ex_mk, ex_meth, ex_bi, ex_isi, ex_get, ex_lc, ex_lc2, ex_dc, ex_rng, ex_enu, ex_seq, ex_peek, es_e, es_v, es_o, fz_s, fz_o, fz_v, fz_e, pl_p, ps_o, ps_c, pu_s, pu_c, pus_o, puc_s, pur_s, pur_c, il_s, il_c, ils_o, ilc_l, sp_l, ss_l, ss_d, sf_o, ft_n, lt_n, isf_var, isf_peek, isf_con, isf_glo, isf_bop, isf_neg, isf_cmp, isf_chain, isf_and, isf_or, isf_not, isf_ite, isf_tup, isf_lst, isf_lstR, isf_dsp, isf_dnew, isf_sub, isf_slc, isf_rev, isf_attr, isf_prop, isf_call, isf_mk, isf_meth, isf_isi, isf_get, isf_lc, isf_lc2, isf_dc, isf_rng, isf_enu, isf_seq, isf_bi_len, isf_bi_int, isf_bi_str, isf_bi_max, isf_bi_min, isf_bi_all, isf_bi_sum, isf_bi_tuple, isf_bi_list, isf_bi_dict, isf_bi_repr, isf_bi_sorted, hk_nx, hk_bk, hk_ct, hk_rt, hn_n, ne_nil, ne_val, ne_own, ne_emp, ax_c, ax_f, List.foldl_cons, List.foldl_nil, List.getElem?_cons_zero, List.getElem?_cons_succ, List.set_cons_zero, List.set_cons_succ, if_true, if_false, ite_true, ite_false, reduceIte, reduceCtorEq, List.length_cons, List.length_nil, List.map_cons, List.map_nil, List.zip_cons_cons, List.zip_nil_left, Option.map_some, Option.map_none, Option.getD_some, Option.getD_none, Option.bind_some, and_true, true_and, and_self, Bool.not_true, Bool.not_false, Bool.or_true, Bool.or_false, Bool.true_or, Bool.false_or, Bool.and_true, Bool.true_and, Bool.and_false, Bool.false_and, decide_true, decide_false, Bool.false_eq_true, eqi, E k h]
  rw [heard_end (k + 10) h cl rp]
  · simp only [w_ok, w_err, w_stk, o_ok, o_err, o_stk, t_nx, t_bk, t_ct, t_rt, t_er, t_stk, opt_s, opt_n, c_ok, c_stk, ce_nx, ce_rt, ce_er, ie_nx, ie_er, v_con, slV_v, slP_v, slP_o, v_var, v_peek, v_glo, v_bop, v_neg, neg_i, v_cmp, v_chain, v_and, v_or, v_not, v_ite, v_tup, v_lst, v_lstR, v_dsp, v_dnew, v_sub, v_slc, v_rev, ak_n, ak_s, v_attr, v_call, v_mk, v_bi, v_isi, v_get, v_lc, l_nil, l_star, l_cons, d_nil, d_cons, i_rng, i_enu, i_seq, s_fz', s_exp', s_asg', s_par', s_aug', s_app', s_ret', s_retN', s_ife', s_whl', s_for', s_brk', s_cnt', s_pass', s_raise', s_try', x_nil, x_cons, st_name, st_sub, st_attr, st_tup, sts_nil, sts_cons, stp_nil, stp_cons, fl_nil, fl_cons, fk_nx, fk_ct, fk_bk, fk_rt, fk_er, tv_nx, tv_rt, tv_er, p_addi, p_adds, p_addt, p_addl, p_sub, p_muli, p_mull, p_mult, p_fdv, p_mod, p_pow, p_aadd, p_asub, q_lt, q_le, q_gt, q_ge, q_eq, q_ne, q_is, q_isn, q_in, q_nin, a_bl, r_l, r_t, m_l, m_t, sb_t, sb_l, sb_k, sb_s, sb_d, df_int, df_str, df_tup, df_lst, df_ktup, df_dct, df_obj, df_scr, df_bl, df_non, df_ref, bi_len_l, bi_len_t, bi_len_k, bi_len_s, bi_len_x, bi_len_d, bi_int_i, bi_int_b, bi_str, bi_max, bi_min, bi_all, bi_sum, bi_tup_l, bi_tup_t, bi_lst_l, bi_lst_t, bi_dict, pt_lst, pt_dct, pt_obj, pt_f, pt_m, rg_i, sa_t, sa_l, gv_d, ob_o, bt_n, bt_t, bts_n, bts_c, fg_c, at_o, ty_non, ty_bl, ty_int, ty_str, ty_tup, ty_lst, ty_ktup, ty_dct, ty_scr, ty_obj, tys_n, tys_c, ik_bl, ik_int, ik_str, ik_tup, ik_lst, ik_ktup, ik_dct, ik_scr, ik_non, ik_obj, lc_nil, lc_cons, wp_n, wp_c, oi_n, oi_i, sl_t, sl_l, ns_var, ns_peek, ns_con, ns_glo, ns_bop, ns_neg, ns_cmp, ns_chain, ns_and, ns_or, ns_not, ns_ite, ns_tup, ns_lst, ns_lstR, ns_dsp, ns_dnew, ns_sub, ns_slc, ns_rev, ns_attr, ns_prop, ns_call, ns_mk, ns_meth, ns_bi, ns_isi, ns_get, ns_lc, ns_lc2, ns_dc, ns_rng, ns_enu, ns_seq, ex_var, ex_con, ex_glo, ex_bop, ex_neg, ex_cmp, ex_chain, ex_and, ex_or, ex_not, ex_ite, ex_tup, ex_lst, ex_lstR, ex_dsp, ex_dnew, ex_sub, ex_slc, ex_rev, ex_attr, ex_prop, ex_call, ex_mk, ex_meth, ex_bi, ex_isi, ex_get, ex_lc, ex_lc2, ex_dc, ex_rng, ex_enu, ex_seq, ex_peek, es_e, es_v, es_o, fz_s, fz_o, fz_v, fz_e, pl_p, ps_o, ps_c, pu_s, pu_c, pus_o, puc_s, pur_s, pur_c, il_s, il_c, ils_o, ilc_l, sp_l, ss_l, ss_d, sf_o, ft_n, lt_n, isf_var, isf_peek, isf_con, isf_glo, isf_bop, isf_neg, isf_cmp, isf_chain, isf_and, isf_or, isf_not, isf_ite, isf_tup, isf_lst, isf_lstR, isf_dsp, isf_dnew, isf_sub, isf_slc, isf_rev, isf_attr, isf_prop, isf_call, isf_mk, isf_meth, isf_isi, isf_get, isf_lc, isf_lc2, isf_dc, isf_rng, isf_enu, isf_seq, isf_bi_len, isf_bi_int, isf_bi_str, isf_bi_max, isf_bi_min, isf_bi_all, isf_bi_sum, isf_bi_tuple, isf_bi_list, isf_bi_dict, isf_bi_repr, isf_bi_sorted, xh_nil, xh_cons, hk_nx, hk_bk, hk_ct, hk_rt, hn_n, ne_nil, ne_val, ne_own, ne_emp, ax_c, ax_f, List.foldl_cons, List.foldl_nil, List.getElem?_cons_zero, List.getElem?_cons_succ, List.set_cons_zero, List.set_cons_succ, if_true, if_false, ite_true, ite_false, reduceIte, reduceCtorEq, List.length_cons, List.length_nil, List.map_cons, List.map_nil, List.zip_cons_cons, List.zip_nil_left, Option.map_some, Option.map_none, Option.getD_some, Option.getD_none, Option.bind_some, and_true, true_and, and_self, Bool.not_true, Bool.not_false, Bool.or_true, Bool.or_false, Bool.true_or, Bool.false_or, Bool.and_true, Bool.true_and, Bool.and_false, Bool.false_and, decide_true, decide_false, Bool.false_eq_true]
  · rfl
theorem heard1 (k : Nat) (h : AH) {c f : Nat} {tag v m p o wd : AV} {s : Str} (E : Er 38 [m, p, o, wd] c f v) (cl : Cl c f tag) (rp : biV .repr [v] = some (.str s)) : calA Pr (k + 11) 53 [.int 1, m, p, o, wd] h = .ok (.lst [tag, .str s]) h := by
  rw [u__law_heard]
  unfold B__law_heard
  simp [w_ok, w_err, w_stk, o_ok, o_err, o_stk, t_nx, t_bk, t_ct, t_rt, t_er, t_stk, opt_s, opt_n, c_ok, c_stk, ce_nx, ce_rt, ce_er, ie_nx, ie_er, v_con, slV_v, slP_v, slP_o, v_var, v_peek, v_glo, v_bop, v_neg, neg_i, v_cmp, v_chain, v_and, v_or, v_not, v_ite, v_tup, v_lst, v_lstR, v_dsp, v_dnew, v_sub, v_slc, v_rev, ak_n, ak_s, v_attr, v_call, v_mk, v_bi, v_isi, v_get, v_lc, l_nil, l_star, l_cons, d_nil, d_cons, i_rng, i_enu, i_seq, s_fz', s_exp', s_asg', s_par', s_aug', s_app', s_ret', s_retN', s_ife', s_whl', s_for', s_brk', s_cnt', s_pass', s_raise', s_try', x_nil, x_cons, st_name, st_sub, st_attr, st_tup, sts_nil, sts_cons, stp_nil, stp_cons, fl_nil, fl_cons, fk_nx, fk_ct, fk_bk, fk_rt, fk_er, tv_nx, tv_rt, tv_er, p_addi, p_adds, p_addt, p_addl, p_sub, p_muli, p_mull, p_mult, p_fdv, p_mod, p_pow, p_aadd, p_asub, q_lt, q_le, q_gt, q_ge, q_eq, q_ne, q_is, q_isn, q_in, q_nin, a_bl, r_l, r_t, m_l, m_t, sb_t, sb_l, sb_k, sb_s, sb_d, df_int, df_str, df_tup, df_lst, df_ktup, df_dct, df_obj, df_scr, df_bl, df_non, df_ref, bi_len_l, bi_len_t, bi_len_k, bi_len_s, bi_len_x, bi_len_d, bi_int_i, bi_int_b, bi_str, bi_max, bi_min, bi_all, bi_sum, bi_tup_l, bi_tup_t, bi_lst_l, bi_lst_t, bi_dict, pt_lst, pt_dct, pt_obj, pt_f, pt_m, rg_i, sa_t, sa_l, gv_d, ob_o, bt_n, bt_t, bts_n, bts_c, fg_c, at_o, ty_non, ty_bl, ty_int, ty_str, ty_tup, ty_lst, ty_ktup, ty_dct, ty_scr, ty_obj, tys_n, tys_c, ik_bl, ik_int, ik_str, ik_tup, ik_lst, ik_ktup, ik_dct, ik_scr, ik_non, ik_obj, lc_nil, lc_cons, wp_n, wp_c, oi_n, oi_i, sl_t, sl_l, ns_var, ns_peek, ns_con, ns_glo, ns_bop, ns_neg, ns_cmp, ns_chain, ns_and, ns_or, ns_not, ns_ite, ns_tup, ns_lst, ns_lstR, ns_dsp, ns_dnew, ns_sub, ns_slc, ns_rev, ns_attr, ns_prop, ns_call, ns_mk, ns_meth, ns_bi, ns_isi, ns_get, ns_lc, ns_lc2, ns_dc, ns_rng, ns_enu, ns_seq, ex_var, ex_con, ex_glo, ex_bop, ex_neg, ex_cmp, ex_chain, ex_and, ex_or, ex_not, ex_ite, ex_tup, ex_lst, ex_lstR, ex_dsp, ex_dnew, ex_sub, ex_slc, ex_rev, ex_attr, ex_prop, ex_call, ex_mk, ex_meth, ex_bi, ex_isi, ex_get, ex_lc, ex_lc2, ex_dc, ex_rng, ex_enu, ex_seq, ex_peek, es_e, es_v, es_o, fz_s, fz_o, fz_v, fz_e, pl_p, ps_o, ps_c, pu_s, pu_c, pus_o, puc_s, pur_s, pur_c, il_s, il_c, ils_o, ilc_l, sp_l, ss_l, ss_d, sf_o, ft_n, lt_n, isf_var, isf_peek, isf_con, isf_glo, isf_bop, isf_neg, isf_cmp, isf_chain, isf_and, isf_or, isf_not, isf_ite, isf_tup, isf_lst, isf_lstR, isf_dsp, isf_dnew, isf_sub, isf_slc, isf_rev, isf_attr, isf_prop, isf_call, isf_mk, isf_meth, isf_isi, isf_get, isf_lc, isf_lc2, isf_dc, isf_rng, isf_enu, isf_seq, isf_bi_len, isf_bi_int, isf_bi_str, isf_bi_max, isf_bi_min, isf_bi_all, isf_bi_sum, isf_bi_tuple, isf_bi_list, isf_bi_dict, isf_bi_repr, isf_bi_sorted, hk_nx, hk_bk, hk_ct, hk_rt, hn_n, ne_nil, ne_val, ne_own, ne_emp, ax_c, ax_f, List.foldl_cons, List.foldl_nil, List.getElem?_cons_zero, List.getElem?_cons_succ, List.set_cons_zero, List.set_cons_succ, if_true, if_false, ite_true, ite_false, reduceIte, reduceCtorEq, List.length_cons, List.length_nil, List.map_cons, List.map_nil, List.zip_cons_cons, List.zip_nil_left, Option.map_some, Option.map_none, Option.getD_some, Option.getD_none, Option.bind_some, and_true, true_and, and_self, Bool.not_true, Bool.not_false, Bool.or_true, Bool.or_false, Bool.true_or, Bool.false_or, Bool.and_true, Bool.true_and, Bool.and_false, Bool.false_and, decide_true, decide_false, Bool.false_eq_true, eqi, E k h]
  rw [heard_end (k + 10) h cl rp]
  · simp only [w_ok, w_err, w_stk, o_ok, o_err, o_stk, t_nx, t_bk, t_ct, t_rt, t_er, t_stk, opt_s, opt_n, c_ok, c_stk, ce_nx, ce_rt, ce_er, ie_nx, ie_er, v_con, slV_v, slP_v, slP_o, v_var, v_peek, v_glo, v_bop, v_neg, neg_i, v_cmp, v_chain, v_and, v_or, v_not, v_ite, v_tup, v_lst, v_lstR, v_dsp, v_dnew, v_sub, v_slc, v_rev, ak_n, ak_s, v_attr, v_call, v_mk, v_bi, v_isi, v_get, v_lc, l_nil, l_star, l_cons, d_nil, d_cons, i_rng, i_enu, i_seq, s_fz', s_exp', s_asg', s_par', s_aug', s_app', s_ret', s_retN', s_ife', s_whl', s_for', s_brk', s_cnt', s_pass', s_raise', s_try', x_nil, x_cons, st_name, st_sub, st_attr, st_tup, sts_nil, sts_cons, stp_nil, stp_cons, fl_nil, fl_cons, fk_nx, fk_ct, fk_bk, fk_rt, fk_er, tv_nx, tv_rt, tv_er, p_addi, p_adds, p_addt, p_addl, p_sub, p_muli, p_mull, p_mult, p_fdv, p_mod, p_pow, p_aadd, p_asub, q_lt, q_le, q_gt, q_ge, q_eq, q_ne, q_is, q_isn, q_in, q_nin, a_bl, r_l, r_t, m_l, m_t, sb_t, sb_l, sb_k, sb_s, sb_d, df_int, df_str, df_tup, df_lst, df_ktup, df_dct, df_obj, df_scr, df_bl, df_non, df_ref, bi_len_l, bi_len_t, bi_len_k, bi_len_s, bi_len_x, bi_len_d, bi_int_i, bi_int_b, bi_str, bi_max, bi_min, bi_all, bi_sum, bi_tup_l, bi_tup_t, bi_lst_l, bi_lst_t, bi_dict, pt_lst, pt_dct, pt_obj, pt_f, pt_m, rg_i, sa_t, sa_l, gv_d, ob_o, bt_n, bt_t, bts_n, bts_c, fg_c, at_o, ty_non, ty_bl, ty_int, ty_str, ty_tup, ty_lst, ty_ktup, ty_dct, ty_scr, ty_obj, tys_n, tys_c, ik_bl, ik_int, ik_str, ik_tup, ik_lst, ik_ktup, ik_dct, ik_scr, ik_non, ik_obj, lc_nil, lc_cons, wp_n, wp_c, oi_n, oi_i, sl_t, sl_l, ns_var, ns_peek, ns_con, ns_glo, ns_bop, ns_neg, ns_cmp, ns_chain, ns_and, ns_or, ns_not, ns_ite, ns_tup, ns_lst, ns_lstR, ns_dsp, ns_dnew, ns_sub, ns_slc, ns_rev, ns_attr, ns_prop, ns_call, ns_mk, ns_meth, ns_bi, ns_isi, ns_get, ns_lc, ns_lc2, ns_dc, ns_rng, ns_enu, ns_seq, ex_var, ex_con, ex_glo, ex_bop, ex_neg, ex_cmp, ex_chain, ex_and, ex_or, ex_not, ex_ite, ex_tup, ex_lst, ex_lstR, ex_dsp, ex_dnew, ex_sub, ex_slc, ex_rev, ex_attr, ex_prop, ex_call, ex_mk, ex_meth, ex_bi, ex_isi, ex_get, ex_lc, ex_lc2, ex_dc, ex_rng, ex_enu, ex_seq, ex_peek, es_e, es_v, es_o, fz_s, fz_o, fz_v, fz_e, pl_p, ps_o, ps_c, pu_s, pu_c, pus_o, puc_s, pur_s, pur_c, il_s, il_c, ils_o, ilc_l, sp_l, ss_l, ss_d, sf_o, ft_n, lt_n, isf_var, isf_peek, isf_con, isf_glo, isf_bop, isf_neg, isf_cmp, isf_chain, isf_and, isf_or, isf_not, isf_ite, isf_tup, isf_lst, isf_lstR, isf_dsp, isf_dnew, isf_sub, isf_slc, isf_rev, isf_attr, isf_prop, isf_call, isf_mk, isf_meth, isf_isi, isf_get, isf_lc, isf_lc2, isf_dc, isf_rng, isf_enu, isf_seq, isf_bi_len, isf_bi_int, isf_bi_str, isf_bi_max, isf_bi_min, isf_bi_all, isf_bi_sum, isf_bi_tuple, isf_bi_list, isf_bi_dict, isf_bi_repr, isf_bi_sorted, xh_nil, xh_cons, hk_nx, hk_bk, hk_ct, hk_rt, hn_n, ne_nil, ne_val, ne_own, ne_emp, ax_c, ax_f, List.foldl_cons, List.foldl_nil, List.getElem?_cons_zero, List.getElem?_cons_succ, List.set_cons_zero, List.set_cons_succ, if_true, if_false, ite_true, ite_false, reduceIte, reduceCtorEq, List.length_cons, List.length_nil, List.map_cons, List.map_nil, List.zip_cons_cons, List.zip_nil_left, Option.map_some, Option.map_none, Option.getD_some, Option.getD_none, Option.bind_some, and_true, true_and, and_self, Bool.not_true, Bool.not_false, Bool.or_true, Bool.or_false, Bool.true_or, Bool.false_or, Bool.and_true, Bool.true_and, Bool.and_false, Bool.false_and, decide_true, decide_false, Bool.false_eq_true]
  · rfl
theorem heard2 (k : Nat) (h : AH) {c f : Nat} {tag v m p o wd : AV} {s : Str} (E : Er 44 [m, p, o, wd] c f v) (cl : Cl c f tag) (rp : biV .repr [v] = some (.str s)) : calA Pr (k + 11) 53 [.int 2, m, p, o, wd] h = .ok (.lst [tag, .str s]) h := by
  rw [u__law_heard]
  unfold B__law_heard
  simp [w_ok, w_err, w_stk, o_ok, o_err, o_stk, t_nx, t_bk, t_ct, t_rt, t_er, t_stk, opt_s, opt_n, c_ok, c_stk, ce_nx, ce_rt, ce_er, ie_nx, ie_er, v_con, slV_v, slP_v, slP_o, v_var, v_peek, v_glo, v_bop, v_neg, neg_i, v_cmp, v_chain, v_and, v_or, v_not, v_ite, v_tup, v_lst, v_lstR, v_dsp, v_dnew, v_sub, v_slc, v_rev, ak_n, ak_s, v_attr, v_call, v_mk, v_bi, v_isi, v_get, v_lc, l_nil, l_star, l_cons, d_nil, d_cons, i_rng, i_enu, i_seq, s_fz', s_exp', s_asg', s_par', s_aug', s_app', s_ret', s_retN', s_ife', s_whl', s_for', s_brk', s_cnt', s_pass', s_raise', s_try', x_nil, x_cons, st_name, st_sub, st_attr, st_tup, sts_nil, sts_cons, stp_nil, stp_cons, fl_nil, fl_cons, fk_nx, fk_ct, fk_bk, fk_rt, fk_er, tv_nx, tv_rt, tv_er, p_addi, p_adds, p_addt, p_addl, p_sub, p_muli, p_mull, p_mult, p_fdv, p_mod, p_pow, p_aadd, p_asub, q_lt, q_le, q_gt, q_ge, q_eq, q_ne, q_is, q_isn, q_in, q_nin, a_bl, r_l, r_t, m_l, m_t, sb_t, sb_l, sb_k, sb_s, sb_d, df_int, df_str, df_tup, df_lst, df_ktup, df_dct, df_obj, df_scr, df_bl, df_non, df_ref, bi_len_l, bi_len_t, bi_len_k, bi_len_s, bi_len_x, bi_len_d, bi_int_i, bi_int_b, bi_str, bi_max, bi_min, bi_all, bi_sum, bi_tup_l, bi_tup_t, bi_lst_l, bi_lst_t, bi_dict, pt_lst, pt_dct, pt_obj, pt_f, pt_m, rg_i, sa_t, sa_l, gv_d, ob_o, bt_n, bt_t, bts_n, bts_c, fg_c, at_o, ty_non, ty_bl, ty_int, ty_str, ty_tup, ty_lst, ty_ktup, ty_dct, ty_scr, ty_obj, tys_n, tys_c, ik_bl, ik_int, ik_str, ik_tup, ik_lst, ik_ktup, ik_dct, ik_scr, ik_non, ik_obj, lc_nil, lc_cons, wp_n, wp_c, oi_n, oi_i, sl_t, sl_l, ns_var, ns_peek, ns_con, ns_glo, ns_bop, ns_neg, ns_cmp, ns_chain, ns_and, ns_or, ns_not, ns_ite, ns_tup, ns_lst, ns_lstR, ns_dsp, ns_dnew, ns_sub, ns_slc, ns_rev, ns_attr, ns_prop, ns_call, ns_mk, ns_meth, ns_bi, ns_isi, ns_get, ns_lc, ns_lc2, ns_dc, ns_rng, ns_enu, ns_seq, ex_var, ex_con, ex_glo, ex_bop, ex_neg, ex_cmp, ex_chain, ex_and, ex_or, ex_not, ex_ite, ex_tup, ex_lst, ex_lstR, ex_dsp, ex_dnew, ex_sub, ex_slc, ex_rev, ex_attr, ex_prop, ex_call, ex_mk, ex_meth, ex_bi, ex_isi, ex_get, ex_lc, ex_lc2, ex_dc, ex_rng, ex_enu, ex_seq, ex_peek, es_e, es_v, es_o, fz_s, fz_o, fz_v, fz_e, pl_p, ps_o, ps_c, pu_s, pu_c, pus_o, puc_s, pur_s, pur_c, il_s, il_c, ils_o, ilc_l, sp_l, ss_l, ss_d, sf_o, ft_n, lt_n, isf_var, isf_peek, isf_con, isf_glo, isf_bop, isf_neg, isf_cmp, isf_chain, isf_and, isf_or, isf_not, isf_ite, isf_tup, isf_lst, isf_lstR, isf_dsp, isf_dnew, isf_sub, isf_slc, isf_rev, isf_attr, isf_prop, isf_call, isf_mk, isf_meth, isf_isi, isf_get, isf_lc, isf_lc2, isf_dc, isf_rng, isf_enu, isf_seq, isf_bi_len, isf_bi_int, isf_bi_str, isf_bi_max, isf_bi_min, isf_bi_all, isf_bi_sum, isf_bi_tuple, isf_bi_list, isf_bi_dict, isf_bi_repr, isf_bi_sorted, hk_nx, hk_bk, hk_ct, hk_rt, hn_n, ne_nil, ne_val, ne_own, ne_emp, ax_c, ax_f, List.foldl_cons, List.foldl_nil, List.getElem?_cons_zero, List.getElem?_cons_succ, List.set_cons_zero, List.set_cons_succ, if_true, if_false, ite_true, ite_false, reduceIte, reduceCtorEq, List.length_cons, List.length_nil, List.map_cons, List.map_nil, List.zip_cons_cons, List.zip_nil_left, Option.map_some, Option.map_none, Option.getD_some, Option.getD_none, Option.bind_some, and_true, true_and, and_self, Bool.not_true, Bool.not_false, Bool.or_true, Bool.or_false, Bool.true_or, Bool.false_or, Bool.and_true, Bool.true_and, Bool.and_false, Bool.false_and, decide_true, decide_false, Bool.false_eq_true, eqi, E k h]
  rw [heard_end (k + 10) h cl rp]
  · simp only [w_ok, w_err, w_stk, o_ok, o_err, o_stk, t_nx, t_bk, t_ct, t_rt, t_er, t_stk, opt_s, opt_n, c_ok, c_stk, ce_nx, ce_rt, ce_er, ie_nx, ie_er, v_con, slV_v, slP_v, slP_o, v_var, v_peek, v_glo, v_bop, v_neg, neg_i, v_cmp, v_chain, v_and, v_or, v_not, v_ite, v_tup, v_lst, v_lstR, v_dsp, v_dnew, v_sub, v_slc, v_rev, ak_n, ak_s, v_attr, v_call, v_mk, v_bi, v_isi, v_get, v_lc, l_nil, l_star, l_cons, d_nil, d_cons, i_rng, i_enu, i_seq, s_fz', s_exp', s_asg', s_par', s_aug', s_app', s_ret', s_retN', s_ife', s_whl', s_for', s_brk', s_cnt', s_pass', s_raise', s_try', x_nil, x_cons, st_name, st_sub, st_attr, st_tup, sts_nil, sts_cons, stp_nil, stp_cons, fl_nil, fl_cons, fk_nx, fk_ct, fk_bk, fk_rt, fk_er, tv_nx, tv_rt, tv_er, p_addi, p_adds, p_addt, p_addl, p_sub, p_muli, p_mull, p_mult, p_fdv, p_mod, p_pow, p_aadd, p_asub, q_lt, q_le, q_gt, q_ge, q_eq, q_ne, q_is, q_isn, q_in, q_nin, a_bl, r_l, r_t, m_l, m_t, sb_t, sb_l, sb_k, sb_s, sb_d, df_int, df_str, df_tup, df_lst, df_ktup, df_dct, df_obj, df_scr, df_bl, df_non, df_ref, bi_len_l, bi_len_t, bi_len_k, bi_len_s, bi_len_x, bi_len_d, bi_int_i, bi_int_b, bi_str, bi_max, bi_min, bi_all, bi_sum, bi_tup_l, bi_tup_t, bi_lst_l, bi_lst_t, bi_dict, pt_lst, pt_dct, pt_obj, pt_f, pt_m, rg_i, sa_t, sa_l, gv_d, ob_o, bt_n, bt_t, bts_n, bts_c, fg_c, at_o, ty_non, ty_bl, ty_int, ty_str, ty_tup, ty_lst, ty_ktup, ty_dct, ty_scr, ty_obj, tys_n, tys_c, ik_bl, ik_int, ik_str, ik_tup, ik_lst, ik_ktup, ik_dct, ik_scr, ik_non, ik_obj, lc_nil, lc_cons, wp_n, wp_c, oi_n, oi_i, sl_t, sl_l, ns_var, ns_peek, ns_con, ns_glo, ns_bop, ns_neg, ns_cmp, ns_chain, ns_and, ns_or, ns_not, ns_ite, ns_tup, ns_lst, ns_lstR, ns_dsp, ns_dnew, ns_sub, ns_slc, ns_rev, ns_attr, ns_prop, ns_call, ns_mk, ns_meth, ns_bi, ns_isi, ns_get, ns_lc, ns_lc2, ns_dc, ns_rng, ns_enu, ns_seq, ex_var, ex_con, ex_glo, ex_bop, ex_neg, ex_cmp, ex_chain, ex_and, ex_or, ex_not, ex_ite, ex_tup, ex_lst, ex_lstR, ex_dsp, ex_dnew, ex_sub, ex_slc, ex_rev, ex_attr, ex_prop, ex_call, ex_mk, ex_meth, ex_bi, ex_isi, ex_get, ex_lc, ex_lc2, ex_dc, ex_rng, ex_enu, ex_seq, ex_peek, es_e, es_v, es_o, fz_s, fz_o, fz_v, fz_e, pl_p, ps_o, ps_c, pu_s, pu_c, pus_o, puc_s, pur_s, pur_c, il_s, il_c, ils_o, ilc_l, sp_l, ss_l, ss_d, sf_o, ft_n, lt_n, isf_var, isf_peek, isf_con, isf_glo, isf_bop, isf_neg, isf_cmp, isf_chain, isf_and, isf_or, isf_not, isf_ite, isf_tup, isf_lst, isf_lstR, isf_dsp, isf_dnew, isf_sub, isf_slc, isf_rev, isf_attr, isf_prop, isf_call, isf_mk, isf_meth, isf_isi, isf_get, isf_lc, isf_lc2, isf_dc, isf_rng, isf_enu, isf_seq, isf_bi_len, isf_bi_int, isf_bi_str, isf_bi_max, isf_bi_min, isf_bi_all, isf_bi_sum, isf_bi_tuple, isf_bi_list, isf_bi_dict, isf_bi_repr, isf_bi_sorted, xh_nil, xh_cons, hk_nx, hk_bk, hk_ct, hk_rt, hn_n, ne_nil, ne_val, ne_own, ne_emp, ax_c, ax_f, List.foldl_cons, List.foldl_nil, List.getElem?_cons_zero, List.getElem?_cons_succ, List.set_cons_zero, List.set_cons_succ, if_true, if_false, ite_true, ite_false, reduceIte, reduceCtorEq, List.length_cons, List.length_nil, List.map_cons, List.map_nil, List.zip_cons_cons, List.zip_nil_left, Option.map_some, Option.map_none, Option.getD_some, Option.getD_none, Option.bind_some, and_true, true_and, and_self, Bool.not_true, Bool.not_false, Bool.or_true, Bool.or_false, Bool.true_or, Bool.false_or, Bool.and_true, Bool.true_and, Bool.and_false, Bool.false_and, decide_true, decide_false, Bool.false_eq_true]
  · rfl
theorem heard3 (k : Nat) (h : AH) {c f : Nat} {tag v m p o wd : AV} {s : Str} (E : Er 45 [m, p, o, wd] c f v) (cl : Cl c f tag) (rp : biV .repr [v] = some (.str s)) : calA Pr (k + 11) 53 [.int 3, m, p, o, wd] h = .ok (.lst [tag, .str s]) h := by
  rw [u__law_heard]
  unfold B__law_heard
  simp [w_ok, w_err, w_stk, o_ok, o_err, o_stk, t_nx, t_bk, t_ct, t_rt, t_er, t_stk, opt_s, opt_n, c_ok, c_stk, ce_nx, ce_rt, ce_er, ie_nx, ie_er, v_con, slV_v, slP_v, slP_o, v_var, v_peek, v_glo, v_bop, v_neg, neg_i, v_cmp, v_chain, v_and, v_or, v_not, v_ite, v_tup, v_lst, v_lstR, v_dsp, v_dnew, v_sub, v_slc, v_rev, ak_n, ak_s, v_attr, v_call, v_mk, v_bi, v_isi, v_get, v_lc, l_nil, l_star, l_cons, d_nil, d_cons, i_rng, i_enu, i_seq, s_fz', s_exp', s_asg', s_par', s_aug', s_app', s_ret', s_retN', s_ife', s_whl', s_for', s_brk', s_cnt', s_pass', s_raise', s_try', x_nil, x_cons, st_name, st_sub, st_attr, st_tup, sts_nil, sts_cons, stp_nil, stp_cons, fl_nil, fl_cons, fk_nx, fk_ct, fk_bk, fk_rt, fk_er, tv_nx, tv_rt, tv_er, p_addi, p_adds, p_addt, p_addl, p_sub, p_muli, p_mull, p_mult, p_fdv, p_mod, p_pow, p_aadd, p_asub, q_lt, q_le, q_gt, q_ge, q_eq, q_ne, q_is, q_isn, q_in, q_nin, a_bl, r_l, r_t, m_l, m_t, sb_t, sb_l, sb_k, sb_s, sb_d, df_int, df_str, df_tup, df_lst, df_ktup, df_dct, df_obj, df_scr, df_bl, df_non, df_ref, bi_len_l, bi_len_t, bi_len_k, bi_len_s, bi_len_x, bi_len_d, bi_int_i, bi_int_b, bi_str, bi_max, bi_min, bi_all, bi_sum, bi_tup_l, bi_tup_t, bi_lst_l, bi_lst_t, bi_dict, pt_lst, pt_dct, pt_obj, pt_f, pt_m, rg_i, sa_t, sa_l, gv_d, ob_o, bt_n, bt_t, bts_n, bts_c, fg_c, at_o, ty_non, ty_bl, ty_int, ty_str, ty_tup, ty_lst, ty_ktup, ty_dct, ty_scr, ty_obj, tys_n, tys_c, ik_bl, ik_int, ik_str, ik_tup, ik_lst, ik_ktup, ik_dct, ik_scr, ik_non, ik_obj, lc_nil, lc_cons, wp_n, wp_c, oi_n, oi_i, sl_t, sl_l, ns_var, ns_peek, ns_con, ns_glo, ns_bop, ns_neg, ns_cmp, ns_chain, ns_and, ns_or, ns_not, ns_ite, ns_tup, ns_lst, ns_lstR, ns_dsp, ns_dnew, ns_sub, ns_slc, ns_rev, ns_attr, ns_prop, ns_call, ns_mk, ns_meth, ns_bi, ns_isi, ns_get, ns_lc, ns_lc2, ns_dc, ns_rng, ns_enu, ns_seq, ex_var, ex_con, ex_glo, ex_bop, ex_neg, ex_cmp, ex_chain, ex_and, ex_or, ex_not, ex_ite, ex_tup, ex_lst, ex_lstR, ex_dsp, ex_dnew, ex_sub, ex_slc, ex_rev, ex_attr, ex_prop, ex_call, ex_mk, ex_meth, ex_bi, ex_isi, ex_get, ex_lc, ex_lc2, ex_dc, ex_rng, ex_enu, ex_seq, ex_peek, es_e, es_v, es_o, fz_s, fz_o, fz_v, fz_e, pl_p, ps_o, ps_c, pu_s, pu_c, pus_o, puc_s, pur_s, pur_c, il_s, il_c, ils_o, ilc_l, sp_l, ss_l, ss_d, sf_o, ft_n, lt_n, isf_var, isf_peek, isf_con, isf_glo, isf_bop, isf_neg, isf_cmp, isf_chain, isf_and, isf_or, isf_not, isf_ite, isf_tup, isf_lst, isf_lstR, isf_dsp, isf_dnew, isf_sub, isf_slc, isf_rev, isf_attr, isf_prop, isf_call, isf_mk, isf_meth, isf_isi, isf_get, isf_lc, isf_lc2, isf_dc, isf_rng, isf_enu, isf_seq, isf_bi_len, isf_bi_int, isf_bi_str, isf_bi_max, isf_bi_min, isf_bi_all, isf_bi_sum, isf_bi_tuple, isf_bi_list, isf_bi_dict, isf_bi_repr, isf_bi_sorted, hk_nx, hk_bk, hk_ct, hk_rt, hn_n, ne_nil, ne_val, ne_own, ne_emp, ax_c, ax_f, List.foldl_cons, List.foldl_nil, List.getElem?_cons_zero, List.getElem?_cons_succ, List.set_cons_zero, List.set_cons_succ, if_true, if_false, ite_true, ite_false, reduceIte, reduceCtorEq, List.length_cons, List.length_nil, List.map_cons, List.map_nil, List.zip_cons_cons, List.zip_nil_left, Option.map_some, Option.map_none, Option.getD_some, Option.getD_none, Option.bind_some, and_true, true_and, and_self, Bool.not_true, Bool.not_false, Bool.or_true, Bool.or_false, Bool.true_or, Bool.false_or, Bool.and_true, Bool.true_and, Bool.and_false, Bool.false_and, decide_true, decide_false, Bool.false_eq_true, eqi, E k h]
  rw [heard_end (k + 10) h cl rp]
  · simp only [w_ok, w_err, w_stk, o_ok, o_err, o_stk, t_nx, t_bk, t_ct, t_rt, t_er, t_stk, opt_s, opt_n, c_ok, c_stk, ce_nx, ce_rt, ce_er, ie_nx, ie_er, v_con, slV_v, slP_v, slP_o, v_var, v_peek, v_glo, v_bop, v_neg, neg_i, v_cmp, v_chain, v_and, v_or, v_not, v_ite, v_tup, v_lst, v_lstR, v_dsp, v_dnew, v_sub, v_slc, v_rev, ak_n, ak_s, v_attr, v_call, v_mk, v_bi, v_isi, v_get, v_lc, l_nil, l_star, l_cons, d_nil, d_cons, i_rng, i_enu, i_seq, s_fz', s_exp', s_asg', s_par', s_aug', s_app', s_ret', s_retN', s_ife', s_whl', s_for', s_brk', s_cnt', s_pass', s_raise', s_try', x_nil, x_cons, st_name, st_sub, st_attr, st_tup, sts_nil, sts_cons, stp_nil, stp_cons, fl_nil, fl_cons, fk_nx, fk_ct, fk_bk, fk_rt, fk_er, tv_nx, tv_rt, tv_er, p_addi, p_adds, p_addt, p_addl, p_sub, p_muli, p_mull, p_mult, p_fdv, p_mod, p_pow, p_aadd, p_asub, q_lt, q_le, q_gt, q_ge, q_eq, q_ne, q_is, q_isn, q_in, q_nin, a_bl, r_l, r_t, m_l, m_t, sb_t, sb_l, sb_k, sb_s, sb_d, df_int, df_str, df_tup, df_lst, df_ktup, df_dct, df_obj, df_scr, df_bl, df_non, df_ref, bi_len_l, bi_len_t, bi_len_k, bi_len_s, bi_len_x, bi_len_d, bi_int_i, bi_int_b, bi_str, bi_max, bi_min, bi_all, bi_sum, bi_tup_l, bi_tup_t, bi_lst_l, bi_lst_t, bi_dict, pt_lst, pt_dct, pt_obj, pt_f, pt_m, rg_i, sa_t, sa_l, gv_d, ob_o, bt_n, bt_t, bts_n, bts_c, fg_c, at_o, ty_non, ty_bl, ty_int, ty_str, ty_tup, ty_lst, ty_ktup, ty_dct, ty_scr, ty_obj, tys_n, tys_c, ik_bl, ik_int, ik_str, ik_tup, ik_lst, ik_ktup, ik_dct, ik_scr, ik_non, ik_obj, lc_nil, lc_cons, wp_n, wp_c, oi_n, oi_i, sl_t, sl_l, ns_var, ns_peek, ns_con, ns_glo, ns_bop, ns_neg, ns_cmp, ns_chain, ns_and, ns_or, ns_not, ns_ite, ns_tup, ns_lst, ns_lstR, ns_dsp, ns_dnew, ns_sub, ns_slc, ns_rev, ns_attr, ns_prop, ns_call, ns_mk, ns_meth, ns_bi, ns_isi, ns_get, ns_lc, ns_lc2, ns_dc, ns_rng, ns_enu, ns_seq, ex_var, ex_con, ex_glo, ex_bop, ex_neg, ex_cmp, ex_chain, ex_and, ex_or, ex_not, ex_ite, ex_tup, ex_lst, ex_lstR, ex_dsp, ex_dnew, ex_sub, ex_slc, ex_rev, ex_attr, ex_prop, ex_call, ex_mk, ex_meth, ex_bi, ex_isi, ex_get, ex_lc, ex_lc2, ex_dc, ex_rng, ex_enu, ex_seq, ex_peek, es_e, es_v, es_o, fz_s, fz_o, fz_v, fz_e, pl_p, ps_o, ps_c, pu_s, pu_c, pus_o, puc_s, pur_s, pur_c, il_s, il_c, ils_o, ilc_l, sp_l, ss_l, ss_d, sf_o, ft_n, lt_n, isf_var, isf_peek, isf_con, isf_glo, isf_bop, isf_neg, isf_cmp, isf_chain, isf_and, isf_or, isf_not, isf_ite, isf_tup, isf_lst, isf_lstR, isf_dsp, isf_dnew, isf_sub, isf_slc, isf_rev, isf_attr, isf_prop, isf_call, isf_mk, isf_meth, isf_isi, isf_get, isf_lc, isf_lc2, isf_dc, isf_rng, isf_enu, isf_seq, isf_bi_len, isf_bi_int, isf_bi_str, isf_bi_max, isf_bi_min, isf_bi_all, isf_bi_sum, isf_bi_tuple, isf_bi_list, isf_bi_dict, isf_bi_repr, isf_bi_sorted, xh_nil, xh_cons, hk_nx, hk_bk, hk_ct, hk_rt, hn_n, ne_nil, ne_val, ne_own, ne_emp, ax_c, ax_f, List.foldl_cons, List.foldl_nil, List.getElem?_cons_zero, List.getElem?_cons_succ, List.set_cons_zero, List.set_cons_succ, if_true, if_false, ite_true, ite_false, reduceIte, reduceCtorEq, List.length_cons, List.length_nil, List.map_cons, List.map_nil, List.zip_cons_cons, List.zip_nil_left, Option.map_some, Option.map_none, Option.getD_some, Option.getD_none, Option.bind_some, and_true, true_and, and_self, Bool.not_true, Bool.not_false, Bool.or_true, Bool.or_false, Bool.true_or, Bool.false_or, Bool.and_true, Bool.true_and, Bool.and_false, Bool.false_and, decide_true, decide_false, Bool.false_eq_true]
  · rfl
theorem heard4 (k : Nat) (h : AH) {c f : Nat} {tag v m p o wd : AV} {s : Str} (E : Er 41 [m, p, o, .non, wd] c f v) (cl : Cl c f tag) (rp : biV .repr [v] = some (.str s)) : calA Pr (k + 11) 53 [.int 4, m, p, o, wd] h = .ok (.lst [tag, .str s]) h := by
  rw [u__law_heard]
  unfold B__law_heard
  simp [w_ok, w_err, w_stk, o_ok, o_err, o_stk, t_nx, t_bk, t_ct, t_rt, t_er, t_stk, opt_s, opt_n, c_ok, c_stk, ce_nx, ce_rt, ce_er, ie_nx, ie_er, v_con, slV_v, slP_v, slP_o, v_var, v_peek, v_glo, v_bop, v_neg, neg_i, v_cmp, v_chain, v_and, v_or, v_not, v_ite, v_tup, v_lst, v_lstR, v_dsp, v_dnew, v_sub, v_slc, v_rev, ak_n, ak_s, v_attr, v_call, v_mk, v_bi, v_isi, v_get, v_lc, l_nil, l_star, l_cons, d_nil, d_cons, i_rng, i_enu, i_seq, s_fz', s_exp', s_asg', s_par', s_aug', s_app', s_ret', s_retN', s_ife', s_whl', s_for', s_brk', s_cnt', s_pass', s_raise', s_try', x_nil, x_cons, st_name, st_sub, st_attr, st_tup, sts_nil, sts_cons, stp_nil, stp_cons, fl_nil, fl_cons, fk_nx, fk_ct, fk_bk, fk_rt, fk_er, tv_nx, tv_rt, tv_er, p_addi, p_adds, p_addt, p_addl, p_sub, p_muli, p_mull, p_mult, p_fdv, p_mod, p_pow, p_aadd, p_asub, q_lt, q_le, q_gt, q_ge, q_eq, q_ne, q_is, q_isn, q_in, q_nin, a_bl, r_l, r_t, m_l, m_t, sb_t, sb_l, sb_k, sb_s, sb_d, df_int, df_str, df_tup, df_lst, df_ktup, df_dct, df_obj, df_scr, df_bl, df_non, df_ref, bi_len_l, bi_len_t, bi_len_k, bi_len_s, bi_len_x, bi_len_d, bi_int_i, bi_int_b, bi_str, bi_max, bi_min, bi_all, bi_sum, bi_tup_l, bi_tup_t, bi_lst_l, bi_lst_t, bi_dict, pt_lst, pt_dct, pt_obj, pt_f, pt_m, rg_i, sa_t, sa_l, gv_d, ob_o, bt_n, bt_t, bts_n, bts_c, fg_c, at_o, ty_non, ty_bl, ty_int, ty_str, ty_tup, ty_lst, ty_ktup, ty_dct, ty_scr, ty_obj, tys_n, tys_c, ik_bl, ik_int, ik_str, ik_tup, ik_lst, ik_ktup, ik_dct, ik_scr, ik_non, ik_obj, lc_nil, lc_cons, wp_n, wp_c, oi_n, oi_i, sl_t, sl_l, ns_var, ns_peek, ns_con, ns_glo, ns_bop, ns_neg, ns_cmp, ns_chain, ns_and, ns_or, ns_not, ns_ite, ns_tup, ns_lst, ns_lstR, ns_dsp, ns_dnew, ns_sub, ns_slc, ns_rev, ns_attr, ns_prop, ns_call, ns_mk, ns_meth, ns_bi, ns_isi, ns_get, ns_lc, ns_lc2, ns_dc, ns_rng, ns_enu, ns_seq, ex_var, ex_con, ex_glo, ex_bop, ex_neg, ex_cmp, ex_chain, ex_and, ex_or, ex_not, ex_ite, ex_tup, ex_lst, ex_lstR, ex_dsp, ex_dnew, ex_sub, ex_slc, ex_rev, ex_attr, ex_prop, ex_call, ex_mk, ex_meth, ex_bi, ex_isi, ex_get, ex_lc, ex_lc2, ex_dc, ex_rng, ex_enu, ex_seq, ex_peek, es_e, es_v, es_o, fz_s, fz_o, fz_v, fz_e, pl_p, ps_o, ps_c, pu_s, pu_c, pus_o, puc_s, pur_s, pur_c, il_s, il_c, ils_o, ilc_l, sp_l, ss_l, ss_d, sf_o, ft_n, lt_n, isf_var, isf_peek, isf_con, isf_glo, isf_bop, isf_neg, isf_cmp, isf_chain, isf_and, isf_or, isf_not, isf_ite, isf_tup, isf_lst, isf_lstR, isf_dsp, isf_dnew, isf_sub, isf_slc, isf_rev, isf_attr, isf_prop, isf_call, isf_mk, isf_meth, isf_isi, isf_get, isf_lc, isf_lc2, isf_dc, isf_rng, isf_enu, isf_seq, isf_bi_len, isf_bi_int, isf_bi_str, isf_bi_max, isf_bi_min, isf_bi_all, isf_bi_sum, isf_bi_tuple, isf_bi_list, isf_bi_dict, isf_bi_repr, isf_bi_sorted, hk_nx, hk_bk, hk_ct, hk_rt, hn_n, ne_nil, ne_val, ne_own, ne_emp, ax_c, ax_f, List.foldl_cons, List.foldl_nil, List.getElem?_cons_zero, List.getElem?_cons_succ, List.set_cons_zero, List.set_cons_succ, if_true, if_false, ite_true, ite_false, reduceIte, reduceCtorEq, List.length_cons, List.length_nil, List.map_cons, List.map_nil, List.zip_cons_cons, List.zip_nil_left, Option.map_some, Option.map_none, Option.getD_some, Option.getD_none, Option.bind_some, and_true, true_and, and_self, Bool.not_true, Bool.not_false, Bool.or_true, Bool.or_false, Bool.true_or, Bool.false_or, Bool.and_true, Bool.true_and, Bool.and_false, Bool.false_and, decide_true, decide_false, Bool.false_eq_true, eqi, E k h]
  rw [heard_end (k + 10) h cl rp]
  · simp only [w_ok, w_err, w_stk, o_ok, o_err, o_stk, t_nx, t_bk, t_ct, t_rt, t_er, t_stk, opt_s, opt_n, c_ok, c_stk, ce_nx, ce_rt, ce_er, ie_nx, ie_er, v_con, slV_v, slP_v, slP_o, v_var, v_peek, v_glo, v_bop, v_neg, neg_i, v_cmp, v_chain, v_and, v_or, v_not, v_ite, v_tup, v_lst, v_lstR, v_dsp, v_dnew, v_sub, v_slc, v_rev, ak_n, ak_s, v_attr, v_call, v_mk, v_bi, v_isi, v_get, v_lc, l_nil, l_star, l_cons, d_nil, d_cons, i_rng, i_enu, i_seq, s_fz', s_exp', s_asg', s_par', s_aug', s_app', s_ret', s_retN', s_ife', s_whl', s_for', s_brk', s_cnt', s_pass', s_raise', s_try', x_nil, x_cons, st_name, st_sub, st_attr, st_tup, sts_nil, sts_cons, stp_nil, stp_cons, fl_nil, fl_cons, fk_nx, fk_ct, fk_bk, fk_rt, fk_er, tv_nx, tv_rt, tv_er, p_addi, p_adds, p_addt, p_addl, p_sub, p_muli, p_mull, p_mult, p_fdv, p_mod, p_pow, p_aadd, p_asub, q_lt, q_le, q_gt, q_ge, q_eq, q_ne, q_is, q_isn, q_in, q_nin, a_bl, r_l, r_t, m_l, m_t, sb_t, sb_l, sb_k, sb_s, sb_d, df_int, df_str, df_tup, df_lst, df_ktup, df_dct, df_obj, df_scr, df_bl, df_non, df_ref, bi_len_l, bi_len_t, bi_len_k, bi_len_s, bi_len_x, bi_len_d, bi_int_i, bi_int_b, bi_str, bi_max, bi_min, bi_all, bi_sum, bi_tup_l, bi_tup_t, bi_lst_l, bi_lst_t, bi_dict, pt_lst, pt_dct, pt_obj, pt_f, pt_m, rg_i, sa_t, sa_l, gv_d, ob_o, bt_n, bt_t, bts_n, bts_c, fg_c, at_o, ty_non, ty_bl, ty_int, ty_str, ty_tup, ty_lst, ty_ktup, ty_dct, ty_scr, ty_obj, tys_n, tys_c, ik_bl, ik_int, ik_str, ik_tup, ik_lst, ik_ktup, ik_dct, ik_scr, ik_non, ik_obj, lc_nil, lc_cons, wp_n, wp_c, oi_n, oi_i, sl_t, sl_l, ns_var, ns_peek, ns_con, ns_glo, ns_bop, ns_neg, ns_cmp, ns_chain, ns_and, ns_or, ns_not, ns_ite, ns_tup, ns_lst, ns_lstR, ns_dsp, ns_dnew, ns_sub, ns_slc, ns_rev, ns_attr, ns_prop, ns_call, ns_mk, ns_meth, ns_bi, ns_isi, ns_get, ns_lc, ns_lc2, ns_dc, ns_rng, ns_enu, ns_seq, ex_var, ex_con, ex_glo, ex_bop, ex_neg, ex_cmp, ex_chain, ex_and, ex_or, ex_not, ex_ite, ex_tup, ex_lst, ex_lstR, ex_dsp, ex_dnew, ex_sub, ex_slc, ex_rev, ex_attr, ex_prop, ex_call, ex_mk, ex_meth, ex_bi, ex_isi, ex_get, ex_lc, ex_lc2, ex_dc, ex_rng, ex_enu, ex_seq, ex_peek, es_e, es_v, es_o, fz_s, fz_o, fz_v, fz_e, pl_p, ps_o, ps_c, pu_s, pu_c, pus_o, puc_s, pur_s, pur_c, il_s, il_c, ils_o, ilc_l, sp_l, ss_l, ss_d, sf_o, ft_n, lt_n, isf_var, isf_peek, isf_con, isf_glo, isf_bop, isf_neg, isf_cmp, isf_chain, isf_and, isf_or, isf_not, isf_ite, isf_tup, isf_lst, isf_lstR, isf_dsp, isf_dnew, isf_sub, isf_slc, isf_rev, isf_attr, isf_prop, isf_call, isf_mk, isf_meth, isf_isi, isf_get, isf_lc, isf_lc2, isf_dc, isf_rng, isf_enu, isf_seq, isf_bi_len, isf_bi_int, isf_bi_str, isf_bi_max, isf_bi_min, isf_bi_all, isf_bi_sum, isf_bi_tuple, isf_bi_list, isf_bi_dict, isf_bi_repr, isf_bi_sorted, xh_nil, xh_cons, hk_nx, hk_bk, hk_ct, hk_rt, hn_n, ne_nil, ne_val, ne_own, ne_emp, ax_c, ax_f, List.foldl_cons, List.foldl_nil, List.getElem?_cons_zero, List.getElem?_cons_succ, List.set_cons_zero, List.set_cons_succ, if_true, if_false, ite_true, ite_false, reduceIte, reduceCtorEq, List.length_cons, List.length_nil, List.map_cons, List.map_nil, List.zip_cons_cons, List.zip_nil_left, Option.map_some, Option.map_none, Option.getD_some, Option.getD_none, Option.bind_some, and_true, true_and, and_self, Bool.not_true, Bool.not_false, Bool.or_true, Bool.or_false, Bool.true_or, Bool.false_or, Bool.and_true, Bool.true_and, Bool.and_false, Bool.false_and, decide_true, decide_false, Bool.false_eq_true]
  · rfl
theorem heard5 (k : Nat) (h : AH) {c f : Nat} {tag v m p o wd : AV} {s : Str} (E : Er 40 [m, p, o, .non, wd] c f v) (cl : Cl c f tag) (rp : biV .repr [v] = some (.str s)) : calA Pr (k + 11) 53 [.int 5, m, p, o, wd] h = .ok (.lst [tag, .str s]) h := by
  rw [u__law_heard]
  unfold B__law_heard
  simp [w_ok, w_err, w_stk, o_ok, o_err, o_stk, t_nx, t_bk, t_ct, t_rt, t_er, t_stk, opt_s, opt_n, c_ok, c_stk, ce_nx, ce_rt, ce_er, ie_nx, ie_er, v_con, slV_v, slP_v, slP_o, v_var, v_peek, v_glo, v_bop, v_neg, neg_i, v_cmp, v_chain, v_and, v_or, v_not, v_ite, v_tup, v_lst, v_lstR, v_dsp, v_dnew, v_sub, v_slc, v_rev, ak_n, ak_s, v_attr, v_call, v_mk, v_bi, v_isi, v_get, v_lc, l_nil, l_star, l_cons, d_nil, d_cons, i_rng, i_enu, i_seq, s_fz', s_exp', s_asg', s_par', s_aug', s_app', s_ret', s_retN', s_ife', s_whl', s_for', s_brk', s_cnt', s_pass', s_raise', s_try', x_nil, x_cons, st_name, st_sub, st_attr, st_tup, sts_nil, sts_cons, stp_nil, stp_cons, fl_nil, fl_cons, fk_nx, fk_ct, fk_bk, fk_rt, fk_er, tv_nx, tv_rt, tv_er, p_addi, p_adds, p_addt, p_addl, p_sub, p_muli, p_mull, p_mult, p_fdv, p_mod, p_pow, p_aadd, p_asub, q_lt, q_le, q_gt, q_ge, q_eq, q_ne, q_is, q_isn, q_in, q_nin, a_bl, r_l, r_t, m_l, m_t, sb_t, sb_l, sb_k, sb_s, sb_d, df_int, df_str, df_tup, df_lst, df_ktup, df_dct, df_obj, df_scr, df_bl, df_non, df_ref, bi_len_l, bi_len_t, bi_len_k, bi_len_s, bi_len_x, bi_len_d, bi_int_i, bi_int_b, bi_str, bi_max, bi_min, bi_all, bi_sum, bi_tup_l, bi_tup_t, bi_lst_l, bi_lst_t, bi_dict, pt_lst, pt_dct, pt_obj, pt_f, pt_m, rg_i, sa_t, sa_l, gv_d, ob_o, bt_n, bt_t, bts_n, bts_c, fg_c, at_o, ty_non, ty_bl, ty_int, ty_str, ty_tup, ty_lst, ty_ktup, ty_dct, ty_scr, ty_obj, tys_n, tys_c, ik_bl, ik_int, ik_str, ik_tup, ik_lst, ik_ktup, ik_dct, ik_scr, ik_non, ik_obj, lc_nil, lc_cons, wp_n, wp_c, oi_n, oi_i, sl_t, sl_l, ns_var, ns_peek, ns_con, ns_glo, ns_bop, ns_neg, ns_cmp, ns_chain, ns_and, ns_or, ns_not, ns_ite, ns_tup, ns_lst, ns_lstR, ns_dsp, ns_dnew, ns_sub, ns_slc, ns_rev, ns_attr, ns_prop, ns_call, ns_mk, ns_meth, ns_bi, ns_isi, ns_get, ns_lc, ns_lc2, ns_dc, ns_rng, ns_enu, ns_seq, ex_var, ex_con, ex_glo, ex_bop, ex_neg, ex_cmp, ex_chain, ex_and, ex_or, ex_not, ex_ite, ex_tup, ex_lst, ex_lstR, ex_dsp, ex_dnew, ex_sub, ex_slc, ex_rev, ex_attr, ex_prop, ex_call, ex_mk, ex_meth, ex_bi, ex_isi, ex_get, ex_lc, ex_lc2, ex_dc, ex_rng, ex_enu, ex_seq, ex_peek, es_e, es_v, es_o, fz_s, fz_o, fz_v, fz_e, pl_p, ps_o, ps_c, pu_s, pu_c, pus_o, puc_s, pur_s, pur_c, il_s, il_c, ils_o, ilc_l, sp_l, ss_l, ss_d, sf_o, ft_n, lt_n, isf_var, isf_peek, isf_con, isf_glo, isf_bop, isf_neg, isf_cmp, isf_chain, isf_and, isf_or, isf_not, isf_ite, isf_tup, isf_lst, isf_lstR, isf_dsp, isf_dnew, isf_sub, isf_slc, isf_rev, isf_attr, isf_prop, isf_call, isf_mk, isf_meth, isf_isi, isf_get, isf_lc, isf_lc2, isf_dc, isf_rng, isf_enu, isf_seq, isf_bi_len, isf_bi_int, isf_bi_str, isf_bi_max, isf_bi_min, isf_bi_all, isf_bi_sum, isf_bi_tuple, isf_bi_list, isf_bi_dict, isf_bi_repr, isf_bi_sorted, hk_nx, hk_bk, hk_ct, hk_rt, hn_n, ne_nil, ne_val, ne_own, ne_emp, ax_c, ax_f, List.foldl_cons, List.foldl_nil, List.getElem?_cons_zero, List.getElem?_cons_succ, List.set_cons_zero, List.set_cons_succ, if_true, if_false, ite_true, ite_false, reduceIte, reduceCtorEq, List.length_cons, List.length_nil, List.map_cons, List.map_nil, List.zip_cons_cons, List.zip_nil_left, Option.map_some, Option.map_none, Option.getD_some, Option.getD_none, Option.bind_some, and_true, true_and, and_self, Bool.not_true, Bool.not_false, Bool.or_true, Bool.or_false, Bool.true_or, Bool.false_or, Bool.and_true, Bool.true_and, Bool.and_false, Bool.false_and, decide_true, decide_false, Bool.false_eq_true, eqi, E k h]
  rw [heard_end (k + 10) h cl rp]
  · simp only [w_ok, w_err, w_stk, o_ok, o_err, o_stk, t_nx, t_bk, t_ct, t_rt, t_er, t_stk, opt_s, opt_n, c_ok, c_stk, ce_nx, ce_rt, ce_er, ie_nx, ie_er, v_con, slV_v, slP_v, slP_o, v_var, v_peek, v_glo, v_bop, v_neg, neg_i, v_cmp, v_chain, v_and, v_or, v_not, v_ite, v_tup, v_lst, v_lstR, v_dsp, v_dnew, v_sub, v_slc, v_rev, ak_n, ak_s, v_attr, v_call, v_mk, v_bi, v_isi, v_get, v_lc, l_nil, l_star, l_cons, d_nil, d_cons, i_rng, i_enu, i_seq, s_fz', s_exp', s_asg', s_par', s_aug', s_app', s_ret', s_retN', s_ife', s_whl', s_for', s_brk', s_cnt', s_pass', s_raise', s_try', x_nil, x_cons, st_name, st_sub, st_attr, st_tup, sts_nil, sts_cons, stp_nil, stp_cons, fl_nil, fl_cons, fk_nx, fk_ct, fk_bk, fk_rt, fk_er, tv_nx, tv_rt, tv_er, p_addi, p_adds, p_addt, p_addl, p_sub, p_muli, p_mull, p_mult, p_fdv, p_mod, p_pow, p_aadd, p_asub, q_lt, q_le, q_gt, q_ge, q_eq, q_ne, q_is, q_isn, q_in, q_nin, a_bl, r_l, r_t, m_l, m_t, sb_t, sb_l, sb_k, sb_s, sb_d, df_int, df_str, df_tup, df_lst, df_ktup, df_dct, df_obj, df_scr, df_bl, df_non, df_ref, bi_len_l, bi_len_t, bi_len_k, bi_len_s, bi_len_x, bi_len_d, bi_int_i, bi_int_b, bi_str, bi_max, bi_min, bi_all, bi_sum, bi_tup_l, bi_tup_t, bi_lst_l, bi_lst_t, bi_dict, pt_lst, pt_dct, pt_obj, pt_f, pt_m, rg_i, sa_t, sa_l, gv_d, ob_o, bt_n, bt_t, bts_n, bts_c, fg_c, at_o, ty_non, ty_bl, ty_int, ty_str, ty_tup, ty_lst, ty_ktup, ty_dct, ty_scr, ty_obj, tys_n, tys_c, ik_bl, ik_int, ik_str, ik_tup, ik_lst, ik_ktup, ik_dct, ik_scr, ik_non, ik_obj, lc_nil, lc_cons, wp_n, wp_c, oi_n, oi_i, sl_t, sl_l, ns_var, ns_peek, ns_con, ns_glo, ns_bop, ns_neg, ns_cmp, ns_chain, ns_and, ns_or, ns_not, ns_ite, ns_tup, ns_lst, ns_lstR, ns_dsp, ns_dnew, ns_sub, ns_slc, ns_rev, ns_attr, ns_prop, ns_call, ns_mk, ns_meth, ns_bi, ns_isi, ns_get, ns_lc, ns_lc2, ns_dc, ns_rng, ns_enu, ns_seq, ex_var, ex_con, ex_glo, ex_bop, ex_neg, ex_cmp, ex_chain, ex_and, ex_or, ex_not, ex_ite, ex_tup, ex_lst, ex_lstR, ex_dsp, ex_dnew, ex_sub, ex_slc, ex_rev, ex_attr, ex_prop, ex_call, ex_mk, ex_meth, ex_bi, ex_isi, ex_get, ex_lc, ex_lc2, ex_dc, ex_rng, ex_enu, ex_seq, ex_peek, es_e, es_v, es_o, fz_s, fz_o, fz_v, fz_e, pl_p, ps_o, ps_c, pu_s, pu_c, pus_o, puc_s, pur_s, pur_c, il_s, il_c, ils_o, ilc_l, sp_l, ss_l, ss_d, sf_o, ft_n, lt_n, isf_var, isf_peek, isf_con, isf_glo, isf_bop, isf_neg, isf_cmp, isf_chain, isf_and, isf_or, isf_not, isf_ite, isf_tup, isf_lst, isf_lstR, isf_dsp, isf_dnew, isf_sub, isf_slc, isf_rev, isf_attr, isf_prop, isf_call, isf_mk, isf_meth, isf_isi, isf_get, isf_lc, isf_lc2, isf_dc, isf_rng, isf_enu, isf_seq, isf_bi_len, isf_bi_int, isf_bi_str, isf_bi_max, isf_bi_min, isf_bi_all, isf_bi_sum, isf_bi_tuple, isf_bi_list, isf_bi_dict, isf_bi_repr, isf_bi_sorted, xh_nil, xh_cons, hk_nx, hk_bk, hk_ct, hk_rt, hn_n, ne_nil, ne_val, ne_own, ne_emp, ax_c, ax_f, List.foldl_cons, List.foldl_nil, List.getElem?_cons_zero, List.getElem?_cons_succ, List.set_cons_zero, List.set_cons_succ, if_true, if_false, ite_true, ite_false, reduceIte, reduceCtorEq, List.length_cons, List.length_nil, List.map_cons, List.map_nil, List.zip_cons_cons, List.zip_nil_left, Option.map_some, Option.map_none, Option.getD_some, Option.getD_none, Option.bind_some, and_true, true_and, and_self, Bool.not_true, Bool.not_false, Bool.or_true, Bool.or_false, Bool.true_or, Bool.false_or, Bool.and_true, Bool.true_and, Bool.and_false, Bool.false_and, decide_true, decide_false, Bool.false_eq_true]
  · rfl

end LawT
set_option maxHeartbeats 0
namespace LawT
open PySem AM
/-! ### what each call refuses -/
/-- what may be told by repr -/
def okR (v : AV) : Bool := match dat v with
  | some d => PyData.showable d && (szOk d.shown.length && (decide (d.depth ≤ 64) && PyData.canLay0 (.str d.shown)))
  | none => false
theorem rp_of {v : AV} (h : okR v = true) : ∃ s : Str, biV .repr [v] = some (.str s) ∧ PyData.canLay0 (.str s) = true := by
  unfold okR at h
  cases e : dat v with
  | none => rw [e] at h; cases h
  | some d =>
    rw [e] at h
    simp only [Bool.and_eq_true] at h
    obtain ⟨h1, h2, h3, h4⟩ := h
    refine ⟨d.shown, ?_, h4⟩
    show (match dat v with
      | some d => if PyData.showable d = true ∧ szOk d.shown.length = true ∧ decide (d.depth ≤ 64) = true then some (AV.str d.shown) else none
      | none => none) = _
    rw [e]
    exact if_pos ⟨h1, h2, h3⟩
theorem eq_self {x : AV} {d : PyData} (h1 : dat x = some d) (h2 : SeqAt.shaped d = true) : eqAV x x = some true := by
  unfold eqAV
  rw [h1]
  show (if SeqAt.shaped d = true ∧ SeqAt.shaped d = true then some (PyData.eqv d d) else none) = _
  rw [if_pos ⟨h2, h2⟩, SeqAt.eqv_refl _ (SeqAt.canLay_of_shaped h2)]
theorem row_lay {t s : Str} (h1 : PyData.canLay0 (.str t) = true) (h2 : PyData.canLay0 (.str s) = true) : PyData.canLay0 (.list [.str t, .str s]) = true := by
  show (PyData.canLay0 (.str t) && (PyData.canLay0 (.str s) && true)) = true
  rw [h1, h2]
  rfl
theorem eq_row {t s : Str} (h1 : PyData.canLay0 (.str t) = true) (h2 : PyData.canLay0 (.str s) = true) : eqAV (.lst [.str t, .str s]) (.lst [.str t, .str s]) = some true :=
  eq_self (d := .list [.str t, .str s]) rfl (by unfold SeqAt.shaped; rw [row_lay h1 h2]; rfl)
theorem eq_rows {t s : Str} (h1 : PyData.canLay0 (.str t) = true) (h2 : PyData.canLay0 (.str s) = true) : ∀ n, dats (List.replicate n (.lst [.str t, .str s])) = some (List.replicate n (.list [.str t, .str s])) ∧ PyData.canLayAll0 (List.replicate n (.list [.str t, .str s])) = true ∧ PyData.depthAll (List.replicate n (.list [.str t, .str s])) ≤ 1
  | 0 => ⟨rfl, rfl, Nat.zero_le _⟩
  | n + 1 => by
    obtain ⟨i1, i2, i3⟩ := eq_rows h1 h2 n
    refine ⟨?_, ?_, ?_⟩
    · show (match some (PyData.list [.str t, .str s]), dats (List.replicate n (.lst [.str t, .str s])) with
        | some d, some ds => some (d :: ds)
        | _, _ => none) = _
      rw [i1]
      rfl
    · show (PyData.canLay0 (.list [.str t, .str s]) && PyData.canLayAll0 (List.replicate n (.list [.str t, .str s]))) = true
      rw [row_lay h1 h2, i2]
      rfl
    · show max 1 (PyData.depthAll (List.replicate n (.list [.str t, .str s]))) ≤ 1
      omega
theorem eq_rowsN {t s : Str} (h1 : PyData.canLay0 (.str t) = true) (h2 : PyData.canLay0 (.str s) = true) (n : Nat) : eqAV (.lst (List.replicate n (.lst [.str t, .str s]))) (.lst (List.replicate n (.lst [.str t, .str s]))) = some true := by
  obtain ⟨i1, i2, i3⟩ := eq_rows h1 h2 n
  refine eq_self (d := .list (List.replicate n (.list [.str t, .str s]))) ?_ ?_
  · show (dats (List.replicate n (.lst [.str t, .str s]))).map PyData.list = _
    rw [i1]
    rfl
  · unfold SeqAt.shaped
    show (PyData.canLayAll0 (List.replicate n (.list [.str t, .str s])) && decide (PyData.depthAll (List.replicate n (.list [.str t, .str s])) + 1 ≤ 64)) = true
    rw [i2, Bool.true_and, decide_eq_true_eq]
    omega
/-- the checks ahead of all codes -/
def Ec (m p o : AV) (c f : Nat) (v : AV) : Prop := ∀ (k : Nat) (h : AH), calA Pr (k + 6) 25 [m, p, o] h = .err ⟨c, [(f, v)]⟩ h
def Ek (m p o : AV) (c f : Nat) (v : AV) : Prop := ∀ (k : Nat) (h : AH), calA Pr (k + 6) 30 [m, p, o] h = .err ⟨c, [(f, v)]⟩ h
section
variable {m p o wd : AV} {c f : Nat} {v : AV}
theorem ec_model (ho : plainV m = true) : Ec m p o 7 10 m := fun k h => by
  rw [u_check_coded]
  unfold B_check_coded
  simp only [w_ok, w_err, w_stk, o_ok, o_err, o_stk, t_nx, t_bk, t_ct, t_rt, t_er, t_stk, opt_s, opt_n, c_ok, c_stk, ce_nx, ce_rt, ce_er, ie_nx, ie_er, v_con, slV_v, slP_v, slP_o, v_var, v_peek, v_glo, v_bop, v_neg, neg_i, v_cmp, v_chain, v_and, v_or, v_not, v_ite, v_tup, v_lst, v_lstR, v_dsp, v_dnew, v_sub, v_slc, v_rev, ak_n, ak_s, v_attr, v_call, v_mk, v_bi, v_isi, v_get, v_lc, l_nil, l_star, l_cons, d_nil, d_cons, i_rng, i_enu, i_seq, s_fz', s_exp', s_asg', s_par', s_aug', s_app', s_ret', s_retN', s_ife', s_whl', s_for', s_brk', s_cnt', s_pass', s_raise', s_try', x_nil, x_cons, st_name, st_sub, st_attr, st_tup, sts_nil, sts_cons, stp_nil, stp_cons, fl_nil, fl_cons, fk_nx, fk_ct, fk_bk, fk_rt, fk_er, tv_nx, tv_rt, tv_er, p_addi, p_adds, p_addt, p_addl, p_sub, p_muli, p_mull, p_mult, p_fdv, p_mod, p_pow, p_aadd, p_asub, q_lt, q_le, q_gt, q_ge, q_eq, q_ne, q_is, q_isn, q_in, q_nin, a_bl, r_l, r_t, m_l, m_t, sb_t, sb_l, sb_k, sb_s, sb_d, df_int, df_str, df_tup, df_lst, df_ktup, df_dct, df_obj, df_scr, df_bl, df_non, df_ref, bi_len_l, bi_len_t, bi_len_k, bi_len_s, bi_len_x, bi_len_d, bi_int_i, bi_int_b, bi_str, bi_max, bi_min, bi_all, bi_sum, bi_tup_l, bi_tup_t, bi_lst_l, bi_lst_t, bi_dict, pt_lst, pt_dct, pt_obj, pt_f, pt_m, rg_i, sa_t, sa_l, gv_d, ob_o, bt_n, bt_t, bts_n, bts_c, fg_c, at_o, ty_non, ty_bl, ty_int, ty_str, ty_tup, ty_lst, ty_ktup, ty_dct, ty_scr, ty_obj, tys_n, tys_c, ik_bl, ik_int, ik_str, ik_tup, ik_lst, ik_ktup, ik_dct, ik_scr, ik_non, ik_obj, lc_nil, lc_cons, wp_n, wp_c, oi_n, oi_i, sl_t, sl_l, ns_var, ns_peek, ns_con, ns_glo, ns_bop, ns_neg, ns_cmp, ns_chain, ns_and, ns_or, ns_not, ns_ite, ns_tup, ns_lst, ns_lstR, ns_dsp, ns_dnew, ns_sub, ns_slc, ns_rev, ns_attr, ns_prop, ns_call, ns_mk, ns_meth, ns_bi, ns_isi, ns_get, ns_lc, ns_lc2, ns_dc, ns_rng, ns_enu, ns_seq, ex_var, ex_con, ex_glo, ex_bop, ex_neg, ex_cmp, ex_chain, ex_and, ex_or, ex_not, ex_ite, ex_tup, ex_lst, ex_lstR, ex_dsp, ex_dnew, ex_sub, ex_slc, ex_rev, ex_attr, ex_prop, ex_call, ex_mk, ex_meth, ex_bi, ex_isi, ex_get, ex_lc, ex_lc2, ex_dc, ex_rng, ex_enu, ex_seq, ex_peek, es_e, es_v, es_o, fz_s, fz_o, fz_v, fz_e, pl_p, ps_o, ps_c, pu_s, pu_c, pus_o, puc_s, pur_s, pur_c, il_s, il_c, ils_o, ilc_l, sp_l, ss_l, ss_d, sf_o, ft_n, lt_n, isf_var, isf_peek, isf_con, isf_glo, isf_bop, isf_neg, isf_cmp, isf_chain, isf_and, isf_or, isf_not, isf_ite, isf_tup, isf_lst, isf_lstR, isf_dsp, isf_dnew, isf_sub, isf_slc, isf_rev, isf_attr, isf_prop, isf_call, isf_mk, isf_meth, isf_isi, isf_get, isf_lc, isf_lc2, isf_dc, isf_rng, isf_enu, isf_seq, isf_bi_len, isf_bi_int, isf_bi_str, isf_bi_max, isf_bi_min, isf_bi_all, isf_bi_sum, isf_bi_tuple, isf_bi_list, isf_bi_dict, isf_bi_repr, isf_bi_sorted, xh_nil, xh_cons, hk_nx, hk_bk, hk_ct, hk_rt, hn_n, ne_nil, ne_val, ne_own, ne_emp, ax_c, ax_f, List.foldl_cons, List.foldl_nil, List.getElem?_cons_zero, List.getElem?_cons_succ, List.set_cons_zero, List.set_cons_succ, if_true, if_false, ite_true, ite_false, reduceIte, reduceCtorEq, List.length_cons, List.length_nil, List.map_cons, List.map_nil, List.zip_cons_cons, List.zip_nil_left, Option.map_some, Option.map_none, Option.getD_some, Option.getD_none, Option.bind_some, and_true, true_and, and_self, Bool.not_true, Bool.not_false, Bool.or_true, Bool.or_false, Bool.true_or, Bool.false_or, Bool.and_true, Bool.true_and, Bool.and_false, Bool.false_and, decide_true, decide_false, Bool.false_eq_true, cm_bad (k + 4) h ho]
theorem ek_model (ho : plainV m = true) : Ek m p o 7 10 m := fun k h => by
  rw [u_check_read]
  unfold B_check_read
  simp only [w_ok, w_err, w_stk, o_ok, o_err, o_stk, t_nx, t_bk, t_ct, t_rt, t_er, t_stk, opt_s, opt_n, c_ok, c_stk, ce_nx, ce_rt, ce_er, ie_nx, ie_er, v_con, slV_v, slP_v, slP_o, v_var, v_peek, v_glo, v_bop, v_neg, neg_i, v_cmp, v_chain, v_and, v_or, v_not, v_ite, v_tup, v_lst, v_lstR, v_dsp, v_dnew, v_sub, v_slc, v_rev, ak_n, ak_s, v_attr, v_call, v_mk, v_bi, v_isi, v_get, v_lc, l_nil, l_star, l_cons, d_nil, d_cons, i_rng, i_enu, i_seq, s_fz', s_exp', s_asg', s_par', s_aug', s_app', s_ret', s_retN', s_ife', s_whl', s_for', s_brk', s_cnt', s_pass', s_raise', s_try', x_nil, x_cons, st_name, st_sub, st_attr, st_tup, sts_nil, sts_cons, stp_nil, stp_cons, fl_nil, fl_cons, fk_nx, fk_ct, fk_bk, fk_rt, fk_er, tv_nx, tv_rt, tv_er, p_addi, p_adds, p_addt, p_addl, p_sub, p_muli, p_mull, p_mult, p_fdv, p_mod, p_pow, p_aadd, p_asub, q_lt, q_le, q_gt, q_ge, q_eq, q_ne, q_is, q_isn, q_in, q_nin, a_bl, r_l, r_t, m_l, m_t, sb_t, sb_l, sb_k, sb_s, sb_d, df_int, df_str, df_tup, df_lst, df_ktup, df_dct, df_obj, df_scr, df_bl, df_non, df_ref, bi_len_l, bi_len_t, bi_len_k, bi_len_s, bi_len_x, bi_len_d, bi_int_i, bi_int_b, bi_str, bi_max, bi_min, bi_all, bi_sum, bi_tup_l, bi_tup_t, bi_lst_l, bi_lst_t, bi_dict, pt_lst, pt_dct, pt_obj, pt_f, pt_m, rg_i, sa_t, sa_l, gv_d, ob_o, bt_n, bt_t, bts_n, bts_c, fg_c, at_o, ty_non, ty_bl, ty_int, ty_str, ty_tup, ty_lst, ty_ktup, ty_dct, ty_scr, ty_obj, tys_n, tys_c, ik_bl, ik_int, ik_str, ik_tup, ik_lst, ik_ktup, ik_dct, ik_scr, ik_non, ik_obj, lc_nil, lc_cons, wp_n, wp_c, oi_n, oi_i, sl_t, sl_l, ns_var, ns_peek, ns_con, ns_glo, ns_bop, ns_neg, ns_cmp, ns_chain, ns_and, ns_or, ns_not, ns_ite, ns_tup, ns_lst, ns_lstR, ns_dsp, ns_dnew, ns_sub, ns_slc, ns_rev, ns_attr, ns_prop, ns_call, ns_mk, ns_meth, ns_bi, ns_isi, ns_get, ns_lc, ns_lc2, ns_dc, ns_rng, ns_enu, ns_seq, ex_var, ex_con, ex_glo, ex_bop, ex_neg, ex_cmp, ex_chain, ex_and, ex_or, ex_not, ex_ite, ex_tup, ex_lst, ex_lstR, ex_dsp, ex_dnew, ex_sub, ex_slc, ex_rev, ex_attr, ex_prop, ex_call, ex_mk, ex_meth, ex_bi, ex_isi, ex_get, ex_lc, ex_lc2, ex_dc, ex_rng, ex_enu, ex_seq, ex_peek, es_e, es_v, es_o, fz_s, fz_o, fz_v, fz_e, pl_p, ps_o, ps_c, pu_s, pu_c, pus_o, puc_s, pur_s, pur_c, il_s, il_c, ils_o, ilc_l, sp_l, ss_l, ss_d, sf_o, ft_n, lt_n, isf_var, isf_peek, isf_con, isf_glo, isf_bop, isf_neg, isf_cmp, isf_chain, isf_and, isf_or, isf_not, isf_ite, isf_tup, isf_lst, isf_lstR, isf_dsp, isf_dnew, isf_sub, isf_slc, isf_rev, isf_attr, isf_prop, isf_call, isf_mk, isf_meth, isf_isi, isf_get, isf_lc, isf_lc2, isf_dc, isf_rng, isf_enu, isf_seq, isf_bi_len, isf_bi_int, isf_bi_str, isf_bi_max, isf_bi_min, isf_bi_all, isf_bi_sum, isf_bi_tuple, isf_bi_list, isf_bi_dict, isf_bi_repr, isf_bi_sorted, xh_nil, xh_cons, hk_nx, hk_bk, hk_ct, hk_rt, hn_n, ne_nil, ne_val, ne_own, ne_emp, ax_c, ax_f, List.foldl_cons, List.foldl_nil, List.getElem?_cons_zero, List.getElem?_cons_succ, List.set_cons_zero, List.set_cons_succ, if_true, if_false, ite_true, ite_false, reduceIte, reduceCtorEq, List.length_cons, List.length_nil, List.map_cons, List.map_nil, List.zip_cons_cons, List.zip_nil_left, Option.map_some, Option.map_none, Option.getD_some, Option.getD_none, Option.bind_some, and_true, true_and, and_self, Bool.not_true, Bool.not_false, Bool.or_true, Bool.or_false, Bool.true_or, Bool.false_or, Bool.and_true, Bool.true_and, Bool.and_false, Bool.false_and, decide_true, decide_false, Bool.false_eq_true, cm_bad (k + 4) h ho]
theorem m_depth (P : Prg) (h : AH) {d : Int} {kd sh : AV} (hc : 0 < P.cls.length) : attrV P 0 (modelV d kd sh) h = .ok (.int d) h := by
  unfold modelV
  rw [at_o, if_pos hc]
  rfl
theorem ncl2 : 0 < Pr.cls.length := by decide
theorem ec_past {d : Int} {kd sh : AV} (hp : BadP d p) : Ec (modelV d kd sh) p o 4 10 p := fun k h => by
  rw [u_check_coded]
  unfold B_check_coded
  simp only [w_ok, w_err, w_stk, o_ok, o_err, o_stk, t_nx, t_bk, t_ct, t_rt, t_er, t_stk, opt_s, opt_n, c_ok, c_stk, ce_nx, ce_rt, ce_er, ie_nx, ie_er, v_con, slV_v, slP_v, slP_o, v_var, v_peek, v_glo, v_bop, v_neg, neg_i, v_cmp, v_chain, v_and, v_or, v_not, v_ite, v_tup, v_lst, v_lstR, v_dsp, v_dnew, v_sub, v_slc, v_rev, ak_n, ak_s, v_attr, v_call, v_mk, v_bi, v_isi, v_get, v_lc, l_nil, l_star, l_cons, d_nil, d_cons, i_rng, i_enu, i_seq, s_fz', s_exp', s_asg', s_par', s_aug', s_app', s_ret', s_retN', s_ife', s_whl', s_for', s_brk', s_cnt', s_pass', s_raise', s_try', x_nil, x_cons, st_name, st_sub, st_attr, st_tup, sts_nil, sts_cons, stp_nil, stp_cons, fl_nil, fl_cons, fk_nx, fk_ct, fk_bk, fk_rt, fk_er, tv_nx, tv_rt, tv_er, p_addi, p_adds, p_addt, p_addl, p_sub, p_muli, p_mull, p_mult, p_fdv, p_mod, p_pow, p_aadd, p_asub, q_lt, q_le, q_gt, q_ge, q_eq, q_ne, q_is, q_isn, q_in, q_nin, a_bl, r_l, r_t, m_l, m_t, sb_t, sb_l, sb_k, sb_s, sb_d, df_int, df_str, df_tup, df_lst, df_ktup, df_dct, df_obj, df_scr, df_bl, df_non, df_ref, bi_len_l, bi_len_t, bi_len_k, bi_len_s, bi_len_x, bi_len_d, bi_int_i, bi_int_b, bi_str, bi_max, bi_min, bi_all, bi_sum, bi_tup_l, bi_tup_t, bi_lst_l, bi_lst_t, bi_dict, pt_lst, pt_dct, pt_obj, pt_f, pt_m, rg_i, sa_t, sa_l, gv_d, ob_o, bt_n, bt_t, bts_n, bts_c, fg_c, at_o, ty_non, ty_bl, ty_int, ty_str, ty_tup, ty_lst, ty_ktup, ty_dct, ty_scr, ty_obj, tys_n, tys_c, ik_bl, ik_int, ik_str, ik_tup, ik_lst, ik_ktup, ik_dct, ik_scr, ik_non, ik_obj, lc_nil, lc_cons, wp_n, wp_c, oi_n, oi_i, sl_t, sl_l, ns_var, ns_peek, ns_con, ns_glo, ns_bop, ns_neg, ns_cmp, ns_chain, ns_and, ns_or, ns_not, ns_ite, ns_tup, ns_lst, ns_lstR, ns_dsp, ns_dnew, ns_sub, ns_slc, ns_rev, ns_attr, ns_prop, ns_call, ns_mk, ns_meth, ns_bi, ns_isi, ns_get, ns_lc, ns_lc2, ns_dc, ns_rng, ns_enu, ns_seq, ex_var, ex_con, ex_glo, ex_bop, ex_neg, ex_cmp, ex_chain, ex_and, ex_or, ex_not, ex_ite, ex_tup, ex_lst, ex_lstR, ex_dsp, ex_dnew, ex_sub, ex_slc, ex_rev, ex_attr, ex_prop, ex_call, ex_mk, ex_meth, ex_bi, ex_isi, ex_get, ex_lc, ex_lc2, ex_dc, ex_rng, ex_enu, ex_seq, ex_peek, es_e, es_v, es_o, fz_s, fz_o, fz_v, fz_e, pl_p, ps_o, ps_c, pu_s, pu_c, pus_o, puc_s, pur_s, pur_c, il_s, il_c, ils_o, ilc_l, sp_l, ss_l, ss_d, sf_o, ft_n, lt_n, isf_var, isf_peek, isf_con, isf_glo, isf_bop, isf_neg, isf_cmp, isf_chain, isf_and, isf_or, isf_not, isf_ite, isf_tup, isf_lst, isf_lstR, isf_dsp, isf_dnew, isf_sub, isf_slc, isf_rev, isf_attr, isf_prop, isf_call, isf_mk, isf_meth, isf_isi, isf_get, isf_lc, isf_lc2, isf_dc, isf_rng, isf_enu, isf_seq, isf_bi_len, isf_bi_int, isf_bi_str, isf_bi_max, isf_bi_min, isf_bi_all, isf_bi_sum, isf_bi_tuple, isf_bi_list, isf_bi_dict, isf_bi_repr, isf_bi_sorted, xh_nil, xh_cons, hk_nx, hk_bk, hk_ct, hk_rt, hn_n, ne_nil, ne_val, ne_own, ne_emp, ax_c, ax_f, List.foldl_cons, List.foldl_nil, List.getElem?_cons_zero, List.getElem?_cons_succ, List.set_cons_zero, List.set_cons_succ, if_true, if_false, ite_true, ite_false, reduceIte, reduceCtorEq, List.length_cons, List.length_nil, List.map_cons, List.map_nil, List.zip_cons_cons, List.zip_nil_left, Option.map_some, Option.map_none, Option.getD_some, Option.getD_none, Option.bind_some, and_true, true_and, and_self, Bool.not_true, Bool.not_false, Bool.or_true, Bool.or_false, Bool.true_or, Bool.false_or, Bool.and_true, Bool.true_and, Bool.and_false, Bool.false_and, decide_true, decide_false, Bool.false_eq_true, cm_ok (k + 4) h, m_depth Pr h ncl2, hp (k + 1) h]
theorem ek_past {d : Int} {kd sh : AV} (hp : BadP d p) : Ek (modelV d kd sh) p o 4 10 p := fun k h => by
  rw [u_check_read]
  unfold B_check_read
  simp only [w_ok, w_err, w_stk, o_ok, o_err, o_stk, t_nx, t_bk, t_ct, t_rt, t_er, t_stk, opt_s, opt_n, c_ok, c_stk, ce_nx, ce_rt, ce_er, ie_nx, ie_er, v_con, slV_v, slP_v, slP_o, v_var, v_peek, v_glo, v_bop, v_neg, neg_i, v_cmp, v_chain, v_and, v_or, v_not, v_ite, v_tup, v_lst, v_lstR, v_dsp, v_dnew, v_sub, v_slc, v_rev, ak_n, ak_s, v_attr, v_call, v_mk, v_bi, v_isi, v_get, v_lc, l_nil, l_star, l_cons, d_nil, d_cons, i_rng, i_enu, i_seq, s_fz', s_exp', s_asg', s_par', s_aug', s_app', s_ret', s_retN', s_ife', s_whl', s_for', s_brk', s_cnt', s_pass', s_raise', s_try', x_nil, x_cons, st_name, st_sub, st_attr, st_tup, sts_nil, sts_cons, stp_nil, stp_cons, fl_nil, fl_cons, fk_nx, fk_ct, fk_bk, fk_rt, fk_er, tv_nx, tv_rt, tv_er, p_addi, p_adds, p_addt, p_addl, p_sub, p_muli, p_mull, p_mult, p_fdv, p_mod, p_pow, p_aadd, p_asub, q_lt, q_le, q_gt, q_ge, q_eq, q_ne, q_is, q_isn, q_in, q_nin, a_bl, r_l, r_t, m_l, m_t, sb_t, sb_l, sb_k, sb_s, sb_d, df_int, df_str, df_tup, df_lst, df_ktup, df_dct, df_obj, df_scr, df_bl, df_non, df_ref, bi_len_l, bi_len_t, bi_len_k, bi_len_s, bi_len_x, bi_len_d, bi_int_i, bi_int_b, bi_str, bi_max, bi_min, bi_all, bi_sum, bi_tup_l, bi_tup_t, bi_lst_l, bi_lst_t, bi_dict, pt_lst, pt_dct, pt_obj, pt_f, pt_m, rg_i, sa_t, sa_l, gv_d, ob_o, bt_n, bt_t, bts_n, bts_c, fg_c, at_o, ty_non, ty_bl, ty_int, ty_str, ty_tup, ty_lst, ty_ktup, ty_dct, ty_scr, ty_obj, tys_n, tys_c, ik_bl, ik_int, ik_str, ik_tup, ik_lst, ik_ktup, ik_dct, ik_scr, ik_non, ik_obj, lc_nil, lc_cons, wp_n, wp_c, oi_n, oi_i, sl_t, sl_l, ns_var, ns_peek, ns_con, ns_glo, ns_bop, ns_neg, ns_cmp, ns_chain, ns_and, ns_or, ns_not, ns_ite, ns_tup, ns_lst, ns_lstR, ns_dsp, ns_dnew, ns_sub, ns_slc, ns_rev, ns_attr, ns_prop, ns_call, ns_mk, ns_meth, ns_bi, ns_isi, ns_get, ns_lc, ns_lc2, ns_dc, ns_rng, ns_enu, ns_seq, ex_var, ex_con, ex_glo, ex_bop, ex_neg, ex_cmp, ex_chain, ex_and, ex_or, ex_not, ex_ite, ex_tup, ex_lst, ex_lstR, ex_dsp, ex_dnew, ex_sub, ex_slc, ex_rev, ex_attr, ex_prop, ex_call, ex_mk, ex_meth, ex_bi, ex_isi, ex_get, ex_lc, ex_lc2, ex_dc, ex_rng, ex_enu, ex_seq, ex_peek, es_e, es_v, es_o, fz_s, fz_o, fz_v, fz_e, pl_p, ps_o, ps_c, pu_s, pu_c, pus_o, puc_s, pur_s, pur_c, il_s, il_c, ils_o, ilc_l, sp_l, ss_l, ss_d, sf_o, ft_n, lt_n, isf_var, isf_peek, isf_con, isf_glo, isf_bop, isf_neg, isf_cmp, isf_chain, isf_and, isf_or, isf_not, isf_ite, isf_tup, isf_lst, isf_lstR, isf_dsp, isf_dnew, isf_sub, isf_slc, isf_rev, isf_attr, isf_prop, isf_call, isf_mk, isf_meth, isf_isi, isf_get, isf_lc, isf_lc2, isf_dc, isf_rng, isf_enu, isf_seq, isf_bi_len, isf_bi_int, isf_bi_str, isf_bi_max, isf_bi_min, isf_bi_all, isf_bi_sum, isf_bi_tuple, isf_bi_list, isf_bi_dict, isf_bi_repr, isf_bi_sorted, xh_nil, xh_cons, hk_nx, hk_bk, hk_ct, hk_rt, hn_n, ne_nil, ne_val, ne_own, ne_emp, ax_c, ax_f, List.foldl_cons, List.foldl_nil, List.getElem?_cons_zero, List.getElem?_cons_succ, List.set_cons_zero, List.set_cons_succ, if_true, if_false, ite_true, ite_false, reduceIte, reduceCtorEq, List.length_cons, List.length_nil, List.map_cons, List.map_nil, List.zip_cons_cons, List.zip_nil_left, Option.map_some, Option.map_none, Option.getD_some, Option.getD_none, Option.bind_some, and_true, true_and, and_self, Bool.not_true, Bool.not_false, Bool.or_true, Bool.or_false, Bool.true_or, Bool.false_or, Bool.and_true, Bool.true_and, Bool.and_false, Bool.false_and, decide_true, decide_false, Bool.false_eq_true, cm_ok (k + 4) h, m_depth Pr h ncl2, hp (k + 1) h]
theorem er0' (e : Ec m p o c f v) (k : Nat) (h : AH) : calA Pr (k + 7) 37 [m, p, o, wd] h = .err ⟨c, [(f, v)]⟩ h := by
  rw [u_text_span]
  unfold B_text_span
  simp only [w_ok, w_err, w_stk, o_ok, o_err, o_stk, t_nx, t_bk, t_ct, t_rt, t_er, t_stk, opt_s, opt_n, c_ok, c_stk, ce_nx, ce_rt, ce_er, ie_nx, ie_er, v_con, slV_v, slP_v, slP_o, v_var, v_peek, v_glo, v_bop, v_neg, neg_i, v_cmp, v_chain, v_and, v_or, v_not, v_ite, v_tup, v_lst, v_lstR, v_dsp, v_dnew, v_sub, v_slc, v_rev, ak_n, ak_s, v_attr, v_call, v_mk, v_bi, v_isi, v_get, v_lc, l_nil, l_star, l_cons, d_nil, d_cons, i_rng, i_enu, i_seq, s_fz', s_exp', s_asg', s_par', s_aug', s_app', s_ret', s_retN', s_ife', s_whl', s_for', s_brk', s_cnt', s_pass', s_raise', s_try', x_nil, x_cons, st_name, st_sub, st_attr, st_tup, sts_nil, sts_cons, stp_nil, stp_cons, fl_nil, fl_cons, fk_nx, fk_ct, fk_bk, fk_rt, fk_er, tv_nx, tv_rt, tv_er, p_addi, p_adds, p_addt, p_addl, p_sub, p_muli, p_mull, p_mult, p_fdv, p_mod, p_pow, p_aadd, p_asub, q_lt, q_le, q_gt, q_ge, q_eq, q_ne, q_is, q_isn, q_in, q_nin, a_bl, r_l, r_t, m_l, m_t, sb_t, sb_l, sb_k, sb_s, sb_d, df_int, df_str, df_tup, df_lst, df_ktup, df_dct, df_obj, df_scr, df_bl, df_non, df_ref, bi_len_l, bi_len_t, bi_len_k, bi_len_s, bi_len_x, bi_len_d, bi_int_i, bi_int_b, bi_str, bi_max, bi_min, bi_all, bi_sum, bi_tup_l, bi_tup_t, bi_lst_l, bi_lst_t, bi_dict, pt_lst, pt_dct, pt_obj, pt_f, pt_m, rg_i, sa_t, sa_l, gv_d, ob_o, bt_n, bt_t, bts_n, bts_c, fg_c, at_o, ty_non, ty_bl, ty_int, ty_str, ty_tup, ty_lst, ty_ktup, ty_dct, ty_scr, ty_obj, tys_n, tys_c, ik_bl, ik_int, ik_str, ik_tup, ik_lst, ik_ktup, ik_dct, ik_scr, ik_non, ik_obj, lc_nil, lc_cons, wp_n, wp_c, oi_n, oi_i, sl_t, sl_l, ns_var, ns_peek, ns_con, ns_glo, ns_bop, ns_neg, ns_cmp, ns_chain, ns_and, ns_or, ns_not, ns_ite, ns_tup, ns_lst, ns_lstR, ns_dsp, ns_dnew, ns_sub, ns_slc, ns_rev, ns_attr, ns_prop, ns_call, ns_mk, ns_meth, ns_bi, ns_isi, ns_get, ns_lc, ns_lc2, ns_dc, ns_rng, ns_enu, ns_seq, ex_var, ex_con, ex_glo, ex_bop, ex_neg, ex_cmp, ex_chain, ex_and, ex_or, ex_not, ex_ite, ex_tup, ex_lst, ex_lstR, ex_dsp, ex_dnew, ex_sub, ex_slc, ex_rev, ex_attr, ex_prop, ex_call, ex_mk, ex_meth, ex_bi, ex_isi, ex_get, ex_lc, ex_lc2, ex_dc, ex_rng, ex_enu, ex_seq, ex_peek, es_e, es_v, es_o, fz_s, fz_o, fz_v, fz_e, pl_p, ps_o, ps_c, pu_s, pu_c, pus_o, puc_s, pur_s, pur_c, il_s, il_c, ils_o, ilc_l, sp_l, ss_l, ss_d, sf_o, ft_n, lt_n, isf_var, isf_peek, isf_con, isf_glo, isf_bop, isf_neg, isf_cmp, isf_chain, isf_and, isf_or, isf_not, isf_ite, isf_tup, isf_lst, isf_lstR, isf_dsp, isf_dnew, isf_sub, isf_slc, isf_rev, isf_attr, isf_prop, isf_call, isf_mk, isf_meth, isf_isi, isf_get, isf_lc, isf_lc2, isf_dc, isf_rng, isf_enu, isf_seq, isf_bi_len, isf_bi_int, isf_bi_str, isf_bi_max, isf_bi_min, isf_bi_all, isf_bi_sum, isf_bi_tuple, isf_bi_list, isf_bi_dict, isf_bi_repr, isf_bi_sorted, xh_nil, xh_cons, hk_nx, hk_bk, hk_ct, hk_rt, hn_n, ne_nil, ne_val, ne_own, ne_emp, ax_c, ax_f, List.foldl_cons, List.foldl_nil, List.getElem?_cons_zero, List.getElem?_cons_succ, List.set_cons_zero, List.set_cons_succ, if_true, if_false, ite_true, ite_false, reduceIte, reduceCtorEq, List.length_cons, List.length_nil, List.map_cons, List.map_nil, List.zip_cons_cons, List.zip_nil_left, Option.map_some, Option.map_none, Option.getD_some, Option.getD_none, Option.bind_some, and_true, true_and, and_self, Bool.not_true, Bool.not_false, Bool.or_true, Bool.or_false, Bool.true_or, Bool.false_or, Bool.and_true, Bool.true_and, Bool.and_false, Bool.false_and, decide_true, decide_false, Bool.false_eq_true, e k h]
theorem er0 (e : Ec m p o c f v) : Er 37 [m, p, o, wd] c f v := fun k h => er0' e (k + 3) h
theorem er1 (e : ∀ (k : Nat) (h : AH), calA Pr (k + 7) 37 [m, p, o, wd] h = .err ⟨c, [(f, v)]⟩ h) : Er 38 [m, p, o, wd] c f v := fun k h => by
  rw [u_bounded_code]
  unfold B_bounded_code
  simp only [w_ok, w_err, w_stk, o_ok, o_err, o_stk, t_nx, t_bk, t_ct, t_rt, t_er, t_stk, opt_s, opt_n, c_ok, c_stk, ce_nx, ce_rt, ce_er, ie_nx, ie_er, v_con, slV_v, slP_v, slP_o, v_var, v_peek, v_glo, v_bop, v_neg, neg_i, v_cmp, v_chain, v_and, v_or, v_not, v_ite, v_tup, v_lst, v_lstR, v_dsp, v_dnew, v_sub, v_slc, v_rev, ak_n, ak_s, v_attr, v_call, v_mk, v_bi, v_isi, v_get, v_lc, l_nil, l_star, l_cons, d_nil, d_cons, i_rng, i_enu, i_seq, s_fz', s_exp', s_asg', s_par', s_aug', s_app', s_ret', s_retN', s_ife', s_whl', s_for', s_brk', s_cnt', s_pass', s_raise', s_try', x_nil, x_cons, st_name, st_sub, st_attr, st_tup, sts_nil, sts_cons, stp_nil, stp_cons, fl_nil, fl_cons, fk_nx, fk_ct, fk_bk, fk_rt, fk_er, tv_nx, tv_rt, tv_er, p_addi, p_adds, p_addt, p_addl, p_sub, p_muli, p_mull, p_mult, p_fdv, p_mod, p_pow, p_aadd, p_asub, q_lt, q_le, q_gt, q_ge, q_eq, q_ne, q_is, q_isn, q_in, q_nin, a_bl, r_l, r_t, m_l, m_t, sb_t, sb_l, sb_k, sb_s, sb_d, df_int, df_str, df_tup, df_lst, df_ktup, df_dct, df_obj, df_scr, df_bl, df_non, df_ref, bi_len_l, bi_len_t, bi_len_k, bi_len_s, bi_len_x, bi_len_d, bi_int_i, bi_int_b, bi_str, bi_max, bi_min, bi_all, bi_sum, bi_tup_l, bi_tup_t, bi_lst_l, bi_lst_t, bi_dict, pt_lst, pt_dct, pt_obj, pt_f, pt_m, rg_i, sa_t, sa_l, gv_d, ob_o, bt_n, bt_t, bts_n, bts_c, fg_c, at_o, ty_non, ty_bl, ty_int, ty_str, ty_tup, ty_lst, ty_ktup, ty_dct, ty_scr, ty_obj, tys_n, tys_c, ik_bl, ik_int, ik_str, ik_tup, ik_lst, ik_ktup, ik_dct, ik_scr, ik_non, ik_obj, lc_nil, lc_cons, wp_n, wp_c, oi_n, oi_i, sl_t, sl_l, ns_var, ns_peek, ns_con, ns_glo, ns_bop, ns_neg, ns_cmp, ns_chain, ns_and, ns_or, ns_not, ns_ite, ns_tup, ns_lst, ns_lstR, ns_dsp, ns_dnew, ns_sub, ns_slc, ns_rev, ns_attr, ns_prop, ns_call, ns_mk, ns_meth, ns_bi, ns_isi, ns_get, ns_lc, ns_lc2, ns_dc, ns_rng, ns_enu, ns_seq, ex_var, ex_con, ex_glo, ex_bop, ex_neg, ex_cmp, ex_chain, ex_and, ex_or, ex_not, ex_ite, ex_tup, ex_lst, ex_lstR, ex_dsp, ex_dnew, ex_sub, ex_slc, ex_rev, ex_attr, ex_prop, ex_call, ex_mk, ex_meth, ex_bi, ex_isi, ex_get, ex_lc, ex_lc2, ex_dc, ex_rng, ex_enu, ex_seq, ex_peek, es_e, es_v, es_o, fz_s, fz_o, fz_v, fz_e, pl_p, ps_o, ps_c, pu_s, pu_c, pus_o, puc_s, pur_s, pur_c, il_s, il_c, ils_o, ilc_l, sp_l, ss_l, ss_d, sf_o, ft_n, lt_n, isf_var, isf_peek, isf_con, isf_glo, isf_bop, isf_neg, isf_cmp, isf_chain, isf_and, isf_or, isf_not, isf_ite, isf_tup, isf_lst, isf_lstR, isf_dsp, isf_dnew, isf_sub, isf_slc, isf_rev, isf_attr, isf_prop, isf_call, isf_mk, isf_meth, isf_isi, isf_get, isf_lc, isf_lc2, isf_dc, isf_rng, isf_enu, isf_seq, isf_bi_len, isf_bi_int, isf_bi_str, isf_bi_max, isf_bi_min, isf_bi_all, isf_bi_sum, isf_bi_tuple, isf_bi_list, isf_bi_dict, isf_bi_repr, isf_bi_sorted, xh_nil, xh_cons, hk_nx, hk_bk, hk_ct, hk_rt, hn_n, ne_nil, ne_val, ne_own, ne_emp, ax_c, ax_f, List.foldl_cons, List.foldl_nil, List.getElem?_cons_zero, List.getElem?_cons_succ, List.set_cons_zero, List.set_cons_succ, if_true, if_false, ite_true, ite_false, reduceIte, reduceCtorEq, List.length_cons, List.length_nil, List.map_cons, List.map_nil, List.zip_cons_cons, List.zip_nil_left, Option.map_some, Option.map_none, Option.getD_some, Option.getD_none, Option.bind_some, and_true, true_and, and_self, Bool.not_true, Bool.not_false, Bool.or_true, Bool.or_false, Bool.true_or, Bool.false_or, Bool.and_true, Bool.true_and, Bool.and_false, Bool.false_and, decide_true, decide_false, Bool.false_eq_true, e (k + 2) h]
theorem er2 (e : Ec m p o c f v) : Er 44 [m, p, o, wd] c f v := fun k h => by
  rw [u_loss]
  unfold B_loss
  simp only [w_ok, w_err, w_stk, o_ok, o_err, o_stk, t_nx, t_bk, t_ct, t_rt, t_er, t_stk, opt_s, opt_n, c_ok, c_stk, ce_nx, ce_rt, ce_er, ie_nx, ie_er, v_con, slV_v, slP_v, slP_o, v_var, v_peek, v_glo, v_bop, v_neg, neg_i, v_cmp, v_chain, v_and, v_or, v_not, v_ite, v_tup, v_lst, v_lstR, v_dsp, v_dnew, v_sub, v_slc, v_rev, ak_n, ak_s, v_attr, v_call, v_mk, v_bi, v_isi, v_get, v_lc, l_nil, l_star, l_cons, d_nil, d_cons, i_rng, i_enu, i_seq, s_fz', s_exp', s_asg', s_par', s_aug', s_app', s_ret', s_retN', s_ife', s_whl', s_for', s_brk', s_cnt', s_pass', s_raise', s_try', x_nil, x_cons, st_name, st_sub, st_attr, st_tup, sts_nil, sts_cons, stp_nil, stp_cons, fl_nil, fl_cons, fk_nx, fk_ct, fk_bk, fk_rt, fk_er, tv_nx, tv_rt, tv_er, p_addi, p_adds, p_addt, p_addl, p_sub, p_muli, p_mull, p_mult, p_fdv, p_mod, p_pow, p_aadd, p_asub, q_lt, q_le, q_gt, q_ge, q_eq, q_ne, q_is, q_isn, q_in, q_nin, a_bl, r_l, r_t, m_l, m_t, sb_t, sb_l, sb_k, sb_s, sb_d, df_int, df_str, df_tup, df_lst, df_ktup, df_dct, df_obj, df_scr, df_bl, df_non, df_ref, bi_len_l, bi_len_t, bi_len_k, bi_len_s, bi_len_x, bi_len_d, bi_int_i, bi_int_b, bi_str, bi_max, bi_min, bi_all, bi_sum, bi_tup_l, bi_tup_t, bi_lst_l, bi_lst_t, bi_dict, pt_lst, pt_dct, pt_obj, pt_f, pt_m, rg_i, sa_t, sa_l, gv_d, ob_o, bt_n, bt_t, bts_n, bts_c, fg_c, at_o, ty_non, ty_bl, ty_int, ty_str, ty_tup, ty_lst, ty_ktup, ty_dct, ty_scr, ty_obj, tys_n, tys_c, ik_bl, ik_int, ik_str, ik_tup, ik_lst, ik_ktup, ik_dct, ik_scr, ik_non, ik_obj, lc_nil, lc_cons, wp_n, wp_c, oi_n, oi_i, sl_t, sl_l, ns_var, ns_peek, ns_con, ns_glo, ns_bop, ns_neg, ns_cmp, ns_chain, ns_and, ns_or, ns_not, ns_ite, ns_tup, ns_lst, ns_lstR, ns_dsp, ns_dnew, ns_sub, ns_slc, ns_rev, ns_attr, ns_prop, ns_call, ns_mk, ns_meth, ns_bi, ns_isi, ns_get, ns_lc, ns_lc2, ns_dc, ns_rng, ns_enu, ns_seq, ex_var, ex_con, ex_glo, ex_bop, ex_neg, ex_cmp, ex_chain, ex_and, ex_or, ex_not, ex_ite, ex_tup, ex_lst, ex_lstR, ex_dsp, ex_dnew, ex_sub, ex_slc, ex_rev, ex_attr, ex_prop, ex_call, ex_mk, ex_meth, ex_bi, ex_isi, ex_get, ex_lc, ex_lc2, ex_dc, ex_rng, ex_enu, ex_seq, ex_peek, es_e, es_v, es_o, fz_s, fz_o, fz_v, fz_e, pl_p, ps_o, ps_c, pu_s, pu_c, pus_o, puc_s, pur_s, pur_c, il_s, il_c, ils_o, ilc_l, sp_l, ss_l, ss_d, sf_o, ft_n, lt_n, isf_var, isf_peek, isf_con, isf_glo, isf_bop, isf_neg, isf_cmp, isf_chain, isf_and, isf_or, isf_not, isf_ite, isf_tup, isf_lst, isf_lstR, isf_dsp, isf_dnew, isf_sub, isf_slc, isf_rev, isf_attr, isf_prop, isf_call, isf_mk, isf_meth, isf_isi, isf_get, isf_lc, isf_lc2, isf_dc, isf_rng, isf_enu, isf_seq, isf_bi_len, isf_bi_int, isf_bi_str, isf_bi_max, isf_bi_min, isf_bi_all, isf_bi_sum, isf_bi_tuple, isf_bi_list, isf_bi_dict, isf_bi_repr, isf_bi_sorted, xh_nil, xh_cons, hk_nx, hk_bk, hk_ct, hk_rt, hn_n, ne_nil, ne_val, ne_own, ne_emp, ax_c, ax_f, List.foldl_cons, List.foldl_nil, List.getElem?_cons_zero, List.getElem?_cons_succ, List.set_cons_zero, List.set_cons_succ, if_true, if_false, ite_true, ite_false, reduceIte, reduceCtorEq, List.length_cons, List.length_nil, List.map_cons, List.map_nil, List.zip_cons_cons, List.zip_nil_left, Option.map_some, Option.map_none, Option.getD_some, Option.getD_none, Option.bind_some, and_true, true_and, and_self, Bool.not_true, Bool.not_false, Bool.or_true, Bool.or_false, Bool.true_or, Bool.false_or, Bool.and_true, Bool.true_and, Bool.and_false, Bool.false_and, decide_true, decide_false, Bool.false_eq_true, e (k + 3) h]
theorem er3 (e : Ec m p o c f v) : Er 45 [m, p, o, wd] c f v := fun k h => by
  rw [u_width_for]
  unfold B_width_for
  simp only [w_ok, w_err, w_stk, o_ok, o_err, o_stk, t_nx, t_bk, t_ct, t_rt, t_er, t_stk, opt_s, opt_n, c_ok, c_stk, ce_nx, ce_rt, ce_er, ie_nx, ie_er, v_con, slV_v, slP_v, slP_o, v_var, v_peek, v_glo, v_bop, v_neg, neg_i, v_cmp, v_chain, v_and, v_or, v_not, v_ite, v_tup, v_lst, v_lstR, v_dsp, v_dnew, v_sub, v_slc, v_rev, ak_n, ak_s, v_attr, v_call, v_mk, v_bi, v_isi, v_get, v_lc, l_nil, l_star, l_cons, d_nil, d_cons, i_rng, i_enu, i_seq, s_fz', s_exp', s_asg', s_par', s_aug', s_app', s_ret', s_retN', s_ife', s_whl', s_for', s_brk', s_cnt', s_pass', s_raise', s_try', x_nil, x_cons, st_name, st_sub, st_attr, st_tup, sts_nil, sts_cons, stp_nil, stp_cons, fl_nil, fl_cons, fk_nx, fk_ct, fk_bk, fk_rt, fk_er, tv_nx, tv_rt, tv_er, p_addi, p_adds, p_addt, p_addl, p_sub, p_muli, p_mull, p_mult, p_fdv, p_mod, p_pow, p_aadd, p_asub, q_lt, q_le, q_gt, q_ge, q_eq, q_ne, q_is, q_isn, q_in, q_nin, a_bl, r_l, r_t, m_l, m_t, sb_t, sb_l, sb_k, sb_s, sb_d, df_int, df_str, df_tup, df_lst, df_ktup, df_dct, df_obj, df_scr, df_bl, df_non, df_ref, bi_len_l, bi_len_t, bi_len_k, bi_len_s, bi_len_x, bi_len_d, bi_int_i, bi_int_b, bi_str, bi_max, bi_min, bi_all, bi_sum, bi_tup_l, bi_tup_t, bi_lst_l, bi_lst_t, bi_dict, pt_lst, pt_dct, pt_obj, pt_f, pt_m, rg_i, sa_t, sa_l, gv_d, ob_o, bt_n, bt_t, bts_n, bts_c, fg_c, at_o, ty_non, ty_bl, ty_int, ty_str, ty_tup, ty_lst, ty_ktup, ty_dct, ty_scr, ty_obj, tys_n, tys_c, ik_bl, ik_int, ik_str, ik_tup, ik_lst, ik_ktup, ik_dct, ik_scr, ik_non, ik_obj, lc_nil, lc_cons, wp_n, wp_c, oi_n, oi_i, sl_t, sl_l, ns_var, ns_peek, ns_con, ns_glo, ns_bop, ns_neg, ns_cmp, ns_chain, ns_and, ns_or, ns_not, ns_ite, ns_tup, ns_lst, ns_lstR, ns_dsp, ns_dnew, ns_sub, ns_slc, ns_rev, ns_attr, ns_prop, ns_call, ns_mk, ns_meth, ns_bi, ns_isi, ns_get, ns_lc, ns_lc2, ns_dc, ns_rng, ns_enu, ns_seq, ex_var, ex_con, ex_glo, ex_bop, ex_neg, ex_cmp, ex_chain, ex_and, ex_or, ex_not, ex_ite, ex_tup, ex_lst, ex_lstR, ex_dsp, ex_dnew, ex_sub, ex_slc, ex_rev, ex_attr, ex_prop, ex_call, ex_mk, ex_meth, ex_bi, ex_isi, ex_get, ex_lc, ex_lc2, ex_dc, ex_rng, ex_enu, ex_seq, ex_peek, es_e, es_v, es_o, fz_s, fz_o, fz_v, fz_e, pl_p, ps_o, ps_c, pu_s, pu_c, pus_o, puc_s, pur_s, pur_c, il_s, il_c, ils_o, ilc_l, sp_l, ss_l, ss_d, sf_o, ft_n, lt_n, isf_var, isf_peek, isf_con, isf_glo, isf_bop, isf_neg, isf_cmp, isf_chain, isf_and, isf_or, isf_not, isf_ite, isf_tup, isf_lst, isf_lstR, isf_dsp, isf_dnew, isf_sub, isf_slc, isf_rev, isf_attr, isf_prop, isf_call, isf_mk, isf_meth, isf_isi, isf_get, isf_lc, isf_lc2, isf_dc, isf_rng, isf_enu, isf_seq, isf_bi_len, isf_bi_int, isf_bi_str, isf_bi_max, isf_bi_min, isf_bi_all, isf_bi_sum, isf_bi_tuple, isf_bi_list, isf_bi_dict, isf_bi_repr, isf_bi_sorted, xh_nil, xh_cons, hk_nx, hk_bk, hk_ct, hk_rt, hn_n, ne_nil, ne_val, ne_own, ne_emp, ax_c, ax_f, List.foldl_cons, List.foldl_nil, List.getElem?_cons_zero, List.getElem?_cons_succ, List.set_cons_zero, List.set_cons_succ, if_true, if_false, ite_true, ite_false, reduceIte, reduceCtorEq, List.length_cons, List.length_nil, List.map_cons, List.map_nil, List.zip_cons_cons, List.zip_nil_left, Option.map_some, Option.map_none, Option.getD_some, Option.getD_none, Option.bind_some, and_true, true_and, and_self, Bool.not_true, Bool.not_false, Bool.or_true, Bool.or_false, Bool.true_or, Bool.false_or, Bool.and_true, Bool.true_and, Bool.and_false, Bool.false_and, decide_true, decide_false, Bool.false_eq_true, e (k + 3) h]
theorem er5' (e : Ek m p o c f v) (k : Nat) (h : AH) : calA Pr (k + 7) 40 [m, p, o, .non, wd] h = .err ⟨c, [(f, v)]⟩ h := by
  rw [u_is_bounded_code]
  unfold B_is_bounded_code
  simp only [w_ok, w_err, w_stk, o_ok, o_err, o_stk, t_nx, t_bk, t_ct, t_rt, t_er, t_stk, opt_s, opt_n, c_ok, c_stk, ce_nx, ce_rt, ce_er, ie_nx, ie_er, v_con, slV_v, slP_v, slP_o, v_var, v_peek, v_glo, v_bop, v_neg, neg_i, v_cmp, v_chain, v_and, v_or, v_not, v_ite, v_tup, v_lst, v_lstR, v_dsp, v_dnew, v_sub, v_slc, v_rev, ak_n, ak_s, v_attr, v_call, v_mk, v_bi, v_isi, v_get, v_lc, l_nil, l_star, l_cons, d_nil, d_cons, i_rng, i_enu, i_seq, s_fz', s_exp', s_asg', s_par', s_aug', s_app', s_ret', s_retN', s_ife', s_whl', s_for', s_brk', s_cnt', s_pass', s_raise', s_try', x_nil, x_cons, st_name, st_sub, st_attr, st_tup, sts_nil, sts_cons, stp_nil, stp_cons, fl_nil, fl_cons, fk_nx, fk_ct, fk_bk, fk_rt, fk_er, tv_nx, tv_rt, tv_er, p_addi, p_adds, p_addt, p_addl, p_sub, p_muli, p_mull, p_mult, p_fdv, p_mod, p_pow, p_aadd, p_asub, q_lt, q_le, q_gt, q_ge, q_eq, q_ne, q_is, q_isn, q_in, q_nin, a_bl, r_l, r_t, m_l, m_t, sb_t, sb_l, sb_k, sb_s, sb_d, df_int, df_str, df_tup, df_lst, df_ktup, df_dct, df_obj, df_scr, df_bl, df_non, df_ref, bi_len_l, bi_len_t, bi_len_k, bi_len_s, bi_len_x, bi_len_d, bi_int_i, bi_int_b, bi_str, bi_max, bi_min, bi_all, bi_sum, bi_tup_l, bi_tup_t, bi_lst_l, bi_lst_t, bi_dict, pt_lst, pt_dct, pt_obj, pt_f, pt_m, rg_i, sa_t, sa_l, gv_d, ob_o, bt_n, bt_t, bts_n, bts_c, fg_c, at_o, ty_non, ty_bl, ty_int, ty_str, ty_tup, ty_lst, ty_ktup, ty_dct, ty_scr, ty_obj, tys_n, tys_c, ik_bl, ik_int, ik_str, ik_tup, ik_lst, ik_ktup, ik_dct, ik_scr, ik_non, ik_obj, lc_nil, lc_cons, wp_n, wp_c, oi_n, oi_i, sl_t, sl_l, ns_var, ns_peek, ns_con, ns_glo, ns_bop, ns_neg, ns_cmp, ns_chain, ns_and, ns_or, ns_not, ns_ite, ns_tup, ns_lst, ns_lstR, ns_dsp, ns_dnew, ns_sub, ns_slc, ns_rev, ns_attr, ns_prop, ns_call, ns_mk, ns_meth, ns_bi, ns_isi, ns_get, ns_lc, ns_lc2, ns_dc, ns_rng, ns_enu, ns_seq, ex_var, ex_con, ex_glo, ex_bop, ex_neg, ex_cmp, ex_chain, ex_and, ex_or, ex_not, ex_ite, ex_tup, ex_lst, ex_lstR, ex_dsp, ex_dnew, ex_sub, ex_slc, ex_rev, ex_attr, ex_prop, ex_call, ex_mk, ex_meth, ex_bi, ex_isi, ex_get, ex_lc, ex_lc2, ex_dc, ex_rng, ex_enu, ex_seq, ex_peek, es_e, es_v, es_o, fz_s, fz_o, fz_v, fz_e, pl_p, ps_o, ps_c, pu_s, pu_c, pus_o, puc_s, pur_s, pur_c, il_s, il_c, ils_o, ilc_l, sp_l, ss_l, ss_d, sf_o, ft_n, lt_n, isf_var, isf_peek, isf_con, isf_glo, isf_bop, isf_neg, isf_cmp, isf_chain, isf_and, isf_or, isf_not, isf_ite, isf_tup, isf_lst, isf_lstR, isf_dsp, isf_dnew, isf_sub, isf_slc, isf_rev, isf_attr, isf_prop, isf_call, isf_mk, isf_meth, isf_isi, isf_get, isf_lc, isf_lc2, isf_dc, isf_rng, isf_enu, isf_seq, isf_bi_len, isf_bi_int, isf_bi_str, isf_bi_max, isf_bi_min, isf_bi_all, isf_bi_sum, isf_bi_tuple, isf_bi_list, isf_bi_dict, isf_bi_repr, isf_bi_sorted, xh_nil, xh_cons, hk_nx, hk_bk, hk_ct, hk_rt, hn_n, ne_nil, ne_val, ne_own, ne_emp, ax_c, ax_f, List.foldl_cons, List.foldl_nil, List.getElem?_cons_zero, List.getElem?_cons_succ, List.set_cons_zero, List.set_cons_succ, if_true, if_false, ite_true, ite_false, reduceIte, reduceCtorEq, List.length_cons, List.length_nil, List.map_cons, List.map_nil, List.zip_cons_cons, List.zip_nil_left, Option.map_some, Option.map_none, Option.getD_some, Option.getD_none, Option.bind_some, and_true, true_and, and_self, Bool.not_true, Bool.not_false, Bool.or_true, Bool.or_false, Bool.true_or, Bool.false_or, Bool.and_true, Bool.true_and, Bool.and_false, Bool.false_and, decide_true, decide_false, Bool.false_eq_true, e k h]
theorem er5 (e : Ek m p o c f v) : Er 40 [m, p, o, .non, wd] c f v := fun k h => er5' e (k + 3) h
theorem er4 (e : ∀ (k : Nat) (h : AH), calA Pr (k + 7) 40 [m, p, o, .non, wd] h = .err ⟨c, [(f, v)]⟩ h) : Er 41 [m, p, o, .non, wd] c f v := fun k h => by
  rw [u_read_bounded]
  unfold B_read_bounded
  simp only [w_ok, w_err, w_stk, o_ok, o_err, o_stk, t_nx, t_bk, t_ct, t_rt, t_er, t_stk, opt_s, opt_n, c_ok, c_stk, ce_nx, ce_rt, ce_er, ie_nx, ie_er, v_con, slV_v, slP_v, slP_o, v_var, v_peek, v_glo, v_bop, v_neg, neg_i, v_cmp, v_chain, v_and, v_or, v_not, v_ite, v_tup, v_lst, v_lstR, v_dsp, v_dnew, v_sub, v_slc, v_rev, ak_n, ak_s, v_attr, v_call, v_mk, v_bi, v_isi, v_get, v_lc, l_nil, l_star, l_cons, d_nil, d_cons, i_rng, i_enu, i_seq, s_fz', s_exp', s_asg', s_par', s_aug', s_app', s_ret', s_retN', s_ife', s_whl', s_for', s_brk', s_cnt', s_pass', s_raise', s_try', x_nil, x_cons, st_name, st_sub, st_attr, st_tup, sts_nil, sts_cons, stp_nil, stp_cons, fl_nil, fl_cons, fk_nx, fk_ct, fk_bk, fk_rt, fk_er, tv_nx, tv_rt, tv_er, p_addi, p_adds, p_addt, p_addl, p_sub, p_muli, p_mull, p_mult, p_fdv, p_mod, p_pow, p_aadd, p_asub, q_lt, q_le, q_gt, q_ge, q_eq, q_ne, q_is, q_isn, q_in, q_nin, a_bl, r_l, r_t, m_l, m_t, sb_t, sb_l, sb_k, sb_s, sb_d, df_int, df_str, df_tup, df_lst, df_ktup, df_dct, df_obj, df_scr, df_bl, df_non, df_ref, bi_len_l, bi_len_t, bi_len_k, bi_len_s, bi_len_x, bi_len_d, bi_int_i, bi_int_b, bi_str, bi_max, bi_min, bi_all, bi_sum, bi_tup_l, bi_tup_t, bi_lst_l, bi_lst_t, bi_dict, pt_lst, pt_dct, pt_obj, pt_f, pt_m, rg_i, sa_t, sa_l, gv_d, ob_o, bt_n, bt_t, bts_n, bts_c, fg_c, at_o, ty_non, ty_bl, ty_int, ty_str, ty_tup, ty_lst, ty_ktup, ty_dct, ty_scr, ty_obj, tys_n, tys_c, ik_bl, ik_int, ik_str, ik_tup, ik_lst, ik_ktup, ik_dct, ik_scr, ik_non, ik_obj, lc_nil, lc_cons, wp_n, wp_c, oi_n, oi_i, sl_t, sl_l, ns_var, ns_peek, ns_con, ns_glo, ns_bop, ns_neg, ns_cmp, ns_chain, ns_and, ns_or, ns_not, ns_ite, ns_tup, ns_lst, ns_lstR, ns_dsp, ns_dnew, ns_sub, ns_slc, ns_rev, ns_attr, ns_prop, ns_call, ns_mk, ns_meth, ns_bi, ns_isi, ns_get, ns_lc, ns_lc2, ns_dc, ns_rng, ns_enu, ns_seq, ex_var, ex_con, ex_glo, ex_bop, ex_neg, ex_cmp, ex_chain, ex_and, ex_or, ex_not, ex_ite, ex_tup, ex_lst, ex_lstR, ex_dsp, ex_dnew, ex_sub, ex_slc, ex_rev, ex_attr, ex_prop, ex_call, ex_mk, ex_meth, ex_bi, ex_isi, ex_get, ex_lc, ex_lc2, ex_dc, ex_rng, ex_enu, ex_seq, ex_peek, es_e, es_v, es_o, fz_s, fz_o, fz_v, fz_e, pl_p, ps_o, ps_c, pu_s, pu_c, pus_o, puc_s, pur_s, pur_c, il_s, il_c, ils_o, ilc_l, sp_l, ss_l, ss_d, sf_o, ft_n, lt_n, isf_var, isf_peek, isf_con, isf_glo, isf_bop, isf_neg, isf_cmp, isf_chain, isf_and, isf_or, isf_not, isf_ite, isf_tup, isf_lst, isf_lstR, isf_dsp, isf_dnew, isf_sub, isf_slc, isf_rev, isf_attr, isf_prop, isf_call, isf_mk, isf_meth, isf_isi, isf_get, isf_lc, isf_lc2, isf_dc, isf_rng, isf_enu, isf_seq, isf_bi_len, isf_bi_int, isf_bi_str, isf_bi_max, isf_bi_min, isf_bi_all, isf_bi_sum, isf_bi_tuple, isf_bi_list, isf_bi_dict, isf_bi_repr, isf_bi_sorted, xh_nil, xh_cons, hk_nx, hk_bk, hk_ct, hk_rt, hn_n, ne_nil, ne_val, ne_own, ne_emp, ax_c, ax_f, List.foldl_cons, List.foldl_nil, List.getElem?_cons_zero, List.getElem?_cons_succ, List.set_cons_zero, List.set_cons_succ, if_true, if_false, ite_true, ite_false, reduceIte, reduceCtorEq, List.length_cons, List.length_nil, List.map_cons, List.map_nil, List.zip_cons_cons, List.zip_nil_left, Option.map_some, Option.map_none, Option.getD_some, Option.getD_none, Option.bind_some, and_true, true_and, and_self, Bool.not_true, Bool.not_false, Bool.or_true, Bool.or_false, Bool.true_or, Bool.false_or, Bool.and_true, Bool.true_and, Bool.and_false, Bool.false_and, decide_true, decide_false, Bool.false_eq_true, e (k + 2) h]
end
section
variable {bs : List Int} {kd sh o wd : AV} {c f : Nat} {v : AV}
/-- the right model, the right past -/
abbrev Mo (bs : List Int) (kd sh : AV) : AV := modelV bs.length kd sh
abbrev Pa (bs : List Int) : AV := .tup (bs.map .int)
theorem ec_bits (hb : ∀ x ∈ bs, x = 0 ∨ x = 1) (hs : bs.length ≤ 1000) (ho : BadB o) : Ec (Mo bs kd sh) (Pa bs) o 3 10 o := fun k h => by
  rw [u_check_coded]
  unfold B_check_coded
  simp only [w_ok, w_err, w_stk, o_ok, o_err, o_stk, t_nx, t_bk, t_ct, t_rt, t_er, t_stk, opt_s, opt_n, c_ok, c_stk, ce_nx, ce_rt, ce_er, ie_nx, ie_er, v_con, slV_v, slP_v, slP_o, v_var, v_peek, v_glo, v_bop, v_neg, neg_i, v_cmp, v_chain, v_and, v_or, v_not, v_ite, v_tup, v_lst, v_lstR, v_dsp, v_dnew, v_sub, v_slc, v_rev, ak_n, ak_s, v_attr, v_call, v_mk, v_bi, v_isi, v_get, v_lc, l_nil, l_star, l_cons, d_nil, d_cons, i_rng, i_enu, i_seq, s_fz', s_exp', s_asg', s_par', s_aug', s_app', s_ret', s_retN', s_ife', s_whl', s_for', s_brk', s_cnt', s_pass', s_raise', s_try', x_nil, x_cons, st_name, st_sub, st_attr, st_tup, sts_nil, sts_cons, stp_nil, stp_cons, fl_nil, fl_cons, fk_nx, fk_ct, fk_bk, fk_rt, fk_er, tv_nx, tv_rt, tv_er, p_addi, p_adds, p_addt, p_addl, p_sub, p_muli, p_mull, p_mult, p_fdv, p_mod, p_pow, p_aadd, p_asub, q_lt, q_le, q_gt, q_ge, q_eq, q_ne, q_is, q_isn, q_in, q_nin, a_bl, r_l, r_t, m_l, m_t, sb_t, sb_l, sb_k, sb_s, sb_d, df_int, df_str, df_tup, df_lst, df_ktup, df_dct, df_obj, df_scr, df_bl, df_non, df_ref, bi_len_l, bi_len_t, bi_len_k, bi_len_s, bi_len_x, bi_len_d, bi_int_i, bi_int_b, bi_str, bi_max, bi_min, bi_all, bi_sum, bi_tup_l, bi_tup_t, bi_lst_l, bi_lst_t, bi_dict, pt_lst, pt_dct, pt_obj, pt_f, pt_m, rg_i, sa_t, sa_l, gv_d, ob_o, bt_n, bt_t, bts_n, bts_c, fg_c, at_o, ty_non, ty_bl, ty_int, ty_str, ty_tup, ty_lst, ty_ktup, ty_dct, ty_scr, ty_obj, tys_n, tys_c, ik_bl, ik_int, ik_str, ik_tup, ik_lst, ik_ktup, ik_dct, ik_scr, ik_non, ik_obj, lc_nil, lc_cons, wp_n, wp_c, oi_n, oi_i, sl_t, sl_l, ns_var, ns_peek, ns_con, ns_glo, ns_bop, ns_neg, ns_cmp, ns_chain, ns_and, ns_or, ns_not, ns_ite, ns_tup, ns_lst, ns_lstR, ns_dsp, ns_dnew, ns_sub, ns_slc, ns_rev, ns_attr, ns_prop, ns_call, ns_mk, ns_meth, ns_bi, ns_isi, ns_get, ns_lc, ns_lc2, ns_dc, ns_rng, ns_enu, ns_seq, ex_var, ex_con, ex_glo, ex_bop, ex_neg, ex_cmp, ex_chain, ex_and, ex_or, ex_not, ex_ite, ex_tup, ex_lst, ex_lstR, ex_dsp, ex_dnew, ex_sub, ex_slc, ex_rev, ex_attr, ex_prop, ex_call, ex_mk, ex_meth, ex_bi, ex_isi, ex_get, ex_lc, ex_lc2, ex_dc, ex_rng, ex_enu, ex_seq, ex_peek, es_e, es_v, es_o, fz_s, fz_o, fz_v, fz_e, pl_p, ps_o, ps_c, pu_s, pu_c, pus_o, puc_s, pur_s, pur_c, il_s, il_c, ils_o, ilc_l, sp_l, ss_l, ss_d, sf_o, ft_n, lt_n, isf_var, isf_peek, isf_con, isf_glo, isf_bop, isf_neg, isf_cmp, isf_chain, isf_and, isf_or, isf_not, isf_ite, isf_tup, isf_lst, isf_lstR, isf_dsp, isf_dnew, isf_sub, isf_slc, isf_rev, isf_attr, isf_prop, isf_call, isf_mk, isf_meth, isf_isi, isf_get, isf_lc, isf_lc2, isf_dc, isf_rng, isf_enu, isf_seq, isf_bi_len, isf_bi_int, isf_bi_str, isf_bi_max, isf_bi_min, isf_bi_all, isf_bi_sum, isf_bi_tuple, isf_bi_list, isf_bi_dict, isf_bi_repr, isf_bi_sorted, xh_nil, xh_cons, hk_nx, hk_bk, hk_ct, hk_rt, hn_n, ne_nil, ne_val, ne_own, ne_emp, ax_c, ax_f, List.foldl_cons, List.foldl_nil, List.getElem?_cons_zero, List.getElem?_cons_succ, List.set_cons_zero, List.set_cons_succ, if_true, if_false, ite_true, ite_false, reduceIte, reduceCtorEq, List.length_cons, List.length_nil, List.map_cons, List.map_nil, List.zip_cons_cons, List.zip_nil_left, Option.map_some, Option.map_none, Option.getD_some, Option.getD_none, Option.bind_some, and_true, true_and, and_self, Bool.not_true, Bool.not_false, Bool.or_true, Bool.or_false, Bool.true_or, Bool.false_or, Bool.and_true, Bool.true_and, Bool.and_false, Bool.false_and, decide_true, decide_false, Bool.false_eq_true, cm_ok (k + 4) h, m_depth Pr h ncl2, cp_ok (k + 1) h hb hs, ho (k + 1) h]
/-- a good text -/
def OkB (o : AV) : Prop := ∀ (k : Nat) (h : AH), calA Pr (k + 4) 13 [o] h = .ok .non h
theorem cc_ok (k : Nat) (h : AH) (hb : ∀ x ∈ bs, x = 0 ∨ x = 1) (hs : bs.length ≤ 1000) (ho : OkB o) : calA Pr (k + 6) 25 [Mo bs kd sh, Pa bs, o] h = .ok .non h := by
  rw [u_check_coded]
  unfold B_check_coded
  simp only [w_ok, w_err, w_stk, o_ok, o_err, o_stk, t_nx, t_bk, t_ct, t_rt, t_er, t_stk, opt_s, opt_n, c_ok, c_stk, ce_nx, ce_rt, ce_er, ie_nx, ie_er, v_con, slV_v, slP_v, slP_o, v_var, v_peek, v_glo, v_bop, v_neg, neg_i, v_cmp, v_chain, v_and, v_or, v_not, v_ite, v_tup, v_lst, v_lstR, v_dsp, v_dnew, v_sub, v_slc, v_rev, ak_n, ak_s, v_attr, v_call, v_mk, v_bi, v_isi, v_get, v_lc, l_nil, l_star, l_cons, d_nil, d_cons, i_rng, i_enu, i_seq, s_fz', s_exp', s_asg', s_par', s_aug', s_app', s_ret', s_retN', s_ife', s_whl', s_for', s_brk', s_cnt', s_pass', s_raise', s_try', x_nil, x_cons, st_name, st_sub, st_attr, st_tup, sts_nil, sts_cons, stp_nil, stp_cons, fl_nil, fl_cons, fk_nx, fk_ct, fk_bk, fk_rt, fk_er, tv_nx, tv_rt, tv_er, p_addi, p_adds, p_addt, p_addl, p_sub, p_muli, p_mull, p_mult, p_fdv, p_mod, p_pow, p_aadd, p_asub, q_lt, q_le, q_gt, q_ge, q_eq, q_ne, q_is, q_isn, q_in, q_nin, a_bl, r_l, r_t, m_l, m_t, sb_t, sb_l, sb_k, sb_s, sb_d, df_int, df_str, df_tup, df_lst, df_ktup, df_dct, df_obj, df_scr, df_bl, df_non, df_ref, bi_len_l, bi_len_t, bi_len_k, bi_len_s, bi_len_x, bi_len_d, bi_int_i, bi_int_b, bi_str, bi_max, bi_min, bi_all, bi_sum, bi_tup_l, bi_tup_t, bi_lst_l, bi_lst_t, bi_dict, pt_lst, pt_dct, pt_obj, pt_f, pt_m, rg_i, sa_t, sa_l, gv_d, ob_o, bt_n, bt_t, bts_n, bts_c, fg_c, at_o, ty_non, ty_bl, ty_int, ty_str, ty_tup, ty_lst, ty_ktup, ty_dct, ty_scr, ty_obj, tys_n, tys_c, ik_bl, ik_int, ik_str, ik_tup, ik_lst, ik_ktup, ik_dct, ik_scr, ik_non, ik_obj, lc_nil, lc_cons, wp_n, wp_c, oi_n, oi_i, sl_t, sl_l, ns_var, ns_peek, ns_con, ns_glo, ns_bop, ns_neg, ns_cmp, ns_chain, ns_and, ns_or, ns_not, ns_ite, ns_tup, ns_lst, ns_lstR, ns_dsp, ns_dnew, ns_sub, ns_slc, ns_rev, ns_attr, ns_prop, ns_call, ns_mk, ns_meth, ns_bi, ns_isi, ns_get, ns_lc, ns_lc2, ns_dc, ns_rng, ns_enu, ns_seq, ex_var, ex_con, ex_glo, ex_bop, ex_neg, ex_cmp, ex_chain, ex_and, ex_or, ex_not, ex_ite, ex_tup, ex_lst, ex_lstR, ex_dsp, ex_dnew, ex_sub, ex_slc, ex_rev, ex_attr, ex_prop, ex_call, ex_mk, ex_meth, ex_bi, ex_isi, ex_get, ex_lc, ex_lc2, ex_dc, ex_rng, ex_enu, ex_seq, ex_peek, es_e, es_v, es_o, fz_s, fz_o, fz_v, fz_e, pl_p, ps_o, ps_c, pu_s, pu_c, pus_o, puc_s, pur_s, pur_c, il_s, il_c, ils_o, ilc_l, sp_l, ss_l, ss_d, sf_o, ft_n, lt_n, isf_var, isf_peek, isf_con, isf_glo, isf_bop, isf_neg, isf_cmp, isf_chain, isf_and, isf_or, isf_not, isf_ite, isf_tup, isf_lst, isf_lstR, isf_dsp, isf_dnew, isf_sub, isf_slc, isf_rev, isf_attr, isf_prop, isf_call, isf_mk, isf_meth, isf_isi, isf_get, isf_lc, isf_lc2, isf_dc, isf_rng, isf_enu, isf_seq, isf_bi_len, isf_bi_int, isf_bi_str, isf_bi_max, isf_bi_min, isf_bi_all, isf_bi_sum, isf_bi_tuple, isf_bi_list, isf_bi_dict, isf_bi_repr, isf_bi_sorted, xh_nil, xh_cons, hk_nx, hk_bk, hk_ct, hk_rt, hn_n, ne_nil, ne_val, ne_own, ne_emp, ax_c, ax_f, List.foldl_cons, List.foldl_nil, List.getElem?_cons_zero, List.getElem?_cons_succ, List.set_cons_zero, List.set_cons_succ, if_true, if_false, ite_true, ite_false, reduceIte, reduceCtorEq, List.length_cons, List.length_nil, List.map_cons, List.map_nil, List.zip_cons_cons, List.zip_nil_left, Option.map_some, Option.map_none, Option.getD_some, Option.getD_none, Option.bind_some, and_true, true_and, and_self, Bool.not_true, Bool.not_false, Bool.or_true, Bool.or_false, Bool.true_or, Bool.false_or, Bool.and_true, Bool.true_and, Bool.and_false, Bool.false_and, decide_true, decide_false, Bool.false_eq_true, cm_ok (k + 4) h, m_depth Pr h ncl2, cp_ok (k + 1) h hb hs, ho (k + 1) h]
/-- no count up to 200 -/
def NoC (l m : Int) (o : AV) : Prop := ∀ (k : Nat) (h : AH), calA Pr (k + 1) 0 [o, .int l, .int m] h = .ok (.bl false) h
theorem cons_bits : Pr.cons[3]? = some (.int 200) := by rfl
theorem cons_lw : Pr.cons[6]? = some (.int 8) := by rfl
theorem cons_mw : Pr.cons[7]? = some (.int 64) := by rfl
theorem ek_count (hb : ∀ x ∈ bs, x = 0 ∨ x = 1) (hs : bs.length ≤ 1000) (ho : NoC 0 200 o) : Ek (Mo bs kd sh) (Pa bs) o 8 11 o := fun k h => by
  rw [u_check_read]
  unfold B_check_read
  simp only [w_ok, w_err, w_stk, o_ok, o_err, o_stk, t_nx, t_bk, t_ct, t_rt, t_er, t_stk, opt_s, opt_n, c_ok, c_stk, ce_nx, ce_rt, ce_er, ie_nx, ie_er, v_con, slV_v, slP_v, slP_o, v_var, v_peek, v_glo, v_bop, v_neg, neg_i, v_cmp, v_chain, v_and, v_or, v_not, v_ite, v_tup, v_lst, v_lstR, v_dsp, v_dnew, v_sub, v_slc, v_rev, ak_n, ak_s, v_attr, v_call, v_mk, v_bi, v_isi, v_get, v_lc, l_nil, l_star, l_cons, d_nil, d_cons, i_rng, i_enu, i_seq, s_fz', s_exp', s_asg', s_par', s_aug', s_app', s_ret', s_retN', s_ife', s_whl', s_for', s_brk', s_cnt', s_pass', s_raise', s_try', x_nil, x_cons, st_name, st_sub, st_attr, st_tup, sts_nil, sts_cons, stp_nil, stp_cons, fl_nil, fl_cons, fk_nx, fk_ct, fk_bk, fk_rt, fk_er, tv_nx, tv_rt, tv_er, p_addi, p_adds, p_addt, p_addl, p_sub, p_muli, p_mull, p_mult, p_fdv, p_mod, p_pow, p_aadd, p_asub, q_lt, q_le, q_gt, q_ge, q_eq, q_ne, q_is, q_isn, q_in, q_nin, a_bl, r_l, r_t, m_l, m_t, sb_t, sb_l, sb_k, sb_s, sb_d, df_int, df_str, df_tup, df_lst, df_ktup, df_dct, df_obj, df_scr, df_bl, df_non, df_ref, bi_len_l, bi_len_t, bi_len_k, bi_len_s, bi_len_x, bi_len_d, bi_int_i, bi_int_b, bi_str, bi_max, bi_min, bi_all, bi_sum, bi_tup_l, bi_tup_t, bi_lst_l, bi_lst_t, bi_dict, pt_lst, pt_dct, pt_obj, pt_f, pt_m, rg_i, sa_t, sa_l, gv_d, ob_o, bt_n, bt_t, bts_n, bts_c, fg_c, at_o, ty_non, ty_bl, ty_int, ty_str, ty_tup, ty_lst, ty_ktup, ty_dct, ty_scr, ty_obj, tys_n, tys_c, ik_bl, ik_int, ik_str, ik_tup, ik_lst, ik_ktup, ik_dct, ik_scr, ik_non, ik_obj, lc_nil, lc_cons, wp_n, wp_c, oi_n, oi_i, sl_t, sl_l, ns_var, ns_peek, ns_con, ns_glo, ns_bop, ns_neg, ns_cmp, ns_chain, ns_and, ns_or, ns_not, ns_ite, ns_tup, ns_lst, ns_lstR, ns_dsp, ns_dnew, ns_sub, ns_slc, ns_rev, ns_attr, ns_prop, ns_call, ns_mk, ns_meth, ns_bi, ns_isi, ns_get, ns_lc, ns_lc2, ns_dc, ns_rng, ns_enu, ns_seq, ex_var, ex_con, ex_glo, ex_bop, ex_neg, ex_cmp, ex_chain, ex_and, ex_or, ex_not, ex_ite, ex_tup, ex_lst, ex_lstR, ex_dsp, ex_dnew, ex_sub, ex_slc, ex_rev, ex_attr, ex_prop, ex_call, ex_mk, ex_meth, ex_bi, ex_isi, ex_get, ex_lc, ex_lc2, ex_dc, ex_rng, ex_enu, ex_seq, ex_peek, es_e, es_v, es_o, fz_s, fz_o, fz_v, fz_e, pl_p, ps_o, ps_c, pu_s, pu_c, pus_o, puc_s, pur_s, pur_c, il_s, il_c, ils_o, ilc_l, sp_l, ss_l, ss_d, sf_o, ft_n, lt_n, isf_var, isf_peek, isf_con, isf_glo, isf_bop, isf_neg, isf_cmp, isf_chain, isf_and, isf_or, isf_not, isf_ite, isf_tup, isf_lst, isf_lstR, isf_dsp, isf_dnew, isf_sub, isf_slc, isf_rev, isf_attr, isf_prop, isf_call, isf_mk, isf_meth, isf_isi, isf_get, isf_lc, isf_lc2, isf_dc, isf_rng, isf_enu, isf_seq, isf_bi_len, isf_bi_int, isf_bi_str, isf_bi_max, isf_bi_min, isf_bi_all, isf_bi_sum, isf_bi_tuple, isf_bi_list, isf_bi_dict, isf_bi_repr, isf_bi_sorted, xh_nil, xh_cons, hk_nx, hk_bk, hk_ct, hk_rt, hn_n, ne_nil, ne_val, ne_own, ne_emp, ax_c, ax_f, List.foldl_cons, List.foldl_nil, List.getElem?_cons_zero, List.getElem?_cons_succ, List.set_cons_zero, List.set_cons_succ, if_true, if_false, ite_true, ite_false, reduceIte, reduceCtorEq, List.length_cons, List.length_nil, List.map_cons, List.map_nil, List.zip_cons_cons, List.zip_nil_left, Option.map_some, Option.map_none, Option.getD_some, Option.getD_none, Option.bind_some, and_true, true_and, and_self, Bool.not_true, Bool.not_false, Bool.or_true, Bool.or_false, Bool.true_or, Bool.false_or, Bool.and_true, Bool.true_and, Bool.and_false, Bool.false_and, decide_true, decide_false, Bool.false_eq_true, cm_ok (k + 4) h, m_depth Pr h ncl2, cp_ok (k + 1) h hb hs, cons_bits, ho (k + 4) h]
theorem ck_ok (k : Nat) (h : AH) (hb : ∀ x ∈ bs, x = 0 ∨ x = 1) (hs : bs.length ≤ 1000) {i : Int} (h0 : 0 ≤ i) (h1 : i ≤ 200) : calA Pr (k + 6) 30 [Mo bs kd sh, Pa bs, .int i] h = .ok .non h := by
  rw [u_check_read]
  unfold B_check_read
  simp only [w_ok, w_err, w_stk, o_ok, o_err, o_stk, t_nx, t_bk, t_ct, t_rt, t_er, t_stk, opt_s, opt_n, c_ok, c_stk, ce_nx, ce_rt, ce_er, ie_nx, ie_er, v_con, slV_v, slP_v, slP_o, v_var, v_peek, v_glo, v_bop, v_neg, neg_i, v_cmp, v_chain, v_and, v_or, v_not, v_ite, v_tup, v_lst, v_lstR, v_dsp, v_dnew, v_sub, v_slc, v_rev, ak_n, ak_s, v_attr, v_call, v_mk, v_bi, v_isi, v_get, v_lc, l_nil, l_star, l_cons, d_nil, d_cons, i_rng, i_enu, i_seq, s_fz', s_exp', s_asg', s_par', s_aug', s_app', s_ret', s_retN', s_ife', s_whl', s_for', s_brk', s_cnt', s_pass', s_raise', s_try', x_nil, x_cons, st_name, st_sub, st_attr, st_tup, sts_nil, sts_cons, stp_nil, stp_cons, fl_nil, fl_cons, fk_nx, fk_ct, fk_bk, fk_rt, fk_er, tv_nx, tv_rt, tv_er, p_addi, p_adds, p_addt, p_addl, p_sub, p_muli, p_mull, p_mult, p_fdv, p_mod, p_pow, p_aadd, p_asub, q_lt, q_le, q_gt, q_ge, q_eq, q_ne, q_is, q_isn, q_in, q_nin, a_bl, r_l, r_t, m_l, m_t, sb_t, sb_l, sb_k, sb_s, sb_d, df_int, df_str, df_tup, df_lst, df_ktup, df_dct, df_obj, df_scr, df_bl, df_non, df_ref, bi_len_l, bi_len_t, bi_len_k, bi_len_s, bi_len_x, bi_len_d, bi_int_i, bi_int_b, bi_str, bi_max, bi_min, bi_all, bi_sum, bi_tup_l, bi_tup_t, bi_lst_l, bi_lst_t, bi_dict, pt_lst, pt_dct, pt_obj, pt_f, pt_m, rg_i, sa_t, sa_l, gv_d, ob_o, bt_n, bt_t, bts_n, bts_c, fg_c, at_o, ty_non, ty_bl, ty_int, ty_str, ty_tup, ty_lst, ty_ktup, ty_dct, ty_scr, ty_obj, tys_n, tys_c, ik_bl, ik_int, ik_str, ik_tup, ik_lst, ik_ktup, ik_dct, ik_scr, ik_non, ik_obj, lc_nil, lc_cons, wp_n, wp_c, oi_n, oi_i, sl_t, sl_l, ns_var, ns_peek, ns_con, ns_glo, ns_bop, ns_neg, ns_cmp, ns_chain, ns_and, ns_or, ns_not, ns_ite, ns_tup, ns_lst, ns_lstR, ns_dsp, ns_dnew, ns_sub, ns_slc, ns_rev, ns_attr, ns_prop, ns_call, ns_mk, ns_meth, ns_bi, ns_isi, ns_get, ns_lc, ns_lc2, ns_dc, ns_rng, ns_enu, ns_seq, ex_var, ex_con, ex_glo, ex_bop, ex_neg, ex_cmp, ex_chain, ex_and, ex_or, ex_not, ex_ite, ex_tup, ex_lst, ex_lstR, ex_dsp, ex_dnew, ex_sub, ex_slc, ex_rev, ex_attr, ex_prop, ex_call, ex_mk, ex_meth, ex_bi, ex_isi, ex_get, ex_lc, ex_lc2, ex_dc, ex_rng, ex_enu, ex_seq, ex_peek, es_e, es_v, es_o, fz_s, fz_o, fz_v, fz_e, pl_p, ps_o, ps_c, pu_s, pu_c, pus_o, puc_s, pur_s, pur_c, il_s, il_c, ils_o, ilc_l, sp_l, ss_l, ss_d, sf_o, ft_n, lt_n, isf_var, isf_peek, isf_con, isf_glo, isf_bop, isf_neg, isf_cmp, isf_chain, isf_and, isf_or, isf_not, isf_ite, isf_tup, isf_lst, isf_lstR, isf_dsp, isf_dnew, isf_sub, isf_slc, isf_rev, isf_attr, isf_prop, isf_call, isf_mk, isf_meth, isf_isi, isf_get, isf_lc, isf_lc2, isf_dc, isf_rng, isf_enu, isf_seq, isf_bi_len, isf_bi_int, isf_bi_str, isf_bi_max, isf_bi_min, isf_bi_all, isf_bi_sum, isf_bi_tuple, isf_bi_list, isf_bi_dict, isf_bi_repr, isf_bi_sorted, xh_nil, xh_cons, hk_nx, hk_bk, hk_ct, hk_rt, hn_n, ne_nil, ne_val, ne_own, ne_emp, ax_c, ax_f, List.foldl_cons, List.foldl_nil, List.getElem?_cons_zero, List.getElem?_cons_succ, List.set_cons_zero, List.set_cons_succ, if_true, if_false, ite_true, ite_false, reduceIte, reduceCtorEq, List.length_cons, List.length_nil, List.map_cons, List.map_nil, List.zip_cons_cons, List.zip_nil_left, Option.map_some, Option.map_none, Option.getD_some, Option.getD_none, Option.bind_some, and_true, true_and, and_self, Bool.not_true, Bool.not_false, Bool.or_true, Bool.or_false, Bool.true_or, Bool.false_or, Bool.and_true, Bool.true_and, Bool.and_false, Bool.false_and, decide_true, decide_false, Bool.false_eq_true, cm_ok (k + 4) h, m_depth Pr h ncl2, cp_ok (k + 1) h hb hs, cons_bits, count_ok (k + 4) h h0 h1]
theorem cw_bad (k : Nat) (h : AH) (ho : NoC 8 64 o) : calA Pr (k + 2) 32 [o] h = .err ⟨8, [(11, o)]⟩ h := by
  rw [u_check_width]
  unfold B_check_width
  simp only [w_ok, w_err, w_stk, o_ok, o_err, o_stk, t_nx, t_bk, t_ct, t_rt, t_er, t_stk, opt_s, opt_n, c_ok, c_stk, ce_nx, ce_rt, ce_er, ie_nx, ie_er, v_con, slV_v, slP_v, slP_o, v_var, v_peek, v_glo, v_bop, v_neg, neg_i, v_cmp, v_chain, v_and, v_or, v_not, v_ite, v_tup, v_lst, v_lstR, v_dsp, v_dnew, v_sub, v_slc, v_rev, ak_n, ak_s, v_attr, v_call, v_mk, v_bi, v_isi, v_get, v_lc, l_nil, l_star, l_cons, d_nil, d_cons, i_rng, i_enu, i_seq, s_fz', s_exp', s_asg', s_par', s_aug', s_app', s_ret', s_retN', s_ife', s_whl', s_for', s_brk', s_cnt', s_pass', s_raise', s_try', x_nil, x_cons, st_name, st_sub, st_attr, st_tup, sts_nil, sts_cons, stp_nil, stp_cons, fl_nil, fl_cons, fk_nx, fk_ct, fk_bk, fk_rt, fk_er, tv_nx, tv_rt, tv_er, p_addi, p_adds, p_addt, p_addl, p_sub, p_muli, p_mull, p_mult, p_fdv, p_mod, p_pow, p_aadd, p_asub, q_lt, q_le, q_gt, q_ge, q_eq, q_ne, q_is, q_isn, q_in, q_nin, a_bl, r_l, r_t, m_l, m_t, sb_t, sb_l, sb_k, sb_s, sb_d, df_int, df_str, df_tup, df_lst, df_ktup, df_dct, df_obj, df_scr, df_bl, df_non, df_ref, bi_len_l, bi_len_t, bi_len_k, bi_len_s, bi_len_x, bi_len_d, bi_int_i, bi_int_b, bi_str, bi_max, bi_min, bi_all, bi_sum, bi_tup_l, bi_tup_t, bi_lst_l, bi_lst_t, bi_dict, pt_lst, pt_dct, pt_obj, pt_f, pt_m, rg_i, sa_t, sa_l, gv_d, ob_o, bt_n, bt_t, bts_n, bts_c, fg_c, at_o, ty_non, ty_bl, ty_int, ty_str, ty_tup, ty_lst, ty_ktup, ty_dct, ty_scr, ty_obj, tys_n, tys_c, ik_bl, ik_int, ik_str, ik_tup, ik_lst, ik_ktup, ik_dct, ik_scr, ik_non, ik_obj, lc_nil, lc_cons, wp_n, wp_c, oi_n, oi_i, sl_t, sl_l, ns_var, ns_peek, ns_con, ns_glo, ns_bop, ns_neg, ns_cmp, ns_chain, ns_and, ns_or, ns_not, ns_ite, ns_tup, ns_lst, ns_lstR, ns_dsp, ns_dnew, ns_sub, ns_slc, ns_rev, ns_attr, ns_prop, ns_call, ns_mk, ns_meth, ns_bi, ns_isi, ns_get, ns_lc, ns_lc2, ns_dc, ns_rng, ns_enu, ns_seq, ex_var, ex_con, ex_glo, ex_bop, ex_neg, ex_cmp, ex_chain, ex_and, ex_or, ex_not, ex_ite, ex_tup, ex_lst, ex_lstR, ex_dsp, ex_dnew, ex_sub, ex_slc, ex_rev, ex_attr, ex_prop, ex_call, ex_mk, ex_meth, ex_bi, ex_isi, ex_get, ex_lc, ex_lc2, ex_dc, ex_rng, ex_enu, ex_seq, ex_peek, es_e, es_v, es_o, fz_s, fz_o, fz_v, fz_e, pl_p, ps_o, ps_c, pu_s, pu_c, pus_o, puc_s, pur_s, pur_c, il_s, il_c, ils_o, ilc_l, sp_l, ss_l, ss_d, sf_o, ft_n, lt_n, isf_var, isf_peek, isf_con, isf_glo, isf_bop, isf_neg, isf_cmp, isf_chain, isf_and, isf_or, isf_not, isf_ite, isf_tup, isf_lst, isf_lstR, isf_dsp, isf_dnew, isf_sub, isf_slc, isf_rev, isf_attr, isf_prop, isf_call, isf_mk, isf_meth, isf_isi, isf_get, isf_lc, isf_lc2, isf_dc, isf_rng, isf_enu, isf_seq, isf_bi_len, isf_bi_int, isf_bi_str, isf_bi_max, isf_bi_min, isf_bi_all, isf_bi_sum, isf_bi_tuple, isf_bi_list, isf_bi_dict, isf_bi_repr, isf_bi_sorted, xh_nil, xh_cons, hk_nx, hk_bk, hk_ct, hk_rt, hn_n, ne_nil, ne_val, ne_own, ne_emp, ax_c, ax_f, List.foldl_cons, List.foldl_nil, List.getElem?_cons_zero, List.getElem?_cons_succ, List.set_cons_zero, List.set_cons_succ, if_true, if_false, ite_true, ite_false, reduceIte, reduceCtorEq, List.length_cons, List.length_nil, List.map_cons, List.map_nil, List.zip_cons_cons, List.zip_nil_left, Option.map_some, Option.map_none, Option.getD_some, Option.getD_none, Option.bind_some, and_true, true_and, and_self, Bool.not_true, Bool.not_false, Bool.or_true, Bool.or_false, Bool.true_or, Bool.false_or, Bool.and_true, Bool.true_and, Bool.and_false, Bool.false_and, decide_true, decide_false, Bool.false_eq_true, cons_lw, cons_mw, ho k h]
theorem ew0 (hb : ∀ x ∈ bs, x = 0 ∨ x = 1) (hs : bs.length ≤ 1000) (ho : OkB o) (hw : NoC 8 64 wd) (k : Nat) (h : AH) : calA Pr (k + 7) 37 [Mo bs kd sh, Pa bs, o, wd] h = .err ⟨8, [(11, wd)]⟩ h := by
  rw [u_text_span]
  unfold B_text_span
  simp only [w_ok, w_err, w_stk, o_ok, o_err, o_stk, t_nx, t_bk, t_ct, t_rt, t_er, t_stk, opt_s, opt_n, c_ok, c_stk, ce_nx, ce_rt, ce_er, ie_nx, ie_er, v_con, slV_v, slP_v, slP_o, v_var, v_peek, v_glo, v_bop, v_neg, neg_i, v_cmp, v_chain, v_and, v_or, v_not, v_ite, v_tup, v_lst, v_lstR, v_dsp, v_dnew, v_sub, v_slc, v_rev, ak_n, ak_s, v_attr, v_call, v_mk, v_bi, v_isi, v_get, v_lc, l_nil, l_star, l_cons, d_nil, d_cons, i_rng, i_enu, i_seq, s_fz', s_exp', s_asg', s_par', s_aug', s_app', s_ret', s_retN', s_ife', s_whl', s_for', s_brk', s_cnt', s_pass', s_raise', s_try', x_nil, x_cons, st_name, st_sub, st_attr, st_tup, sts_nil, sts_cons, stp_nil, stp_cons, fl_nil, fl_cons, fk_nx, fk_ct, fk_bk, fk_rt, fk_er, tv_nx, tv_rt, tv_er, p_addi, p_adds, p_addt, p_addl, p_sub, p_muli, p_mull, p_mult, p_fdv, p_mod, p_pow, p_aadd, p_asub, q_lt, q_le, q_gt, q_ge, q_eq, q_ne, q_is, q_isn, q_in, q_nin, a_bl, r_l, r_t, m_l, m_t, sb_t, sb_l, sb_k, sb_s, sb_d, df_int, df_str, df_tup, df_lst, df_ktup, df_dct, df_obj, df_scr, df_bl, df_non, df_ref, bi_len_l, bi_len_t, bi_len_k, bi_len_s, bi_len_x, bi_len_d, bi_int_i, bi_int_b, bi_str, bi_max, bi_min, bi_all, bi_sum, bi_tup_l, bi_tup_t, bi_lst_l, bi_lst_t, bi_dict, pt_lst, pt_dct, pt_obj, pt_f, pt_m, rg_i, sa_t, sa_l, gv_d, ob_o, bt_n, bt_t, bts_n, bts_c, fg_c, at_o, ty_non, ty_bl, ty_int, ty_str, ty_tup, ty_lst, ty_ktup, ty_dct, ty_scr, ty_obj, tys_n, tys_c, ik_bl, ik_int, ik_str, ik_tup, ik_lst, ik_ktup, ik_dct, ik_scr, ik_non, ik_obj, lc_nil, lc_cons, wp_n, wp_c, oi_n, oi_i, sl_t, sl_l, ns_var, ns_peek, ns_con, ns_glo, ns_bop, ns_neg, ns_cmp, ns_chain, ns_and, ns_or, ns_not, ns_ite, ns_tup, ns_lst, ns_lstR, ns_dsp, ns_dnew, ns_sub, ns_slc, ns_rev, ns_attr, ns_prop, ns_call, ns_mk, ns_meth, ns_bi, ns_isi, ns_get, ns_lc, ns_lc2, ns_dc, ns_rng, ns_enu, ns_seq, ex_var, ex_con, ex_glo, ex_bop, ex_neg, ex_cmp, ex_chain, ex_and, ex_or, ex_not, ex_ite, ex_tup, ex_lst, ex_lstR, ex_dsp, ex_dnew, ex_sub, ex_slc, ex_rev, ex_attr, ex_prop, ex_call, ex_mk, ex_meth, ex_bi, ex_isi, ex_get, ex_lc, ex_lc2, ex_dc, ex_rng, ex_enu, ex_seq, ex_peek, es_e, es_v, es_o, fz_s, fz_o, fz_v, fz_e, pl_p, ps_o, ps_c, pu_s, pu_c, pus_o, puc_s, pur_s, pur_c, il_s, il_c, ils_o, ilc_l, sp_l, ss_l, ss_d, sf_o, ft_n, lt_n, isf_var, isf_peek, isf_con, isf_glo, isf_bop, isf_neg, isf_cmp, isf_chain, isf_and, isf_or, isf_not, isf_ite, isf_tup, isf_lst, isf_lstR, isf_dsp, isf_dnew, isf_sub, isf_slc, isf_rev, isf_attr, isf_prop, isf_call, isf_mk, isf_meth, isf_isi, isf_get, isf_lc, isf_lc2, isf_dc, isf_rng, isf_enu, isf_seq, isf_bi_len, isf_bi_int, isf_bi_str, isf_bi_max, isf_bi_min, isf_bi_all, isf_bi_sum, isf_bi_tuple, isf_bi_list, isf_bi_dict, isf_bi_repr, isf_bi_sorted, xh_nil, xh_cons, hk_nx, hk_bk, hk_ct, hk_rt, hn_n, ne_nil, ne_val, ne_own, ne_emp, ax_c, ax_f, List.foldl_cons, List.foldl_nil, List.getElem?_cons_zero, List.getElem?_cons_succ, List.set_cons_zero, List.set_cons_succ, if_true, if_false, ite_true, ite_false, reduceIte, reduceCtorEq, List.length_cons, List.length_nil, List.map_cons, List.map_nil, List.zip_cons_cons, List.zip_nil_left, Option.map_some, Option.map_none, Option.getD_some, Option.getD_none, Option.bind_some, and_true, true_and, and_self, Bool.not_true, Bool.not_false, Bool.or_true, Bool.or_false, Bool.true_or, Bool.false_or, Bool.and_true, Bool.true_and, Bool.and_false, Bool.false_and, decide_true, decide_false, Bool.false_eq_true, cc_ok k h hb hs ho, cw_bad (k + 4) h hw]
theorem ew2 (hb : ∀ x ∈ bs, x = 0 ∨ x = 1) (hs : bs.length ≤ 1000) (ho : OkB o) (hw : NoC 8 64 wd) : Er 44 [Mo bs kd sh, Pa bs, o, wd] 8 11 wd := fun k h => by
  rw [u_loss]
  unfold B_loss
  simp only [w_ok, w_err, w_stk, o_ok, o_err, o_stk, t_nx, t_bk, t_ct, t_rt, t_er, t_stk, opt_s, opt_n, c_ok, c_stk, ce_nx, ce_rt, ce_er, ie_nx, ie_er, v_con, slV_v, slP_v, slP_o, v_var, v_peek, v_glo, v_bop, v_neg, neg_i, v_cmp, v_chain, v_and, v_or, v_not, v_ite, v_tup, v_lst, v_lstR, v_dsp, v_dnew, v_sub, v_slc, v_rev, ak_n, ak_s, v_attr, v_call, v_mk, v_bi, v_isi, v_get, v_lc, l_nil, l_star, l_cons, d_nil, d_cons, i_rng, i_enu, i_seq, s_fz', s_exp', s_asg', s_par', s_aug', s_app', s_ret', s_retN', s_ife', s_whl', s_for', s_brk', s_cnt', s_pass', s_raise', s_try', x_nil, x_cons, st_name, st_sub, st_attr, st_tup, sts_nil, sts_cons, stp_nil, stp_cons, fl_nil, fl_cons, fk_nx, fk_ct, fk_bk, fk_rt, fk_er, tv_nx, tv_rt, tv_er, p_addi, p_adds, p_addt, p_addl, p_sub, p_muli, p_mull, p_mult, p_fdv, p_mod, p_pow, p_aadd, p_asub, q_lt, q_le, q_gt, q_ge, q_eq, q_ne, q_is, q_isn, q_in, q_nin, a_bl, r_l, r_t, m_l, m_t, sb_t, sb_l, sb_k, sb_s, sb_d, df_int, df_str, df_tup, df_lst, df_ktup, df_dct, df_obj, df_scr, df_bl, df_non, df_ref, bi_len_l, bi_len_t, bi_len_k, bi_len_s, bi_len_x, bi_len_d, bi_int_i, bi_int_b, bi_str, bi_max, bi_min, bi_all, bi_sum, bi_tup_l, bi_tup_t, bi_lst_l, bi_lst_t, bi_dict, pt_lst, pt_dct, pt_obj, pt_f, pt_m, rg_i, sa_t, sa_l, gv_d, ob_o, bt_n, bt_t, bts_n, bts_c, fg_c, at_o, ty_non, ty_bl, ty_int, ty_str, ty_tup, ty_lst, ty_ktup, ty_dct, ty_scr, ty_obj, tys_n, tys_c, ik_bl, ik_int, ik_str, ik_tup, ik_lst, ik_ktup, ik_dct, ik_scr, ik_non, ik_obj, lc_nil, lc_cons, wp_n, wp_c, oi_n, oi_i, sl_t, sl_l, ns_var, ns_peek, ns_con, ns_glo, ns_bop, ns_neg, ns_cmp, ns_chain, ns_and, ns_or, ns_not, ns_ite, ns_tup, ns_lst, ns_lstR, ns_dsp, ns_dnew, ns_sub, ns_slc, ns_rev, ns_attr, ns_prop, ns_call, ns_mk, ns_meth, ns_bi, ns_isi, ns_get, ns_lc, ns_lc2, ns_dc, ns_rng, ns_enu, ns_seq, ex_var, ex_con, ex_glo, ex_bop, ex_neg, ex_cmp, ex_chain, ex_and, ex_or, ex_not, ex_ite, ex_tup, ex_lst, ex_lstR, ex_dsp, ex_dnew, ex_sub, ex_slc, ex_rev, ex_attr, ex_prop, ex_call, ex_mk, ex_meth, ex_bi, ex_isi, ex_get, ex_lc, ex_lc2, ex_dc, ex_rng, ex_enu, ex_seq, ex_peek, es_e, es_v, es_o, fz_s, fz_o, fz_v, fz_e, pl_p, ps_o, ps_c, pu_s, pu_c, pus_o, puc_s, pur_s, pur_c, il_s, il_c, ils_o, ilc_l, sp_l, ss_l, ss_d, sf_o, ft_n, lt_n, isf_var, isf_peek, isf_con, isf_glo, isf_bop, isf_neg, isf_cmp, isf_chain, isf_and, isf_or, isf_not, isf_ite, isf_tup, isf_lst, isf_lstR, isf_dsp, isf_dnew, isf_sub, isf_slc, isf_rev, isf_attr, isf_prop, isf_call, isf_mk, isf_meth, isf_isi, isf_get, isf_lc, isf_lc2, isf_dc, isf_rng, isf_enu, isf_seq, isf_bi_len, isf_bi_int, isf_bi_str, isf_bi_max, isf_bi_min, isf_bi_all, isf_bi_sum, isf_bi_tuple, isf_bi_list, isf_bi_dict, isf_bi_repr, isf_bi_sorted, xh_nil, xh_cons, hk_nx, hk_bk, hk_ct, hk_rt, hn_n, ne_nil, ne_val, ne_own, ne_emp, ax_c, ax_f, List.foldl_cons, List.foldl_nil, List.getElem?_cons_zero, List.getElem?_cons_succ, List.set_cons_zero, List.set_cons_succ, if_true, if_false, ite_true, ite_false, reduceIte, reduceCtorEq, List.length_cons, List.length_nil, List.map_cons, List.map_nil, List.zip_cons_cons, List.zip_nil_left, Option.map_some, Option.map_none, Option.getD_some, Option.getD_none, Option.bind_some, and_true, true_and, and_self, Bool.not_true, Bool.not_false, Bool.or_true, Bool.or_false, Bool.true_or, Bool.false_or, Bool.and_true, Bool.true_and, Bool.and_false, Bool.false_and, decide_true, decide_false, Bool.false_eq_true, cc_ok (k + 3) h hb hs ho, cw_bad (k + 7) h hw]
theorem ew5 (hb : ∀ x ∈ bs, x = 0 ∨ x = 1) (hs : bs.length ≤ 1000) (hw : NoC 8 64 wd) : Er 40 [Mo bs kd sh, Pa bs, .int 3, .non, wd] 8 11 wd := fun k h => by
  rw [u_is_bounded_code]
  unfold B_is_bounded_code
  simp only [w_ok, w_err, w_stk, o_ok, o_err, o_stk, t_nx, t_bk, t_ct, t_rt, t_er, t_stk, opt_s, opt_n, c_ok, c_stk, ce_nx, ce_rt, ce_er, ie_nx, ie_er, v_con, slV_v, slP_v, slP_o, v_var, v_peek, v_glo, v_bop, v_neg, neg_i, v_cmp, v_chain, v_and, v_or, v_not, v_ite, v_tup, v_lst, v_lstR, v_dsp, v_dnew, v_sub, v_slc, v_rev, ak_n, ak_s, v_attr, v_call, v_mk, v_bi, v_isi, v_get, v_lc, l_nil, l_star, l_cons, d_nil, d_cons, i_rng, i_enu, i_seq, s_fz', s_exp', s_asg', s_par', s_aug', s_app', s_ret', s_retN', s_ife', s_whl', s_for', s_brk', s_cnt', s_pass', s_raise', s_try', x_nil, x_cons, st_name, st_sub, st_attr, st_tup, sts_nil, sts_cons, stp_nil, stp_cons, fl_nil, fl_cons, fk_nx, fk_ct, fk_bk, fk_rt, fk_er, tv_nx, tv_rt, tv_er, p_addi, p_adds, p_addt, p_addl, p_sub, p_muli, p_mull, p_mult, p_fdv, p_mod, p_pow, p_aadd, p_asub, q_lt, q_le, q_gt, q_ge, q_eq, q_ne, q_is, q_isn, q_in, q_nin, a_bl, r_l, r_t, m_l, m_t, sb_t, sb_l, sb_k, sb_s, sb_d, df_int, df_str, df_tup, df_lst, df_ktup, df_dct, df_obj, df_scr, df_bl, df_non, df_ref, bi_len_l, bi_len_t, bi_len_k, bi_len_s, bi_len_x, bi_len_d, bi_int_i, bi_int_b, bi_str, bi_max, bi_min, bi_all, bi_sum, bi_tup_l, bi_tup_t, bi_lst_l, bi_lst_t, bi_dict, pt_lst, pt_dct, pt_obj, pt_f, pt_m, rg_i, sa_t, sa_l, gv_d, ob_o, bt_n, bt_t, bts_n, bts_c, fg_c, at_o, ty_non, ty_bl, ty_int, ty_str, ty_tup, ty_lst, ty_ktup, ty_dct, ty_scr, ty_obj, tys_n, tys_c, ik_bl, ik_int, ik_str, ik_tup, ik_lst, ik_ktup, ik_dct, ik_scr, ik_non, ik_obj, lc_nil, lc_cons, wp_n, wp_c, oi_n, oi_i, sl_t, sl_l, ns_var, ns_peek, ns_con, ns_glo, ns_bop, ns_neg, ns_cmp, ns_chain, ns_and, ns_or, ns_not, ns_ite, ns_tup, ns_lst, ns_lstR, ns_dsp, ns_dnew, ns_sub, ns_slc, ns_rev, ns_attr, ns_prop, ns_call, ns_mk, ns_meth, ns_bi, ns_isi, ns_get, ns_lc, ns_lc2, ns_dc, ns_rng, ns_enu, ns_seq, ex_var, ex_con, ex_glo, ex_bop, ex_neg, ex_cmp, ex_chain, ex_and, ex_or, ex_not, ex_ite, ex_tup, ex_lst, ex_lstR, ex_dsp, ex_dnew, ex_sub, ex_slc, ex_rev, ex_attr, ex_prop, ex_call, ex_mk, ex_meth, ex_bi, ex_isi, ex_get, ex_lc, ex_lc2, ex_dc, ex_rng, ex_enu, ex_seq, ex_peek, es_e, es_v, es_o, fz_s, fz_o, fz_v, fz_e, pl_p, ps_o, ps_c, pu_s, pu_c, pus_o, puc_s, pur_s, pur_c, il_s, il_c, ils_o, ilc_l, sp_l, ss_l, ss_d, sf_o, ft_n, lt_n, isf_var, isf_peek, isf_con, isf_glo, isf_bop, isf_neg, isf_cmp, isf_chain, isf_and, isf_or, isf_not, isf_ite, isf_tup, isf_lst, isf_lstR, isf_dsp, isf_dnew, isf_sub, isf_slc, isf_rev, isf_attr, isf_prop, isf_call, isf_mk, isf_meth, isf_isi, isf_get, isf_lc, isf_lc2, isf_dc, isf_rng, isf_enu, isf_seq, isf_bi_len, isf_bi_int, isf_bi_str, isf_bi_max, isf_bi_min, isf_bi_all, isf_bi_sum, isf_bi_tuple, isf_bi_list, isf_bi_dict, isf_bi_repr, isf_bi_sorted, xh_nil, xh_cons, hk_nx, hk_bk, hk_ct, hk_rt, hn_n, ne_nil, ne_val, ne_own, ne_emp, ax_c, ax_f, List.foldl_cons, List.foldl_nil, List.getElem?_cons_zero, List.getElem?_cons_succ, List.set_cons_zero, List.set_cons_succ, if_true, if_false, ite_true, ite_false, reduceIte, reduceCtorEq, List.length_cons, List.length_nil, List.map_cons, List.map_nil, List.zip_cons_cons, List.zip_nil_left, Option.map_some, Option.map_none, Option.getD_some, Option.getD_none, Option.bind_some, and_true, true_and, and_self, Bool.not_true, Bool.not_false, Bool.or_true, Bool.or_false, Bool.true_or, Bool.false_or, Bool.and_true, Bool.true_and, Bool.and_false, Bool.false_and, decide_true, decide_false, Bool.false_eq_true, ck_ok (k + 3) h hb hs (show (0 : Int) ≤ 3 by omega) (show (3 : Int) ≤ 200 by omega), cw_bad (k + 7) h hw]
/-- no fraction from 0 on -/
def NoF (o : AV) : Prop := (∀ (k : Nat) (h : AH), calA Pr (k + 4) 3 [o] h = .ok (.bl false) h) ∨ (∃ a b : Int, o = .tup [.int a, .int b] ∧ a < 0 ∧ ∀ (k : Nat) (h : AH), calA Pr (k + 4) 3 [o] h = .ok (.bl true) h)
theorem ef3 (hb : ∀ x ∈ bs, x = 0 ∨ x = 1) (hs : bs.length ≤ 1000) (ho : OkB o) (hw : NoF wd) : Er 45 [Mo bs kd sh, Pa bs, o, wd] 6 10 wd := fun k h => by
  rw [u_width_for]
  unfold B_width_for
  rcases hw with hw | ⟨a, b, rfl, ha, hw⟩
  · simp only [w_ok, w_err, w_stk, o_ok, o_err, o_stk, t_nx, t_bk, t_ct, t_rt, t_er, t_stk, opt_s, opt_n, c_ok, c_stk, ce_nx, ce_rt, ce_er, ie_nx, ie_er, v_con, slV_v, slP_v, slP_o, v_var, v_peek, v_glo, v_bop, v_neg, neg_i, v_cmp, v_chain, v_and, v_or, v_not, v_ite, v_tup, v_lst, v_lstR, v_dsp, v_dnew, v_sub, v_slc, v_rev, ak_n, ak_s, v_attr, v_call, v_mk, v_bi, v_isi, v_get, v_lc, l_nil, l_star, l_cons, d_nil, d_cons, i_rng, i_enu, i_seq, s_fz', s_exp', s_asg', s_par', s_aug', s_app', s_ret', s_retN', s_ife', s_whl', s_for', s_brk', s_cnt', s_pass', s_raise', s_try', x_nil, x_cons, st_name, st_sub, st_attr, st_tup, sts_nil, sts_cons, stp_nil, stp_cons, fl_nil, fl_cons, fk_nx, fk_ct, fk_bk, fk_rt, fk_er, tv_nx, tv_rt, tv_er, p_addi, p_adds, p_addt, p_addl, p_sub, p_muli, p_mull, p_mult, p_fdv, p_mod, p_pow, p_aadd, p_asub, q_lt, q_le, q_gt, q_ge, q_eq, q_ne, q_is, q_isn, q_in, q_nin, a_bl, r_l, r_t, m_l, m_t, sb_t, sb_l, sb_k, sb_s, sb_d, df_int, df_str, df_tup, df_lst, df_ktup, df_dct, df_obj, df_scr, df_bl, df_non, df_ref, bi_len_l, bi_len_t, bi_len_k, bi_len_s, bi_len_x, bi_len_d, bi_int_i, bi_int_b, bi_str, bi_max, bi_min, bi_all, bi_sum, bi_tup_l, bi_tup_t, bi_lst_l, bi_lst_t, bi_dict, pt_lst, pt_dct, pt_obj, pt_f, pt_m, rg_i, sa_t, sa_l, gv_d, ob_o, bt_n, bt_t, bts_n, bts_c, fg_c, at_o, ty_non, ty_bl, ty_int, ty_str, ty_tup, ty_lst, ty_ktup, ty_dct, ty_scr, ty_obj, tys_n, tys_c, ik_bl, ik_int, ik_str, ik_tup, ik_lst, ik_ktup, ik_dct, ik_scr, ik_non, ik_obj, lc_nil, lc_cons, wp_n, wp_c, oi_n, oi_i, sl_t, sl_l, ns_var, ns_peek, ns_con, ns_glo, ns_bop, ns_neg, ns_cmp, ns_chain, ns_and, ns_or, ns_not, ns_ite, ns_tup, ns_lst, ns_lstR, ns_dsp, ns_dnew, ns_sub, ns_slc, ns_rev, ns_attr, ns_prop, ns_call, ns_mk, ns_meth, ns_bi, ns_isi, ns_get, ns_lc, ns_lc2, ns_dc, ns_rng, ns_enu, ns_seq, ex_var, ex_con, ex_glo, ex_bop, ex_neg, ex_cmp, ex_chain, ex_and, ex_or, ex_not, ex_ite, ex_tup, ex_lst, ex_lstR, ex_dsp, ex_dnew, ex_sub, ex_slc, ex_rev, ex_attr, ex_prop, ex_call, ex_mk, ex_meth, ex_bi, ex_isi, ex_get, ex_lc, ex_lc2, ex_dc, ex_rng, ex_enu, ex_seq, ex_peek, es_e, es_v, es_o, fz_s, fz_o, fz_v, fz_e, pl_p, ps_o, ps_c, pu_s, pu_c, pus_o, puc_s, pur_s, pur_c, il_s, il_c, ils_o, ilc_l, sp_l, ss_l, ss_d, sf_o, ft_n, lt_n, isf_var, isf_peek, isf_con, isf_glo, isf_bop, isf_neg, isf_cmp, isf_chain, isf_and, isf_or, isf_not, isf_ite, isf_tup, isf_lst, isf_lstR, isf_dsp, isf_dnew, isf_sub, isf_slc, isf_rev, isf_attr, isf_prop, isf_call, isf_mk, isf_meth, isf_isi, isf_get, isf_lc, isf_lc2, isf_dc, isf_rng, isf_enu, isf_seq, isf_bi_len, isf_bi_int, isf_bi_str, isf_bi_max, isf_bi_min, isf_bi_all, isf_bi_sum, isf_bi_tuple, isf_bi_list, isf_bi_dict, isf_bi_repr, isf_bi_sorted, xh_nil, xh_cons, hk_nx, hk_bk, hk_ct, hk_rt, hn_n, ne_nil, ne_val, ne_own, ne_emp, ax_c, ax_f, List.foldl_cons, List.foldl_nil, List.getElem?_cons_zero, List.getElem?_cons_succ, List.set_cons_zero, List.set_cons_succ, if_true, if_false, ite_true, ite_false, reduceIte, reduceCtorEq, List.length_cons, List.length_nil, List.map_cons, List.map_nil, List.zip_cons_cons, List.zip_nil_left, Option.map_some, Option.map_none, Option.getD_some, Option.getD_none, Option.bind_some, and_true, true_and, and_self, Bool.not_true, Bool.not_false, Bool.or_true, Bool.or_false, Bool.true_or, Bool.false_or, Bool.and_true, Bool.true_and, Bool.and_false, Bool.false_and, decide_true, decide_false, Bool.false_eq_true, cc_ok (k + 3) h hb hs ho, hw (k + 5) h]
  · simp only [w_ok, w_err, w_stk, o_ok, o_err, o_stk, t_nx, t_bk, t_ct, t_rt, t_er, t_stk, opt_s, opt_n, c_ok, c_stk, ce_nx, ce_rt, ce_er, ie_nx, ie_er, v_con, slV_v, slP_v, slP_o, v_var, v_peek, v_glo, v_bop, v_neg, neg_i, v_cmp, v_chain, v_and, v_or, v_not, v_ite, v_tup, v_lst, v_lstR, v_dsp, v_dnew, v_sub, v_slc, v_rev, ak_n, ak_s, v_attr, v_call, v_mk, v_bi, v_isi, v_get, v_lc, l_nil, l_star, l_cons, d_nil, d_cons, i_rng, i_enu, i_seq, s_fz', s_exp', s_asg', s_par', s_aug', s_app', s_ret', s_retN', s_ife', s_whl', s_for', s_brk', s_cnt', s_pass', s_raise', s_try', x_nil, x_cons, st_name, st_sub, st_attr, st_tup, sts_nil, sts_cons, stp_nil, stp_cons, fl_nil, fl_cons, fk_nx, fk_ct, fk_bk, fk_rt, fk_er, tv_nx, tv_rt, tv_er, p_addi, p_adds, p_addt, p_addl, p_sub, p_muli, p_mull, p_mult, p_fdv, p_mod, p_pow, p_aadd, p_asub, q_lt, q_le, q_gt, q_ge, q_eq, q_ne, q_is, q_isn, q_in, q_nin, a_bl, r_l, r_t, m_l, m_t, sb_t, sb_l, sb_k, sb_s, sb_d, df_int, df_str, df_tup, df_lst, df_ktup, df_dct, df_obj, df_scr, df_bl, df_non, df_ref, bi_len_l, bi_len_t, bi_len_k, bi_len_s, bi_len_x, bi_len_d, bi_int_i, bi_int_b, bi_str, bi_max, bi_min, bi_all, bi_sum, bi_tup_l, bi_tup_t, bi_lst_l, bi_lst_t, bi_dict, pt_lst, pt_dct, pt_obj, pt_f, pt_m, rg_i, sa_t, sa_l, gv_d, ob_o, bt_n, bt_t, bts_n, bts_c, fg_c, at_o, ty_non, ty_bl, ty_int, ty_str, ty_tup, ty_lst, ty_ktup, ty_dct, ty_scr, ty_obj, tys_n, tys_c, ik_bl, ik_int, ik_str, ik_tup, ik_lst, ik_ktup, ik_dct, ik_scr, ik_non, ik_obj, lc_nil, lc_cons, wp_n, wp_c, oi_n, oi_i, sl_t, sl_l, ns_var, ns_peek, ns_con, ns_glo, ns_bop, ns_neg, ns_cmp, ns_chain, ns_and, ns_or, ns_not, ns_ite, ns_tup, ns_lst, ns_lstR, ns_dsp, ns_dnew, ns_sub, ns_slc, ns_rev, ns_attr, ns_prop, ns_call, ns_mk, ns_meth, ns_bi, ns_isi, ns_get, ns_lc, ns_lc2, ns_dc, ns_rng, ns_enu, ns_seq, ex_var, ex_con, ex_glo, ex_bop, ex_neg, ex_cmp, ex_chain, ex_and, ex_or, ex_not, ex_ite, ex_tup, ex_lst, ex_lstR, ex_dsp, ex_dnew, ex_sub, ex_slc, ex_rev, ex_attr, ex_prop, ex_call, ex_mk, ex_meth, ex_bi, ex_isi, ex_get, ex_lc, ex_lc2, ex_dc, ex_rng, ex_enu, ex_seq, ex_peek, es_e, es_v, es_o, fz_s, fz_o, fz_v, fz_e, pl_p, ps_o, ps_c, pu_s, pu_c, pus_o, puc_s, pur_s, pur_c, il_s, il_c, ils_o, ilc_l, sp_l, ss_l, ss_d, sf_o, ft_n, lt_n, isf_var, isf_peek, isf_con, isf_glo, isf_bop, isf_neg, isf_cmp, isf_chain, isf_and, isf_or, isf_not, isf_ite, isf_tup, isf_lst, isf_lstR, isf_dsp, isf_dnew, isf_sub, isf_slc, isf_rev, isf_attr, isf_prop, isf_call, isf_mk, isf_meth, isf_isi, isf_get, isf_lc, isf_lc2, isf_dc, isf_rng, isf_enu, isf_seq, isf_bi_len, isf_bi_int, isf_bi_str, isf_bi_max, isf_bi_min, isf_bi_all, isf_bi_sum, isf_bi_tuple, isf_bi_list, isf_bi_dict, isf_bi_repr, isf_bi_sorted, xh_nil, xh_cons, hk_nx, hk_bk, hk_ct, hk_rt, hn_n, ne_nil, ne_val, ne_own, ne_emp, ax_c, ax_f, List.foldl_cons, List.foldl_nil, List.getElem?_cons_zero, List.getElem?_cons_succ, List.set_cons_zero, List.set_cons_succ, if_true, if_false, ite_true, ite_false, reduceIte, reduceCtorEq, List.length_cons, List.length_nil, List.map_cons, List.map_nil, List.zip_cons_cons, List.zip_nil_left, Option.map_some, Option.map_none, Option.getD_some, Option.getD_none, Option.bind_some, and_true, true_and, and_self, Bool.not_true, Bool.not_false, Bool.or_true, Bool.or_false, Bool.true_or, Bool.false_or, Bool.and_true, Bool.true_and, Bool.and_false, Bool.false_and, decide_true, decide_false, Bool.false_eq_true, cc_ok (k + 3) h hb hs ho, hw (k + 5) h, at0, ha]
theorem cw_ok (k : Nat) (h : AH) : calA Pr (k + 2) 32 [.int 8] h = .ok .non h := by
  rw [u_check_width]
  unfold B_check_width
  simp only [w_ok, w_err, w_stk, o_ok, o_err, o_stk, t_nx, t_bk, t_ct, t_rt, t_er, t_stk, opt_s, opt_n, c_ok, c_stk, ce_nx, ce_rt, ce_er, ie_nx, ie_er, v_con, slV_v, slP_v, slP_o, v_var, v_peek, v_glo, v_bop, v_neg, neg_i, v_cmp, v_chain, v_and, v_or, v_not, v_ite, v_tup, v_lst, v_lstR, v_dsp, v_dnew, v_sub, v_slc, v_rev, ak_n, ak_s, v_attr, v_call, v_mk, v_bi, v_isi, v_get, v_lc, l_nil, l_star, l_cons, d_nil, d_cons, i_rng, i_enu, i_seq, s_fz', s_exp', s_asg', s_par', s_aug', s_app', s_ret', s_retN', s_ife', s_whl', s_for', s_brk', s_cnt', s_pass', s_raise', s_try', x_nil, x_cons, st_name, st_sub, st_attr, st_tup, sts_nil, sts_cons, stp_nil, stp_cons, fl_nil, fl_cons, fk_nx, fk_ct, fk_bk, fk_rt, fk_er, tv_nx, tv_rt, tv_er, p_addi, p_adds, p_addt, p_addl, p_sub, p_muli, p_mull, p_mult, p_fdv, p_mod, p_pow, p_aadd, p_asub, q_lt, q_le, q_gt, q_ge, q_eq, q_ne, q_is, q_isn, q_in, q_nin, a_bl, r_l, r_t, m_l, m_t, sb_t, sb_l, sb_k, sb_s, sb_d, df_int, df_str, df_tup, df_lst, df_ktup, df_dct, df_obj, df_scr, df_bl, df_non, df_ref, bi_len_l, bi_len_t, bi_len_k, bi_len_s, bi_len_x, bi_len_d, bi_int_i, bi_int_b, bi_str, bi_max, bi_min, bi_all, bi_sum, bi_tup_l, bi_tup_t, bi_lst_l, bi_lst_t, bi_dict, pt_lst, pt_dct, pt_obj, pt_f, pt_m, rg_i, sa_t, sa_l, gv_d, ob_o, bt_n, bt_t, bts_n, bts_c, fg_c, at_o, ty_non, ty_bl, ty_int, ty_str, ty_tup, ty_lst, ty_ktup, ty_dct, ty_scr, ty_obj, tys_n, tys_c, ik_bl, ik_int, ik_str, ik_tup, ik_lst, ik_ktup, ik_dct, ik_scr, ik_non, ik_obj, lc_nil, lc_cons, wp_n, wp_c, oi_n, oi_i, sl_t, sl_l, ns_var, ns_peek, ns_con, ns_glo, ns_bop, ns_neg, ns_cmp, ns_chain, ns_and, ns_or, ns_not, ns_ite, ns_tup, ns_lst, ns_lstR, ns_dsp, ns_dnew, ns_sub, ns_slc, ns_rev, ns_attr, ns_prop, ns_call, ns_mk, ns_meth, ns_bi, ns_isi, ns_get, ns_lc, ns_lc2, ns_dc, ns_rng, ns_enu, ns_seq, ex_var, ex_con, ex_glo, ex_bop, ex_neg, ex_cmp, ex_chain, ex_and, ex_or, ex_not, ex_ite, ex_tup, ex_lst, ex_lstR, ex_dsp, ex_dnew, ex_sub, ex_slc, ex_rev, ex_attr, ex_prop, ex_call, ex_mk, ex_meth, ex_bi, ex_isi, ex_get, ex_lc, ex_lc2, ex_dc, ex_rng, ex_enu, ex_seq, ex_peek, es_e, es_v, es_o, fz_s, fz_o, fz_v, fz_e, pl_p, ps_o, ps_c, pu_s, pu_c, pus_o, puc_s, pur_s, pur_c, il_s, il_c, ils_o, ilc_l, sp_l, ss_l, ss_d, sf_o, ft_n, lt_n, isf_var, isf_peek, isf_con, isf_glo, isf_bop, isf_neg, isf_cmp, isf_chain, isf_and, isf_or, isf_not, isf_ite, isf_tup, isf_lst, isf_lstR, isf_dsp, isf_dnew, isf_sub, isf_slc, isf_rev, isf_attr, isf_prop, isf_call, isf_mk, isf_meth, isf_isi, isf_get, isf_lc, isf_lc2, isf_dc, isf_rng, isf_enu, isf_seq, isf_bi_len, isf_bi_int, isf_bi_str, isf_bi_max, isf_bi_min, isf_bi_all, isf_bi_sum, isf_bi_tuple, isf_bi_list, isf_bi_dict, isf_bi_repr, isf_bi_sorted, xh_nil, xh_cons, hk_nx, hk_bk, hk_ct, hk_rt, hn_n, ne_nil, ne_val, ne_own, ne_emp, ax_c, ax_f, List.foldl_cons, List.foldl_nil, List.getElem?_cons_zero, List.getElem?_cons_succ, List.set_cons_zero, List.set_cons_succ, if_true, if_false, ite_true, ite_false, reduceIte, reduceCtorEq, List.length_cons, List.length_nil, List.map_cons, List.map_nil, List.zip_cons_cons, List.zip_nil_left, Option.map_some, Option.map_none, Option.getD_some, Option.getD_none, Option.bind_some, and_true, true_and, and_self, Bool.not_true, Bool.not_false, Bool.or_true, Bool.or_false, Bool.true_or, Bool.false_or, Bool.and_true, Bool.true_and, Bool.and_false, Bool.false_and, decide_true, decide_false, Bool.false_eq_true, cons_lw, cons_mw, count_ok k h (show (8 : Int) ≤ 8 by omega) (show (8 : Int) ≤ 64 by omega)]
theorem ib_no (k : Nat) (h : AH) : calA Pr (k + 1) 31 [.non] h = .ok (.bl false) h := by kernel_rfl
theorem fin5 (hb : ∀ x ∈ bs, x = 0 ∨ x = 1) (hs : bs.length ≤ 1000) (k : Nat) (h : AH) : calA Pr (k + 7) 40 [Mo bs kd sh, Pa bs, .int 3, .non, .int 8] h = .ok (.bl false) h := by
  rw [u_is_bounded_code]
  unfold B_is_bounded_code
  simp only [w_ok, w_err, w_stk, o_ok, o_err, o_stk, t_nx, t_bk, t_ct, t_rt, t_er, t_stk, opt_s, opt_n, c_ok, c_stk, ce_nx, ce_rt, ce_er, ie_nx, ie_er, v_con, slV_v, slP_v, slP_o, v_var, v_peek, v_glo, v_bop, v_neg, neg_i, v_cmp, v_chain, v_and, v_or, v_not, v_ite, v_tup, v_lst, v_lstR, v_dsp, v_dnew, v_sub, v_slc, v_rev, ak_n, ak_s, v_attr, v_call, v_mk, v_bi, v_isi, v_get, v_lc, l_nil, l_star, l_cons, d_nil, d_cons, i_rng, i_enu, i_seq, s_fz', s_exp', s_asg', s_par', s_aug', s_app', s_ret', s_retN', s_ife', s_whl', s_for', s_brk', s_cnt', s_pass', s_raise', s_try', x_nil, x_cons, st_name, st_sub, st_attr, st_tup, sts_nil, sts_cons, stp_nil, stp_cons, fl_nil, fl_cons, fk_nx, fk_ct, fk_bk, fk_rt, fk_er, tv_nx, tv_rt, tv_er, p_addi, p_adds, p_addt, p_addl, p_sub, p_muli, p_mull, p_mult, p_fdv, p_mod, p_pow, p_aadd, p_asub, q_lt, q_le, q_gt, q_ge, q_eq, q_ne, q_is, q_isn, q_in, q_nin, a_bl, r_l, r_t, m_l, m_t, sb_t, sb_l, sb_k, sb_s, sb_d, df_int, df_str, df_tup, df_lst, df_ktup, df_dct, df_obj, df_scr, df_bl, df_non, df_ref, bi_len_l, bi_len_t, bi_len_k, bi_len_s, bi_len_x, bi_len_d, bi_int_i, bi_int_b, bi_str, bi_max, bi_min, bi_all, bi_sum, bi_tup_l, bi_tup_t, bi_lst_l, bi_lst_t, bi_dict, pt_lst, pt_dct, pt_obj, pt_f, pt_m, rg_i, sa_t, sa_l, gv_d, ob_o, bt_n, bt_t, bts_n, bts_c, fg_c, at_o, ty_non, ty_bl, ty_int, ty_str, ty_tup, ty_lst, ty_ktup, ty_dct, ty_scr, ty_obj, tys_n, tys_c, ik_bl, ik_int, ik_str, ik_tup, ik_lst, ik_ktup, ik_dct, ik_scr, ik_non, ik_obj, lc_nil, lc_cons, wp_n, wp_c, oi_n, oi_i, sl_t, sl_l, ns_var, ns_peek, ns_con, ns_glo, ns_bop, ns_neg, ns_cmp, ns_chain, ns_and, ns_or, ns_not, ns_ite, ns_tup, ns_lst, ns_lstR, ns_dsp, ns_dnew, ns_sub, ns_slc, ns_rev, ns_attr, ns_prop, ns_call, ns_mk, ns_meth, ns_bi, ns_isi, ns_get, ns_lc, ns_lc2, ns_dc, ns_rng, ns_enu, ns_seq, ex_var, ex_con, ex_glo, ex_bop, ex_neg, ex_cmp, ex_chain, ex_and, ex_or, ex_not, ex_ite, ex_tup, ex_lst, ex_lstR, ex_dsp, ex_dnew, ex_sub, ex_slc, ex_rev, ex_attr, ex_prop, ex_call, ex_mk, ex_meth, ex_bi, ex_isi, ex_get, ex_lc, ex_lc2, ex_dc, ex_rng, ex_enu, ex_seq, ex_peek, es_e, es_v, es_o, fz_s, fz_o, fz_v, fz_e, pl_p, ps_o, ps_c, pu_s, pu_c, pus_o, puc_s, pur_s, pur_c, il_s, il_c, ils_o, ilc_l, sp_l, ss_l, ss_d, sf_o, ft_n, lt_n, isf_var, isf_peek, isf_con, isf_glo, isf_bop, isf_neg, isf_cmp, isf_chain, isf_and, isf_or, isf_not, isf_ite, isf_tup, isf_lst, isf_lstR, isf_dsp, isf_dnew, isf_sub, isf_slc, isf_rev, isf_attr, isf_prop, isf_call, isf_mk, isf_meth, isf_isi, isf_get, isf_lc, isf_lc2, isf_dc, isf_rng, isf_enu, isf_seq, isf_bi_len, isf_bi_int, isf_bi_str, isf_bi_max, isf_bi_min, isf_bi_all, isf_bi_sum, isf_bi_tuple, isf_bi_list, isf_bi_dict, isf_bi_repr, isf_bi_sorted, xh_nil, xh_cons, hk_nx, hk_bk, hk_ct, hk_rt, hn_n, ne_nil, ne_val, ne_own, ne_emp, ax_c, ax_f, List.foldl_cons, List.foldl_nil, List.getElem?_cons_zero, List.getElem?_cons_succ, List.set_cons_zero, List.set_cons_succ, if_true, if_false, ite_true, ite_false, reduceIte, reduceCtorEq, List.length_cons, List.length_nil, List.map_cons, List.map_nil, List.zip_cons_cons, List.zip_nil_left, Option.map_some, Option.map_none, Option.getD_some, Option.getD_none, Option.bind_some, and_true, true_and, and_self, Bool.not_true, Bool.not_false, Bool.or_true, Bool.or_false, Bool.true_or, Bool.false_or, Bool.and_true, Bool.true_and, Bool.and_false, Bool.false_and, decide_true, decide_false, Bool.false_eq_true, ck_ok k h hb hs (show (0 : Int) ≤ 3 by omega) (show (3 : Int) ≤ 200 by omega), cw_ok (k + 4) h, ib_no (k + 5) h]
theorem fin4 (hb : ∀ x ∈ bs, x = 0 ∨ x = 1) (hs : bs.length ≤ 1000) : Er 41 [Mo bs kd sh, Pa bs, .int 3, .non, .int 8] 9 10 .non := fun k h => by
  rw [u_read_bounded]
  unfold B_read_bounded
  simp only [w_ok, w_err, w_stk, o_ok, o_err, o_stk, t_nx, t_bk, t_ct, t_rt, t_er, t_stk, opt_s, opt_n, c_ok, c_stk, ce_nx, ce_rt, ce_er, ie_nx, ie_er, v_con, slV_v, slP_v, slP_o, v_var, v_peek, v_glo, v_bop, v_neg, neg_i, v_cmp, v_chain, v_and, v_or, v_not, v_ite, v_tup, v_lst, v_lstR, v_dsp, v_dnew, v_sub, v_slc, v_rev, ak_n, ak_s, v_attr, v_call, v_mk, v_bi, v_isi, v_get, v_lc, l_nil, l_star, l_cons, d_nil, d_cons, i_rng, i_enu, i_seq, s_fz', s_exp', s_asg', s_par', s_aug', s_app', s_ret', s_retN', s_ife', s_whl', s_for', s_brk', s_cnt', s_pass', s_raise', s_try', x_nil, x_cons, st_name, st_sub, st_attr, st_tup, sts_nil, sts_cons, stp_nil, stp_cons, fl_nil, fl_cons, fk_nx, fk_ct, fk_bk, fk_rt, fk_er, tv_nx, tv_rt, tv_er, p_addi, p_adds, p_addt, p_addl, p_sub, p_muli, p_mull, p_mult, p_fdv, p_mod, p_pow, p_aadd, p_asub, q_lt, q_le, q_gt, q_ge, q_eq, q_ne, q_is, q_isn, q_in, q_nin, a_bl, r_l, r_t, m_l, m_t, sb_t, sb_l, sb_k, sb_s, sb_d, df_int, df_str, df_tup, df_lst, df_ktup, df_dct, df_obj, df_scr, df_bl, df_non, df_ref, bi_len_l, bi_len_t, bi_len_k, bi_len_s, bi_len_x, bi_len_d, bi_int_i, bi_int_b, bi_str, bi_max, bi_min, bi_all, bi_sum, bi_tup_l, bi_tup_t, bi_lst_l, bi_lst_t, bi_dict, pt_lst, pt_dct, pt_obj, pt_f, pt_m, rg_i, sa_t, sa_l, gv_d, ob_o, bt_n, bt_t, bts_n, bts_c, fg_c, at_o, ty_non, ty_bl, ty_int, ty_str, ty_tup, ty_lst, ty_ktup, ty_dct, ty_scr, ty_obj, tys_n, tys_c, ik_bl, ik_int, ik_str, ik_tup, ik_lst, ik_ktup, ik_dct, ik_scr, ik_non, ik_obj, lc_nil, lc_cons, wp_n, wp_c, oi_n, oi_i, sl_t, sl_l, ns_var, ns_peek, ns_con, ns_glo, ns_bop, ns_neg, ns_cmp, ns_chain, ns_and, ns_or, ns_not, ns_ite, ns_tup, ns_lst, ns_lstR, ns_dsp, ns_dnew, ns_sub, ns_slc, ns_rev, ns_attr, ns_prop, ns_call, ns_mk, ns_meth, ns_bi, ns_isi, ns_get, ns_lc, ns_lc2, ns_dc, ns_rng, ns_enu, ns_seq, ex_var, ex_con, ex_glo, ex_bop, ex_neg, ex_cmp, ex_chain, ex_and, ex_or, ex_not, ex_ite, ex_tup, ex_lst, ex_lstR, ex_dsp, ex_dnew, ex_sub, ex_slc, ex_rev, ex_attr, ex_prop, ex_call, ex_mk, ex_meth, ex_bi, ex_isi, ex_get, ex_lc, ex_lc2, ex_dc, ex_rng, ex_enu, ex_seq, ex_peek, es_e, es_v, es_o, fz_s, fz_o, fz_v, fz_e, pl_p, ps_o, ps_c, pu_s, pu_c, pus_o, puc_s, pur_s, pur_c, il_s, il_c, ils_o, ilc_l, sp_l, ss_l, ss_d, sf_o, ft_n, lt_n, isf_var, isf_peek, isf_con, isf_glo, isf_bop, isf_neg, isf_cmp, isf_chain, isf_and, isf_or, isf_not, isf_ite, isf_tup, isf_lst, isf_lstR, isf_dsp, isf_dnew, isf_sub, isf_slc, isf_rev, isf_attr, isf_prop, isf_call, isf_mk, isf_meth, isf_isi, isf_get, isf_lc, isf_lc2, isf_dc, isf_rng, isf_enu, isf_seq, isf_bi_len, isf_bi_int, isf_bi_str, isf_bi_max, isf_bi_min, isf_bi_all, isf_bi_sum, isf_bi_tuple, isf_bi_list, isf_bi_dict, isf_bi_repr, isf_bi_sorted, xh_nil, xh_cons, hk_nx, hk_bk, hk_ct, hk_rt, hn_n, ne_nil, ne_val, ne_own, ne_emp, ax_c, ax_f, List.foldl_cons, List.foldl_nil, List.getElem?_cons_zero, List.getElem?_cons_succ, List.set_cons_zero, List.set_cons_succ, if_true, if_false, ite_true, ite_false, reduceIte, reduceCtorEq, List.length_cons, List.length_nil, List.map_cons, List.map_nil, List.zip_cons_cons, List.zip_nil_left, Option.map_some, Option.map_none, Option.getD_some, Option.getD_none, Option.bind_some, and_true, true_and, and_self, Bool.not_true, Bool.not_false, Bool.or_true, Bool.or_false, Bool.true_or, Bool.false_or, Bool.and_true, Bool.true_and, Bool.and_false, Bool.false_and, decide_true, decide_false, Bool.false_eq_true, fin5 hb hs (k + 2) h]
theorem heard_none (hb : ∀ x ∈ bs, x = 0 ∨ x = 1) (hs : bs.length ≤ 1000) (k : Nat) (h : AH) : calA Pr (k + 11) 53 [.int 5, Mo bs kd sh, Pa bs, .int 3, .int 8] h = .ok (.lst [.str (Str.ofString "none")]) h := by
  rw [u__law_heard]
  unfold B__law_heard
  simp [w_ok, w_err, w_stk, o_ok, o_err, o_stk, t_nx, t_bk, t_ct, t_rt, t_er, t_stk, opt_s, opt_n, c_ok, c_stk, ce_nx, ce_rt, ce_er, ie_nx, ie_er, v_con, slV_v, slP_v, slP_o, v_var, v_peek, v_glo, v_bop, v_neg, neg_i, v_cmp, v_chain, v_and, v_or, v_not, v_ite, v_tup, v_lst, v_lstR, v_dsp, v_dnew, v_sub, v_slc, v_rev, ak_n, ak_s, v_attr, v_call, v_mk, v_bi, v_isi, v_get, v_lc, l_nil, l_star, l_cons, d_nil, d_cons, i_rng, i_enu, i_seq, s_fz', s_exp', s_asg', s_par', s_aug', s_app', s_ret', s_retN', s_ife', s_whl', s_for', s_brk', s_cnt', s_pass', s_raise', s_try', x_nil, x_cons, st_name, st_sub, st_attr, st_tup, sts_nil, sts_cons, stp_nil, stp_cons, fl_nil, fl_cons, fk_nx, fk_ct, fk_bk, fk_rt, fk_er, tv_nx, tv_rt, tv_er, p_addi, p_adds, p_addt, p_addl, p_sub, p_muli, p_mull, p_mult, p_fdv, p_mod, p_pow, p_aadd, p_asub, q_lt, q_le, q_gt, q_ge, q_eq, q_ne, q_is, q_isn, q_in, q_nin, a_bl, r_l, r_t, m_l, m_t, sb_t, sb_l, sb_k, sb_s, sb_d, df_int, df_str, df_tup, df_lst, df_ktup, df_dct, df_obj, df_scr, df_bl, df_non, df_ref, bi_len_l, bi_len_t, bi_len_k, bi_len_s, bi_len_x, bi_len_d, bi_int_i, bi_int_b, bi_str, bi_max, bi_min, bi_all, bi_sum, bi_tup_l, bi_tup_t, bi_lst_l, bi_lst_t, bi_dict, pt_lst, pt_dct, pt_obj, pt_f, pt_m, rg_i, sa_t, sa_l, gv_d, ob_o, bt_n, bt_t, bts_n, bts_c, fg_c, at_o, ty_non, ty_bl, ty_int, ty_str, ty_tup, ty_lst, ty_ktup, ty_dct, ty_scr, ty_obj, tys_n, tys_c, ik_bl, ik_int, ik_str, ik_tup, ik_lst, ik_ktup, ik_dct, ik_scr, ik_non, ik_obj, lc_nil, lc_cons, wp_n, wp_c, oi_n, oi_i, sl_t, sl_l, ns_var, ns_peek, ns_con, ns_glo, ns_bop, ns_neg, ns_cmp, ns_chain, ns_and, ns_or, ns_not, ns_ite, ns_tup, ns_lst, ns_lstR, ns_dsp, ns_dnew, ns_sub, ns_slc, ns_rev, ns_attr, ns_prop, ns_call, ns_mk, ns_meth, ns_bi, ns_isi, ns_get, ns_lc, ns_lc2, ns_dc, ns_rng, ns_enu, ns_seq, ex_var, ex_con, ex_glo, ex_bop, ex_neg, ex_cmp, ex_chain, ex_and, ex_or, ex_not, ex_ite, ex_tup, ex_lst, ex_lstR, ex_dsp, ex_dnew, ex_sub, ex_slc, ex_rev, ex_attr, ex_prop, ex_call, ex_mk, ex_meth, ex_bi, ex_isi, ex_get, ex_lc, ex_lc2, ex_dc, ex_rng, ex_enu, ex_seq, ex_peek, es_e, es_v, es_o, fz_s, fz_o, fz_v, fz_e, pl_p, ps_o, ps_c, pu_s, pu_c, pus_o, puc_s, pur_s, pur_c, il_s, il_c, ils_o, ilc_l, sp_l, ss_l, ss_d, sf_o, ft_n, lt_n, isf_var, isf_peek, isf_con, isf_glo, isf_bop, isf_neg, isf_cmp, isf_chain, isf_and, isf_or, isf_not, isf_ite, isf_tup, isf_lst, isf_lstR, isf_dsp, isf_dnew, isf_sub, isf_slc, isf_rev, isf_attr, isf_prop, isf_call, isf_mk, isf_meth, isf_isi, isf_get, isf_lc, isf_lc2, isf_dc, isf_rng, isf_enu, isf_seq, isf_bi_len, isf_bi_int, isf_bi_str, isf_bi_max, isf_bi_min, isf_bi_all, isf_bi_sum, isf_bi_tuple, isf_bi_list, isf_bi_dict, isf_bi_repr, isf_bi_sorted, hk_nx, hk_bk, hk_ct, hk_rt, hn_n, ne_nil, ne_val, ne_own, ne_emp, ax_c, ax_f, List.foldl_cons, List.foldl_nil, List.getElem?_cons_zero, List.getElem?_cons_succ, List.set_cons_zero, List.set_cons_succ, if_true, if_false, ite_true, ite_false, reduceIte, reduceCtorEq, List.length_cons, List.length_nil, List.map_cons, List.map_nil, List.zip_cons_cons, List.zip_nil_left, Option.map_some, Option.map_none, Option.getD_some, Option.getD_none, Option.bind_some, and_true, true_and, and_self, Bool.not_true, Bool.not_false, Bool.or_true, Bool.or_false, Bool.true_or, Bool.false_or, Bool.and_true, Bool.true_and, Bool.and_false, Bool.false_and, decide_true, decide_false, Bool.false_eq_true, eqi, fin5 hb hs (k + 3) h, z1]
end

end LawT
set_option maxHeartbeats 0
namespace LawT
open PySem AM
theorem cl_past : Cl 4 10 (.str (Str.ofString "past")) := .inl ⟨rfl, rfl, rfl⟩
theorem lay_past : PyData.canLay0 (.str (Str.ofString "past")) = true := by decide +kernel
theorem cl_bits : Cl 3 10 (.str (Str.ofString "bits")) := .inr (.inl ⟨rfl, rfl, rfl⟩)
theorem lay_bits : PyData.canLay0 (.str (Str.ofString "bits")) = true := by decide +kernel
theorem cl_number : Cl 8 11 (.str (Str.ofString "number")) := .inr (.inr (.inl ⟨rfl, rfl, rfl⟩))
theorem lay_number : PyData.canLay0 (.str (Str.ofString "number")) = true := by decide +kernel
theorem cl_fraction : Cl 6 10 (.str (Str.ofString "fraction")) := .inr (.inr (.inr (.inl ⟨rfl, rfl, rfl⟩)))
theorem lay_fraction : PyData.canLay0 (.str (Str.ofString "fraction")) = true := by decide +kernel
theorem cl_code : Cl 9 10 (.str (Str.ofString "code")) := .inr (.inr (.inr (.inr (.inl ⟨rfl, rfl, rfl⟩))))
theorem lay_code : PyData.canLay0 (.str (Str.ofString "code")) = true := by decide +kernel
theorem cl_argument : Cl 7 10 (.str (Str.ofString "argument")) := .inr (.inr (.inr (.inr (.inr ⟨rfl, rfl, rfl⟩))))
theorem lay_argument : PyData.canLay0 (.str (Str.ofString "argument")) = true := by decide +kernel
theorem bits_cases {bs : List Int} (hb : ∀ x ∈ bs, x = 0 ∨ x = 1) (hs : bs.length ≤ 4) (Q : List Int → Prop)
    (q : Q [] ∧ Q [0] ∧ Q [1] ∧ Q [0, 0] ∧ Q [0, 1] ∧ Q [1, 0] ∧ Q [1, 1] ∧ Q [0, 0, 0] ∧ Q [0, 0, 1] ∧ Q [0, 1, 0] ∧ Q [0, 1, 1] ∧ Q [1, 0, 0] ∧ Q [1, 0, 1] ∧ Q [1, 1, 0] ∧ Q [1, 1, 1] ∧ Q [0, 0, 0, 0] ∧ Q [0, 0, 0, 1] ∧ Q [0, 0, 1, 0] ∧ Q [0, 0, 1, 1] ∧ Q [0, 1, 0, 0] ∧ Q [0, 1, 0, 1] ∧ Q [0, 1, 1, 0] ∧ Q [0, 1, 1, 1] ∧ Q [1, 0, 0, 0] ∧ Q [1, 0, 0, 1] ∧ Q [1, 0, 1, 0] ∧ Q [1, 0, 1, 1] ∧ Q [1, 1, 0, 0] ∧ Q [1, 1, 0, 1] ∧ Q [1, 1, 1, 0] ∧ Q [1, 1, 1, 1]) : Q bs := by
  obtain ⟨q0, q1, q2, q3, q4, q5, q6, q7, q8, q9, q10, q11, q12, q13, q14, q15, q16, q17, q18, q19, q20, q21, q22, q23, q24, q25, q26, q27, q28, q29, q30⟩ := q
  rcases bs with _ | ⟨a, _ | ⟨b, _ | ⟨c, _ | ⟨d, _ | ⟨e, r⟩⟩⟩⟩⟩
  · assumption
  · rcases hb a (by simp) with rfl | rfl <;> assumption
  · rcases hb a (by simp) with rfl | rfl <;> rcases hb b (by simp) with rfl | rfl <;> assumption
  · rcases hb a (by simp) with rfl | rfl <;> rcases hb b (by simp) with rfl | rfl <;> rcases hb c (by simp) with rfl | rfl <;> assumption
  · rcases hb a (by simp) with rfl | rfl <;> rcases hb b (by simp) with rfl | rfl <;> rcases hb c (by simp) with rfl | rfl <;> rcases hb d (by simp) with rfl | rfl <;> assumption
  · simp at hs

theorem ok_past {bs : List Int} (hb : ∀ x ∈ bs, x = 0 ∨ x = 1) (hs : bs.length ≤ 4) : okR (Pa bs) = true := bits_cases hb hs (fun bs => okR (Pa bs) = true) (by refine ⟨?_, ?_, ?_, ?_, ?_, ?_, ?_, ?_, ?_, ?_, ?_, ?_, ?_, ?_, ?_, ?_, ?_, ?_, ?_, ?_, ?_, ?_, ?_, ?_, ?_, ?_, ?_, ?_, ?_, ?_, ?_⟩ <;> decide +kernel)
theorem ok_list {bs : List Int} (hb : ∀ x ∈ bs, x = 0 ∨ x = 1) (hs : bs.length ≤ 4) : okR (.lst (bs.map .int)) = true := bits_cases hb hs (fun bs => okR (.lst (bs.map .int)) = true) (by refine ⟨?_, ?_, ?_, ?_, ?_, ?_, ?_, ?_, ?_, ?_, ?_, ?_, ?_, ?_, ?_, ?_, ?_, ?_, ?_, ?_, ?_, ?_, ?_, ?_, ?_, ?_, ?_, ?_, ?_, ?_, ?_⟩ <;> decide +kernel)
theorem ok_more {bs : List Int} (hb : ∀ x ∈ bs, x = 0 ∨ x = 1) (hs : bs.length ≤ 4) : okR (.tup (bs.map .int ++ [.int 0])) = true := bits_cases hb hs (fun bs => okR (.tup (bs.map .int ++ [.int 0])) = true) (by refine ⟨?_, ?_, ?_, ?_, ?_, ?_, ?_, ?_, ?_, ?_, ?_, ?_, ?_, ?_, ?_, ?_, ?_, ?_, ?_, ?_, ?_, ?_, ?_, ?_, ?_, ?_, ?_, ?_, ?_, ?_, ?_⟩ <;> decide +kernel)
def twos (n : Nat) : List AV := (List.replicate ((n : Int) + 1).toNat [AV.int 2]).flatten
theorem twos_len (n : Nat) : (twos n).length = n + 1 := by
  unfold twos
  simp
theorem ok_twos {n : Nat} (hs : n ≤ 4) : okR (.tup (twos n)) = true := by
  rcases n with _ | _ | _ | _ | _ | n
  all_goals first | decide +kernel | omega
def zeros : List AV := (List.replicate (201 : Int).toNat [AV.int 0]).flatten
theorem bb0 : BadB (.non) := fun k h => by kernel_rfl
theorem bb1 : BadB (.lst [.int 0]) := fun k h => by kernel_rfl
theorem bb2 : BadB (.tup [.int 2]) := fun k h => by kernel_rfl
theorem bb3 : BadB (.tup [.bl true]) := fun k h => by kernel_rfl
theorem bb4 : BadB (.str (Str.ofString "01")) := fun k h => by kernel_rfl
theorem bb5 : BadB (.tup zeros) := fun k h => by kernel_rfl
theorem bb6 : BadB (.int 5) := fun k h => by kernel_rfl
theorem nc0 : NoC 0 200 (.non) := fun k h => by kernel_rfl
theorem nc1 : NoC 0 200 (.int (-1)) := fun k h => by kernel_rfl
theorem nc2 : NoC 0 200 (.int 201) := fun k h => by kernel_rfl
theorem nc3 : NoC 0 200 (.bl true) := fun k h => by kernel_rfl
theorem nc4 : NoC 0 200 (.str (Str.ofString "3")) := fun k h => by kernel_rfl
theorem nc5 : NoC 0 200 (.tup [.int 0]) := fun k h => by kernel_rfl
theorem nw0 : NoC 8 64 (.non) := fun k h => by kernel_rfl
theorem nw1 : NoC 8 64 (.int 7) := fun k h => by kernel_rfl
theorem nw2 : NoC 8 64 (.int 65) := fun k h => by kernel_rfl
theorem nw3 : NoC 8 64 (.bl true) := fun k h => by kernel_rfl
theorem nw4 : NoC 8 64 (.str (Str.ofString "8")) := fun k h => by kernel_rfl
theorem nw5 : NoC 8 64 (.tup [.int 8]) := fun k h => by kernel_rfl
theorem nf0 : NoF (.non) := .inl fun k h => by kernel_rfl
theorem nf1 : NoF (.tup [.int (-1), .int 2]) := .inr ⟨-1, 2, rfl, by omega, fun k h => by kernel_rfl⟩
theorem nf2 : NoF (.tup [.int 2, .int 4]) := .inl fun k h => by kernel_rfl
theorem nf3 : NoF (.int 1) := .inl fun k h => by kernel_rfl
theorem nf4 : NoF (.str (Str.ofString "0")) := .inl fun k h => by kernel_rfl
theorem nf5 : NoF (.lst [.int 0, .int 1]) := .inl fun k h => by kernel_rfl
theorem nf6 : NoF (.tup [.int 0, .int 0]) := .inl fun k h => by kernel_rfl
theorem nf7 : NoF (.tup [.bl true, .int 1]) := .inl fun k h => by kernel_rfl
theorem nf8 : NoF (.tup [.int 1, .int 2, .int 3]) := .inl fun k h => by kernel_rfl
theorem okb : OkB (.tup [.int 0, .int 1]) := fun k h => by kernel_rfl
theorem or0 : okR (.non) = true := by decide +kernel
theorem or1 : okR (.lst [.int 0]) = true := by decide +kernel
theorem or2 : okR (.tup [.int 2]) = true := by decide +kernel
theorem or3 : okR (.tup [.bl true]) = true := by decide +kernel
theorem or4 : okR (.str (Str.ofString "01")) = true := by decide +kernel
theorem or6 : okR (.int 5) = true := by decide +kernel
theorem or7 : okR (.int (-1)) = true := by decide +kernel
theorem or8 : okR (.int 201) = true := by decide +kernel
theorem or9 : okR (.bl true) = true := by decide +kernel
theorem or10 : okR (.str (Str.ofString "3")) = true := by decide +kernel
theorem or11 : okR (.tup [.int 0]) = true := by decide +kernel
theorem or12 : okR (.int 7) = true := by decide +kernel
theorem or13 : okR (.int 65) = true := by decide +kernel
theorem or14 : okR (.str (Str.ofString "8")) = true := by decide +kernel
theorem or15 : okR (.tup [.int 8]) = true := by decide +kernel
theorem or16 : okR (.tup [.int (-1), .int 2]) = true := by decide +kernel
theorem or17 : okR (.tup [.int 2, .int 4]) = true := by decide +kernel
theorem or18 : okR (.int 1) = true := by decide +kernel
theorem or19 : okR (.str (Str.ofString "0")) = true := by decide +kernel
theorem or20 : okR (.lst [.int 0, .int 1]) = true := by decide +kernel
theorem or21 : okR (.tup [.int 0, .int 0]) = true := by decide +kernel
theorem or22 : okR (.tup [.bl true, .int 1]) = true := by decide +kernel
theorem or23 : okR (.tup [.int 1, .int 2, .int 3]) = true := by decide +kernel
theorem or24 : okR (.str (Str.ofString "model")) = true := by decide +kernel
theorem or25 : okR (.int 3) = true := by decide +kernel
theorem rep2 {α : Type} (x : α) : (List.replicate 2 [x]).flatten = [x, x] := rfl
theorem eq_x2 {t s : Str} (h1 : PyData.canLay0 (.str t) = true) (h2 : PyData.canLay0 (.str s) = true) : eqAV (.lst [.lst [.str t, .str s], .lst [.str t, .str s]]) (.lst [.lst [.str t, .str s], .lst [.str t, .str s]]) = some true := eq_rowsN h1 h2 2
theorem ro2 : repOk 1 2 = true := by decide
theorem tn2 : Int.toNat 2 = 2 := rfl
theorem rep3 {α : Type} (x : α) : (List.replicate 3 [x]).flatten = [x, x, x] := rfl
theorem eq_x3 {t s : Str} (h1 : PyData.canLay0 (.str t) = true) (h2 : PyData.canLay0 (.str s) = true) : eqAV (.lst [.lst [.str t, .str s], .lst [.str t, .str s], .lst [.str t, .str s]]) (.lst [.lst [.str t, .str s], .lst [.str t, .str s], .lst [.str t, .str s]]) = some true := eq_rowsN h1 h2 3
theorem ro3 : repOk 1 3 = true := by decide
theorem tn3 : Int.toNat 3 = 3 := rfl
theorem rep4 {α : Type} (x : α) : (List.replicate 4 [x]).flatten = [x, x, x, x] := rfl
theorem eq_x4 {t s : Str} (h1 : PyData.canLay0 (.str t) = true) (h2 : PyData.canLay0 (.str s) = true) : eqAV (.lst [.lst [.str t, .str s], .lst [.str t, .str s], .lst [.str t, .str s], .lst [.str t, .str s]]) (.lst [.lst [.str t, .str s], .lst [.str t, .str s], .lst [.str t, .str s], .lst [.str t, .str s]]) = some true := eq_rowsN h1 h2 4
theorem ro4 : repOk 1 4 = true := by decide
theorem tn4 : Int.toNat 4 = 4 := rfl
theorem rep6 {α : Type} (x : α) : (List.replicate 6 [x]).flatten = [x, x, x, x, x, x] := rfl
theorem eq_x6 {t s : Str} (h1 : PyData.canLay0 (.str t) = true) (h2 : PyData.canLay0 (.str s) = true) : eqAV (.lst [.lst [.str t, .str s], .lst [.str t, .str s], .lst [.str t, .str s], .lst [.str t, .str s], .lst [.str t, .str s], .lst [.str t, .str s]]) (.lst [.lst [.str t, .str s], .lst [.str t, .str s], .lst [.str t, .str s], .lst [.str t, .str s], .lst [.str t, .str s], .lst [.str t, .str s]]) = some true := eq_rowsN h1 h2 6
theorem ro6 : repOk 1 6 = true := by decide
theorem tn6 : Int.toNat 6 = 6 := rfl
theorem rng4 : rngL 0 4 = [.int 0, .int 1, .int 2, .int 3] := rfl
theorem rng6 : rngL 0 6 = [.int 0, .int 1, .int 2, .int 3, .int 4, .int 5] := rfl

end LawT
set_option maxHeartbeats 0
namespace LawT
open PySem AM
theorem okS_app {x y : Str} (h1 : PyData.strOk x = true) (h2 : PyData.strOk y = true) : PyData.strOk (x ++ y) = true := by
  unfold PyData.strOk at *
  have e : (x ++ y).cps = x.cps ++ y.cps := rfl
  rw [e, Array.all_append, h1, h2]
  rfl
theorem okS_join : ∀ ts : List Str, (∀ t ∈ ts, PyData.strOk t = true) → PyData.strOk (Str.join (Str.ofString ", ") ts) = true
  | [], _ => by decide +kernel
  | [x], h => h x List.mem_cons_self
  | x :: y :: r, h => by
    have ih := okS_join (y :: r) fun t ht => h t (List.mem_cons_of_mem _ ht)
    exact okS_app (okS_app (h x List.mem_cons_self) (by decide +kernel)) ih
theorem shown_zeros : ∀ n, PyData.shownAll (List.replicate n (.int 0)) = List.replicate n (PyData.shown (.int 0))
  | 0 => rfl
  | n + 1 => by
    show PyData.shown (.int 0) :: PyData.shownAll (List.replicate n (.int 0)) = _
    rw [shown_zeros n]
    rfl
theorem flat_one {α : Type} (x : α) : ∀ n, (List.replicate n [x]).flatten = List.replicate n x
  | 0 => rfl
  | n + 1 => by
    rw [List.replicate_succ, List.flatten_cons, flat_one x n]
    rfl
theorem zeros_eq : zeros = List.replicate 201 (AV.int 0) := flat_one _ 201
theorem dats_zeros : ∀ n, dats (List.replicate n (.int 0)) = some (List.replicate n (.int 0))
  | 0 => rfl
  | n + 1 => by
    show (match some (PyData.int 0), dats (List.replicate n (.int 0)) with
      | some d, some ds => some (d :: ds)
      | _, _ => none) = _
    rw [dats_zeros n]
    rfl
theorem or_zeros : okR (.tup zeros) = true := by
  have hd : dat (.tup zeros) = some (.tuple (List.replicate 201 (.int 0))) := by
    rw [zeros_eq]
    have e : dat (.tup (List.replicate 201 (.int 0))) = (dats (List.replicate 201 (.int 0))).map PyData.tuple := Eq.trans (by rw [dat]) rfl
    rw [e, dats_zeros]
    rfl
  have hs : (PyData.tuple (List.replicate 201 (.int 0))).shown = tupleText (List.replicate 201 (PyData.shown (.int 0))) := by
    show tupleText (PyData.shownAll _) = _
    rw [shown_zeros]
  have hl : (PyData.tuple (List.replicate 201 (.int 0))).shown.length ≤ (8 + 2) * (PyData.tuple (List.replicate 201 (.int 0))).weight + 8 := PyData.shown_le 8 (by omega) _ (by decide +kernel)
  have hw : (PyData.tuple (List.replicate 201 (.int 0))).weight = 201 := by decide +kernel
  have ho : PyData.strOk (PyData.tuple (List.replicate 201 (.int 0))).shown = true := by
    rw [hs]
    unfold tupleText
    refine okS_app (okS_app (by decide +kernel) (okS_join _ fun t ht => ?_)) (by decide +kernel)
    rw [List.eq_of_mem_replicate ht]
    decide +kernel
  unfold okR
  rw [hd]
  show (PyData.showable (PyData.tuple (List.replicate 201 (.int 0))) && (szOk (PyData.tuple (List.replicate 201 (.int 0))).shown.length && (decide ((PyData.tuple (List.replicate 201 (.int 0))).depth ≤ 64) && PyData.strOk (PyData.tuple (List.replicate 201 (.int 0))).shown))) = true
  rw [ho]
  have h1 : PyData.showable (PyData.tuple (List.replicate 201 (.int 0))) = true := by decide +kernel
  have h2 : szOk (PyData.tuple (List.replicate 201 (.int 0))).shown.length = true := by
    unfold szOk
    rw [decide_eq_true_eq]
    omega
  have h3 : decide ((PyData.tuple (List.replicate 201 (.int 0))).depth ≤ 64) = true := by decide +kernel
  rw [h1, h2, h3]
  rfl

end LawT
set_option maxHeartbeats 0
namespace LawT
open PySem AM
def lawFor : Tg × Ex × List AM.St := match B_law with
  | .for_ t i b :: _ => (t, i, b)
  | _ => (.bad, .bad, [])
def fr8 (cs : List Int) (i : Int) (n : Nat) (d : Int) (kd sh : AV) (bs : List Int) (s4 s7 : Sl) : Fr := [.val (.scr cs), .val (.int i), .val (.ref n), .val (gameV d kd sh), s4, .val (Mo bs kd sh), .val (Pa bs), s7]
section
variable (k : Nat) (h : AH) (cs : List Int) (i : Int) (n : Nat) (kd sh : AV) (bs : List Int) (s4 s7 : Sl)
theorem g_depth {h : AH} {d : Int} {kd sh : AV} : subAV (deref h (gameV d kd sh)) (.str (Str.ofString "depth")) = some (.int d) := by
  have e : deref h (gameV d kd sh) = gameV d kd sh := rfl
  rw [e]
  unfold gameV
  rw [sb_d, if_pos (keyS _)]
  exact (game_at d kd sh).1
theorem zz : (List.replicate (Int.toNat 201) [AV.int 0]).flatten = zeros := rfl
theorem ro201 : repOk 1 201 = true := by decide
theorem ro_n {n : Nat} (hs : n ≤ 4) : repOk 1 ((n : Int) + 1) = true := by
  rcases n with _ | _ | _ | _ | _ | n
  all_goals first | decide | omega
theorem tw_n {n : Nat} : (List.replicate ((n : Int) + 1).toNat [AV.int 2]).flatten = twos n := rfl
theorem sz_n {n : Nat} (hs : n ≤ 4) : szOk (n + 1) = true := by
  unfold szOk
  rw [decide_eq_true_eq]
  omega
theorem smallZ : smallI 0 = true ∧ smallI 6 = true ∧ smallI 4 = true := by decide
theorem szs : szOk 1 = true ∧ szOk 2 = true ∧ szOk 3 = true ∧ szOk 4 = true ∧ szOk 6 = true ∧ szOk 7 = true ∧ szOk 5 = true ∧ szOk 9 = true := by decide
end

end LawT
set_option maxHeartbeats 0
namespace LawT
open PySem AM
section
variable (k : Nat) (h : AH) (cs : List Int) (i : Int) (n : Nat) (kd sh : AV) (bs : List Int) (s4 s7 : Sl)
theorem loop1 (hb : ∀ x ∈ bs, x = 0 ∨ x = 1) (hs : bs.length ≤ 4) : exS Pr (calA Pr (k + 11)) (iniA Pr (k + 11)) (lawFor.2.2.getD 3 .bad) (fr8 cs i n bs.length kd sh bs s4 s7) h = .nx (fr8 cs i n bs.length kd sh bs (.val (.int 3)) s7) h := by
  have hs2 : bs.length ≤ 1000 := by omega
  obtain ⟨y1, y2, y3⟩ := smallZ
  obtain ⟨x1, x2, x3, x4, x5, x6, x7, x8⟩ := szs
  obtain ⟨t0, p0, l0⟩ := rp_of (v := .non) (or0)
  have f0_0 := heard0 k h (m := .non) (p := .non) (o := .non) (wd := .non) (er0 (ec_model rfl)) cl_argument p0
  have f0_1 := heard1 k h (m := .non) (p := .non) (o := .non) (wd := .non) (er1 (er0' (ec_model rfl))) cl_argument p0
  have f0_2 := heard2 k h (m := .non) (p := .non) (o := .non) (wd := .non) (er2 (ec_model rfl)) cl_argument p0
  have f0_3 := heard3 k h (m := .non) (p := .non) (o := .non) (wd := .non) (er3 (ec_model rfl)) cl_argument p0
  have f0_4 := heard4 k h (m := .non) (p := .non) (o := .non) (wd := .non) (er4 (er5' (ek_model rfl))) cl_argument p0
  have f0_5 := heard5 k h (m := .non) (p := .non) (o := .non) (wd := .non) (er5 (ek_model rfl)) cl_argument p0
  have e0_6 := eq_x6 lay_argument l0
  obtain ⟨t1, p1, l1⟩ := rp_of (v := .str (Str.ofString "model")) (or24)
  have f1_0 := heard0 k h (m := .str (Str.ofString "model")) (p := .non) (o := .non) (wd := .non) (er0 (ec_model rfl)) cl_argument p1
  have f1_1 := heard1 k h (m := .str (Str.ofString "model")) (p := .non) (o := .non) (wd := .non) (er1 (er0' (ec_model rfl))) cl_argument p1
  have f1_2 := heard2 k h (m := .str (Str.ofString "model")) (p := .non) (o := .non) (wd := .non) (er2 (ec_model rfl)) cl_argument p1
  have f1_3 := heard3 k h (m := .str (Str.ofString "model")) (p := .non) (o := .non) (wd := .non) (er3 (ec_model rfl)) cl_argument p1
  have f1_4 := heard4 k h (m := .str (Str.ofString "model")) (p := .non) (o := .non) (wd := .non) (er4 (er5' (ek_model rfl))) cl_argument p1
  have f1_5 := heard5 k h (m := .str (Str.ofString "model")) (p := .non) (o := .non) (wd := .non) (er5 (ek_model rfl)) cl_argument p1
  have e1_6 := eq_x6 lay_argument l1
  obtain ⟨t2, p2, l2⟩ := rp_of (v := Pa bs) (ok_past hb hs)
  have f2_0 := heard0 k h (m := Pa bs) (p := .non) (o := .non) (wd := .non) (er0 (ec_model rfl)) cl_argument p2
  have f2_1 := heard1 k h (m := Pa bs) (p := .non) (o := .non) (wd := .non) (er1 (er0' (ec_model rfl))) cl_argument p2
  have f2_2 := heard2 k h (m := Pa bs) (p := .non) (o := .non) (wd := .non) (er2 (ec_model rfl)) cl_argument p2
  have f2_3 := heard3 k h (m := Pa bs) (p := .non) (o := .non) (wd := .non) (er3 (ec_model rfl)) cl_argument p2
  have f2_4 := heard4 k h (m := Pa bs) (p := .non) (o := .non) (wd := .non) (er4 (er5' (ek_model rfl))) cl_argument p2
  have f2_5 := heard5 k h (m := Pa bs) (p := .non) (o := .non) (wd := .non) (er5 (ek_model rfl)) cl_argument p2
  have e2_6 := eq_x6 lay_argument l2
  obtain ⟨t3, p3, l3⟩ := rp_of (v := .int 3) (or25)
  have f3_0 := heard0 k h (m := .int 3) (p := .non) (o := .non) (wd := .non) (er0 (ec_model rfl)) cl_argument p3
  have f3_1 := heard1 k h (m := .int 3) (p := .non) (o := .non) (wd := .non) (er1 (er0' (ec_model rfl))) cl_argument p3
  have f3_2 := heard2 k h (m := .int 3) (p := .non) (o := .non) (wd := .non) (er2 (ec_model rfl)) cl_argument p3
  have f3_3 := heard3 k h (m := .int 3) (p := .non) (o := .non) (wd := .non) (er3 (ec_model rfl)) cl_argument p3
  have f3_4 := heard4 k h (m := .int 3) (p := .non) (o := .non) (wd := .non) (er4 (er5' (ek_model rfl))) cl_argument p3
  have f3_5 := heard5 k h (m := .int 3) (p := .non) (o := .non) (wd := .non) (er5 (ek_model rfl)) cl_argument p3
  have e3_6 := eq_x6 lay_argument l3
  simp only [lawFor, B_law, List.drop_succ_cons, List.drop_zero, List.getD_cons_zero, List.getD_cons_succ, fr8]
  simp only [w_ok, w_err, w_stk, o_ok, o_err, o_stk, t_nx, t_bk, t_ct, t_rt, t_er, t_stk, opt_s, opt_n, c_ok, c_stk, ce_nx, ce_rt, ce_er, ie_nx, ie_er, v_con, slV_v, slP_v, slP_o, v_var, v_peek, v_glo, v_bop, v_neg, neg_i, v_cmp, v_chain, v_and, v_or, v_not, v_ite, v_tup, v_lst, v_lstR, v_dsp, v_dnew, v_sub, v_slc, v_rev, ak_n, ak_s, v_attr, v_call, v_mk, v_bi, v_isi, v_get, v_lc, l_nil, l_star, l_cons, d_nil, d_cons, i_rng, i_enu, i_seq, s_fz', s_exp', s_asg', s_par', s_aug', s_app', s_ret', s_retN', s_ife', s_whl', s_for', s_brk', s_cnt', s_pass', s_raise', s_try', x_nil, x_cons, st_name, st_sub, st_attr, st_tup, sts_nil, sts_cons, stp_nil, stp_cons, fl_nil, fl_cons, fk_nx, fk_ct, fk_bk, fk_rt, fk_er, tv_nx, tv_rt, tv_er, p_addi, p_adds, p_addt, p_addl, p_sub, p_muli, p_mull, p_mult, p_fdv, p_mod, p_pow, p_aadd, p_asub, q_lt, q_le, q_gt, q_ge, q_eq, q_ne, q_is, q_isn, q_in, q_nin, a_bl, r_l, r_t, m_l, m_t, sb_t, sb_l, sb_k, sb_s, sb_d, df_int, df_str, df_tup, df_lst, df_ktup, df_dct, df_obj, df_scr, df_bl, df_non, df_ref, bi_len_l, bi_len_t, bi_len_k, bi_len_s, bi_len_x, bi_len_d, bi_int_i, bi_int_b, bi_str, bi_max, bi_min, bi_all, bi_sum, bi_tup_l, bi_tup_t, bi_lst_l, bi_lst_t, bi_dict, pt_lst, pt_dct, pt_obj, pt_f, pt_m, rg_i, sa_t, sa_l, gv_d, ob_o, bt_n, bt_t, bts_n, bts_c, fg_c, at_o, ty_non, ty_bl, ty_int, ty_str, ty_tup, ty_lst, ty_ktup, ty_dct, ty_scr, ty_obj, tys_n, tys_c, ik_bl, ik_int, ik_str, ik_tup, ik_lst, ik_ktup, ik_dct, ik_scr, ik_non, ik_obj, lc_nil, lc_cons, wp_n, wp_c, oi_n, oi_i, sl_t, sl_l, ns_var, ns_peek, ns_con, ns_glo, ns_bop, ns_neg, ns_cmp, ns_chain, ns_and, ns_or, ns_not, ns_ite, ns_tup, ns_lst, ns_lstR, ns_dsp, ns_dnew, ns_sub, ns_slc, ns_rev, ns_attr, ns_prop, ns_call, ns_mk, ns_meth, ns_bi, ns_isi, ns_get, ns_lc, ns_lc2, ns_dc, ns_rng, ns_enu, ns_seq, ex_var, ex_con, ex_glo, ex_bop, ex_neg, ex_cmp, ex_chain, ex_and, ex_or, ex_not, ex_ite, ex_tup, ex_lst, ex_lstR, ex_dsp, ex_dnew, ex_sub, ex_slc, ex_rev, ex_attr, ex_prop, ex_call, ex_mk, ex_meth, ex_bi, ex_isi, ex_get, ex_lc, ex_lc2, ex_dc, ex_rng, ex_enu, ex_seq, ex_peek, es_e, es_v, es_o, fz_s, fz_o, fz_v, fz_e, pl_p, ps_o, ps_c, pu_s, pu_c, pus_o, puc_s, pur_s, pur_c, il_s, il_c, ils_o, ilc_l, sp_l, ss_l, ss_d, sf_o, ft_n, lt_n, isf_var, isf_peek, isf_con, isf_glo, isf_bop, isf_neg, isf_cmp, isf_chain, isf_and, isf_or, isf_not, isf_ite, isf_tup, isf_lst, isf_lstR, isf_dsp, isf_dnew, isf_sub, isf_slc, isf_rev, isf_attr, isf_prop, isf_call, isf_mk, isf_meth, isf_isi, isf_get, isf_lc, isf_lc2, isf_dc, isf_rng, isf_enu, isf_seq, isf_bi_len, isf_bi_int, isf_bi_str, isf_bi_max, isf_bi_min, isf_bi_all, isf_bi_sum, isf_bi_tuple, isf_bi_list, isf_bi_dict, isf_bi_repr, isf_bi_sorted, xh_nil, xh_cons, hk_nx, hk_bk, hk_ct, hk_rt, hn_n, ne_nil, ne_val, ne_own, ne_emp, ax_c, ax_f, List.foldl_cons, List.foldl_nil, List.getElem?_cons_zero, List.getElem?_cons_succ, List.set_cons_zero, List.set_cons_succ, if_true, if_false, ite_true, ite_false, reduceIte, reduceCtorEq, List.length_cons, List.length_nil, List.map_cons, List.map_nil, List.zip_cons_cons, List.zip_nil_left, Option.map_some, Option.map_none, Option.getD_some, Option.getD_none, Option.bind_some, and_true, true_and, and_self, Bool.not_true, Bool.not_false, Bool.or_true, Bool.or_false, Bool.true_or, Bool.false_or, Bool.and_true, Bool.true_and, Bool.and_false, Bool.false_and, decide_true, decide_false, Bool.false_eq_true, p0, f0_0, f0_1, f0_2, f0_3, f0_4, f0_5, e0_6, p1, f1_0, f1_1, f1_2, f1_3, f1_4, f1_5, e1_6, p2, f2_0, f2_1, f2_2, f2_3, f2_4, f2_5, e2_6, p3, f3_0, f3_1, f3_2, f3_3, f3_4, f3_5, e3_6, y1, y2, y3, x1, x2, x3, x4, x5, x6, x7, x8, rng4, rng6, Nat.reduceAdd, Int.sub_zero, rep2, rep3, rep4, rep6, tn2, tn3, tn4, tn6, ro2, ro3, ro4, ro6]
end

end LawT
set_option maxHeartbeats 0
namespace LawT
open PySem AM
section
variable (k : Nat) (h : AH) (cs : List Int) (i : Int) (n : Nat) (kd sh : AV) (bs : List Int) (s4 s7 : Sl)
theorem loop2 (hb : ∀ x ∈ bs, x = 0 ∨ x = 1) (hs : bs.length ≤ 4) : exS Pr (calA Pr (k + 11)) (iniA Pr (k + 11)) (lawFor.2.2.getD 4 .bad) (fr8 cs i n bs.length kd sh bs s4 s7) h = .nx (fr8 cs i n bs.length kd sh bs (.val (.tup (twos bs.length))) s7) h := by
  have hs2 : bs.length ≤ 1000 := by omega
  obtain ⟨y1, y2, y3⟩ := smallZ
  obtain ⟨x1, x2, x3, x4, x5, x6, x7, x8⟩ := szs
  obtain ⟨t0, p0, l0⟩ := rp_of (v := .non) (or0)
  have f0_0 := heard0 k h (m := Mo bs kd sh) (p := .non) (o := .non) (wd := .non) (er0 (ec_past (bp_no rfl))) cl_past p0
  have f0_1 := heard1 k h (m := Mo bs kd sh) (p := .non) (o := .non) (wd := .non) (er1 (er0' (ec_past (bp_no rfl)))) cl_past p0
  have f0_2 := heard2 k h (m := Mo bs kd sh) (p := .non) (o := .non) (wd := .non) (er2 (ec_past (bp_no rfl))) cl_past p0
  have f0_3 := heard3 k h (m := Mo bs kd sh) (p := .non) (o := .non) (wd := .non) (er3 (ec_past (bp_no rfl))) cl_past p0
  have f0_4 := heard4 k h (m := Mo bs kd sh) (p := .non) (o := .non) (wd := .non) (er4 (er5' (ek_past (bp_no rfl)))) cl_past p0
  have f0_5 := heard5 k h (m := Mo bs kd sh) (p := .non) (o := .non) (wd := .non) (er5 (ek_past (bp_no rfl))) cl_past p0
  have e0_6 := eq_x6 lay_past l0
  obtain ⟨t1, p1, l1⟩ := rp_of (v := .lst (bs.map .int)) (ok_list hb hs)
  have f1_0 := heard0 k h (m := Mo bs kd sh) (p := .lst (bs.map .int)) (o := .non) (wd := .non) (er0 (ec_past (bp_no rfl))) cl_past p1
  have f1_1 := heard1 k h (m := Mo bs kd sh) (p := .lst (bs.map .int)) (o := .non) (wd := .non) (er1 (er0' (ec_past (bp_no rfl)))) cl_past p1
  have f1_2 := heard2 k h (m := Mo bs kd sh) (p := .lst (bs.map .int)) (o := .non) (wd := .non) (er2 (ec_past (bp_no rfl))) cl_past p1
  have f1_3 := heard3 k h (m := Mo bs kd sh) (p := .lst (bs.map .int)) (o := .non) (wd := .non) (er3 (ec_past (bp_no rfl))) cl_past p1
  have f1_4 := heard4 k h (m := Mo bs kd sh) (p := .lst (bs.map .int)) (o := .non) (wd := .non) (er4 (er5' (ek_past (bp_no rfl)))) cl_past p1
  have f1_5 := heard5 k h (m := Mo bs kd sh) (p := .lst (bs.map .int)) (o := .non) (wd := .non) (er5 (ek_past (bp_no rfl))) cl_past p1
  have e1_6 := eq_x6 lay_past l1
  obtain ⟨t2, p2, l2⟩ := rp_of (v := .tup (bs.map .int ++ [.int 0])) (ok_more hb hs)
  have f2_0 := heard0 k h (m := Mo bs kd sh) (p := .tup (bs.map .int ++ [.int 0])) (o := .non) (wd := .non) (er0 (ec_past (bp_len (by simp; omega)))) cl_past p2
  have f2_1 := heard1 k h (m := Mo bs kd sh) (p := .tup (bs.map .int ++ [.int 0])) (o := .non) (wd := .non) (er1 (er0' (ec_past (bp_len (by simp; omega))))) cl_past p2
  have f2_2 := heard2 k h (m := Mo bs kd sh) (p := .tup (bs.map .int ++ [.int 0])) (o := .non) (wd := .non) (er2 (ec_past (bp_len (by simp; omega)))) cl_past p2
  have f2_3 := heard3 k h (m := Mo bs kd sh) (p := .tup (bs.map .int ++ [.int 0])) (o := .non) (wd := .non) (er3 (ec_past (bp_len (by simp; omega)))) cl_past p2
  have f2_4 := heard4 k h (m := Mo bs kd sh) (p := .tup (bs.map .int ++ [.int 0])) (o := .non) (wd := .non) (er4 (er5' (ek_past (bp_len (by simp; omega))))) cl_past p2
  have f2_5 := heard5 k h (m := Mo bs kd sh) (p := .tup (bs.map .int ++ [.int 0])) (o := .non) (wd := .non) (er5 (ek_past (bp_len (by simp; omega)))) cl_past p2
  have e2_6 := eq_x6 lay_past l2
  obtain ⟨t3, p3, l3⟩ := rp_of (v := .str (Str.ofString "0")) (or19)
  have f3_0 := heard0 k h (m := Mo bs kd sh) (p := .str (Str.ofString "0")) (o := .non) (wd := .non) (er0 (ec_past (bp_no rfl))) cl_past p3
  have f3_1 := heard1 k h (m := Mo bs kd sh) (p := .str (Str.ofString "0")) (o := .non) (wd := .non) (er1 (er0' (ec_past (bp_no rfl)))) cl_past p3
  have f3_2 := heard2 k h (m := Mo bs kd sh) (p := .str (Str.ofString "0")) (o := .non) (wd := .non) (er2 (ec_past (bp_no rfl))) cl_past p3
  have f3_3 := heard3 k h (m := Mo bs kd sh) (p := .str (Str.ofString "0")) (o := .non) (wd := .non) (er3 (ec_past (bp_no rfl))) cl_past p3
  have f3_4 := heard4 k h (m := Mo bs kd sh) (p := .str (Str.ofString "0")) (o := .non) (wd := .non) (er4 (er5' (ek_past (bp_no rfl)))) cl_past p3
  have f3_5 := heard5 k h (m := Mo bs kd sh) (p := .str (Str.ofString "0")) (o := .non) (wd := .non) (er5 (ek_past (bp_no rfl))) cl_past p3
  have e3_6 := eq_x6 lay_past l3
  obtain ⟨t4, p4, l4⟩ := rp_of (v := .tup (twos bs.length)) (ok_twos hs)
  have f4_0 := heard0 k h (m := Mo bs kd sh) (p := .tup (twos bs.length)) (o := .non) (wd := .non) (er0 (ec_past (bp_len (by rw [twos_len]; omega)))) cl_past p4
  have f4_1 := heard1 k h (m := Mo bs kd sh) (p := .tup (twos bs.length)) (o := .non) (wd := .non) (er1 (er0' (ec_past (bp_len (by rw [twos_len]; omega))))) cl_past p4
  have f4_2 := heard2 k h (m := Mo bs kd sh) (p := .tup (twos bs.length)) (o := .non) (wd := .non) (er2 (ec_past (bp_len (by rw [twos_len]; omega)))) cl_past p4
  have f4_3 := heard3 k h (m := Mo bs kd sh) (p := .tup (twos bs.length)) (o := .non) (wd := .non) (er3 (ec_past (bp_len (by rw [twos_len]; omega)))) cl_past p4
  have f4_4 := heard4 k h (m := Mo bs kd sh) (p := .tup (twos bs.length)) (o := .non) (wd := .non) (er4 (er5' (ek_past (bp_len (by rw [twos_len]; omega))))) cl_past p4
  have f4_5 := heard5 k h (m := Mo bs kd sh) (p := .tup (twos bs.length)) (o := .non) (wd := .non) (er5 (ek_past (bp_len (by rw [twos_len]; omega)))) cl_past p4
  have e4_6 := eq_x6 lay_past l4
  simp only [lawFor, B_law, List.drop_succ_cons, List.drop_zero, List.getD_cons_zero, List.getD_cons_succ, fr8]
  simp only [w_ok, w_err, w_stk, o_ok, o_err, o_stk, t_nx, t_bk, t_ct, t_rt, t_er, t_stk, opt_s, opt_n, c_ok, c_stk, ce_nx, ce_rt, ce_er, ie_nx, ie_er, v_con, slV_v, slP_v, slP_o, v_var, v_peek, v_glo, v_bop, v_neg, neg_i, v_cmp, v_chain, v_and, v_or, v_not, v_ite, v_tup, v_lst, v_lstR, v_dsp, v_dnew, v_sub, v_slc, v_rev, ak_n, ak_s, v_attr, v_call, v_mk, v_bi, v_isi, v_get, v_lc, l_nil, l_star, l_cons, d_nil, d_cons, i_rng, i_enu, i_seq, s_fz', s_exp', s_asg', s_par', s_aug', s_app', s_ret', s_retN', s_ife', s_whl', s_for', s_brk', s_cnt', s_pass', s_raise', s_try', x_nil, x_cons, st_name, st_sub, st_attr, st_tup, sts_nil, sts_cons, stp_nil, stp_cons, fl_nil, fl_cons, fk_nx, fk_ct, fk_bk, fk_rt, fk_er, tv_nx, tv_rt, tv_er, p_addi, p_adds, p_addt, p_addl, p_sub, p_muli, p_mull, p_mult, p_fdv, p_mod, p_pow, p_aadd, p_asub, q_lt, q_le, q_gt, q_ge, q_eq, q_ne, q_is, q_isn, q_in, q_nin, a_bl, r_l, r_t, m_l, m_t, sb_t, sb_l, sb_k, sb_s, sb_d, df_int, df_str, df_tup, df_lst, df_ktup, df_dct, df_obj, df_scr, df_bl, df_non, df_ref, bi_len_l, bi_len_t, bi_len_k, bi_len_s, bi_len_x, bi_len_d, bi_int_i, bi_int_b, bi_str, bi_max, bi_min, bi_all, bi_sum, bi_tup_l, bi_tup_t, bi_lst_l, bi_lst_t, bi_dict, pt_lst, pt_dct, pt_obj, pt_f, pt_m, rg_i, sa_t, sa_l, gv_d, ob_o, bt_n, bt_t, bts_n, bts_c, fg_c, at_o, ty_non, ty_bl, ty_int, ty_str, ty_tup, ty_lst, ty_ktup, ty_dct, ty_scr, ty_obj, tys_n, tys_c, ik_bl, ik_int, ik_str, ik_tup, ik_lst, ik_ktup, ik_dct, ik_scr, ik_non, ik_obj, lc_nil, lc_cons, wp_n, wp_c, oi_n, oi_i, sl_t, sl_l, ns_var, ns_peek, ns_con, ns_glo, ns_bop, ns_neg, ns_cmp, ns_chain, ns_and, ns_or, ns_not, ns_ite, ns_tup, ns_lst, ns_lstR, ns_dsp, ns_dnew, ns_sub, ns_slc, ns_rev, ns_attr, ns_prop, ns_call, ns_mk, ns_meth, ns_bi, ns_isi, ns_get, ns_lc, ns_lc2, ns_dc, ns_rng, ns_enu, ns_seq, ex_var, ex_con, ex_glo, ex_bop, ex_neg, ex_cmp, ex_chain, ex_and, ex_or, ex_not, ex_ite, ex_tup, ex_lst, ex_lstR, ex_dsp, ex_dnew, ex_sub, ex_slc, ex_rev, ex_attr, ex_prop, ex_call, ex_mk, ex_meth, ex_bi, ex_isi, ex_get, ex_lc, ex_lc2, ex_dc, ex_rng, ex_enu, ex_seq, ex_peek, es_e, es_v, es_o, fz_s, fz_o, fz_v, fz_e, pl_p, ps_o, ps_c, pu_s, pu_c, pus_o, puc_s, pur_s, pur_c, il_s, il_c, ils_o, ilc_l, sp_l, ss_l, ss_d, sf_o, ft_n, lt_n, isf_var, isf_peek, isf_con, isf_glo, isf_bop, isf_neg, isf_cmp, isf_chain, isf_and, isf_or, isf_not, isf_ite, isf_tup, isf_lst, isf_lstR, isf_dsp, isf_dnew, isf_sub, isf_slc, isf_rev, isf_attr, isf_prop, isf_call, isf_mk, isf_meth, isf_isi, isf_get, isf_lc, isf_lc2, isf_dc, isf_rng, isf_enu, isf_seq, isf_bi_len, isf_bi_int, isf_bi_str, isf_bi_max, isf_bi_min, isf_bi_all, isf_bi_sum, isf_bi_tuple, isf_bi_list, isf_bi_dict, isf_bi_repr, isf_bi_sorted, xh_nil, xh_cons, hk_nx, hk_bk, hk_ct, hk_rt, hn_n, ne_nil, ne_val, ne_own, ne_emp, ax_c, ax_f, List.foldl_cons, List.foldl_nil, List.getElem?_cons_zero, List.getElem?_cons_succ, List.set_cons_zero, List.set_cons_succ, if_true, if_false, ite_true, ite_false, reduceIte, reduceCtorEq, List.length_cons, List.length_nil, List.map_cons, List.map_nil, List.zip_cons_cons, List.zip_nil_left, Option.map_some, Option.map_none, Option.getD_some, Option.getD_none, Option.bind_some, and_true, true_and, and_self, Bool.not_true, Bool.not_false, Bool.or_true, Bool.or_false, Bool.true_or, Bool.false_or, Bool.and_true, Bool.true_and, Bool.and_false, Bool.false_and, decide_true, decide_false, Bool.false_eq_true, p0, f0_0, f0_1, f0_2, f0_3, f0_4, f0_5, e0_6, p1, f1_0, f1_1, f1_2, f1_3, f1_4, f1_5, e1_6, p2, f2_0, f2_1, f2_2, f2_3, f2_4, f2_5, e2_6, p3, f3_0, f3_1, f3_2, f3_3, f3_4, f3_5, e3_6, p4, f4_0, f4_1, f4_2, f4_3, f4_4, f4_5, e4_6, y1, y2, y3, x1, x2, x3, x4, x5, x6, x7, x8, rng4, rng6, Nat.reduceAdd, Int.sub_zero, rep2, rep3, rep4, rep6, tn2, tn3, tn4, tn6, ro2, ro3, ro4, ro6, g_depth, ro_n hs, tw_n, sz_n hs, List.length_map]
end

end LawT
set_option maxHeartbeats 0
namespace LawT
open PySem AM
section
variable (k : Nat) (h : AH) (cs : List Int) (i : Int) (n : Nat) (kd sh : AV) (bs : List Int) (s4 s7 : Sl)
theorem loop3 (hb : ∀ x ∈ bs, x = 0 ∨ x = 1) (hs : bs.length ≤ 4) : exS Pr (calA Pr (k + 11)) (iniA Pr (k + 11)) (lawFor.2.2.getD 5 .bad) (fr8 cs i n bs.length kd sh bs s4 s7) h = .nx (fr8 cs i n bs.length kd sh bs (.val (.int 5)) s7) h := by
  have hs2 : bs.length ≤ 1000 := by omega
  obtain ⟨y1, y2, y3⟩ := smallZ
  obtain ⟨x1, x2, x3, x4, x5, x6, x7, x8⟩ := szs
  obtain ⟨t0, p0, l0⟩ := rp_of (v := .non) (or0)
  have f0_0 := heard0 k h (m := Mo bs kd sh) (p := Pa bs) (o := .non) (wd := .non) (er0 (ec_bits hb hs2 bb0)) cl_bits p0
  have f0_1 := heard1 k h (m := Mo bs kd sh) (p := Pa bs) (o := .non) (wd := .non) (er1 (er0' (ec_bits hb hs2 bb0))) cl_bits p0
  have f0_2 := heard2 k h (m := Mo bs kd sh) (p := Pa bs) (o := .non) (wd := .non) (er2 (ec_bits hb hs2 bb0)) cl_bits p0
  have f0_3 := heard3 k h (m := Mo bs kd sh) (p := Pa bs) (o := .non) (wd := .non) (er3 (ec_bits hb hs2 bb0)) cl_bits p0
  have e0_4 := eq_x4 lay_bits l0
  obtain ⟨t1, p1, l1⟩ := rp_of (v := .lst [.int 0]) (or1)
  have f1_0 := heard0 k h (m := Mo bs kd sh) (p := Pa bs) (o := .lst [.int 0]) (wd := .non) (er0 (ec_bits hb hs2 bb1)) cl_bits p1
  have f1_1 := heard1 k h (m := Mo bs kd sh) (p := Pa bs) (o := .lst [.int 0]) (wd := .non) (er1 (er0' (ec_bits hb hs2 bb1))) cl_bits p1
  have f1_2 := heard2 k h (m := Mo bs kd sh) (p := Pa bs) (o := .lst [.int 0]) (wd := .non) (er2 (ec_bits hb hs2 bb1)) cl_bits p1
  have f1_3 := heard3 k h (m := Mo bs kd sh) (p := Pa bs) (o := .lst [.int 0]) (wd := .non) (er3 (ec_bits hb hs2 bb1)) cl_bits p1
  have e1_4 := eq_x4 lay_bits l1
  obtain ⟨t2, p2, l2⟩ := rp_of (v := .tup [.int 2]) (or2)
  have f2_0 := heard0 k h (m := Mo bs kd sh) (p := Pa bs) (o := .tup [.int 2]) (wd := .non) (er0 (ec_bits hb hs2 bb2)) cl_bits p2
  have f2_1 := heard1 k h (m := Mo bs kd sh) (p := Pa bs) (o := .tup [.int 2]) (wd := .non) (er1 (er0' (ec_bits hb hs2 bb2))) cl_bits p2
  have f2_2 := heard2 k h (m := Mo bs kd sh) (p := Pa bs) (o := .tup [.int 2]) (wd := .non) (er2 (ec_bits hb hs2 bb2)) cl_bits p2
  have f2_3 := heard3 k h (m := Mo bs kd sh) (p := Pa bs) (o := .tup [.int 2]) (wd := .non) (er3 (ec_bits hb hs2 bb2)) cl_bits p2
  have e2_4 := eq_x4 lay_bits l2
  obtain ⟨t3, p3, l3⟩ := rp_of (v := .tup [.bl true]) (or3)
  have f3_0 := heard0 k h (m := Mo bs kd sh) (p := Pa bs) (o := .tup [.bl true]) (wd := .non) (er0 (ec_bits hb hs2 bb3)) cl_bits p3
  have f3_1 := heard1 k h (m := Mo bs kd sh) (p := Pa bs) (o := .tup [.bl true]) (wd := .non) (er1 (er0' (ec_bits hb hs2 bb3))) cl_bits p3
  have f3_2 := heard2 k h (m := Mo bs kd sh) (p := Pa bs) (o := .tup [.bl true]) (wd := .non) (er2 (ec_bits hb hs2 bb3)) cl_bits p3
  have f3_3 := heard3 k h (m := Mo bs kd sh) (p := Pa bs) (o := .tup [.bl true]) (wd := .non) (er3 (ec_bits hb hs2 bb3)) cl_bits p3
  have e3_4 := eq_x4 lay_bits l3
  obtain ⟨t4, p4, l4⟩ := rp_of (v := .str (Str.ofString "01")) (or4)
  have f4_0 := heard0 k h (m := Mo bs kd sh) (p := Pa bs) (o := .str (Str.ofString "01")) (wd := .non) (er0 (ec_bits hb hs2 bb4)) cl_bits p4
  have f4_1 := heard1 k h (m := Mo bs kd sh) (p := Pa bs) (o := .str (Str.ofString "01")) (wd := .non) (er1 (er0' (ec_bits hb hs2 bb4))) cl_bits p4
  have f4_2 := heard2 k h (m := Mo bs kd sh) (p := Pa bs) (o := .str (Str.ofString "01")) (wd := .non) (er2 (ec_bits hb hs2 bb4)) cl_bits p4
  have f4_3 := heard3 k h (m := Mo bs kd sh) (p := Pa bs) (o := .str (Str.ofString "01")) (wd := .non) (er3 (ec_bits hb hs2 bb4)) cl_bits p4
  have e4_4 := eq_x4 lay_bits l4
  obtain ⟨t5, p5, l5⟩ := rp_of (v := .tup zeros) (or_zeros)
  have f5_0 := heard0 k h (m := Mo bs kd sh) (p := Pa bs) (o := .tup zeros) (wd := .non) (er0 (ec_bits hb hs2 bb5)) cl_bits p5
  have f5_1 := heard1 k h (m := Mo bs kd sh) (p := Pa bs) (o := .tup zeros) (wd := .non) (er1 (er0' (ec_bits hb hs2 bb5))) cl_bits p5
  have f5_2 := heard2 k h (m := Mo bs kd sh) (p := Pa bs) (o := .tup zeros) (wd := .non) (er2 (ec_bits hb hs2 bb5)) cl_bits p5
  have f5_3 := heard3 k h (m := Mo bs kd sh) (p := Pa bs) (o := .tup zeros) (wd := .non) (er3 (ec_bits hb hs2 bb5)) cl_bits p5
  have e5_4 := eq_x4 lay_bits l5
  obtain ⟨t6, p6, l6⟩ := rp_of (v := .int 5) (or6)
  have f6_0 := heard0 k h (m := Mo bs kd sh) (p := Pa bs) (o := .int 5) (wd := .non) (er0 (ec_bits hb hs2 bb6)) cl_bits p6
  have f6_1 := heard1 k h (m := Mo bs kd sh) (p := Pa bs) (o := .int 5) (wd := .non) (er1 (er0' (ec_bits hb hs2 bb6))) cl_bits p6
  have f6_2 := heard2 k h (m := Mo bs kd sh) (p := Pa bs) (o := .int 5) (wd := .non) (er2 (ec_bits hb hs2 bb6)) cl_bits p6
  have f6_3 := heard3 k h (m := Mo bs kd sh) (p := Pa bs) (o := .int 5) (wd := .non) (er3 (ec_bits hb hs2 bb6)) cl_bits p6
  have e6_4 := eq_x4 lay_bits l6
  simp only [lawFor, B_law, List.drop_succ_cons, List.drop_zero, List.getD_cons_zero, List.getD_cons_succ, fr8]
  simp only [w_ok, w_err, w_stk, o_ok, o_err, o_stk, t_nx, t_bk, t_ct, t_rt, t_er, t_stk, opt_s, opt_n, c_ok, c_stk, ce_nx, ce_rt, ce_er, ie_nx, ie_er, v_con, slV_v, slP_v, slP_o, v_var, v_peek, v_glo, v_bop, v_neg, neg_i, v_cmp, v_chain, v_and, v_or, v_not, v_ite, v_tup, v_lst, v_lstR, v_dsp, v_dnew, v_sub, v_slc, v_rev, ak_n, ak_s, v_attr, v_call, v_mk, v_bi, v_isi, v_get, v_lc, l_nil, l_star, l_cons, d_nil, d_cons, i_rng, i_enu, i_seq, s_fz', s_exp', s_asg', s_par', s_aug', s_app', s_ret', s_retN', s_ife', s_whl', s_for', s_brk', s_cnt', s_pass', s_raise', s_try', x_nil, x_cons, st_name, st_sub, st_attr, st_tup, sts_nil, sts_cons, stp_nil, stp_cons, fl_nil, fl_cons, fk_nx, fk_ct, fk_bk, fk_rt, fk_er, tv_nx, tv_rt, tv_er, p_addi, p_adds, p_addt, p_addl, p_sub, p_muli, p_mull, p_mult, p_fdv, p_mod, p_pow, p_aadd, p_asub, q_lt, q_le, q_gt, q_ge, q_eq, q_ne, q_is, q_isn, q_in, q_nin, a_bl, r_l, r_t, m_l, m_t, sb_t, sb_l, sb_k, sb_s, sb_d, df_int, df_str, df_tup, df_lst, df_ktup, df_dct, df_obj, df_scr, df_bl, df_non, df_ref, bi_len_l, bi_len_t, bi_len_k, bi_len_s, bi_len_x, bi_len_d, bi_int_i, bi_int_b, bi_str, bi_max, bi_min, bi_all, bi_sum, bi_tup_l, bi_tup_t, bi_lst_l, bi_lst_t, bi_dict, pt_lst, pt_dct, pt_obj, pt_f, pt_m, rg_i, sa_t, sa_l, gv_d, ob_o, bt_n, bt_t, bts_n, bts_c, fg_c, at_o, ty_non, ty_bl, ty_int, ty_str, ty_tup, ty_lst, ty_ktup, ty_dct, ty_scr, ty_obj, tys_n, tys_c, ik_bl, ik_int, ik_str, ik_tup, ik_lst, ik_ktup, ik_dct, ik_scr, ik_non, ik_obj, lc_nil, lc_cons, wp_n, wp_c, oi_n, oi_i, sl_t, sl_l, ns_var, ns_peek, ns_con, ns_glo, ns_bop, ns_neg, ns_cmp, ns_chain, ns_and, ns_or, ns_not, ns_ite, ns_tup, ns_lst, ns_lstR, ns_dsp, ns_dnew, ns_sub, ns_slc, ns_rev, ns_attr, ns_prop, ns_call, ns_mk, ns_meth, ns_bi, ns_isi, ns_get, ns_lc, ns_lc2, ns_dc, ns_rng, ns_enu, ns_seq, ex_var, ex_con, ex_glo, ex_bop, ex_neg, ex_cmp, ex_chain, ex_and, ex_or, ex_not, ex_ite, ex_tup, ex_lst, ex_lstR, ex_dsp, ex_dnew, ex_sub, ex_slc, ex_rev, ex_attr, ex_prop, ex_call, ex_mk, ex_meth, ex_bi, ex_isi, ex_get, ex_lc, ex_lc2, ex_dc, ex_rng, ex_enu, ex_seq, ex_peek, es_e, es_v, es_o, fz_s, fz_o, fz_v, fz_e, pl_p, ps_o, ps_c, pu_s, pu_c, pus_o, puc_s, pur_s, pur_c, il_s, il_c, ils_o, ilc_l, sp_l, ss_l, ss_d, sf_o, ft_n, lt_n, isf_var, isf_peek, isf_con, isf_glo, isf_bop, isf_neg, isf_cmp, isf_chain, isf_and, isf_or, isf_not, isf_ite, isf_tup, isf_lst, isf_lstR, isf_dsp, isf_dnew, isf_sub, isf_slc, isf_rev, isf_attr, isf_prop, isf_call, isf_mk, isf_meth, isf_isi, isf_get, isf_lc, isf_lc2, isf_dc, isf_rng, isf_enu, isf_seq, isf_bi_len, isf_bi_int, isf_bi_str, isf_bi_max, isf_bi_min, isf_bi_all, isf_bi_sum, isf_bi_tuple, isf_bi_list, isf_bi_dict, isf_bi_repr, isf_bi_sorted, xh_nil, xh_cons, hk_nx, hk_bk, hk_ct, hk_rt, hn_n, ne_nil, ne_val, ne_own, ne_emp, ax_c, ax_f, List.foldl_cons, List.foldl_nil, List.getElem?_cons_zero, List.getElem?_cons_succ, List.set_cons_zero, List.set_cons_succ, if_true, if_false, ite_true, ite_false, reduceIte, reduceCtorEq, List.length_cons, List.length_nil, List.map_cons, List.map_nil, List.zip_cons_cons, List.zip_nil_left, Option.map_some, Option.map_none, Option.getD_some, Option.getD_none, Option.bind_some, and_true, true_and, and_self, Bool.not_true, Bool.not_false, Bool.or_true, Bool.or_false, Bool.true_or, Bool.false_or, Bool.and_true, Bool.true_and, Bool.and_false, Bool.false_and, decide_true, decide_false, Bool.false_eq_true, p0, f0_0, f0_1, f0_2, f0_3, e0_4, p1, f1_0, f1_1, f1_2, f1_3, e1_4, p2, f2_0, f2_1, f2_2, f2_3, e2_4, p3, f3_0, f3_1, f3_2, f3_3, e3_4, p4, f4_0, f4_1, f4_2, f4_3, e4_4, p5, f5_0, f5_1, f5_2, f5_3, e5_4, p6, f6_0, f6_1, f6_2, f6_3, e6_4, y1, y2, y3, x1, x2, x3, x4, x5, x6, x7, x8, rng4, rng6, Nat.reduceAdd, Int.sub_zero, rep2, rep3, rep4, rep6, tn2, tn3, tn4, tn6, ro2, ro3, ro4, ro6, zz, ro201]
end

end LawT
set_option maxHeartbeats 0
namespace LawT
open PySem AM
section
variable (k : Nat) (h : AH) (cs : List Int) (i : Int) (n : Nat) (kd sh : AV) (bs : List Int) (s4 s7 : Sl)
theorem loop4 (hb : ∀ x ∈ bs, x = 0 ∨ x = 1) (hs : bs.length ≤ 4) : exS Pr (calA Pr (k + 11)) (iniA Pr (k + 11)) (lawFor.2.2.getD 6 .bad) (fr8 cs i n bs.length kd sh bs s4 s7) h = .nx (fr8 cs i n bs.length kd sh bs (.val (.tup [.int 0])) s7) h := by
  have hs2 : bs.length ≤ 1000 := by omega
  obtain ⟨y1, y2, y3⟩ := smallZ
  obtain ⟨x1, x2, x3, x4, x5, x6, x7, x8⟩ := szs
  obtain ⟨t0, p0, l0⟩ := rp_of (v := .non) (or0)
  have f0_0 := heard4 k h (m := Mo bs kd sh) (p := Pa bs) (o := .non) (wd := .int 8) (er4 (er5' (ek_count hb hs2 nc0))) cl_number p0
  have f0_1 := heard5 k h (m := Mo bs kd sh) (p := Pa bs) (o := .non) (wd := .int 8) (er5 (ek_count hb hs2 nc0)) cl_number p0
  have e0_2 := eq_x2 lay_number l0
  obtain ⟨t1, p1, l1⟩ := rp_of (v := .int (-1)) (or7)
  have f1_0 := heard4 k h (m := Mo bs kd sh) (p := Pa bs) (o := .int (-1)) (wd := .int 8) (er4 (er5' (ek_count hb hs2 nc1))) cl_number p1
  have f1_1 := heard5 k h (m := Mo bs kd sh) (p := Pa bs) (o := .int (-1)) (wd := .int 8) (er5 (ek_count hb hs2 nc1)) cl_number p1
  have e1_2 := eq_x2 lay_number l1
  obtain ⟨t2, p2, l2⟩ := rp_of (v := .int 201) (or8)
  have f2_0 := heard4 k h (m := Mo bs kd sh) (p := Pa bs) (o := .int 201) (wd := .int 8) (er4 (er5' (ek_count hb hs2 nc2))) cl_number p2
  have f2_1 := heard5 k h (m := Mo bs kd sh) (p := Pa bs) (o := .int 201) (wd := .int 8) (er5 (ek_count hb hs2 nc2)) cl_number p2
  have e2_2 := eq_x2 lay_number l2
  obtain ⟨t3, p3, l3⟩ := rp_of (v := .bl true) (or9)
  have f3_0 := heard4 k h (m := Mo bs kd sh) (p := Pa bs) (o := .bl true) (wd := .int 8) (er4 (er5' (ek_count hb hs2 nc3))) cl_number p3
  have f3_1 := heard5 k h (m := Mo bs kd sh) (p := Pa bs) (o := .bl true) (wd := .int 8) (er5 (ek_count hb hs2 nc3)) cl_number p3
  have e3_2 := eq_x2 lay_number l3
  obtain ⟨t4, p4, l4⟩ := rp_of (v := .str (Str.ofString "3")) (or10)
  have f4_0 := heard4 k h (m := Mo bs kd sh) (p := Pa bs) (o := .str (Str.ofString "3")) (wd := .int 8) (er4 (er5' (ek_count hb hs2 nc4))) cl_number p4
  have f4_1 := heard5 k h (m := Mo bs kd sh) (p := Pa bs) (o := .str (Str.ofString "3")) (wd := .int 8) (er5 (ek_count hb hs2 nc4)) cl_number p4
  have e4_2 := eq_x2 lay_number l4
  obtain ⟨t5, p5, l5⟩ := rp_of (v := .tup [.int 0]) (or11)
  have f5_0 := heard4 k h (m := Mo bs kd sh) (p := Pa bs) (o := .tup [.int 0]) (wd := .int 8) (er4 (er5' (ek_count hb hs2 nc5))) cl_number p5
  have f5_1 := heard5 k h (m := Mo bs kd sh) (p := Pa bs) (o := .tup [.int 0]) (wd := .int 8) (er5 (ek_count hb hs2 nc5)) cl_number p5
  have e5_2 := eq_x2 lay_number l5
  simp only [lawFor, B_law, List.drop_succ_cons, List.drop_zero, List.getD_cons_zero, List.getD_cons_succ, fr8]
  simp only [w_ok, w_err, w_stk, o_ok, o_err, o_stk, t_nx, t_bk, t_ct, t_rt, t_er, t_stk, opt_s, opt_n, c_ok, c_stk, ce_nx, ce_rt, ce_er, ie_nx, ie_er, v_con, slV_v, slP_v, slP_o, v_var, v_peek, v_glo, v_bop, v_neg, neg_i, v_cmp, v_chain, v_and, v_or, v_not, v_ite, v_tup, v_lst, v_lstR, v_dsp, v_dnew, v_sub, v_slc, v_rev, ak_n, ak_s, v_attr, v_call, v_mk, v_bi, v_isi, v_get, v_lc, l_nil, l_star, l_cons, d_nil, d_cons, i_rng, i_enu, i_seq, s_fz', s_exp', s_asg', s_par', s_aug', s_app', s_ret', s_retN', s_ife', s_whl', s_for', s_brk', s_cnt', s_pass', s_raise', s_try', x_nil, x_cons, st_name, st_sub, st_attr, st_tup, sts_nil, sts_cons, stp_nil, stp_cons, fl_nil, fl_cons, fk_nx, fk_ct, fk_bk, fk_rt, fk_er, tv_nx, tv_rt, tv_er, p_addi, p_adds, p_addt, p_addl, p_sub, p_muli, p_mull, p_mult, p_fdv, p_mod, p_pow, p_aadd, p_asub, q_lt, q_le, q_gt, q_ge, q_eq, q_ne, q_is, q_isn, q_in, q_nin, a_bl, r_l, r_t, m_l, m_t, sb_t, sb_l, sb_k, sb_s, sb_d, df_int, df_str, df_tup, df_lst, df_ktup, df_dct, df_obj, df_scr, df_bl, df_non, df_ref, bi_len_l, bi_len_t, bi_len_k, bi_len_s, bi_len_x, bi_len_d, bi_int_i, bi_int_b, bi_str, bi_max, bi_min, bi_all, bi_sum, bi_tup_l, bi_tup_t, bi_lst_l, bi_lst_t, bi_dict, pt_lst, pt_dct, pt_obj, pt_f, pt_m, rg_i, sa_t, sa_l, gv_d, ob_o, bt_n, bt_t, bts_n, bts_c, fg_c, at_o, ty_non, ty_bl, ty_int, ty_str, ty_tup, ty_lst, ty_ktup, ty_dct, ty_scr, ty_obj, tys_n, tys_c, ik_bl, ik_int, ik_str, ik_tup, ik_lst, ik_ktup, ik_dct, ik_scr, ik_non, ik_obj, lc_nil, lc_cons, wp_n, wp_c, oi_n, oi_i, sl_t, sl_l, ns_var, ns_peek, ns_con, ns_glo, ns_bop, ns_neg, ns_cmp, ns_chain, ns_and, ns_or, ns_not, ns_ite, ns_tup, ns_lst, ns_lstR, ns_dsp, ns_dnew, ns_sub, ns_slc, ns_rev, ns_attr, ns_prop, ns_call, ns_mk, ns_meth, ns_bi, ns_isi, ns_get, ns_lc, ns_lc2, ns_dc, ns_rng, ns_enu, ns_seq, ex_var, ex_con, ex_glo, ex_bop, ex_neg, ex_cmp, ex_chain, ex_and, ex_or, ex_not, ex_ite, ex_tup, ex_lst, ex_lstR, ex_dsp, ex_dnew, ex_sub, ex_slc, ex_rev, ex_attr, ex_prop, ex_call, ex_mk, ex_meth, ex_bi, ex_isi, ex_get, ex_lc, ex_lc2, ex_dc, ex_rng, ex_enu, ex_seq, ex_peek, es_e, es_v, es_o, fz_s, fz_o, fz_v, fz_e, pl_p, ps_o, ps_c, pu_s, pu_c, pus_o, puc_s, pur_s, pur_c, il_s, il_c, ils_o, ilc_l, sp_l, ss_l, ss_d, sf_o, ft_n, lt_n, isf_var, isf_peek, isf_con, isf_glo, isf_bop, isf_neg, isf_cmp, isf_chain, isf_and, isf_or, isf_not, isf_ite, isf_tup, isf_lst, isf_lstR, isf_dsp, isf_dnew, isf_sub, isf_slc, isf_rev, isf_attr, isf_prop, isf_call, isf_mk, isf_meth, isf_isi, isf_get, isf_lc, isf_lc2, isf_dc, isf_rng, isf_enu, isf_seq, isf_bi_len, isf_bi_int, isf_bi_str, isf_bi_max, isf_bi_min, isf_bi_all, isf_bi_sum, isf_bi_tuple, isf_bi_list, isf_bi_dict, isf_bi_repr, isf_bi_sorted, xh_nil, xh_cons, hk_nx, hk_bk, hk_ct, hk_rt, hn_n, ne_nil, ne_val, ne_own, ne_emp, ax_c, ax_f, List.foldl_cons, List.foldl_nil, List.getElem?_cons_zero, List.getElem?_cons_succ, List.set_cons_zero, List.set_cons_succ, if_true, if_false, ite_true, ite_false, reduceIte, reduceCtorEq, List.length_cons, List.length_nil, List.map_cons, List.map_nil, List.zip_cons_cons, List.zip_nil_left, Option.map_some, Option.map_none, Option.getD_some, Option.getD_none, Option.bind_some, and_true, true_and, and_self, Bool.not_true, Bool.not_false, Bool.or_true, Bool.or_false, Bool.true_or, Bool.false_or, Bool.and_true, Bool.true_and, Bool.and_false, Bool.false_and, decide_true, decide_false, Bool.false_eq_true, p0, f0_0, f0_1, e0_2, p1, f1_0, f1_1, e1_2, p2, f2_0, f2_1, e2_2, p3, f3_0, f3_1, e3_2, p4, f4_0, f4_1, e4_2, p5, f5_0, f5_1, e5_2, y1, y2, y3, x1, x2, x3, x4, x5, x6, x7, x8, rng4, rng6, Nat.reduceAdd, Int.sub_zero, rep2, rep3, rep4, rep6, tn2, tn3, tn4, tn6, ro2, ro3, ro4, ro6]
end

end LawT
set_option maxHeartbeats 0
namespace LawT
open PySem AM
section
variable (k : Nat) (h : AH) (cs : List Int) (i : Int) (n : Nat) (kd sh : AV) (bs : List Int) (s4 s7 : Sl)
theorem loop5 (hb : ∀ x ∈ bs, x = 0 ∨ x = 1) (hs : bs.length ≤ 4) : exS Pr (calA Pr (k + 11)) (iniA Pr (k + 11)) (lawFor.2.2.getD 7 .bad) (fr8 cs i n bs.length kd sh bs s4 s7) h = .nx (fr8 cs i n bs.length kd sh bs (.val (.tup [.int 8])) s7) h := by
  have hs2 : bs.length ≤ 1000 := by omega
  obtain ⟨y1, y2, y3⟩ := smallZ
  obtain ⟨x1, x2, x3, x4, x5, x6, x7, x8⟩ := szs
  obtain ⟨t0, p0, l0⟩ := rp_of (v := .non) (or0)
  have f0_0 := heard0 k h (m := Mo bs kd sh) (p := Pa bs) (o := .tup [.int 0, .int 1]) (wd := .non) (fun k h => ew0 hb hs2 okb nw0 (k + 3) h) cl_number p0
  have f0_1 := heard1 k h (m := Mo bs kd sh) (p := Pa bs) (o := .tup [.int 0, .int 1]) (wd := .non) (er1 fun k h => ew0 hb hs2 okb nw0 k h) cl_number p0
  have f0_2 := heard2 k h (m := Mo bs kd sh) (p := Pa bs) (o := .tup [.int 0, .int 1]) (wd := .non) (ew2 hb hs2 okb nw0) cl_number p0
  have f0_3 := heard5 k h (m := Mo bs kd sh) (p := Pa bs) (o := .int 3) (wd := .non) (ew5 hb hs2 nw0) cl_number p0
  have e0_1 := eq_row lay_number l0
  have e0_3 := eq_x3 lay_number l0
  obtain ⟨t1, p1, l1⟩ := rp_of (v := .int 7) (or12)
  have f1_0 := heard0 k h (m := Mo bs kd sh) (p := Pa bs) (o := .tup [.int 0, .int 1]) (wd := .int 7) (fun k h => ew0 hb hs2 okb nw1 (k + 3) h) cl_number p1
  have f1_1 := heard1 k h (m := Mo bs kd sh) (p := Pa bs) (o := .tup [.int 0, .int 1]) (wd := .int 7) (er1 fun k h => ew0 hb hs2 okb nw1 k h) cl_number p1
  have f1_2 := heard2 k h (m := Mo bs kd sh) (p := Pa bs) (o := .tup [.int 0, .int 1]) (wd := .int 7) (ew2 hb hs2 okb nw1) cl_number p1
  have f1_3 := heard5 k h (m := Mo bs kd sh) (p := Pa bs) (o := .int 3) (wd := .int 7) (ew5 hb hs2 nw1) cl_number p1
  have e1_1 := eq_row lay_number l1
  have e1_3 := eq_x3 lay_number l1
  obtain ⟨t2, p2, l2⟩ := rp_of (v := .int 65) (or13)
  have f2_0 := heard0 k h (m := Mo bs kd sh) (p := Pa bs) (o := .tup [.int 0, .int 1]) (wd := .int 65) (fun k h => ew0 hb hs2 okb nw2 (k + 3) h) cl_number p2
  have f2_1 := heard1 k h (m := Mo bs kd sh) (p := Pa bs) (o := .tup [.int 0, .int 1]) (wd := .int 65) (er1 fun k h => ew0 hb hs2 okb nw2 k h) cl_number p2
  have f2_2 := heard2 k h (m := Mo bs kd sh) (p := Pa bs) (o := .tup [.int 0, .int 1]) (wd := .int 65) (ew2 hb hs2 okb nw2) cl_number p2
  have f2_3 := heard5 k h (m := Mo bs kd sh) (p := Pa bs) (o := .int 3) (wd := .int 65) (ew5 hb hs2 nw2) cl_number p2
  have e2_1 := eq_row lay_number l2
  have e2_3 := eq_x3 lay_number l2
  obtain ⟨t3, p3, l3⟩ := rp_of (v := .bl true) (or9)
  have f3_0 := heard0 k h (m := Mo bs kd sh) (p := Pa bs) (o := .tup [.int 0, .int 1]) (wd := .bl true) (fun k h => ew0 hb hs2 okb nw3 (k + 3) h) cl_number p3
  have f3_1 := heard1 k h (m := Mo bs kd sh) (p := Pa bs) (o := .tup [.int 0, .int 1]) (wd := .bl true) (er1 fun k h => ew0 hb hs2 okb nw3 k h) cl_number p3
  have f3_2 := heard2 k h (m := Mo bs kd sh) (p := Pa bs) (o := .tup [.int 0, .int 1]) (wd := .bl true) (ew2 hb hs2 okb nw3) cl_number p3
  have f3_3 := heard5 k h (m := Mo bs kd sh) (p := Pa bs) (o := .int 3) (wd := .bl true) (ew5 hb hs2 nw3) cl_number p3
  have e3_1 := eq_row lay_number l3
  have e3_3 := eq_x3 lay_number l3
  obtain ⟨t4, p4, l4⟩ := rp_of (v := .str (Str.ofString "8")) (or14)
  have f4_0 := heard0 k h (m := Mo bs kd sh) (p := Pa bs) (o := .tup [.int 0, .int 1]) (wd := .str (Str.ofString "8")) (fun k h => ew0 hb hs2 okb nw4 (k + 3) h) cl_number p4
  have f4_1 := heard1 k h (m := Mo bs kd sh) (p := Pa bs) (o := .tup [.int 0, .int 1]) (wd := .str (Str.ofString "8")) (er1 fun k h => ew0 hb hs2 okb nw4 k h) cl_number p4
  have f4_2 := heard2 k h (m := Mo bs kd sh) (p := Pa bs) (o := .tup [.int 0, .int 1]) (wd := .str (Str.ofString "8")) (ew2 hb hs2 okb nw4) cl_number p4
  have f4_3 := heard5 k h (m := Mo bs kd sh) (p := Pa bs) (o := .int 3) (wd := .str (Str.ofString "8")) (ew5 hb hs2 nw4) cl_number p4
  have e4_1 := eq_row lay_number l4
  have e4_3 := eq_x3 lay_number l4
  obtain ⟨t5, p5, l5⟩ := rp_of (v := .tup [.int 8]) (or15)
  have f5_0 := heard0 k h (m := Mo bs kd sh) (p := Pa bs) (o := .tup [.int 0, .int 1]) (wd := .tup [.int 8]) (fun k h => ew0 hb hs2 okb nw5 (k + 3) h) cl_number p5
  have f5_1 := heard1 k h (m := Mo bs kd sh) (p := Pa bs) (o := .tup [.int 0, .int 1]) (wd := .tup [.int 8]) (er1 fun k h => ew0 hb hs2 okb nw5 k h) cl_number p5
  have f5_2 := heard2 k h (m := Mo bs kd sh) (p := Pa bs) (o := .tup [.int 0, .int 1]) (wd := .tup [.int 8]) (ew2 hb hs2 okb nw5) cl_number p5
  have f5_3 := heard5 k h (m := Mo bs kd sh) (p := Pa bs) (o := .int 3) (wd := .tup [.int 8]) (ew5 hb hs2 nw5) cl_number p5
  have e5_1 := eq_row lay_number l5
  have e5_3 := eq_x3 lay_number l5
  simp only [lawFor, B_law, List.drop_succ_cons, List.drop_zero, List.getD_cons_zero, List.getD_cons_succ, fr8]
  simp only [w_ok, w_err, w_stk, o_ok, o_err, o_stk, t_nx, t_bk, t_ct, t_rt, t_er, t_stk, opt_s, opt_n, c_ok, c_stk, ce_nx, ce_rt, ce_er, ie_nx, ie_er, v_con, slV_v, slP_v, slP_o, v_var, v_peek, v_glo, v_bop, v_neg, neg_i, v_cmp, v_chain, v_and, v_or, v_not, v_ite, v_tup, v_lst, v_lstR, v_dsp, v_dnew, v_sub, v_slc, v_rev, ak_n, ak_s, v_attr, v_call, v_mk, v_bi, v_isi, v_get, v_lc, l_nil, l_star, l_cons, d_nil, d_cons, i_rng, i_enu, i_seq, s_fz', s_exp', s_asg', s_par', s_aug', s_app', s_ret', s_retN', s_ife', s_whl', s_for', s_brk', s_cnt', s_pass', s_raise', s_try', x_nil, x_cons, st_name, st_sub, st_attr, st_tup, sts_nil, sts_cons, stp_nil, stp_cons, fl_nil, fl_cons, fk_nx, fk_ct, fk_bk, fk_rt, fk_er, tv_nx, tv_rt, tv_er, p_addi, p_adds, p_addt, p_addl, p_sub, p_muli, p_mull, p_mult, p_fdv, p_mod, p_pow, p_aadd, p_asub, q_lt, q_le, q_gt, q_ge, q_eq, q_ne, q_is, q_isn, q_in, q_nin, a_bl, r_l, r_t, m_l, m_t, sb_t, sb_l, sb_k, sb_s, sb_d, df_int, df_str, df_tup, df_lst, df_ktup, df_dct, df_obj, df_scr, df_bl, df_non, df_ref, bi_len_l, bi_len_t, bi_len_k, bi_len_s, bi_len_x, bi_len_d, bi_int_i, bi_int_b, bi_str, bi_max, bi_min, bi_all, bi_sum, bi_tup_l, bi_tup_t, bi_lst_l, bi_lst_t, bi_dict, pt_lst, pt_dct, pt_obj, pt_f, pt_m, rg_i, sa_t, sa_l, gv_d, ob_o, bt_n, bt_t, bts_n, bts_c, fg_c, at_o, ty_non, ty_bl, ty_int, ty_str, ty_tup, ty_lst, ty_ktup, ty_dct, ty_scr, ty_obj, tys_n, tys_c, ik_bl, ik_int, ik_str, ik_tup, ik_lst, ik_ktup, ik_dct, ik_scr, ik_non, ik_obj, lc_nil, lc_cons, wp_n, wp_c, oi_n, oi_i, sl_t, sl_l, ns_var, ns_peek, ns_con, ns_glo, ns_bop, ns_neg, ns_cmp, ns_chain, ns_and, ns_or, ns_not, ns_ite, ns_tup, ns_lst, ns_lstR, ns_dsp, ns_dnew, ns_sub, ns_slc, ns_rev, ns_attr, ns_prop, ns_call, ns_mk, ns_meth, ns_bi, ns_isi, ns_get, ns_lc, ns_lc2, ns_dc, ns_rng, ns_enu, ns_seq, ex_var, ex_con, ex_glo, ex_bop, ex_neg, ex_cmp, ex_chain, ex_and, ex_or, ex_not, ex_ite, ex_tup, ex_lst, ex_lstR, ex_dsp, ex_dnew, ex_sub, ex_slc, ex_rev, ex_attr, ex_prop, ex_call, ex_mk, ex_meth, ex_bi, ex_isi, ex_get, ex_lc, ex_lc2, ex_dc, ex_rng, ex_enu, ex_seq, ex_peek, es_e, es_v, es_o, fz_s, fz_o, fz_v, fz_e, pl_p, ps_o, ps_c, pu_s, pu_c, pus_o, puc_s, pur_s, pur_c, il_s, il_c, ils_o, ilc_l, sp_l, ss_l, ss_d, sf_o, ft_n, lt_n, isf_var, isf_peek, isf_con, isf_glo, isf_bop, isf_neg, isf_cmp, isf_chain, isf_and, isf_or, isf_not, isf_ite, isf_tup, isf_lst, isf_lstR, isf_dsp, isf_dnew, isf_sub, isf_slc, isf_rev, isf_attr, isf_prop, isf_call, isf_mk, isf_meth, isf_isi, isf_get, isf_lc, isf_lc2, isf_dc, isf_rng, isf_enu, isf_seq, isf_bi_len, isf_bi_int, isf_bi_str, isf_bi_max, isf_bi_min, isf_bi_all, isf_bi_sum, isf_bi_tuple, isf_bi_list, isf_bi_dict, isf_bi_repr, isf_bi_sorted, xh_nil, xh_cons, hk_nx, hk_bk, hk_ct, hk_rt, hn_n, ne_nil, ne_val, ne_own, ne_emp, ax_c, ax_f, List.foldl_cons, List.foldl_nil, List.getElem?_cons_zero, List.getElem?_cons_succ, List.set_cons_zero, List.set_cons_succ, if_true, if_false, ite_true, ite_false, reduceIte, reduceCtorEq, List.length_cons, List.length_nil, List.map_cons, List.map_nil, List.zip_cons_cons, List.zip_nil_left, Option.map_some, Option.map_none, Option.getD_some, Option.getD_none, Option.bind_some, and_true, true_and, and_self, Bool.not_true, Bool.not_false, Bool.or_true, Bool.or_false, Bool.true_or, Bool.false_or, Bool.and_true, Bool.true_and, Bool.and_false, Bool.false_and, decide_true, decide_false, Bool.false_eq_true, p0, f0_0, f0_1, f0_2, f0_3, e0_1, e0_3, p1, f1_0, f1_1, f1_2, f1_3, e1_1, e1_3, p2, f2_0, f2_1, f2_2, f2_3, e2_1, e2_3, p3, f3_0, f3_1, f3_2, f3_3, e3_1, e3_3, p4, f4_0, f4_1, f4_2, f4_3, e4_1, e4_3, p5, f5_0, f5_1, f5_2, f5_3, e5_1, e5_3, y1, y2, y3, x1, x2, x3, x4, x5, x6, x7, x8, rng4, rng6, Nat.reduceAdd, Int.sub_zero, rep2, rep3, rep4, rep6, tn2, tn3, tn4, tn6, ro2, ro3, ro4, ro6]
end

end LawT
set_option maxHeartbeats 0
namespace LawT
open PySem AM
section
variable (k : Nat) (h : AH) (cs : List Int) (i : Int) (n : Nat) (kd sh : AV) (bs : List Int) (s4 s7 : Sl)
theorem loop6 (hb : ∀ x ∈ bs, x = 0 ∨ x = 1) (hs : bs.length ≤ 4) : exS Pr (calA Pr (k + 11)) (iniA Pr (k + 11)) (lawFor.2.2.getD 8 .bad) (fr8 cs i n bs.length kd sh bs s4 s7) h = .nx (fr8 cs i n bs.length kd sh bs (.val (.tup [.int 1, .int 2, .int 3])) s7) h := by
  have hs2 : bs.length ≤ 1000 := by omega
  obtain ⟨y1, y2, y3⟩ := smallZ
  obtain ⟨x1, x2, x3, x4, x5, x6, x7, x8⟩ := szs
  obtain ⟨t0, p0, l0⟩ := rp_of (v := .non) (or0)
  have f0_0 := heard3 k h (m := Mo bs kd sh) (p := Pa bs) (o := .tup [.int 0, .int 1]) (wd := .non) (ef3 hb hs2 okb nf0) cl_fraction p0
  have e0_1 := eq_row lay_fraction l0
  obtain ⟨t1, p1, l1⟩ := rp_of (v := .tup [.int (-1), .int 2]) (or16)
  have f1_0 := heard3 k h (m := Mo bs kd sh) (p := Pa bs) (o := .tup [.int 0, .int 1]) (wd := .tup [.int (-1), .int 2]) (ef3 hb hs2 okb nf1) cl_fraction p1
  have e1_1 := eq_row lay_fraction l1
  obtain ⟨t2, p2, l2⟩ := rp_of (v := .tup [.int 2, .int 4]) (or17)
  have f2_0 := heard3 k h (m := Mo bs kd sh) (p := Pa bs) (o := .tup [.int 0, .int 1]) (wd := .tup [.int 2, .int 4]) (ef3 hb hs2 okb nf2) cl_fraction p2
  have e2_1 := eq_row lay_fraction l2
  obtain ⟨t3, p3, l3⟩ := rp_of (v := .int 1) (or18)
  have f3_0 := heard3 k h (m := Mo bs kd sh) (p := Pa bs) (o := .tup [.int 0, .int 1]) (wd := .int 1) (ef3 hb hs2 okb nf3) cl_fraction p3
  have e3_1 := eq_row lay_fraction l3
  obtain ⟨t4, p4, l4⟩ := rp_of (v := .str (Str.ofString "0")) (or19)
  have f4_0 := heard3 k h (m := Mo bs kd sh) (p := Pa bs) (o := .tup [.int 0, .int 1]) (wd := .str (Str.ofString "0")) (ef3 hb hs2 okb nf4) cl_fraction p4
  have e4_1 := eq_row lay_fraction l4
  obtain ⟨t5, p5, l5⟩ := rp_of (v := .lst [.int 0, .int 1]) (or20)
  have f5_0 := heard3 k h (m := Mo bs kd sh) (p := Pa bs) (o := .tup [.int 0, .int 1]) (wd := .lst [.int 0, .int 1]) (ef3 hb hs2 okb nf5) cl_fraction p5
  have e5_1 := eq_row lay_fraction l5
  obtain ⟨t6, p6, l6⟩ := rp_of (v := .tup [.int 0, .int 0]) (or21)
  have f6_0 := heard3 k h (m := Mo bs kd sh) (p := Pa bs) (o := .tup [.int 0, .int 1]) (wd := .tup [.int 0, .int 0]) (ef3 hb hs2 okb nf6) cl_fraction p6
  have e6_1 := eq_row lay_fraction l6
  obtain ⟨t7, p7, l7⟩ := rp_of (v := .tup [.bl true, .int 1]) (or22)
  have f7_0 := heard3 k h (m := Mo bs kd sh) (p := Pa bs) (o := .tup [.int 0, .int 1]) (wd := .tup [.bl true, .int 1]) (ef3 hb hs2 okb nf7) cl_fraction p7
  have e7_1 := eq_row lay_fraction l7
  obtain ⟨t8, p8, l8⟩ := rp_of (v := .tup [.int 1, .int 2, .int 3]) (or23)
  have f8_0 := heard3 k h (m := Mo bs kd sh) (p := Pa bs) (o := .tup [.int 0, .int 1]) (wd := .tup [.int 1, .int 2, .int 3]) (ef3 hb hs2 okb nf8) cl_fraction p8
  have e8_1 := eq_row lay_fraction l8
  simp only [lawFor, B_law, List.drop_succ_cons, List.drop_zero, List.getD_cons_zero, List.getD_cons_succ, fr8]
  simp only [w_ok, w_err, w_stk, o_ok, o_err, o_stk, t_nx, t_bk, t_ct, t_rt, t_er, t_stk, opt_s, opt_n, c_ok, c_stk, ce_nx, ce_rt, ce_er, ie_nx, ie_er, v_con, slV_v, slP_v, slP_o, v_var, v_peek, v_glo, v_bop, v_neg, neg_i, v_cmp, v_chain, v_and, v_or, v_not, v_ite, v_tup, v_lst, v_lstR, v_dsp, v_dnew, v_sub, v_slc, v_rev, ak_n, ak_s, v_attr, v_call, v_mk, v_bi, v_isi, v_get, v_lc, l_nil, l_star, l_cons, d_nil, d_cons, i_rng, i_enu, i_seq, s_fz', s_exp', s_asg', s_par', s_aug', s_app', s_ret', s_retN', s_ife', s_whl', s_for', s_brk', s_cnt', s_pass', s_raise', s_try', x_nil, x_cons, st_name, st_sub, st_attr, st_tup, sts_nil, sts_cons, stp_nil, stp_cons, fl_nil, fl_cons, fk_nx, fk_ct, fk_bk, fk_rt, fk_er, tv_nx, tv_rt, tv_er, p_addi, p_adds, p_addt, p_addl, p_sub, p_muli, p_mull, p_mult, p_fdv, p_mod, p_pow, p_aadd, p_asub, q_lt, q_le, q_gt, q_ge, q_eq, q_ne, q_is, q_isn, q_in, q_nin, a_bl, r_l, r_t, m_l, m_t, sb_t, sb_l, sb_k, sb_s, sb_d, df_int, df_str, df_tup, df_lst, df_ktup, df_dct, df_obj, df_scr, df_bl, df_non, df_ref, bi_len_l, bi_len_t, bi_len_k, bi_len_s, bi_len_x, bi_len_d, bi_int_i, bi_int_b, bi_str, bi_max, bi_min, bi_all, bi_sum, bi_tup_l, bi_tup_t, bi_lst_l, bi_lst_t, bi_dict, pt_lst, pt_dct, pt_obj, pt_f, pt_m, rg_i, sa_t, sa_l, gv_d, ob_o, bt_n, bt_t, bts_n, bts_c, fg_c, at_o, ty_non, ty_bl, ty_int, ty_str, ty_tup, ty_lst, ty_ktup, ty_dct, ty_scr, ty_obj, tys_n, tys_c, ik_bl, ik_int, ik_str, ik_tup, ik_lst, ik_ktup, ik_dct, ik_scr, ik_non, ik_obj, lc_nil, lc_cons, wp_n, wp_c, oi_n, oi_i, sl_t, sl_l, ns_var, ns_peek, ns_con, ns_glo, ns_bop, ns_neg, ns_cmp, ns_chain, ns_and, ns_or, ns_not, ns_ite, ns_tup, ns_lst, ns_lstR, ns_dsp, ns_dnew, ns_sub, ns_slc, ns_rev, ns_attr, ns_prop, ns_call, ns_mk, ns_meth, ns_bi, ns_isi, ns_get, ns_lc, ns_lc2, ns_dc, ns_rng, ns_enu, ns_seq, ex_var, ex_con, ex_glo, ex_bop, ex_neg, ex_cmp, ex_chain, ex_and, ex_or, ex_not, ex_ite, ex_tup, ex_lst, ex_lstR, ex_dsp, ex_dnew, ex_sub, ex_slc, ex_rev, ex_attr, ex_prop, ex_call, ex_mk, ex_meth, ex_bi, ex_isi, ex_get, ex_lc, ex_lc2, ex_dc, ex_rng, ex_enu, ex_seq, ex_peek, es_e, es_v, es_o, fz_s, fz_o, fz_v, fz_e, pl_p, ps_o, ps_c, pu_s, pu_c, pus_o, puc_s, pur_s, pur_c, il_s, il_c, ils_o, ilc_l, sp_l, ss_l, ss_d, sf_o, ft_n, lt_n, isf_var, isf_peek, isf_con, isf_glo, isf_bop, isf_neg, isf_cmp, isf_chain, isf_and, isf_or, isf_not, isf_ite, isf_tup, isf_lst, isf_lstR, isf_dsp, isf_dnew, isf_sub, isf_slc, isf_rev, isf_attr, isf_prop, isf_call, isf_mk, isf_meth, isf_isi, isf_get, isf_lc, isf_lc2, isf_dc, isf_rng, isf_enu, isf_seq, isf_bi_len, isf_bi_int, isf_bi_str, isf_bi_max, isf_bi_min, isf_bi_all, isf_bi_sum, isf_bi_tuple, isf_bi_list, isf_bi_dict, isf_bi_repr, isf_bi_sorted, xh_nil, xh_cons, hk_nx, hk_bk, hk_ct, hk_rt, hn_n, ne_nil, ne_val, ne_own, ne_emp, ax_c, ax_f, List.foldl_cons, List.foldl_nil, List.getElem?_cons_zero, List.getElem?_cons_succ, List.set_cons_zero, List.set_cons_succ, if_true, if_false, ite_true, ite_false, reduceIte, reduceCtorEq, List.length_cons, List.length_nil, List.map_cons, List.map_nil, List.zip_cons_cons, List.zip_nil_left, Option.map_some, Option.map_none, Option.getD_some, Option.getD_none, Option.bind_some, and_true, true_and, and_self, Bool.not_true, Bool.not_false, Bool.or_true, Bool.or_false, Bool.true_or, Bool.false_or, Bool.and_true, Bool.true_and, Bool.and_false, Bool.false_and, decide_true, decide_false, Bool.false_eq_true, p0, f0_0, e0_1, p1, f1_0, e1_1, p2, f2_0, e2_1, p3, f3_0, e3_1, p4, f4_0, e4_1, p5, f5_0, e5_1, p6, f6_0, e6_1, p7, f7_0, e7_1, p8, f8_0, e8_1, y1, y2, y3, x1, x2, x3, x4, x5, x6, x7, x8, rng4, rng6, Nat.reduceAdd, Int.sub_zero, rep2, rep3, rep4, rep6, tn2, tn3, tn4, tn6, ro2, ro3, ro4, ro6]
end

end LawT
set_option maxHeartbeats 0
namespace LawT
open PySem AM
section
variable (k : Nat) (h : AH) (cs : List Int) (n : Nat) (kd sh : AV) (bs : List Int) (s4 s7 : Sl)
theorem eq_one {s : Str} (h2 : PyData.canLay0 (.str s) = true) : eqAV (.lst [.str s]) (.lst [.str s]) = some true := by
  refine eq_self (d := .list [.str s]) rfl ?_
  unfold SeqAt.shaped
  show ((PyData.canLay0 (.str s) && true) && true) = true
  rw [h2]
  rfl
theorem lay_none : PyData.canLay0 (.str (Str.ofString "none")) = true ∧ PyData.canLay0 (.str (Str.ofString "None")) = true := by decide +kernel
theorem rep_non : biV .repr [.non] = some (.str (Str.ofString "None")) := by kernel_rfl
theorem loop7 (i : Int) (hb : ∀ x ∈ bs, x = 0 ∨ x = 1) (hs : bs.length ≤ 4) : exS Pr (calA Pr (k + 11)) (iniA Pr (k + 11)) (lawFor.2.2.getD 9 .bad) (fr8 cs i n bs.length kd sh bs s4 s7) h = .nx (fr8 cs i n bs.length kd sh bs s4 s7) h := by
  have hs2 : bs.length ≤ 1000 := by omega
  obtain ⟨x1, x2, x3, x4, x5, x6, x7, x8⟩ := szs
  have f4 := heard4 k h (m := Mo bs kd sh) (p := Pa bs) (o := .int 3) (wd := .int 8) (fin4 hb hs2) cl_code rep_non
  have f5 := heard_none (kd := kd) (sh := sh) hb hs2 k h
  have e1 := eq_row lay_code lay_none.2
  have e2 := eq_one lay_none.1
  simp only [lawFor, B_law, List.drop_succ_cons, List.drop_zero, List.getD_cons_zero, List.getD_cons_succ, fr8]
  simp only [w_ok, w_err, w_stk, o_ok, o_err, o_stk, t_nx, t_bk, t_ct, t_rt, t_er, t_stk, opt_s, opt_n, c_ok, c_stk, ce_nx, ce_rt, ce_er, ie_nx, ie_er, v_con, slV_v, slP_v, slP_o, v_var, v_peek, v_glo, v_bop, v_neg, neg_i, v_cmp, v_chain, v_and, v_or, v_not, v_ite, v_tup, v_lst, v_lstR, v_dsp, v_dnew, v_sub, v_slc, v_rev, ak_n, ak_s, v_attr, v_call, v_mk, v_bi, v_isi, v_get, v_lc, l_nil, l_star, l_cons, d_nil, d_cons, i_rng, i_enu, i_seq, s_fz', s_exp', s_asg', s_par', s_aug', s_app', s_ret', s_retN', s_ife', s_whl', s_for', s_brk', s_cnt', s_pass', s_raise', s_try', x_nil, x_cons, st_name, st_sub, st_attr, st_tup, sts_nil, sts_cons, stp_nil, stp_cons, fl_nil, fl_cons, fk_nx, fk_ct, fk_bk, fk_rt, fk_er, tv_nx, tv_rt, tv_er, p_addi, p_adds, p_addt, p_addl, p_sub, p_muli, p_mull, p_mult, p_fdv, p_mod, p_pow, p_aadd, p_asub, q_lt, q_le, q_gt, q_ge, q_eq, q_ne, q_is, q_isn, q_in, q_nin, a_bl, r_l, r_t, m_l, m_t, sb_t, sb_l, sb_k, sb_s, sb_d, df_int, df_str, df_tup, df_lst, df_ktup, df_dct, df_obj, df_scr, df_bl, df_non, df_ref, bi_len_l, bi_len_t, bi_len_k, bi_len_s, bi_len_x, bi_len_d, bi_int_i, bi_int_b, bi_str, bi_max, bi_min, bi_all, bi_sum, bi_tup_l, bi_tup_t, bi_lst_l, bi_lst_t, bi_dict, pt_lst, pt_dct, pt_obj, pt_f, pt_m, rg_i, sa_t, sa_l, gv_d, ob_o, bt_n, bt_t, bts_n, bts_c, fg_c, at_o, ty_non, ty_bl, ty_int, ty_str, ty_tup, ty_lst, ty_ktup, ty_dct, ty_scr, ty_obj, tys_n, tys_c, ik_bl, ik_int, ik_str, ik_tup, ik_lst, ik_ktup, ik_dct, ik_scr, ik_non, ik_obj, lc_nil, lc_cons, wp_n, wp_c, oi_n, oi_i, sl_t, sl_l, ns_var, ns_peek, ns_con, ns_glo, ns_bop, ns_neg, ns_cmp, ns_chain, ns_and, ns_or, ns_not, ns_ite, ns_tup, ns_lst, ns_lstR, ns_dsp, ns_dnew, ns_sub, ns_slc, ns_rev, ns_attr, ns_prop, ns_call, ns_mk, ns_meth, ns_bi, ns_isi, ns_get, ns_lc, ns_lc2, ns_dc, ns_rng, ns_enu, ns_seq, ex_var, ex_con, ex_glo, ex_bop, ex_neg, ex_cmp, ex_chain, ex_and, ex_or, ex_not, ex_ite, ex_tup, ex_lst, ex_lstR, ex_dsp, ex_dnew, ex_sub, ex_slc, ex_rev, ex_attr, ex_prop, ex_call, ex_mk, ex_meth, ex_bi, ex_isi, ex_get, ex_lc, ex_lc2, ex_dc, ex_rng, ex_enu, ex_seq, ex_peek, es_e, es_v, es_o, fz_s, fz_o, fz_v, fz_e, pl_p, ps_o, ps_c, pu_s, pu_c, pus_o, puc_s, pur_s, pur_c, il_s, il_c, ils_o, ilc_l, sp_l, ss_l, ss_d, sf_o, ft_n, lt_n, isf_var, isf_peek, isf_con, isf_glo, isf_bop, isf_neg, isf_cmp, isf_chain, isf_and, isf_or, isf_not, isf_ite, isf_tup, isf_lst, isf_lstR, isf_dsp, isf_dnew, isf_sub, isf_slc, isf_rev, isf_attr, isf_prop, isf_call, isf_mk, isf_meth, isf_isi, isf_get, isf_lc, isf_lc2, isf_dc, isf_rng, isf_enu, isf_seq, isf_bi_len, isf_bi_int, isf_bi_str, isf_bi_max, isf_bi_min, isf_bi_all, isf_bi_sum, isf_bi_tuple, isf_bi_list, isf_bi_dict, isf_bi_repr, isf_bi_sorted, xh_nil, xh_cons, hk_nx, hk_bk, hk_ct, hk_rt, hn_n, ne_nil, ne_val, ne_own, ne_emp, ax_c, ax_f, List.foldl_cons, List.foldl_nil, List.getElem?_cons_zero, List.getElem?_cons_succ, List.set_cons_zero, List.set_cons_succ, if_true, if_false, ite_true, ite_false, reduceIte, reduceCtorEq, List.length_cons, List.length_nil, List.map_cons, List.map_nil, List.zip_cons_cons, List.zip_nil_left, Option.map_some, Option.map_none, Option.getD_some, Option.getD_none, Option.bind_some, and_true, true_and, and_self, Bool.not_true, Bool.not_false, Bool.or_true, Bool.or_false, Bool.true_or, Bool.false_or, Bool.and_true, Bool.true_and, Bool.and_false, Bool.false_and, decide_true, decide_false, Bool.false_eq_true, f4, f5, e1, e2, x1, x2, Nat.reduceAdd]
theorem st0 (hi : cs = [] ∨ n < cs.length) (hn : n ≤ 1000) (s2 s3 s5 s6 : Sl) : ∃ ns : List Int, exS Pr (calA Pr (k + 11)) (iniA Pr (k + 11)) (lawFor.2.2.getD 0 .bad) [.val (.scr cs), .val (.int n), s2, s3, s4, s5, s6, s7] h = .nx [.val (.scr cs), .val (.int n), .val (.ref h.length), s3, s4, s5, s6, s7] (h ++ [.lst [.lst (ns.map .int), .int ((0 : Nat) : Int)]]) := by
  obtain ⟨ns, h1, h2, h3⟩ := opened (k + 9) cs n hi hn 60 (by omega) h
  have h3 : calA Pr (k + 11) 47 [.scr cs, .int n, .int 60] h = .ok (.ref h.length) (h ++ [.lst [.lst (ns.map .int), .int ((0 : Nat) : Int)]]) := h3
  refine ⟨ns, ?_⟩
  simp only [lawFor, B_law, List.drop_succ_cons, List.drop_zero, List.getD_cons_zero, List.getD_cons_succ]
  simp only [w_ok, w_err, w_stk, o_ok, o_err, o_stk, t_nx, t_bk, t_ct, t_rt, t_er, t_stk, opt_s, opt_n, c_ok, c_stk, ce_nx, ce_rt, ce_er, ie_nx, ie_er, v_con, slV_v, slP_v, slP_o, v_var, v_peek, v_glo, v_bop, v_neg, neg_i, v_cmp, v_chain, v_and, v_or, v_not, v_ite, v_tup, v_lst, v_lstR, v_dsp, v_dnew, v_sub, v_slc, v_rev, ak_n, ak_s, v_attr, v_call, v_mk, v_bi, v_isi, v_get, v_lc, l_nil, l_star, l_cons, d_nil, d_cons, i_rng, i_enu, i_seq, s_fz', s_exp', s_asg', s_par', s_aug', s_app', s_ret', s_retN', s_ife', s_whl', s_for', s_brk', s_cnt', s_pass', s_raise', s_try', x_nil, x_cons, st_name, st_sub, st_attr, st_tup, sts_nil, sts_cons, stp_nil, stp_cons, fl_nil, fl_cons, fk_nx, fk_ct, fk_bk, fk_rt, fk_er, tv_nx, tv_rt, tv_er, p_addi, p_adds, p_addt, p_addl, p_sub, p_muli, p_mull, p_mult, p_fdv, p_mod, p_pow, p_aadd, p_asub, q_lt, q_le, q_gt, q_ge, q_eq, q_ne, q_is, q_isn, q_in, q_nin, a_bl, r_l, r_t, m_l, m_t, sb_t, sb_l, sb_k, sb_s, sb_d, df_int, df_str, df_tup, df_lst, df_ktup, df_dct, df_obj, df_scr, df_bl, df_non, df_ref, bi_len_l, bi_len_t, bi_len_k, bi_len_s, bi_len_x, bi_len_d, bi_int_i, bi_int_b, bi_str, bi_max, bi_min, bi_all, bi_sum, bi_tup_l, bi_tup_t, bi_lst_l, bi_lst_t, bi_dict, pt_lst, pt_dct, pt_obj, pt_f, pt_m, rg_i, sa_t, sa_l, gv_d, ob_o, bt_n, bt_t, bts_n, bts_c, fg_c, at_o, ty_non, ty_bl, ty_int, ty_str, ty_tup, ty_lst, ty_ktup, ty_dct, ty_scr, ty_obj, tys_n, tys_c, ik_bl, ik_int, ik_str, ik_tup, ik_lst, ik_ktup, ik_dct, ik_scr, ik_non, ik_obj, lc_nil, lc_cons, wp_n, wp_c, oi_n, oi_i, sl_t, sl_l, ns_var, ns_peek, ns_con, ns_glo, ns_bop, ns_neg, ns_cmp, ns_chain, ns_and, ns_or, ns_not, ns_ite, ns_tup, ns_lst, ns_lstR, ns_dsp, ns_dnew, ns_sub, ns_slc, ns_rev, ns_attr, ns_prop, ns_call, ns_mk, ns_meth, ns_bi, ns_isi, ns_get, ns_lc, ns_lc2, ns_dc, ns_rng, ns_enu, ns_seq, ex_var, ex_con, ex_glo, ex_bop, ex_neg, ex_cmp, ex_chain, ex_and, ex_or, ex_not, ex_ite, ex_tup, ex_lst, ex_lstR, ex_dsp, ex_dnew, ex_sub, ex_slc, ex_rev, ex_attr, ex_prop, ex_call, ex_mk, ex_meth, ex_bi, ex_isi, ex_get, ex_lc, ex_lc2, ex_dc, ex_rng, ex_enu, ex_seq, ex_peek, es_e, es_v, es_o, fz_s, fz_o, fz_v, fz_e, pl_p, ps_o, ps_c, pu_s, pu_c, pus_o, puc_s, pur_s, pur_c, il_s, il_c, ils_o, ilc_l, sp_l, ss_l, ss_d, sf_o, ft_n, lt_n, isf_var, isf_peek, isf_con, isf_glo, isf_bop, isf_neg, isf_cmp, isf_chain, isf_and, isf_or, isf_not, isf_ite, isf_tup, isf_lst, isf_lstR, isf_dsp, isf_dnew, isf_sub, isf_slc, isf_rev, isf_attr, isf_prop, isf_call, isf_mk, isf_meth, isf_isi, isf_get, isf_lc, isf_lc2, isf_dc, isf_rng, isf_enu, isf_seq, isf_bi_len, isf_bi_int, isf_bi_str, isf_bi_max, isf_bi_min, isf_bi_all, isf_bi_sum, isf_bi_tuple, isf_bi_list, isf_bi_dict, isf_bi_repr, isf_bi_sorted, xh_nil, xh_cons, hk_nx, hk_bk, hk_ct, hk_rt, hn_n, ne_nil, ne_val, ne_own, ne_emp, ax_c, ax_f, List.foldl_cons, List.foldl_nil, List.getElem?_cons_zero, List.getElem?_cons_succ, List.set_cons_zero, List.set_cons_succ, if_true, if_false, ite_true, ite_false, reduceIte, reduceCtorEq, List.length_cons, List.length_nil, List.map_cons, List.map_nil, List.zip_cons_cons, List.zip_nil_left, Option.map_some, Option.map_none, Option.getD_some, Option.getD_none, Option.bind_some, and_true, true_and, and_self, Bool.not_true, Bool.not_false, Bool.or_true, Bool.or_false, Bool.true_or, Bool.false_or, Bool.and_true, Bool.true_and, Bool.and_false, Bool.false_and, decide_true, decide_false, Bool.false_eq_true, h3]
theorem st12 {ns : List Int} {a m : Nat} (p : Pool h m ns a) (i : Int) (s3 s5 s6 : Sl) : ∃ (bs : List Int) (kd sh : AV) (b : Nat), (∀ x ∈ bs, x = 0 ∨ x = 1) ∧ bs.length ≤ 4 ∧
    ((exS Pr (calA Pr (k + 11)) (iniA Pr (k + 11)) (lawFor.2.2.getD 1 .bad) [.val (.scr cs), .val (.int i), .val (.ref m), s3, s4, s5, s6, s7] h).then_ fun σ h => exS Pr (calA Pr (k + 11)) (iniA Pr (k + 11)) (lawFor.2.2.getD 2 .bad) σ h) = .nx (fr8 cs i m bs.length kd sh bs s4 s7) (poolH h m ns b) := by
  obtain ⟨d, kd, sh, b, d1, d2, hk, hsh, e⟩ := game (k + 8) p (m := 4) (by omega)
  have e : calA Pr (k + 11) 51 [.ref m, .int 4] h = .ok (gameV d kd sh) (poolH h m ns b) := e
  obtain ⟨d', rfl⟩ := Int.eq_ofNat_of_zero_le d1
  have p1 : Pool (poolH h m ns b) m ns b := poolH_pool p
  obtain ⟨bs, b2, len, hb, e2⟩ := bits (k + 9) p1 (d := d') (by omega)
  have e2 : calA Pr (k + 11) 50 [.ref m, .int d'] (poolH h m ns b) = .ok (.tup (bs.map .int)) (poolH (poolH h m ns b) m ns b2) := e2
  have e3 := model (k + 5) (poolH h m ns b) d1 d2 hk hsh
  have e3 : calA Pr (k + 11) 52 [gameV d' kd sh] (poolH h m ns b) = .ok (modelV d' kd sh) (poolH h m ns b) := e3
  refine ⟨bs, kd, sh, b2, hb, by omega, ?_⟩
  obtain ⟨x1, x2, x3, x4, x5, x6, x7, x8⟩ := szs
  simp only [lawFor, B_law, List.drop_succ_cons, List.drop_zero, List.getD_cons_zero, List.getD_cons_succ]
  simp only [w_ok, w_err, w_stk, o_ok, o_err, o_stk, t_nx, t_bk, t_ct, t_rt, t_er, t_stk, opt_s, opt_n, c_ok, c_stk, ce_nx, ce_rt, ce_er, ie_nx, ie_er, v_con, slV_v, slP_v, slP_o, v_var, v_peek, v_glo, v_bop, v_neg, neg_i, v_cmp, v_chain, v_and, v_or, v_not, v_ite, v_tup, v_lst, v_lstR, v_dsp, v_dnew, v_sub, v_slc, v_rev, ak_n, ak_s, v_attr, v_call, v_mk, v_bi, v_isi, v_get, v_lc, l_nil, l_star, l_cons, d_nil, d_cons, i_rng, i_enu, i_seq, s_fz', s_exp', s_asg', s_par', s_aug', s_app', s_ret', s_retN', s_ife', s_whl', s_for', s_brk', s_cnt', s_pass', s_raise', s_try', x_nil, x_cons, st_name, st_sub, st_attr, st_tup, sts_nil, sts_cons, stp_nil, stp_cons, fl_nil, fl_cons, fk_nx, fk_ct, fk_bk, fk_rt, fk_er, tv_nx, tv_rt, tv_er, p_addi, p_adds, p_addt, p_addl, p_sub, p_muli, p_mull, p_mult, p_fdv, p_mod, p_pow, p_aadd, p_asub, q_lt, q_le, q_gt, q_ge, q_eq, q_ne, q_is, q_isn, q_in, q_nin, a_bl, r_l, r_t, m_l, m_t, sb_t, sb_l, sb_k, sb_s, sb_d, df_int, df_str, df_tup, df_lst, df_ktup, df_dct, df_obj, df_scr, df_bl, df_non, df_ref, bi_len_l, bi_len_t, bi_len_k, bi_len_s, bi_len_x, bi_len_d, bi_int_i, bi_int_b, bi_str, bi_max, bi_min, bi_all, bi_sum, bi_tup_l, bi_tup_t, bi_lst_l, bi_lst_t, bi_dict, pt_lst, pt_dct, pt_obj, pt_f, pt_m, rg_i, sa_t, sa_l, gv_d, ob_o, bt_n, bt_t, bts_n, bts_c, fg_c, at_o, ty_non, ty_bl, ty_int, ty_str, ty_tup, ty_lst, ty_ktup, ty_dct, ty_scr, ty_obj, tys_n, tys_c, ik_bl, ik_int, ik_str, ik_tup, ik_lst, ik_ktup, ik_dct, ik_scr, ik_non, ik_obj, lc_nil, lc_cons, wp_n, wp_c, oi_n, oi_i, sl_t, sl_l, ns_var, ns_peek, ns_con, ns_glo, ns_bop, ns_neg, ns_cmp, ns_chain, ns_and, ns_or, ns_not, ns_ite, ns_tup, ns_lst, ns_lstR, ns_dsp, ns_dnew, ns_sub, ns_slc, ns_rev, ns_attr, ns_prop, ns_call, ns_mk, ns_meth, ns_bi, ns_isi, ns_get, ns_lc, ns_lc2, ns_dc, ns_rng, ns_enu, ns_seq, ex_var, ex_con, ex_glo, ex_bop, ex_neg, ex_cmp, ex_chain, ex_and, ex_or, ex_not, ex_ite, ex_tup, ex_lst, ex_lstR, ex_dsp, ex_dnew, ex_sub, ex_slc, ex_rev, ex_attr, ex_prop, ex_call, ex_mk, ex_meth, ex_bi, ex_isi, ex_get, ex_lc, ex_lc2, ex_dc, ex_rng, ex_enu, ex_seq, ex_peek, es_e, es_v, es_o, fz_s, fz_o, fz_v, fz_e, pl_p, ps_o, ps_c, pu_s, pu_c, pus_o, puc_s, pur_s, pur_c, il_s, il_c, ils_o, ilc_l, sp_l, ss_l, ss_d, sf_o, ft_n, lt_n, isf_var, isf_peek, isf_con, isf_glo, isf_bop, isf_neg, isf_cmp, isf_chain, isf_and, isf_or, isf_not, isf_ite, isf_tup, isf_lst, isf_lstR, isf_dsp, isf_dnew, isf_sub, isf_slc, isf_rev, isf_attr, isf_prop, isf_call, isf_mk, isf_meth, isf_isi, isf_get, isf_lc, isf_lc2, isf_dc, isf_rng, isf_enu, isf_seq, isf_bi_len, isf_bi_int, isf_bi_str, isf_bi_max, isf_bi_min, isf_bi_all, isf_bi_sum, isf_bi_tuple, isf_bi_list, isf_bi_dict, isf_bi_repr, isf_bi_sorted, xh_nil, xh_cons, hk_nx, hk_bk, hk_ct, hk_rt, hn_n, ne_nil, ne_val, ne_own, ne_emp, ax_c, ax_f, List.foldl_cons, List.foldl_nil, List.getElem?_cons_zero, List.getElem?_cons_succ, List.set_cons_zero, List.set_cons_succ, if_true, if_false, ite_true, ite_false, reduceIte, reduceCtorEq, List.length_cons, List.length_nil, List.map_cons, List.map_nil, List.zip_cons_cons, List.zip_nil_left, Option.map_some, Option.map_none, Option.getD_some, Option.getD_none, Option.bind_some, and_true, true_and, and_self, Bool.not_true, Bool.not_false, Bool.or_true, Bool.or_false, Bool.true_or, Bool.false_or, Bool.and_true, Bool.true_and, Bool.and_false, Bool.false_and, decide_true, decide_false, Bool.false_eq_true, e, e2, e3, g_depth, Nat.reduceAdd, x2, poolH_poolH]
  rw [← len]
  rfl
end
theorem body_eq : lawFor.2.2 = [lawFor.2.2.getD 0 .bad, lawFor.2.2.getD 1 .bad, lawFor.2.2.getD 2 .bad, lawFor.2.2.getD 3 .bad, lawFor.2.2.getD 4 .bad, lawFor.2.2.getD 5 .bad, lawFor.2.2.getD 6 .bad, lawFor.2.2.getD 7 .bad, lawFor.2.2.getD 8 .bad, lawFor.2.2.getD 9 .bad] := rfl
theorem turn (k : Nat) (h : AH) (cs : List Int) (n : Nat) (hi : cs = [] ∨ n < cs.length) (hn : n ≤ 1000) (s2 s3 s4 s5 s6 s7 : Sl) : ∃ σ' h', exL Pr (calA Pr (k + 11)) (iniA Pr (k + 11)) lawFor.2.2 [.val (.scr cs), .val (.int n), s2, s3, s4, s5, s6, s7] h = .nx σ' h' ∧ ∃ t1 t2 t3 t4 t5 t6 t7, σ' = [.val (.scr cs), t1, t2, t3, t4, t5, t6, t7] := by
  obtain ⟨ns, e0⟩ := st0 k h cs n s4 s7 hi hn s2 s3 s5 s6
  obtain ⟨bs, kd, sh, b, hb, hs, e1⟩ := st12 k _ cs s4 s7 (opened_pool (h := h) (ns := ns) (a := 0)) (n : Int) s3 s5 s6
  rw [body_eq]
  generalize hA : exS Pr (calA Pr (k + 11)) (iniA Pr (k + 11)) (lawFor.2.2.getD 1 .bad) _ _ = A at e1
  refine ⟨fr8 cs n h.length bs.length kd sh bs (.val (.tup [.int 1, .int 2, .int 3])) s7, poolH (h ++ [.lst [.lst (ns.map .int), .int ((0 : Nat) : Int)]]) h.length ns b, ?_, _, _, _, _, _, _, _, rfl⟩
  · rw [x_cons, e0, t_nx, x_cons, hA]
    cases A with
    | nx σ1 h1 =>
      rw [t_nx] at e1 ⊢
      rw [x_cons, e1, t_nx]
      simp only [x_cons, x_nil, t_nx, loop1 k _ cs n h.length kd sh bs _ s7 hb hs, loop2 k _ cs n h.length kd sh bs _ s7 hb hs, loop3 k _ cs n h.length kd sh bs _ s7 hb hs, loop4 k _ cs n h.length kd sh bs _ s7 hb hs, loop5 k _ cs n h.length kd sh bs _ s7 hb hs, loop6 k _ cs n h.length kd sh bs _ s7 hb hs, loop7 k _ cs h.length kd sh bs _ s7 n hb hs]
    | bk _ _ => rw [t_bk] at e1; cases e1
    | ct _ _ => rw [t_ct] at e1; cases e1
    | rt _ _ _ => rw [t_rt] at e1; cases e1
    | er _ _ _ => rw [t_er] at e1; cases e1
    | stk => rw [t_stk] at e1; cases e1
theorem law_true (cs : List Int) (hc : cs.length ≤ 63) : ∃ h, calA Pr 20 54 [.scr cs] [] = .ok (.bl true) h := by
  show ∃ h, calA Pr (8 + 11 + 1) 54 [.scr cs] [] = .ok (.bl true) h
  rw [u_law]
  have e : B_law = [.for_ lawFor.1 lawFor.2.1 lawFor.2.2, .fz [] (.ret (.con (.bl true)))] := rfl
  have e1 : lawFor.1 = .name 1 false := rfl
  have e2 : lawFor.2.1 = .rng (.con (.int 0)) (.bi .max [.con (.int 1), .bi .min [.bi .len [.peek 0], .con (.int 5)]]) := rfl
  rw [e, e1, e2]
  have m0 : ∀ i : Int, 0 ≤ i → i ≤ 5 → smallI i = true := fun i h1 h2 => by unfold smallI; rw [decide_eq_true_eq]; omega
  generalize hT : (if (if (5 : Int) < cs.length then (5 : Int) else cs.length) > 1 then (if (5 : Int) < cs.length then (5 : Int) else cs.length) else 1) = T
  have hT2 : 1 ≤ T ∧ T ≤ 5 ∧ (T ≤ cs.length ∨ cs = []) := by
    rw [← hT]
    have : cs = [] ∨ 0 < cs.length := by cases cs <;> simp
    refine ⟨?_, ?_, ?_⟩
    · split <;> omega
    · split
      · split <;> omega
      · omega
    · rcases this with r | r
      · exact .inr r
      · refine .inl ?_
        split
        · split <;> omega
        · omega
  simp only [w_ok, w_err, w_stk, o_ok, o_err, o_stk, t_nx, t_bk, t_ct, t_rt, t_er, t_stk, opt_s, opt_n, c_ok, c_stk, ce_nx, ce_rt, ce_er, ie_nx, ie_er, v_con, slV_v, slP_v, slP_o, v_var, v_peek, v_glo, v_bop, v_neg, neg_i, v_cmp, v_chain, v_and, v_or, v_not, v_ite, v_tup, v_lst, v_lstR, v_dsp, v_dnew, v_sub, v_slc, v_rev, ak_n, ak_s, v_attr, v_call, v_mk, v_bi, v_isi, v_get, v_lc, l_nil, l_star, l_cons, d_nil, d_cons, i_rng, i_enu, i_seq, s_fz', s_exp', s_asg', s_par', s_aug', s_app', s_ret', s_retN', s_ife', s_whl', s_for', s_brk', s_cnt', s_pass', s_raise', s_try', x_nil, x_cons, st_name, st_sub, st_attr, st_tup, sts_nil, sts_cons, stp_nil, stp_cons, fl_nil, fl_cons, fk_nx, fk_ct, fk_bk, fk_rt, fk_er, tv_nx, tv_rt, tv_er, p_addi, p_adds, p_addt, p_addl, p_sub, p_muli, p_mull, p_mult, p_fdv, p_mod, p_pow, p_aadd, p_asub, q_lt, q_le, q_gt, q_ge, q_eq, q_ne, q_is, q_isn, q_in, q_nin, a_bl, r_l, r_t, m_l, m_t, sb_t, sb_l, sb_k, sb_s, sb_d, df_int, df_str, df_tup, df_lst, df_ktup, df_dct, df_obj, df_scr, df_bl, df_non, df_ref, bi_len_l, bi_len_t, bi_len_k, bi_len_s, bi_len_x, bi_len_d, bi_int_i, bi_int_b, bi_str, bi_max, bi_min, bi_all, bi_sum, bi_tup_l, bi_tup_t, bi_lst_l, bi_lst_t, bi_dict, pt_lst, pt_dct, pt_obj, pt_f, pt_m, rg_i, sa_t, sa_l, gv_d, ob_o, bt_n, bt_t, bts_n, bts_c, fg_c, at_o, ty_non, ty_bl, ty_int, ty_str, ty_tup, ty_lst, ty_ktup, ty_dct, ty_scr, ty_obj, tys_n, tys_c, ik_bl, ik_int, ik_str, ik_tup, ik_lst, ik_ktup, ik_dct, ik_scr, ik_non, ik_obj, lc_nil, lc_cons, wp_n, wp_c, oi_n, oi_i, sl_t, sl_l, ns_var, ns_peek, ns_con, ns_glo, ns_bop, ns_neg, ns_cmp, ns_chain, ns_and, ns_or, ns_not, ns_ite, ns_tup, ns_lst, ns_lstR, ns_dsp, ns_dnew, ns_sub, ns_slc, ns_rev, ns_attr, ns_prop, ns_call, ns_mk, ns_meth, ns_bi, ns_isi, ns_get, ns_lc, ns_lc2, ns_dc, ns_rng, ns_enu, ns_seq, ex_var, ex_con, ex_glo, ex_bop, ex_neg, ex_cmp, ex_chain, ex_and, ex_or, ex_not, ex_ite, ex_tup, ex_lst, ex_lstR, ex_dsp, ex_dnew, ex_sub, ex_slc, ex_rev, ex_attr, ex_prop, ex_call, ex_mk, ex_meth, ex_bi, ex_isi, ex_get, ex_lc, ex_lc2, ex_dc, ex_rng, ex_enu, ex_seq, ex_peek, es_e, es_v, es_o, fz_s, fz_o, fz_v, fz_e, pl_p, ps_o, ps_c, pu_s, pu_c, pus_o, puc_s, pur_s, pur_c, il_s, il_c, ils_o, ilc_l, sp_l, ss_l, ss_d, sf_o, ft_n, lt_n, isf_var, isf_peek, isf_con, isf_glo, isf_bop, isf_neg, isf_cmp, isf_chain, isf_and, isf_or, isf_not, isf_ite, isf_tup, isf_lst, isf_lstR, isf_dsp, isf_dnew, isf_sub, isf_slc, isf_rev, isf_attr, isf_prop, isf_call, isf_mk, isf_meth, isf_isi, isf_get, isf_lc, isf_lc2, isf_dc, isf_rng, isf_enu, isf_seq, isf_bi_len, isf_bi_int, isf_bi_str, isf_bi_max, isf_bi_min, isf_bi_all, isf_bi_sum, isf_bi_tuple, isf_bi_list, isf_bi_dict, isf_bi_repr, isf_bi_sorted, xh_nil, xh_cons, hk_nx, hk_bk, hk_ct, hk_rt, hn_n, ne_nil, ne_val, ne_own, ne_emp, ax_c, ax_f, List.foldl_cons, List.foldl_nil, List.getElem?_cons_zero, List.getElem?_cons_succ, List.set_cons_zero, List.set_cons_succ, if_true, if_false, ite_true, ite_false, reduceIte, reduceCtorEq, List.length_cons, List.length_nil, List.map_cons, List.map_nil, List.zip_cons_cons, List.zip_nil_left, Option.map_some, Option.map_none, Option.getD_some, Option.getD_none, Option.bind_some, and_true, true_and, and_self, Bool.not_true, Bool.not_false, Bool.or_true, Bool.or_false, Bool.true_or, Bool.false_or, Bool.and_true, Bool.true_and, Bool.and_false, Bool.false_and, decide_true, decide_false, Bool.false_eq_true, hT, m0 0 (by omega) (by omega), m0 T (by omega) (by omega), Int.sub_zero]
  generalize hF : forT Pr _ _ _ _ = F
  obtain ⟨σ', h', e, t1, t2, t3, t4, t5, t6, t7, rfl⟩ := forL_inv (f := F) (fun _ σ _ => ∃ t1 t2 t3 t4 t5 t6 t7, σ = [.val (.scr cs), t1, t2, t3, t4, t5, t6, t7]) (rngL 0 T.toNat) 0 (σ := [.val (.scr cs), .emp, .emp, .emp, .emp, .emp, .emp, .emp]) (h := [])
    ⟨_, _, _, _, _, _, _, rfl⟩ (by
      rintro i x σ h hx ⟨t1, t2, t3, t4, t5, t6, t7, rfl⟩
      obtain ⟨rfl, hi⟩ := rngL_at hx
      rw [← hF, ft_n, show (0 : Int) + (i : Int) = (i : Int) by omega]
      exact turn 8 h cs i (by rcases hT2.2.2 with r | r; (right; omega); exact .inl r) (by omega) t2 t3 t4 t5 t6 t7)
  rw [e]
  simp only [w_ok, w_err, w_stk, o_ok, o_err, o_stk, t_nx, t_bk, t_ct, t_rt, t_er, t_stk, opt_s, opt_n, c_ok, c_stk, ce_nx, ce_rt, ce_er, ie_nx, ie_er, v_con, slV_v, slP_v, slP_o, v_var, v_peek, v_glo, v_bop, v_neg, neg_i, v_cmp, v_chain, v_and, v_or, v_not, v_ite, v_tup, v_lst, v_lstR, v_dsp, v_dnew, v_sub, v_slc, v_rev, ak_n, ak_s, v_attr, v_call, v_mk, v_bi, v_isi, v_get, v_lc, l_nil, l_star, l_cons, d_nil, d_cons, i_rng, i_enu, i_seq, s_fz', s_exp', s_asg', s_par', s_aug', s_app', s_ret', s_retN', s_ife', s_whl', s_for', s_brk', s_cnt', s_pass', s_raise', s_try', x_nil, x_cons, st_name, st_sub, st_attr, st_tup, sts_nil, sts_cons, stp_nil, stp_cons, fl_nil, fl_cons, fk_nx, fk_ct, fk_bk, fk_rt, fk_er, tv_nx, tv_rt, tv_er, p_addi, p_adds, p_addt, p_addl, p_sub, p_muli, p_mull, p_mult, p_fdv, p_mod, p_pow, p_aadd, p_asub, q_lt, q_le, q_gt, q_ge, q_eq, q_ne, q_is, q_isn, q_in, q_nin, a_bl, r_l, r_t, m_l, m_t, sb_t, sb_l, sb_k, sb_s, sb_d, df_int, df_str, df_tup, df_lst, df_ktup, df_dct, df_obj, df_scr, df_bl, df_non, df_ref, bi_len_l, bi_len_t, bi_len_k, bi_len_s, bi_len_x, bi_len_d, bi_int_i, bi_int_b, bi_str, bi_max, bi_min, bi_all, bi_sum, bi_tup_l, bi_tup_t, bi_lst_l, bi_lst_t, bi_dict, pt_lst, pt_dct, pt_obj, pt_f, pt_m, rg_i, sa_t, sa_l, gv_d, ob_o, bt_n, bt_t, bts_n, bts_c, fg_c, at_o, ty_non, ty_bl, ty_int, ty_str, ty_tup, ty_lst, ty_ktup, ty_dct, ty_scr, ty_obj, tys_n, tys_c, ik_bl, ik_int, ik_str, ik_tup, ik_lst, ik_ktup, ik_dct, ik_scr, ik_non, ik_obj, lc_nil, lc_cons, wp_n, wp_c, oi_n, oi_i, sl_t, sl_l, ns_var, ns_peek, ns_con, ns_glo, ns_bop, ns_neg, ns_cmp, ns_chain, ns_and, ns_or, ns_not, ns_ite, ns_tup, ns_lst, ns_lstR, ns_dsp, ns_dnew, ns_sub, ns_slc, ns_rev, ns_attr, ns_prop, ns_call, ns_mk, ns_meth, ns_bi, ns_isi, ns_get, ns_lc, ns_lc2, ns_dc, ns_rng, ns_enu, ns_seq, ex_var, ex_con, ex_glo, ex_bop, ex_neg, ex_cmp, ex_chain, ex_and, ex_or, ex_not, ex_ite, ex_tup, ex_lst, ex_lstR, ex_dsp, ex_dnew, ex_sub, ex_slc, ex_rev, ex_attr, ex_prop, ex_call, ex_mk, ex_meth, ex_bi, ex_isi, ex_get, ex_lc, ex_lc2, ex_dc, ex_rng, ex_enu, ex_seq, ex_peek, es_e, es_v, es_o, fz_s, fz_o, fz_v, fz_e, pl_p, ps_o, ps_c, pu_s, pu_c, pus_o, puc_s, pur_s, pur_c, il_s, il_c, ils_o, ilc_l, sp_l, ss_l, ss_d, sf_o, ft_n, lt_n, isf_var, isf_peek, isf_con, isf_glo, isf_bop, isf_neg, isf_cmp, isf_chain, isf_and, isf_or, isf_not, isf_ite, isf_tup, isf_lst, isf_lstR, isf_dsp, isf_dnew, isf_sub, isf_slc, isf_rev, isf_attr, isf_prop, isf_call, isf_mk, isf_meth, isf_isi, isf_get, isf_lc, isf_lc2, isf_dc, isf_rng, isf_enu, isf_seq, isf_bi_len, isf_bi_int, isf_bi_str, isf_bi_max, isf_bi_min, isf_bi_all, isf_bi_sum, isf_bi_tuple, isf_bi_list, isf_bi_dict, isf_bi_repr, isf_bi_sorted, xh_nil, xh_cons, hk_nx, hk_bk, hk_ct, hk_rt, hn_n, ne_nil, ne_val, ne_own, ne_emp, ax_c, ax_f, List.foldl_cons, List.foldl_nil, List.getElem?_cons_zero, List.getElem?_cons_succ, List.set_cons_zero, List.set_cons_succ, if_true, if_false, ite_true, ite_false, reduceIte, reduceCtorEq, List.length_cons, List.length_nil, List.map_cons, List.map_nil, List.zip_cons_cons, List.zip_nil_left, Option.map_some, Option.map_none, Option.getD_some, Option.getD_none, Option.bind_some, and_true, true_and, and_self, Bool.not_true, Bool.not_false, Bool.or_true, Bool.or_false, Bool.true_or, Bool.false_or, Bool.and_true, Bool.true_and, Bool.and_false, Bool.false_and, decide_true, decide_false, Bool.false_eq_true]
  exact ⟨h', rfl⟩

end LawT
open PySem PySem.W PySem.Calls PyProof.Rows
theorem PySem.Challenge.cw_weighedtrees_k68_bounded_refused_holds : PySem.Challenge.rw_weighedtrees_k68_bounded_refused.Holds := by
  w_on; o_law
  refine HandSHeadRun.head_any (r := OpenLaw.row PySem.Challenge.rw_weighedtrees_k68_bounded_refused) (q := view (OpenLaw.row PySem.Challenge.rw_weighedtrees_k68_bounded_refused).prog [82]) (H := AM.hookA LawT.X.chk LawT.X.defs) (ob := fun s => AM.obsA LawT.X.chk LawT.X.defs (HandSHeadRun.getT s)) (M := 7000) (loose := LawT.loose) (d := HandSHeadRun.topDef (OpenLaw.row PySem.Challenge.rw_weighedtrees_k68_bounded_refused).prog 82) (kwd := []) AM.hookA_at
    (by kernel_rfl) (fun s => by kernel_rfl) LawT.run (by kernel_rfl) (by kernel_rfl) (by kernel_rfl) (by rfl) (by first | assumption | decide +kernel) (by decide +kernel) ⟨rfl, rfl, rfl, rfl, rfl, by decide +kernel⟩ ?hw ?hc
  case hw => w_witness2
  case hc =>
    refine AM.walk_G (l := PySem.Challenge.rw_weighedtrees_k68_bounded_refused) (n := 63) (k := 2 * 20 + 1) (x := "_law_script") rfl (by decide) (by kernel_rfl) ⟨rfl, by decide, by decide⟩ ?F
    have e : (HandSHeadRun.topDef (OpenLaw.row PySem.Challenge.rw_weighedtrees_k68_bounded_refused).prog 82).name = ("law" : PySem.Str) := by kernel_rfl
    rw [e]
    exact AM.law_of (l := PySem.Challenge.rw_weighedtrees_k68_bounded_refused) (jl := 54) (d := LawT.i54) (by decide) LawT.sta LawT.bare LawT.bd LawT.be LawT.fns rfl rfl rfl rfl rfl LawT.law_true
