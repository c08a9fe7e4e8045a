import PyProof.Rows.All
import Wide.All
import OpenK.AllK
import Wide.FinOn
import KE.KStateDown
import HandS.ForMost
import HandS.IsInst
import HandS.Deep
import HandS.TupAny
import HandS.DictComp
import HandS.CallLocal
import HandS.Wide
import HandS.Defaults
import HandS.WordsExc
import HandS.Head0
import HandS.Head1
import HandS.Head2
import HandS.HeadEnd
import HandS.HeadHook1
import HandS.HeadHook2
import HandS.DeepEq
import HandS.TupLe
import HandS.TupMul
import KE.KEqNest
import PyProof.NeKinds
import PyProof.AutoSeq1
import PyProof.ListStr
import HandS.Conv
import HandS.Walk
import HandS.Comp
import HandS.Words
import HandS.List
import KE.KRevSl
import HandS.SortInts
import HandS.NamedTupSort
import HandS.SortRule
import HandS.More
import HandS.Zip
import KE.KDictZip
import KE.KDictList
import HandS.DictTup
import HandS.Keys
import PySem.Challenge.RW_termwright_k08_rules_and_steps
set_option Elab.async false
set_option linter.all false
set_option maxRecDepth 100000
set_option maxHeartbeats 4000000
/-! Mini1: tree values, the little heap, the evaluator of the little language. -/
namespace L2.Mi
open PySem PySem.Spec PyProof.Rows

abbrev Sx := List Nat
abbrev MKey := Sum Int Sx
/-- a value: a tree; loc: a live (changeable) object; fn: a def of the text; scr: the law's script -/
inductive MV where
  | non | bl (b : Bool) | int (i : Int) | str (s : Sx) | fn (f : Nat)
  | tup (xs : List MV) | lst (xs : List MV) | loc (l : Nat) | dct (ks : List MKey) (vs : List MV) | scr (ns : List Int)
inductive MO where
  | lst (xs : List MV) | dct (ks : List MKey) (vs : List MV)
abbrev MHp := List (Option MO)
abbrev Env := List (Option MV)

inductive Op | add | sub | mul | fdiv | mod
inductive Cop | eq | ne | lt | le | gt | ge | mem | nmem | is | isn
inductive Ty | int | bool | str | tuple | list | dict
inductive Bi | len | abs | int | strI | tuple | list | all | any | sum | max | min | sorted | dict
inductive Me | append | extend | pop | popAt | upper | get2
inductive Tg | nm (i : Nat) | tp (ts : List Tg)
inductive ME where
  | var (i : Nat)
  | c (v : MV)
  | bin (o : Op) (a b : ME)
  | neg (a : ME)
  | cmp (o : Cop) (a b : ME)
  | chn (o o' : Cop) (a b c : ME)
  | and (a b : ME) | or (a b : ME) | not (a : ME) | ite (c a b : ME)
  | tup (es : List ME) | lst (es : List ME) | dnew
  | call (f : Nat) (es : List ME) | callv (i : Nat) (es : List ME)
  | bi (f : Bi) (es : List ME) | isi (e : ME) (t : Ty)
  | meth (m : Me) (o : ME) (es : List ME)
  | sub (a i : ME) | slcL (a lo : ME) | slcH (a hi : ME) | slcB (a lo hi : ME) | rev (a : ME)
  | comp (tg : Tg) (own : List Nat) (it : ME) (cond : ME) (e : ME)
  | dcomp (tg : Tg) (own : List Nat) (it : ME) (cond : ME) (k e : ME)
  | rng1 (a : ME) | rng2 (a b : ME) | zip (a b : ME)
  | al (e : ME)
  | disp1 (k v : ME)
  | lzip (a b : ME)
inductive MS where
  | ex (e : ME)
  | set (t : Tg) (e : ME)
  | par (i j : Nat) (a b : ME)
  | ret (e : ME)
  | ite (c : ME) (a b : List MS)
  | for (t : Tg) (it : ME) (body : List MS)
  | while (c : ME) (body : List MS)
  | sti (o i e : ME)
  | aug (i : Nat) (o : Op) (e : ME)
  | pass | brk | cnt

/-- a call: the def's number, its arguments, the heap -/
abbrev CallF := Nat → List MV → MHp → Option (MV × MHp)

/-! ### values -/
abbrev line : Nat := 16777216
/-- the items of a list -/
def getL (mh : MHp) : MV → Option (List MV)
  | .lst xs => some xs
  | .loc l => match mh[l]? with
    | some (some (.lst xs)) => some xs
    | _ => none
  | _ => none
def getD (mh : MHp) : MV → Option (List MKey × List MV)
  | .dct ks vs => some (ks, vs)
  | .loc l => match mh[l]? with
    | some (some (.dct ks vs)) => some (ks, vs)
    | _ => none
  | _ => none
def kyV : MV → Option MKey
  | .int i => some (.inl i)
  | .str s => some (.inr s)
  | _ => none
def kM : MKey → MV
  | .inl i => .int i
  | .inr s => .str s
/-- what a dict holds at a key -/
def dLook : List MKey → List MV → MKey → Option MV
  | k' :: ks, m :: ms, k => if k' = k then some m else dLook ks ms k
  | _, _, _ => none
/-- d[k] = m: the keys, the values -/
def dPutK (ks : List MKey) (k : MKey) : List MKey := if (ks.any fun k' => decide (k' = k)) = true then ks else ks ++ [k]
def dPutV (ks : List MKey) (ms : List MV) (k : MKey) (m : MV) : List MV := if (ks.any fun k' => decide (k' = k)) = true then List.zipWith (fun k' m' => if k' = k then m else m') ks ms else ms ++ [m]
def dFold : List (MKey × MV) → List MKey → List MV → List MKey × List MV
  | [], ks, ms => (ks, ms)
  | p :: ps, ks, ms => dFold ps (dPutK ks p.1) (dPutV ks ms p.1 p.2)
def pairK : MV → Option (MKey × MV)
  | .tup [k, v] => (kyV k).map (·, v)
  | _ => none
def strOf : MV → Option Sx
  | .str s => some s
  | _ => none
def sortS (xs : List Sx) : List Sx := xs.mergeSort fun a b => decide (a ≤ b)
mutual
/-- live objects with numbers from n on are read out -/
def frz (n : Nat) (mh : MHp) : Nat → MV → Option MV
  | k, .tup xs => (frzs n mh k xs).map .tup
  | k, .lst xs => (frzs n mh k xs).map .lst
  | k, .dct ks vs => (frzs n mh k vs).map (.dct ks)
  | k, .loc l => if l < n then some (.loc l) else match k with
    | 0 => none
    | k + 1 => match mh[l]? with
      | some (some (.lst xs)) => (frzs n mh k xs).map .lst
      | some (some (.dct ks vs)) => (frzs n mh k vs).map (.dct ks)
      | _ => none
  | _, .non => some .non
  | _, .bl b => some (.bl b)
  | _, .int i => some (.int i)
  | _, .str s => some (.str s)
  | _, .fn f => some (.fn f)
  | _, .scr ns => some (.scr ns)
def frzs (n : Nat) (mh : MHp) : Nat → List MV → Option (List MV)
  | _, [] => some []
  | k, x :: xs => match frz n mh k x with
    | none => none
    | some y => (frzs n mh k xs).map (y :: ·)
end

mutual
/-- plain data -/
def toD : MV → PyData
  | .non => .none
  | .bl b => .bool b
  | .int i => .int i
  | .str s => .str ⟨s.toArray⟩
  | .tup xs => .tuple (toDs xs)
  | .lst xs => .list (toDs xs)
  | .scr ns => .list (ns.map .int)
  | .fn _ => .dict []
  | .loc _ => .dict []
  | .dct _ _ => .dict []
def toDs : List MV → List PyData
  | [] => []
  | x :: xs => toD x :: toDs xs
end
/-- data that == serves -/
def okD (x : MV) : Bool := SeqAt.shaped (toD x)
def eqD (x y : MV) : Bool := PyData.eqv (toD x) (toD y)
mutual
/-- how deep eqT goes -/
def hgt : MV → Nat
  | .tup xs => hgts xs + 1
  | .lst xs => hgts xs + 1
  | .dct _ ms => hgts ms + 1
  | _ => 0
def hgts : List MV → Nat
  | [] => 0
  | x :: xs => max (hgt x) (hgts xs)
end
def notTup : MV → Bool
  | .tup _ => false
  | _ => true
mutual
/-- the two are equal; dicts may stand within -/
def eqT : MV → MV → Bool
  | .dct ks ms, .dct ls ns => decide (ks.length = ls.length) && eqKs ms ks ls ns
  | .tup xs, .tup ys => eqTs xs ys
  | .lst xs, .lst ys => eqTs xs ys
  | x, y => okD x && okD y && eqD x y && decide (PyData.depth (toD x) = 0)
def eqTs : List MV → List MV → Bool
  | [], [] => true
  | x :: xs, y :: ys => eqT x y && eqTs xs ys
  | _, _ => false
def eqKs : List MV → List MKey → List MKey → List MV → Bool
  | m :: ms, k :: ks, ls, ns => (match dLook ls ns k with
    | some n => eqT m n
    | none => false) && eqKs ms ks ls ns
  | _, _, _, _ => true
end
def idx {α : Type} (xs : List α) (i : Int) : Option α := L2.atI xs i
def cut {α : Type} (xs : List α) (lo hi : Option Int) : List α := (xs.drop (HT.sIx xs.length 0 lo)).take (HT.sIx xs.length xs.length hi - HT.sIx xs.length 0 lo)

/-! ### operations -/
def addV (mh : MHp) (x y : MV) : Option MV := match x, y with
  | .int i, .int j => some (.int (i + j))
  | .str s, .str t => if s.length + t.length ≤ line then some (.str (s ++ t)) else none
  | .tup xs, .tup ys => if xs.length + ys.length ≤ line then some (.tup (xs ++ ys)) else none
  | x, y => match getL mh x with
    | none => none
    | some xs => match getL mh y with
      | none => none
      | some ys => if xs.length + ys.length ≤ line then some (.lst (xs ++ ys)) else none
def mulV (x y : MV) : Option MV := match x, y with
  | .int i, .int j => if (-(2 ^ 64) < i ∧ i < 2 ^ 64) ∨ (-(2 ^ 64) < j ∧ j < 2 ^ 64) then some (.int (i * j)) else none
  | .str s, .int j => if 0 ≤ j ∧ j ≤ 1000000 ∧ s.length * j.toNat ≤ line then some (.str (List.replicate j.toNat s).flatten) else none
  | .tup xs, .int j => if xs.isEmpty = false ∧ 2 ≤ j ∧ j ≤ 1000 ∧ xs.length ≤ 1000 then some (.tup (List.replicate j.toNat xs).flatten) else none
  | _, _ => none
def intV (f : Int → Int → Option Int) (x y : MV) : Option MV := match x, y with
  | .int i, .int j => (f i j).map .int
  | _, _ => none
def binV (mh : MHp) : Op → MV → MV → Option MV
  | .add, x, y => addV mh x y
  | .mul, x, y => mulV x y
  | .sub, x, y => intV (fun i j => some (i - j)) x y
  | .fdiv, x, y => intV (fun i j => if j ≠ 0 ∧ j.natAbs < 1073741824 then some (i.fdiv j) else none) x y
  | .mod, x, y => intV (fun i j => if j ≠ 0 then some (i.fmod j) else none) x y
def eqV (mh : MHp) (x y : MV) : Option Bool := match frz 0 mh 8 x with
  | none => none
  | some x' => match frz 0 mh 8 y with
    | none => none
    | some y' => if okD x' = true ∧ okD y' = true then some (eqD x' y') else if eqT x' y' = true ∧ hgt x' ≤ 60 ∧ notTup x' = true then some true else none
def memV (mh : MHp) (x y : MV) : Option Bool := match x, y with
  | .str [c], .str t => some (decide (c ∈ t))
  | x, y => match frz 0 mh 8 x with
    | none => none
    | some x' => match frz 0 mh 8 y with
      | some (.lst ys) => if okD x' = true ∧ okD (.lst ys) = true then some (ys.any fun z => eqD z x') else none
      | some (.dct ks ms) => (kyV x).map fun k => (dLook ks ms k).isSome
      | _ => none
def ordV (x y : MV) : Option (Bool × Bool) := match x, y with
  | .int i, .int j => some (decide (i < j), decide (j < i))
  | .str s, .str t => some (decide (s < t), decide (t < s))
  | _, _ => none
def isV : MV → MV → Option Bool
  | .non, .non => some true
  | _, .non => some false
  | .bl a, .bl b => some (decide (a = b))
  | _, _ => none
def cmpV (mh : MHp) : Cop → MV → MV → Option Bool
  | .eq, x, y => eqV mh x y
  | .ne, x, y => (eqV mh x y).map (!·)
  | .mem, x, y => memV mh x y
  | .nmem, x, y => (memV mh x y).map (!·)
  | .lt, x, y => (ordV x y).map fun p => p.1
  | .gt, x, y => (ordV x y).map fun p => p.2
  | .le, x, y => (ordV x y).map fun p => !p.2
  | .ge, x, y => (ordV x y).map fun p => !p.1
  | .is, x, y => isV x y
  | .isn, x, y => (isV x y).map (!·)
def subD (mh : MHp) (x y : MV) : Option MV := match getD mh x with
  | some (ks, ms) => (kyV y).bind fun k => dLook ks ms k
  | none => none
def subV (mh : MHp) : MV → MV → Option MV
  | .tup xs, .int i => idx xs i
  | .str s, .int i => if s.length ≤ line then (idx s i).map fun c => .str [c] else none
  | x, .int i => match getL mh x with
    | some xs => idx xs i
    | none => subD mh x (.int i)
  | x, y => subD mh x y
def slcV (mh : MHp) (x : MV) (lo hi : Option Int) : Option MV := match x with
  | .tup xs => some (.tup (cut xs lo hi))
  | .str s => if s.length ≤ line then some (.str (cut s lo hi)) else none
  | .scr ns => some (.lst (cut (ns.map .int) lo hi))
  | x => (getL mh x).map fun xs => .lst (cut xs lo hi)
def isTy : MV → Ty → MHp → Option Bool
  | .non, _, _ => some false
  | .bl _, t, _ => some (match t with | .bool => true | .int => true | _ => false)
  | .int _, t, _ => some (match t with | .int => true | _ => false)
  | .str _, t, _ => some (match t with | .str => true | _ => false)
  | .tup _, t, _ => some (match t with | .tuple => true | _ => false)
  | .lst _, t, _ => some (match t with | .list => true | _ => false)
  | .dct _ _, t, _ => some (match t with | .dict => true | _ => false)
  | .loc l, t, mh => match mh[l]? with
    | some (some (.lst _)) => some (match t with | .list => true | _ => false)
    | some (some (.dct _ _)) => some (match t with | .dict => true | _ => false)
    | _ => none
  | .fn _, _, _ => none
  | .scr _, _, _ => none
def blOf : MV → Option Bool
  | .bl b => some b
  | _ => none
def intOf : MV → Option Int
  | .int i => some i
  | _ => none
def one1 (f : MV → Option MV) : List MV → Option MV
  | [x] => f x
  | _ => none
def lenV (mh : MHp) (x : MV) : Option MV := match x with
  | .str s => if s.length ≤ line then some (.int s.length) else none
  | .tup xs => some (.int xs.length)
  | x => match getL mh x with
    | some xs => some (.int xs.length)
    | none => (getD mh x).map fun d => .int d.1.length
def absV (x : MV) : Option MV := match x with
  | .int i => some (.int (if i < 0 then -i else i))
  | _ => none
def intV1 (x : MV) : Option MV := match x with
  | .int i => some (.int i)
  | .bl b => some (.int (if b = true then 1 else 0))
  | _ => none
def strV (x : MV) : Option MV := match x with
  | .int i => if i.natAbs.log2 < 1920 then some (.str (toString i : Str).cps.toList) else none
  | _ => none
def tupV (mh : MHp) (x : MV) : Option MV := match x with
  | .tup xs => some (.tup xs)
  | x => (getL mh x).map .tup
def lstV (mh : MHp) (x : MV) : Option MV := match x with
  | .tup xs => some (.lst xs)
  | .str s => if s.length ≤ line then some (.lst (s.map fun c => .str [c])) else none
  | x => match getL mh x with
    | some xs => some (.lst xs)
    | none => (getD mh x).map fun d => .lst (d.1.map kM)
def bls (mh : MHp) (x : MV) : Option (List Bool) := (getL mh x).bind fun xs => xs.mapM blOf
def intsM (mh : MHp) (x : MV) : Option (List Int) := (getL mh x).bind fun xs => xs.mapM intOf
def tupI (x : MV) : Option (List Int) := match x with
  | .tup ys => ys.mapM intOf
  | _ => none
/-- sorted: whole numbers; or tuples of whole numbers that stand in order already, the first of them empty -/
def sortedV (mh : MHp) (x : MV) : Option MV := match getL mh x with
  | none => match getD mh x with
    | none => none
    | some d => match (d.1.map kM).mapM strOf with
      | some ss => if ss.length < 64 then some (.lst ((sortS ss).map .str)) else none
      | none => none
  | some xs => match xs.mapM intOf with
    | some ns => some (.lst ((ns.mergeSort fun a b => decide (a ≤ b)).map .int))
    | none => match xs.mapM tupI with
      | some nss => if nss.head? = some [] ∧ nss.Pairwise (fun a b => HT.lexLt b a = false) then some (.lst xs) else none
      | none => match xs.mapM strOf with
        | some ss => if ss.length < 64 then some (.lst ((sortS ss).map .str)) else none
        | none => none
def dictV (mh : MHp) (x : MV) : Option MV := match getL mh x with
  | none => none
  | some xs => match xs.mapM pairK with
    | some ps => some (.dct (dFold ps [] []).1 (dFold ps [] []).2)
    | none => none
def biV (mh : MHp) : Bi → List MV → Option MV
  | .len, xs => one1 (lenV mh) xs
  | .abs, xs => one1 absV xs
  | .int, xs => one1 intV1 xs
  | .strI, xs => one1 strV xs
  | .tuple, xs => one1 (tupV mh) xs
  | .list, xs => one1 (lstV mh) xs
  | .all, xs => one1 (fun x => (bls mh x).map fun bs => .bl (bs.all id)) xs
  | .any, xs => one1 (fun x => (bls mh x).map fun bs => .bl (bs.any id)) xs
  | .sum, xs => one1 (fun x => (intsM mh x).map fun ns => .int ns.sum) xs
  | .max, xs => one1 (fun x => (intsM mh x).bind fun ns => ns.max?.map .int) xs
  | .min, xs => one1 (fun x => (intsM mh x).bind fun ns => ns.min?.map .int) xs
  | .sorted, xs => one1 (sortedV mh) xs
  | .dict, xs => one1 (dictV mh) xs
mutual
/-- all live objects within have numbers below n -/
def bd (n : Nat) : MV → Bool
  | .tup xs => bds n xs
  | .lst xs => bds n xs
  | .dct _ vs => bds n vs
  | .loc l => decide (l < n)
  | .non => true
  | .bl _ => true
  | .int _ => true
  | .str _ => true
  | .fn _ => true
  | .scr _ => true
def bds (n : Nat) : List MV → Bool
  | [] => true
  | x :: xs => bd n x && bds n xs
end
/-- what may be written into the object l while a frame that began at base runs -/
def wr (base l : Nat) (x : MV) : Bool := decide (base ≤ l) || bd l x
def upperC (s : Sx) : Sx := (Txt.upper ⟨s.toArray⟩).cps.toList
/-- the live list l -/
def liveL (mh : MHp) (x : MV) : Option (Nat × List MV) := match x with
  | .loc l => match mh[l]? with
    | some (some (.lst xs)) => some (l, xs)
    | _ => none
  | _ => none
/-- the receiver's kind, ahead of the arguments -/
def tyM (mh : MHp) : Me → MV → Bool
  | .upper, .str _ => true
  | .append, x => (liveL mh x).isSome
  | .extend, x => (liveL mh x).isSome
  | .pop, x => (liveL mh x).isSome
  | .popAt, x => (liveL mh x).isSome
  | .get2, x => (getD mh x).isSome
  | _, _ => false
/-- the items of a list or a tuple -/
def seqOf (mh : MHp) (x : MV) : Option (List MV) := match x with
  | .tup ys => some ys
  | x => getL mh x
def appV (base : Nat) (mh : MHp) (o : MV) (es : List MV) : Option (MV × MHp) := match liveL mh o, es with
  | some (l, xs), [x] => if wr base l x = true ∧ xs.length < line then some (.non, mh.set l (some (.lst (xs ++ [x])))) else none
  | _, _ => none
def extV (base : Nat) (mh : MHp) (o : MV) (es : List MV) : Option (MV × MHp) := match liveL mh o, es with
  | some (l, xs), [x] => match seqOf mh x with
    | some ys => if (ys.all (wr base l)) = true ∧ xs.length + ys.length ≤ line then some (.non, mh.set l (some (.lst (xs ++ ys)))) else none
    | none => none
  | _, _ => none
def popV (mh : MHp) (o : MV) (es : List MV) : Option (MV × MHp) := match liveL mh o, es with
  | some (l, xs), [] => (xs[xs.length - 1]?).map fun y => (y, mh.set l (some (.lst xs.dropLast)))
  | _, _ => none
def popAtV (mh : MHp) (o : MV) (es : List MV) : Option (MV × MHp) := match liveL mh o, es with
  | some (l, xs), [.int i] => if -(2 ^ 63) ≤ i ∧ i < 2 ^ 63 then (match seqIndex? i xs.length with
      | none => none
      | some k => (xs[k]?).map fun y => (y, mh.set l (some (.lst (xs.eraseIdx k))))) else none
  | _, _ => none
def uppV (mh : MHp) (o : MV) (es : List MV) : Option (MV × MHp) := match o, es with
  | .str s, [] => if s.length ≤ 5592405 then some (.str (upperC s), mh) else none
  | _, _ => none
def getV (mh : MHp) (o : MV) (es : List MV) : Option (MV × MHp) := match getD mh o, es with
  | some (ks, ms), [y, d] => (kyV y).map fun k => ((dLook ks ms k).getD d, mh)
  | _, _ => none
def methV (base : Nat) (mh : MHp) : Me → MV → List MV → Option (MV × MHp)
  | .append, o, es => appV base mh o es
  | .extend, o, es => extV base mh o es
  | .pop, o, es => popV mh o es
  | .popAt, o, es => popAtV mh o es
  | .upper, o, es => uppV mh o es
  | .get2, o, es => getV mh o es
mutual
def asg (mh : MHp) : Tg → MV → Env → Option Env
  | .nm i, v, ρ => if i < ρ.length then some (ρ.set i (some v)) else none
  | .tp ts, v, ρ => match v with
    | .tup xs => asgs mh ts xs ρ
    | _ => none
def asgs (mh : MHp) : List Tg → List MV → Env → Option Env
  | [], [], ρ => some ρ
  | t :: ts, x :: xs, ρ => match asg mh t x ρ with
    | none => none
    | some ρ' => asgs mh ts xs ρ'
  | _, _, _ => none
end
def wipeE (ρ : Env) : List Nat → Env
  | [] => ρ
  | v :: vs => (wipeE ρ vs).set v none
/-- what a loop walks: the items; the live list that they are read from -/
structure Its where
  items : List MV
  src : Option Nat := none
def Its.ok (J : Its) (mh : MHp) : Prop := match J.src with
  | none => True
  | some l => mh[l]? = some (some (.lst J.items))
def itsOf (mh : MHp) : MV → Option Its
  | .tup xs => some ⟨xs, none⟩
  | .lst xs => some ⟨xs, none⟩
  | .str s => some ⟨s.map fun c => .str [c], none⟩
  | .dct ks _ => some ⟨ks.map kM, none⟩
  | .loc l => match mh[l]? with
    | some (some (.lst xs)) => some ⟨xs, some l⟩
    | _ => none
  | _ => none
open Classical in
noncomputable def compGo (J : Its) (f : MV → MHp → Option (Option MV × MHp)) : List MV → MHp → Option (List MV × MHp)
  | [], mh => if J.ok mh then some ([], mh) else none
  | x :: xs, mh => if J.ok mh then (match f x mh with
    | none => none
    | some (r, mh1) => match compGo J f xs mh1 with
      | none => none
      | some (rs, mh2) => some (r.toList ++ rs, mh2)) else none

inductive Fl where
  | nx | bk | ct | rt (v : MV)
open Classical in
noncomputable def forGo (J : Its) (f : MV → Env → MHp → Option (Fl × Env × MHp)) : List MV → Env → MHp → Option (Fl × Env × MHp)
  | [], ρ, mh => if J.ok mh then some (.nx, ρ, mh) else none
  | x :: xs, ρ, mh => if J.ok mh then (match f x ρ mh with
    | none => none
    | some (.nx, ρ1, mh1) => forGo J f xs ρ1 mh1
    | some (.ct, ρ1, mh1) => forGo J f xs ρ1 mh1
    | some (.bk, ρ1, mh1) => some (.nx, ρ1, mh1)
    | some (.rt v, ρ1, mh1) => some (.rt v, ρ1, mh1)) else none
def whileN (c : Env → MHp → Option (Bool × MHp)) (f : Env → MHp → Option (Fl × Env × MHp)) : Nat → Env → MHp → Option (Fl × Env × MHp)
  | 0, _, _ => none
  | n + 1, ρ, mh => match c ρ mh with
    | none => none
    | some (false, mh1) => some (.nx, ρ, mh1)
    | some (true, mh1) => match f ρ mh1 with
      | none => none
      | some (.nx, ρ1, mh2) => whileN c f n ρ1 mh2
      | some (.ct, ρ1, mh2) => whileN c f n ρ1 mh2
      | some (.bk, ρ1, mh2) => some (.nx, ρ1, mh2)
      | some (.rt v, ρ1, mh2) => some (.rt v, ρ1, mh2)
open Classical in
noncomputable def whileM (c : Env → MHp → Option (Bool × MHp)) (f : Env → MHp → Option (Fl × Env × MHp)) (ρ : Env) (mh : MHp) : Option (Fl × Env × MHp) :=
  if h : ∃ n, whileN c f n ρ mh ≠ none then whileN c f (Classical.choose h) ρ mh else none

/-! ### the evaluator -/
section
variable (C : CallF) (base : Nat)
mutual
noncomputable def ev : ME → Env → MHp → Option (MV × MHp)
  | .var i, ρ, mh => match ρ[i]? with
    | some (some v) => some (v, mh)
    | _ => none
  | .c v, _, mh => some (v, mh)
  | .bin o a b, ρ, mh => match ev a ρ mh with
    | none => none
    | some (x, mh1) => match ev b ρ mh1 with
      | none => none
      | some (y, mh2) => (binV mh2 o x y).map (·, mh2)
  | .neg a, ρ, mh => match ev a ρ mh with
    | some (.int i, mh1) => some (.int (-i), mh1)
    | _ => none
  | .cmp o a b, ρ, mh => match ev a ρ mh with
    | none => none
    | some (x, mh1) => match ev b ρ mh1 with
      | none => none
      | some (y, mh2) => (cmpV mh2 o x y).map (.bl ·, mh2)
  | .chn o o' a b c, ρ, mh => match ev a ρ mh with
    | none => none
    | some (x, mh1) => match ev b ρ mh1 with
      | none => none
      | some (y, mh2) => match cmpV mh2 o x y with
        | none => none
        | some false => some (.bl false, mh2)
        | some true => match ev c ρ mh2 with
          | none => none
          | some (z, mh3) => (cmpV mh3 o' y z).map (.bl ·, mh3)
  | .and a b, ρ, mh => match ev a ρ mh with
    | some (.bl true, mh1) => ev b ρ mh1
    | some (.bl false, mh1) => some (.bl false, mh1)
    | _ => none
  | .or a b, ρ, mh => match ev a ρ mh with
    | some (.bl false, mh1) => ev b ρ mh1
    | some (.bl true, mh1) => some (.bl true, mh1)
    | _ => none
  | .not a, ρ, mh => match ev a ρ mh with
    | some (.bl b, mh1) => some (.bl (!b), mh1)
    | _ => none
  | .ite c a b, ρ, mh => match ev c ρ mh with
    | some (.bl true, mh1) => ev a ρ mh1
    | some (.bl false, mh1) => ev b ρ mh1
    | _ => none
  | .tup es, ρ, mh => match evs es ρ mh with
    | none => none
    | some (xs, mh1) => if xs.length ≤ line then some (.tup xs, mh1) else none
  | .lst es, ρ, mh => match evs es ρ mh with
    | none => none
    | some (xs, mh1) => if xs.length ≤ line then some (.lst xs, mh1) else none
  | .dnew, _, mh => some (.dct [] [], mh)
  | .call f es, ρ, mh => match evs es ρ mh with
    | none => none
    | some (xs, mh1) => C f xs mh1
  | .callv i es, ρ, mh => match ρ[i]? with
    | some (some (.fn f)) => match evs es ρ mh with
      | none => none
      | some (xs, mh1) => C f xs mh1
    | _ => none
  | .bi f es, ρ, mh => match evs es ρ mh with
    | none => none
    | some (xs, mh1) => (biV mh1 f xs).map (·, mh1)
  | .isi e t, ρ, mh => match ev e ρ mh with
    | none => none
    | some (x, mh1) => (isTy x t mh1).map (.bl ·, mh1)
  | .meth m o es, ρ, mh => match ev o ρ mh with
    | none => none
    | some (x, mh1) => if tyM mh1 m x = true then (match evs es ρ mh1 with
      | none => none
      | some (xs, mh2) => methV base mh2 m x xs) else none
  | .sub a i, ρ, mh => match ev a ρ mh with
    | none => none
    | some (x, mh1) => match ev i ρ mh1 with
      | none => none
      | some (y, mh2) => (subV mh2 x y).map (·, mh2)
  | .slcL a lo, ρ, mh => match ev a ρ mh with
    | none => none
    | some (x, mh1) => match ev lo ρ mh1 with
      | some (.int l, mh2) => (slcV mh2 x (some l) none).map (·, mh2)
      | _ => none
  | .slcH a hi, ρ, mh => match ev a ρ mh with
    | none => none
    | some (x, mh1) => match ev hi ρ mh1 with
      | some (.int l, mh2) => (slcV mh2 x none (some l)).map (·, mh2)
      | _ => none
  | .slcB a lo hi, ρ, mh => match ev a ρ mh with
    | none => none
    | some (x, mh1) => match ev lo ρ mh1 with
      | some (.int l, mh2) => match ev hi ρ mh2 with
        | some (.int h, mh3) => (slcV mh3 x (some l) (some h)).map (·, mh3)
        | _ => none
      | _ => none
  | .rev a, ρ, mh => match ev a ρ mh with
    | some (.tup xs, mh1) => some (.tup xs.reverse, mh1)
    | _ => none
  | .comp tg own it cond e, ρ, mh => match evI it ρ mh with
    | none => none
    | some (J, mh1) => if J.items.length ≤ line then (match compGo J (fun x mh2 => match asg mh2 tg x (wipeE ρ own) with
        | none => none
        | some ρ' => match ev cond ρ' mh2 with
          | some (.bl true, mh3) => match ev e ρ' mh3 with
            | none => none
            | some (y, mh4) => some (some y, mh4)
          | some (.bl false, mh3) => some (none, mh3)
          | _ => none) J.items mh1 with
      | none => none
      | some (ys, mh5) => some (.lst ys, mh5)) else none
  | .al e, ρ, mh => match ev e ρ mh with
    | some (.lst xs, mh1) => some (.loc mh1.length, mh1 ++ [some (.lst xs)])
    | some (.dct ks vs, mh1) => some (.loc mh1.length, mh1 ++ [some (.dct ks vs)])
    | _ => none
  | .disp1 k v, ρ, mh => match ev k ρ mh with
    | none => none
    | some (x, mh1) => match ev v ρ mh1 with
      | none => none
      | some (y, mh2) => (kyV x).map fun k => (.dct [k] [y], mh2)
  | .lzip a b, ρ, mh => match ev a ρ mh with
    | some (.tup xs, mh1) => match ev b ρ mh1 with
      | some (.tup ys, mh2) => if xs.length ≤ 1000000 ∧ ys.length ≤ 1000000 then some (.lst (List.zipWith (fun x y => .tup [x, y]) xs ys), mh2) else none
      | _ => none
    | _ => none
  | .dcomp tg own it cond k e, ρ, mh => match evI it ρ mh with
    | none => none
    | some (J, mh1) => if J.items.length ≤ line then (match compGo J (fun x mh2 => match asg mh2 tg x (wipeE ρ own) with
        | none => none
        | some ρ' => match ev cond ρ' mh2 with
          | some (.bl true, mh3) => match ev k ρ' mh3 with
            | none => none
            | some (z, mh4) => match ev e ρ' mh4 with
              | none => none
              | some (y, mh5) => some (some (.tup [z, y]), mh5)
          | some (.bl false, mh3) => some (none, mh3)
          | _ => none) J.items mh1 with
      | none => none
      | some (ys, mh5) => match ys.mapM pairK with
        | some ps => some (.dct (dFold ps [] []).1 (dFold ps [] []).2, mh5)
        | none => none) else none
  | .rng1 _, _, _ => none
  | .rng2 .., _, _ => none
  | .zip .., _, _ => none
noncomputable def evs : List ME → Env → MHp → Option (List MV × MHp)
  | [], _, mh => some ([], mh)
  | e :: es, ρ, mh => match ev e ρ mh with
    | none => none
    | some (x, mh1) => match evs es ρ mh1 with
      | none => none
      | some (xs, mh2) => some (x :: xs, mh2)
noncomputable def evI : ME → Env → MHp → Option (Its × MHp)
  | .rng1 a, ρ, mh => match ev a ρ mh with
    | some (.int n, mh1) => if -(2 ^ 62) ≤ n ∧ n < 2 ^ 62 then some (⟨(List.range n.toNat).map fun (k : Nat) => .int (k : Int), none⟩, mh1) else none
    | _ => none
  | .rng2 a b, ρ, mh => match ev a ρ mh with
    | some (.int i, mh1) => match ev b ρ mh1 with
      | some (.int j, mh2) => if -(2 ^ 62) ≤ i ∧ i < 2 ^ 62 ∧ -(2 ^ 62) ≤ j ∧ j < 2 ^ 62 then some (⟨(List.range (j - i).toNat).map fun (k : Nat) => .int (i + (k : Int)), none⟩, mh2) else none
      | _ => none
    | _ => none
  | e, ρ, mh => match ev e ρ mh with
    | none => none
    | some (v, mh1) => (itsOf mh1 v).map (·, mh1)
end
mutual
noncomputable def ex : MS → Env → MHp → Option (Fl × Env × MHp)
  | .ex e, ρ, mh => match ev C base e ρ mh with
    | none => none
    | some (_, mh1) => some (.nx, ρ, mh1)
  | .set t e, ρ, mh => match ev C base e ρ mh with
    | none => none
    | some (v, mh1) => match asg mh1 t v ρ with
      | none => none
      | some ρ' => some (.nx, ρ', mh1)
  | .par i j a b, ρ, mh => match ev C base a ρ mh with
    | none => none
    | some (x, mh1) => match ev C base b ρ mh1 with
      | none => none
      | some (y, mh2) => if i < ρ.length ∧ j < ρ.length then some (.nx, (ρ.set i (some x)).set j (some y), mh2) else none
  | .ret e, ρ, mh => match ev C base e ρ mh with
    | none => none
    | some (v, mh1) => some (.rt v, ρ, mh1)
  | .ite c a b, ρ, mh => match ev C base c ρ mh with
    | some (.bl true, mh1) => exs a ρ mh1
    | some (.bl false, mh1) => exs b ρ mh1
    | _ => none
  | .for t it body, ρ, mh => match evI C base it ρ mh with
    | none => none
    | some (J, mh1) => forGo J (fun x ρ1 mh2 => match asg mh2 t x ρ1 with
      | none => none
      | some ρ2 => exs body ρ2 mh2) J.items ρ mh1
  | .while c body, ρ, mh => whileM (fun ρ1 mh1 => match ev C base c ρ1 mh1 with
      | some (.bl b, mh2) => some (b, mh2)
      | _ => none) (fun ρ1 mh1 => exs body ρ1 mh1) ρ mh
  | .sti o i e, ρ, mh => match ev C base e ρ mh with
    | none => none
    | some (v, mh1) => match ev C base o ρ mh1 with
      | some (.loc l, mh2) => match ev C base i ρ mh2 with
        | some (.int k, mh3) => match mh3[l]? with
          | some (some (.lst xs)) => match L2.ixN xs.length k with
            | none => none
            | some j => if wr base l v = true then some (.nx, ρ, mh3.set l (some (.lst (xs.set j v)))) else none
          | some (some (.dct ks ms)) => if wr base l v = true ∧ ks.length < line then some (.nx, ρ, mh3.set l (some (.dct (dPutK ks (.inl k)) (dPutV ks ms (.inl k) v)))) else none
          | _ => none
        | some (.str s, mh3) => match mh3[l]? with
          | some (some (.dct ks ms)) => if wr base l v = true ∧ ks.length < line then some (.nx, ρ, mh3.set l (some (.dct (dPutK ks (.inr s)) (dPutV ks ms (.inr s) v)))) else none
          | _ => none
        | _ => none
      | _ => none
  | .aug i o e, ρ, mh => match ρ[i]? with
    | some (some (.int x)) => match ev C base e ρ mh with
      | some (.int y, mh1) => match o with
        | .add => some (.nx, ρ.set i (some (.int (x + y))), mh1)
        | .sub => some (.nx, ρ.set i (some (.int (x - y))), mh1)
        | _ => none
      | _ => none
    | _ => none
  | .pass, ρ, mh => some (.nx, ρ, mh)
  | .brk, ρ, mh => some (.bk, ρ, mh)
  | .cnt, ρ, mh => some (.ct, ρ, mh)
noncomputable def exs : List MS → Env → MHp → Option (Fl × Env × MHp)
  | [], ρ, mh => some (.nx, ρ, mh)
  | s :: ss, ρ, mh => match ex s ρ mh with
    | some (.nx, ρ1, mh1) => exs ss ρ1 mh1
    | r => r
end
end
/-- a def: its parameters' number, its names' number, whether what it makes stays live, its body -/
structure Df where
  np : Nat
  ns : Nat
  live : Bool
  body : List MS
def endV : Fl → Option MV
  | .nx => some .non
  | .rt v => some v
  | _ => none
noncomputable def runD (C : CallF) (d : Df) (args : List MV) (mh : MHp) : Option (MV × MHp) :=
  if args.length = d.np then
    match exs C mh.length d.body (args.map some ++ List.replicate (d.ns - d.np) none) mh with
    | none => none
    | some (fl, _, mh1) => match endV fl with
      | none => none
      | some v => if d.live = true then some (v, mh1) else (frz mh.length mh1 8 v).map (·, mh1.take mh.length)
  else none
noncomputable def callM (T : List Df) : Nat → CallF
  | 0, _, _, _ => none
  | k + 1, f, args, mh => match T[f]? with
    | none => none
    | some d => runD (callM T k) d args mh
end L2.Mi

set_option Elab.async false
set_option linter.all false
set_option maxRecDepth 100000
set_option maxHeartbeats 4000000
/-! Mini2: how values and the little heap stand for the layer's; what is kept. -/
namespace L2.Mi
open PySem PySem.Spec PyProof.Rows

structure Wd where
  H : Hp
  β : List Addr
  mh : MHp
  ex : List Addr
  bs : List Nat
def Wd.base (W : Wd) : Nat := W.bs.headD 0
structure Gb where
  K : PySem.W.Frag
  fa : Nat → Option Addr
def Wd.live (W : Wd) (a : Addr) : Prop := ∃ (l : Nat) (o : MO), W.mh[l]? = some (some o) ∧ W.β[l]? = some a
def kOf : MKey → Key
  | .inl i => .inl i
  | .inr s => .inr ⟨s.toArray⟩
abbrev noH : Hp := fun _ => none
mutual
def Rep (G : Gb) (W : Wd) : MV → V → Prop
  | .non, v => v = .non
  | .bl b, v => v = .bl b
  | .int i, v => v = .int i
  | .str s, v => v = .str ⟨s.toArray⟩
  | .fn f, v => ∃ a, G.fa f = some a ∧ v = .ref a
  | .tup xs, v => ∃ a vs, v = .ref a ∧ SqT G.K W.H a vs ∧ Reps G W xs vs
  | .lst xs, v => ∃ a vs, v = .ref a ∧ W.H a = some (.lst vs) ∧ (¬ W.live a ∧ a ∉ W.ex) ∧ Reps G W xs vs
  | .dct ks ms, v => ∃ a vs, v = .ref a ∧ Rd W.H a (.dK ((ks.map kOf).zip vs)) ∧ (¬ W.live a ∧ a ∉ W.ex) ∧ ks.length = ms.length ∧ Reps G W ms vs
  | .loc l, v => ∃ a, v = .ref a ∧ W.β[l]? = some a
  | .scr ns, v => ∃ a, v = .ref a ∧ ((Rd W.H a (.lst (ns.map .int)) ∧ ¬ W.live a ∧ a ∉ W.ex) ∨ SqL G.K noH a (ns.map .int))
def Reps (G : Gb) (W : Wd) : List MV → List V → Prop
  | [], vs => vs = []
  | x :: xs, vs => ∃ v r, vs = v :: r ∧ Rep G W x v ∧ Reps G W xs r
end
def ORep (G : Gb) (W : Wd) : MO → Addr → Prop
  | .lst xs, a => ∃ vs, W.H a = some (.lst vs) ∧ Reps G W xs vs
  | .dct ks ms, a => ∃ vs, W.H a = some (.dK ((ks.map kOf).zip vs)) ∧ ks.length = ms.length ∧ Reps G W ms vs
def obd (n : Nat) : MO → Bool
  | .lst xs => bds n xs
  | .dct _ vs => bds n vs
def NoTup (u : HO) : Prop := (∀ xs, u ≠ .tup xs) ∧ ∀ o v, u ≠ .frz o v
structure Sim (G : Gb) (W : Wd) : Prop where
  len : W.β.length = W.mh.length
  ble : ∀ b ∈ W.bs, b ≤ W.mh.length
  top : ∀ b ∈ W.bs, b ≤ W.base
  obj : ∀ (l : Nat) (o : MO), W.mh[l]? = some (some o) → ∀ a, W.β[l]? = some a → ORep G W o a
  inj : ∀ (l l' : Nat) (a : Addr) (o o' : MO), W.mh[l]? = some (some o) → W.mh[l']? = some (some o') → W.β[l]? = some a → W.β[l']? = some a → l = l'
  exo : ∀ a ∈ W.ex, ∃ u, W.H a = some u ∧ NoTup u
  exl : ∀ a ∈ W.ex, ¬ W.live a
  bnd : ∀ b ∈ W.bs, ∀ (l : Nat) (o : MO), l < b → W.mh[l]? = some (some o) → obd b o = true
/-- what stands at a place stays; a dict may be locked -/
def Sm (o u : HO) : Prop := u = o ∨ ∃ q kvs, o = .dK kvs ∧ u = .frz q (.dK kvs)
structure Keep (A B : Wd) : Prop where
  ex : ∀ a ∈ A.ex, a ∈ B.ex
  exn : ∀ a ∈ B.ex, a ∈ A.ex ∨ A.H a = none
  dom : ∀ a, A.H a ≠ none → B.H a ≠ none
  bs : B.bs = A.bs
  pre : ∃ t, B.β = A.β ++ t
  obj : ∀ a o, A.H a = some o → ¬ A.live a → ∃ u, B.H a = some u ∧ Sm o u
  liv : ∀ a, B.live a → A.live a ∨ A.H a = none
  exk : ∀ a ∈ A.ex, ∀ o, A.H a = some o → ¬ A.live a → B.H a = some o

theorem ORep.at {G : Gb} {W : Wd} {o : MO} {a : Addr} (h : ORep G W o a) : ∃ u, W.H a = some u ∧ NoTup u := by
  cases o with
  | lst xs => obtain ⟨vs, e, _⟩ := h; exact ⟨_, e, ⟨(fun _ z => nomatch z), (fun _ _ z => nomatch z)⟩⟩
  | dct ks ms => obtain ⟨vs, e, _⟩ := h; exact ⟨_, e, ⟨(fun _ z => nomatch z), (fun _ _ z => nomatch z)⟩⟩
theorem Sim.liveAt {G : Gb} {W : Wd} (S : Sim G W) {a : Addr} (h : W.live a) : ∃ u, W.H a = some u ∧ NoTup u := by
  obtain ⟨l, o, e1, e2⟩ := h
  exact (S.obj l o e1 a e2).at
theorem SqT_cases {K : PySem.W.Frag} {H H' : Hp} {a : Addr} {vs : List V} (h : SqT K H a vs) (k : ∀ u, H a = some u → ¬ NoTup u → H' a = some u) : SqT K H' a vs := by
  rcases h with (h | ⟨o, h⟩) | h
  · exact .inl (.inl (k _ h fun z => z.1 _ rfl))
  · exact .inl (.inr ⟨o, k _ h fun z => z.2 _ _ rfl⟩)
  · exact .inr h
theorem Keep.obj' {A B : Wd} (k : Keep A B) {a : Addr} {o : HO} (e : A.H a = some o) (n : ¬ A.live a) (hd : ∀ kvs, o ≠ .dK kvs) : B.H a = some o := by
  obtain ⟨u, e', rfl | ⟨q, kvs, z, _⟩⟩ := k.obj a o e n
  · exact e'
  · exact absurd z (hd kvs)
theorem Keep.tup {G : Gb} {A B : Wd} (S : Sim G A) (k : Keep A B) {a : Addr} {vs : List V} (h : SqT G.K A.H a vs) : SqT G.K B.H a vs :=
  SqT_cases h fun u e n => k.obj' e (fun z => by
    obtain ⟨w, e', n'⟩ := S.liveAt z
    rw [e] at e'; cases e'
    exact n n') fun kvs z => n (by subst z; exact ⟨(fun _ z => nomatch z), (fun _ _ z => nomatch z)⟩)
theorem Keep.off1 {A B : Wd} (k : Keep A B) {a : Addr} {u : HO} (e : A.H a = some u) (n : ¬ A.live a ∧ a ∉ A.ex) : ¬ B.live a ∧ a ∉ B.ex := by
  refine ⟨fun z => ?_, fun z => (k.exn a z).elim n.2 fun z => by rw [e] at z; cases z⟩
  rcases k.liv a z with z | z
  · exact n.1 z
  · rw [e] at z; cases z
theorem Keep.off {A B : Wd} (k : Keep A B) {a : Addr} {u : HO} (e : A.H a = some u) (n : ¬ A.live a ∧ a ∉ A.ex) (hd : ∀ kvs, u ≠ .dK kvs) : B.H a = some u ∧ ¬ B.live a ∧ a ∉ B.ex := ⟨k.obj' e n.1 hd, k.off1 e n⟩
theorem Keep.dct {A B : Wd} (k : Keep A B) {a : Addr} {kvs : List (Key × V)} (e : Rd A.H a (.dK kvs)) (n : ¬ A.live a ∧ a ∉ A.ex) : Rd B.H a (.dK kvs) ∧ ¬ B.live a ∧ a ∉ B.ex := by
  rcases e with e | ⟨o, e⟩
  · refine ⟨?_, k.off1 e n⟩
    obtain ⟨u, e', rfl | ⟨q, kvs', z, rfl⟩⟩ := k.obj a _ e n.1
    · exact .inl e'
    · cases z; exact .inr ⟨q, e'⟩
  · obtain ⟨q1, q2⟩ := k.off e n (fun _ z => nomatch z)
    exact ⟨.inr ⟨o, q1⟩, q2⟩
theorem pre_get {α : Type} {xs t : List α} {l : Nat} {a : α} (h : xs[l]? = some a) : (xs ++ t)[l]? = some a := by
  rw [List.getElem?_append_left (List.getElem?_eq_some_iff.mp h).1]; exact h
mutual
theorem Rep.keep {G : Gb} {A B : Wd} (S : Sim G A) (k : Keep A B) : ∀ (x : MV) (v : V), Rep G A x v → Rep G B x v
  | .non, v, h => h
  | .bl b, v, h => h
  | .int i, v, h => h
  | .str s, v, h => h
  | .fn f, v, h => h
  | .tup xs, v, h => by
    unfold Rep at h ⊢
    obtain ⟨a, vs, e, h1, h2⟩ := h
    exact ⟨a, vs, e, k.tup S h1, Reps.keep S k xs vs h2⟩
  | .lst xs, v, h => by
    unfold Rep at h ⊢
    obtain ⟨a, vs, e, h1, h2, h3⟩ := h
    obtain ⟨q1, q2⟩ := k.off h1 h2 (fun _ z => nomatch z)
    exact ⟨a, vs, e, q1, q2, Reps.keep S k xs vs h3⟩
  | .dct ks ms, v, h => by
    unfold Rep at h ⊢
    obtain ⟨a, vs, e, h1, h2, h3, h4⟩ := h
    obtain ⟨q1, q2⟩ := k.dct h1 h2
    exact ⟨a, vs, e, q1, q2, h3, Reps.keep S k ms vs h4⟩
  | .loc l, v, h => by
    unfold Rep at h ⊢
    obtain ⟨a, e, h1⟩ := h
    obtain ⟨t, ht⟩ := k.pre
    exact ⟨a, e, by rw [ht]; exact pre_get h1⟩
  | .scr ns, v, h => by
    unfold Rep at h ⊢
    obtain ⟨a, e, h1⟩ := h
    refine ⟨a, e, ?_⟩
    rcases h1 with ⟨h1, h2⟩ | h1
    · rcases h1 with h1 | ⟨o, h1⟩
      · obtain ⟨q1, q2⟩ := k.off h1 h2 (fun _ z => nomatch z)
        exact .inl ⟨.inl q1, q2⟩
      · obtain ⟨q1, q2⟩ := k.off h1 h2 (fun _ z => nomatch z)
        exact .inl ⟨.inr ⟨o, q1⟩, q2⟩
    · exact .inr h1
theorem Reps.keep {G : Gb} {A B : Wd} (S : Sim G A) (k : Keep A B) : ∀ (xs : List MV) (vs : List V), Reps G A xs vs → Reps G B xs vs
  | [], vs, h => h
  | x :: xs, vs, h => by
    unfold Reps at h ⊢
    obtain ⟨v, r, e, h1, h2⟩ := h
    exact ⟨v, r, e, Rep.keep S k x v h1, Reps.keep S k xs r h2⟩
end
theorem Reps.len {G : Gb} {W : Wd} : ∀ {xs : List MV} {vs : List V}, Reps G W xs vs → xs.length = vs.length
  | [], vs, h => by unfold Reps at h; subst h; rfl
  | x :: xs, vs, h => by
    unfold Reps at h
    obtain ⟨v, r, rfl, _, h2⟩ := h
    rw [List.length_cons, List.length_cons, Reps.len h2]
theorem Reps.app {G : Gb} {W : Wd} : ∀ {xs ys : List MV} {vs ws : List V}, Reps G W xs vs → Reps G W ys ws → Reps G W (xs ++ ys) (vs ++ ws)
  | [], ys, vs, ws, h, h' => by unfold Reps at h; subst h; exact h'
  | x :: xs, ys, vs, ws, h, h' => by
    unfold Reps at h
    obtain ⟨v, r, rfl, h1, h2⟩ := h
    show Reps G W (x :: (xs ++ ys)) (v :: (r ++ ws))
    unfold Reps
    exact ⟨v, _, rfl, h1, Reps.app h2 h'⟩
theorem Reps.one {G : Gb} {W : Wd} {x : MV} {v : V} (h : Rep G W x v) : Reps G W [x] [v] := by
  unfold Reps
  exact ⟨v, [], rfl, h, by unfold Reps; rfl⟩
theorem Reps.get {G : Gb} {W : Wd} : ∀ {xs : List MV} {vs : List V} {i : Nat} {x : MV}, Reps G W xs vs → xs[i]? = some x → ∃ v, vs[i]? = some v ∧ Rep G W x v
  | [], vs, i, x, h, e => by simp at e
  | y :: xs, vs, i, x, h, e => by
    unfold Reps at h
    obtain ⟨v, r, rfl, h1, h2⟩ := h
    cases i with
    | zero => simp at e; subst e; exact ⟨v, rfl, h1⟩
    | succ i =>
      simp only [List.getElem?_cons_succ] at e ⊢
      exact Reps.get h2 e
theorem Reps.all {G : Gb} {W : Wd} : ∀ {xs : List MV} {vs : List V} (f : MV → MV → Prop), Reps G W xs vs → True := fun _ _ => trivial
theorem Reps.of {G : Gb} {W : Wd} : ∀ {xs : List MV} {vs : List V}, xs.length = vs.length → (∀ (i : Nat) x v, xs[i]? = some x → vs[i]? = some v → Rep G W x v) → Reps G W xs vs
  | [], vs, hl, _ => by
    unfold Reps
    cases vs with
    | nil => rfl
    | cons => simp at hl
  | x :: xs, [], hl, _ => by simp at hl
  | x :: xs, v :: vs, hl, h => by
    unfold Reps
    exact ⟨v, vs, rfl, h 0 x v rfl rfl, Reps.of (by simpa using hl) fun i x' v' e1 e2 => h (i + 1) x' v' (by simpa using e1) (by simpa using e2)⟩
theorem Reps.at {G : Gb} {W : Wd} {xs : List MV} {vs : List V} (h : Reps G W xs vs) {i : Nat} {x : MV} {v : V} (e1 : xs[i]? = some x) (e2 : vs[i]? = some v) : Rep G W x v := by
  obtain ⟨v', q, r⟩ := h.get e1
  have : v = v' := Option.some.inj (e2.symm.trans q)
  subst this
  exact r
theorem Reps.set {G : Gb} {W : Wd} {xs : List MV} {vs : List V} (h : Reps G W xs vs) {x : MV} {v : V} (r : Rep G W x v) (j : Nat) : Reps G W (xs.set j x) (vs.set j v) := by
  refine Reps.of (by rw [List.length_set, List.length_set]; exact h.len) fun i y w e1 e2 => ?_
  by_cases hij : j = i
  · subst hij
    have l1 := (List.getElem?_eq_some_iff.mp e1).1
    have l2 := (List.getElem?_eq_some_iff.mp e2).1
    rw [List.length_set] at l1 l2
    rw [List.getElem?_set_self l1] at e1
    rw [List.getElem?_set_self l2] at e2
    cases e1; cases e2; exact r
  · rw [List.getElem?_set_ne hij] at e1 e2
    exact h.at e1 e2
theorem Reps.take {G : Gb} {W : Wd} {xs : List MV} {vs : List V} (h : Reps G W xs vs) (n : Nat) : Reps G W (xs.take n) (vs.take n) := by
  refine Reps.of (by rw [List.length_take, List.length_take, h.len]) fun i y w e1 e2 => ?_
  rw [List.getElem?_take] at e1 e2
  by_cases hn : i < n
  · rw [if_pos hn] at e1 e2
    exact h.at e1 e2
  · rw [if_neg hn] at e1
    cases e1
theorem Reps.drop {G : Gb} {W : Wd} {xs : List MV} {vs : List V} (h : Reps G W xs vs) (n : Nat) : Reps G W (xs.drop n) (vs.drop n) := by
  refine Reps.of (by rw [List.length_drop, List.length_drop, h.len]) fun i y w e1 e2 => ?_
  rw [List.getElem?_drop] at e1 e2
  exact h.at e1 e2
theorem Reps.eraseIdx {G : Gb} {W : Wd} {xs : List MV} {vs : List V} (h : Reps G W xs vs) (n : Nat) : Reps G W (xs.eraseIdx n) (vs.eraseIdx n) := by
  rw [List.eraseIdx_eq_take_drop_succ, List.eraseIdx_eq_take_drop_succ]
  exact (h.take n).app (h.drop (n + 1))
theorem Reps.dropLast {G : Gb} {W : Wd} {xs : List MV} {vs : List V} (h : Reps G W xs vs) : Reps G W xs.dropLast vs.dropLast := by
  rw [List.dropLast_eq_take, List.dropLast_eq_take, h.len]
  exact h.take _

/-! ### what is kept -/
theorem Keep.refl (A : Wd) : Keep A A := ⟨fun _ h => h, fun _ h => .inl h, fun _ h => h, rfl, ⟨[], by simp⟩, fun _ _ h _ => ⟨_, h, .inl rfl⟩, fun _ h => .inl h, fun _ _ _ h _ => h⟩
theorem Keep.trans {A B C : Wd} (k : Keep A B) (k' : Keep B C) : Keep A C where
  ex := fun a h => k'.ex a (k.ex a h)
  exn := fun a h => (k'.exn a h).elim (fun h => k.exn a h) fun h => .inr (Classical.byContradiction fun n => k.dom a n h)
  dom := fun a h => k'.dom a (k.dom a h)
  bs := k'.bs.trans k.bs
  pre := by
    obtain ⟨t, e⟩ := k.pre
    obtain ⟨t', e'⟩ := k'.pre
    exact ⟨t ++ t', by rw [e', e, List.append_assoc]⟩
  obj := fun a o h n => by
    have nl : ¬ B.live a := fun z => (k.liv a z).elim n fun z => by rw [h] at z; cases z
    obtain ⟨u, e1, s1⟩ := k.obj a o h n
    obtain ⟨u', e2, s2⟩ := k'.obj a u e1 nl
    refine ⟨u', e2, ?_⟩
    rcases s1 with rfl | ⟨q, kvs, rfl, rfl⟩
    · exact s2
    · rcases s2 with rfl | ⟨q', kvs', z, _⟩
      · exact .inr ⟨q, kvs, rfl, rfl⟩
      · cases z
  liv := fun a z => (k'.liv a z).elim (fun z => k.liv a z) fun z => by
    cases e : A.H a with
    | none => exact .inr rfl
    | some o =>
      refine .inl (Classical.byContradiction fun n => ?_)
      obtain ⟨u, this, _⟩ := k.obj a o e n
      rw [z] at this; cases this
  exk := fun a ha o h n => k'.exk a (k.ex a ha) o (k.exk a ha o h n) fun z => (k.liv a z).elim n fun z => by rw [h] at z; cases z
abbrev Wd.up (W : Wd) (p : Addr) (o : HO) : Wd := { W with H := upd W.H p o }
theorem upd_dom {H : Hp} {p : Addr} {o : HO} : ∀ a, H a ≠ none → upd H p o a ≠ none := fun a h => by
  by_cases e : a = p
  · subst e; rw [upd_same]; exact fun z => nomatch z
  · rw [upd_ne e]; exact h
theorem keep_new {W : Wd} {p : Addr} {o : HO} (h : W.H p = none) : Keep W (W.up p o) :=
  ⟨fun _ h => h, fun _ h => .inl h, upd_dom, rfl, ⟨[], by simp⟩, fun a u e _ => ⟨u, by show upd W.H p o a = _; rw [upd_ne (ne_of_none e h)]; exact e, .inl rfl⟩, fun a z => .inl z, fun a _ u e _ => by show upd W.H p o a = _; rw [upd_ne (ne_of_none e h)]; exact e⟩
theorem ORep.keep {G : Gb} {A B : Wd} (S : Sim G A) (k : Keep A B) {o : MO} {a : Addr} (h : ORep G A o a) (e : B.H a = A.H a) : ORep G B o a := by
  cases o with
  | lst xs => obtain ⟨vs, q, r⟩ := h; exact ⟨vs, e.trans q, Reps.keep S k _ _ r⟩
  | dct ks ms => obtain ⟨vs, q, l, r⟩ := h; exact ⟨vs, e.trans q, l, Reps.keep S k _ _ r⟩
theorem Sim.new {G : Gb} {W : Wd} (S : Sim G W) {p : Addr} {o : HO} (h : W.H p = none) : Sim G (W.up p o) where
  len := S.len
  ble := S.ble
  top := S.top
  obj := fun l u e a q => by
    have r := S.obj l u e a q
    refine r.keep S (keep_new h) ?_
    obtain ⟨v, e', _⟩ := r.at
    exact upd_ne (ne_of_none e' h)
  inj := S.inj
  exo := fun a ha => by
    obtain ⟨u, e, n⟩ := S.exo a ha
    exact ⟨u, by show upd W.H p o a = _; rw [upd_ne (ne_of_none e h)]; exact e, n⟩
  exl := S.exl
  bnd := S.bnd
theorem off_new {G : Gb} {W : Wd} (S : Sim G W) {p : Addr} (h : W.H p = none) : ¬ W.live p ∧ p ∉ W.ex :=
  ⟨(fun z => by obtain ⟨u, e, _⟩ := S.liveAt z; rw [h] at e; exact nomatch e), (fun z => by obtain ⟨u, e, _⟩ := S.exo p z; rw [h] at e; exact nomatch e)⟩
/-- a new tuple, a new list that never changes -/
theorem rep_tup {G : Gb} {W : Wd} (S : Sim G W) {p : Addr} {xs : List MV} {vs : List V} (h : W.H p = none) (r : Reps G W xs vs) : Rep G (W.up p (.tup vs)) (.tup xs) (.ref p) := by
  unfold Rep
  exact ⟨p, vs, rfl, .inl (.inl upd_same), Reps.keep S (keep_new h) _ _ r⟩
theorem rep_lst {G : Gb} {W : Wd} (S : Sim G W) {p : Addr} {xs : List MV} {vs : List V} (h : W.H p = none) (r : Reps G W xs vs) : Rep G (W.up p (.lst vs)) (.lst xs) (.ref p) := by
  unfold Rep
  exact ⟨p, vs, rfl, upd_same, off_new S h, Reps.keep S (keep_new h) _ _ r⟩
theorem rep_dct {G : Gb} {W : Wd} (S : Sim G W) {p : Addr} {ks : List MKey} {ms : List MV} {vs : List V} (h : W.H p = none) (hl : ks.length = ms.length) (r : Reps G W ms vs) : Rep G (W.up p (.dK ((ks.map kOf).zip vs))) (.dct ks ms) (.ref p) := by
  unfold Rep
  exact ⟨p, vs, rfl, .inl upd_same, off_new S h, hl, Reps.keep S (keep_new h) _ _ r⟩
/-- the live object l is written -/
abbrev Wd.wr (W : Wd) (l : Nat) (a : Addr) (o : HO) (u : MO) : Wd := { W with H := upd W.H a o, mh := W.mh.set l (some u) }
theorem set_get {mh : MHp} {l l' : Nat} {u v : MO} (h : (mh.set l (some u))[l']? = some (some v)) : (l' = l ∧ v = u ∧ l < mh.length) ∨ (l' ≠ l ∧ mh[l']? = some (some v)) := by
  by_cases e : l = l'
  · subst e
    have l1 := (List.getElem?_eq_some_iff.mp h).1
    rw [List.length_set] at l1
    rw [List.getElem?_set_self l1] at h
    cases h; exact .inl ⟨rfl, rfl, l1⟩
  · rw [List.getElem?_set_ne e] at h
    exact .inr ⟨fun z => e z.symm, h⟩
theorem keep_wr {G : Gb} {W : Wd} {l : Nat} {a : Addr} {o : HO} {u v : MO} (S : Sim G W) (h1 : W.mh[l]? = some (some v)) (h2 : W.β[l]? = some a) : Keep W (W.wr l a o u) := by
  refine ⟨fun _ h => h, fun _ h => .inl h, upd_dom, rfl, ⟨[], by simp⟩, fun c w e n => ?_, fun c z => .inl ?_, fun c _ w e n => by show upd W.H a o c = _; rw [upd_ne fun z => n (by rw [z]; exact ⟨l, v, h1, h2⟩)]; exact e⟩
  · refine ⟨w, ?_, .inl rfl⟩
    show upd W.H a o c = _
    rw [upd_ne fun z => n (by rw [z]; exact ⟨l, v, h1, h2⟩)]; exact e
  · obtain ⟨l', o', e1, e2⟩ := z
    rcases set_get e1 with ⟨rfl, _, _⟩ | ⟨_, e1⟩
    · rw [h2] at e2; cases e2; exact ⟨_, v, h1, h2⟩
    · exact ⟨l', o', e1, e2⟩
theorem Sim.wr {G : Gb} {W : Wd} {l : Nat} {a : Addr} {o : HO} {u v : MO} (S : Sim G W) (h1 : W.mh[l]? = some (some v)) (h2 : W.β[l]? = some a) (hr : ORep G (W.wr l a o u) u a) (nt : NoTup o) (hb : ∀ b ∈ W.bs, l < b → obd b u = true) : Sim G (W.wr l a o u) where
  len := by show W.β.length = (W.mh.set l (some u)).length; rw [List.length_set]; exact S.len
  ble := fun b hb => by show b ≤ (W.mh.set l (some u)).length; rw [List.length_set]; exact S.ble b hb
  top := S.top
  obj := fun l' w e c q => by
    rcases set_get e with ⟨rfl, rfl, _⟩ | ⟨ne, e⟩
    · have q' : W.β[l']? = some c := q
      rw [h2] at q'; cases q'; exact hr
    · have r := S.obj l' w e c q
      refine r.keep S (keep_wr S h1 h2) ?_
      exact upd_ne fun z => ne (S.inj l' l a w v e h1 (by rw [← z]; exact q) h2)
  inj := fun l1 l2 c o1 o2 e1 e2 q1 q2 => by
    have f : ∀ {l' o'}, (W.mh.set l (some u))[l']? = some (some o') → ∃ o'', W.mh[l']? = some (some o'') := fun {l' o'} e => by
      rcases set_get e with ⟨rfl, _, _⟩ | ⟨_, e⟩
      · exact ⟨v, h1⟩
      · exact ⟨_, e⟩
    obtain ⟨_, e1'⟩ := f e1
    obtain ⟨_, e2'⟩ := f e2
    exact S.inj l1 l2 c _ _ e1' e2' q1 q2
  exo := fun c hc => by
    obtain ⟨w, e, n⟩ := S.exo c hc
    have hn : c ≠ a := fun z => S.exl c hc (by rw [z]; exact ⟨l, v, h1, h2⟩)
    exact ⟨w, by show upd W.H a o c = _; rw [upd_ne hn]; exact e, n⟩
  exl := fun c hc z => S.exl c hc (by
    obtain ⟨l', o', e1, e2⟩ := z
    rcases set_get e1 with ⟨rfl, _, _⟩ | ⟨_, e1⟩
    · exact ⟨_, v, h1, e2⟩
    · exact ⟨l', o', e1, e2⟩)
  bnd := fun b hbs l' w hl e => by
    rcases set_get e with ⟨rfl, rfl, _⟩ | ⟨_, e⟩
    · exact hb b hbs hl
    · exact S.bnd b hbs l' w hl e
/-- a new live object -/
abbrev Wd.al (W : Wd) (p : Addr) (o : HO) (u : MO) : Wd := { W with H := upd W.H p o, β := W.β ++ [p], mh := W.mh ++ [some u] }
theorem app_get {α : Type} {xs : List α} {x y : α} {l : Nat} (h : (xs ++ [x])[l]? = some y) : xs[l]? = some y ∨ (l = xs.length ∧ y = x) := by
  by_cases hl : l < xs.length
  · rw [List.getElem?_append_left hl] at h; exact .inl h
  · rw [List.getElem?_append_right (by omega)] at h
    have : l - xs.length = 0 := by
      have := (List.getElem?_eq_some_iff.mp h).1
      simp at this; omega
    rw [this] at h
    simp at h
    exact .inr ⟨by omega, h.symm⟩
theorem keep_al {G : Gb} {W : Wd} (S : Sim G W) {p : Addr} {o : HO} {u : MO} (h : W.H p = none) : Keep W (W.al p o u) := by
  refine ⟨fun _ h => h, fun _ h => .inl h, upd_dom, rfl, ⟨[p], rfl⟩, fun c w e n => ?_, fun c z => ?_, fun c _ w e n => by show upd W.H p o c = _; rw [upd_ne (ne_of_none e h)]; exact e⟩
  · refine ⟨w, ?_, .inl rfl⟩
    show upd W.H p o c = _
    rw [upd_ne (ne_of_none e h)]; exact e
  · obtain ⟨l, o', e1, e2⟩ := z
    rcases app_get e1 with e1 | ⟨rfl, _⟩
    · have hl : l < W.β.length := by rw [S.len]; exact (List.getElem?_eq_some_iff.mp e1).1
      have e2' : (W.β ++ [p])[l]? = some c := e2
      rw [List.getElem?_append_left hl] at e2'
      exact .inl ⟨l, o', e1, e2'⟩
    · have e2' : (W.β ++ [p])[W.mh.length]? = some c := e2
      rw [← S.len, List.getElem?_append_right (Nat.le_refl _)] at e2'
      simp at e2'
      subst e2'
      exact .inr h
theorem Sim.al {G : Gb} {W : Wd} (S : Sim G W) {p : Addr} {o : HO} {u : MO} (h : W.H p = none) (hr : ORep G (W.al p o u) u p) (nt : NoTup o) : Sim G (W.al p o u) where
  len := by show (W.β ++ [p]).length = (W.mh ++ [some u]).length; rw [List.length_append, List.length_append, S.len]; rfl
  ble := fun b hb => by show b ≤ (W.mh ++ [some u]).length; rw [List.length_append]; exact Nat.le_trans (S.ble b hb) (Nat.le_add_right _ _)
  top := S.top
  obj := fun l w e c q => by
    have q' : (W.β ++ [p])[l]? = some c := q
    rcases app_get e with e | ⟨rfl, e9⟩
    · have hl : l < W.β.length := by rw [S.len]; exact (List.getElem?_eq_some_iff.mp e).1
      rw [List.getElem?_append_left hl] at q'
      have r := S.obj l w e c q'
      refine r.keep S (keep_al S h) ?_
      obtain ⟨v, e', _⟩ := r.at
      exact upd_ne (ne_of_none e' h)
    · have e' : w = u := Option.some.inj e9
      subst e'
      rw [← S.len, List.getElem?_append_right (Nat.le_refl _)] at q'
      simp at q'
      subst q'
      exact hr
  inj := fun l1 l2 c o1 o2 e1 e2 q1 q2 => by
    have key : ∀ {l o'}, (W.mh ++ [some u])[l]? = some (some o') → (W.β ++ [p])[l]? = some c → (W.mh[l]? = some (some o') ∧ W.β[l]? = some c ∧ c ≠ p) ∨ (l = W.mh.length ∧ c = p) := fun {l o'} e q => by
      rcases app_get e with e | ⟨rfl, _⟩
      · have hl : l < W.β.length := by rw [S.len]; exact (List.getElem?_eq_some_iff.mp e).1
        rw [List.getElem?_append_left hl] at q
        refine .inl ⟨e, q, ?_⟩
        obtain ⟨v, e', _⟩ := (S.obj l _ e c q).at
        exact ne_of_none e' h
      · rw [← S.len, List.getElem?_append_right (Nat.le_refl _)] at q
        simp at q
        exact .inr ⟨rfl, q.symm⟩
    rcases key e1 q1 with ⟨a1, a2, a3⟩ | ⟨a1, a2⟩
    · rcases key e2 q2 with ⟨b1, b2, b3⟩ | ⟨b1, b2⟩
      · exact S.inj l1 l2 c _ _ a1 b1 a2 b2
      · exact absurd b2 a3
    · rcases key e2 q2 with ⟨b1, b2, b3⟩ | ⟨b1, b2⟩
      · exact absurd a2 b3
      · rw [a1, b1]
  exo := fun c hc => by
    obtain ⟨w, e, n⟩ := S.exo c hc
    exact ⟨w, by show upd W.H p o c = _; rw [upd_ne (ne_of_none e h)]; exact e, n⟩
  exl := fun c hc z => by
    rcases (keep_al S h).liv c z with z | z
    · exact S.exl c hc z
    · obtain ⟨w, e, n⟩ := S.exo c hc
      rw [z] at e; cases e
  bnd := fun b hbs l w hl e => by
    rcases app_get e with e | ⟨rfl, _⟩
    · exact S.bnd b hbs l w hl e
    · exact absurd (Nat.lt_of_lt_of_le hl (S.ble b hbs)) (Nat.lt_irrefl _)
/-! ### names -/
def Envs (G : Gb) (W : Wd) (ρ : Env) (σ : L2.St) : Prop := ρ.length = σ.length ∧ ∀ (i : Nat) (v : MV), ρ[i]? = some (some v) → ∃ x, σ[i]? = some (some x) ∧ Rep G W v x
theorem Envs.keep {G : Gb} {A B : Wd} {ρ : Env} {σ : St} (h : Envs G A ρ σ) (S : Sim G A) (k : Keep A B) : Envs G B ρ σ :=
  ⟨h.1, fun i v e => let ⟨x, q, r⟩ := h.2 i v e; ⟨x, q, Rep.keep S k _ _ r⟩⟩
theorem Envs.set {G : Gb} {W : Wd} {ρ : Env} {σ : St} (h : Envs G W ρ σ) {v : MV} {x : V} (r : Rep G W v x) (i : Nat) : Envs G W (ρ.set i (some v)) (σ.set i (some x)) := by
  refine ⟨by rw [List.length_set, List.length_set]; exact h.1, fun j u e => ?_⟩
  by_cases hij : i = j
  · subst hij
    have l1 := (List.getElem?_eq_some_iff.mp e).1
    rw [List.length_set] at l1
    rw [List.getElem?_set_self l1] at e
    cases e
    exact ⟨x, List.getElem?_set_self (by rw [← h.1]; exact l1), r⟩
  · rw [List.getElem?_set_ne hij] at e ⊢
    exact h.2 j u e
theorem Envs.wipe {G : Gb} {W : Wd} {ρ : Env} {σ : St} (h : Envs G W ρ σ) : ∀ vs : List Nat, Envs G W (wipeE ρ vs) (L2.wipe σ vs)
  | [] => h
  | v :: vs => by
    have ih := Envs.wipe h vs
    refine ⟨by unfold wipeE L2.wipe; rw [List.length_set, List.length_set]; exact ih.1, fun j u e => ?_⟩
    unfold wipeE at e
    unfold L2.wipe
    by_cases hij : v = j
    · subst hij
      have l1 := (List.getElem?_eq_some_iff.mp e).1
      rw [List.length_set] at l1
      rw [List.getElem?_set_self l1] at e
      cases e
    · rw [List.getElem?_set_ne hij] at e ⊢
      exact ih.2 j u e
end L2.Mi

set_option Elab.async false
set_option linter.all false
set_option maxRecDepth 100000
set_option maxHeartbeats 4000000
/-! Mini3: the operations of the evaluator are the layer's. -/
namespace L2.Mi
open PySem PySem.Spec PyProof.Rows

/-- what is wanted behind an evaluation that began in A -/
def Post (G : Gb) (A : Wd) (mh' : MHp) (v : MV) (Q : VK) : Prop := ∀ (B : Wd) (x : V), Keep A B → B.mh = mh' → Sim G B → Rep G B v x → Q x B.H
theorem Post.here {G : Gb} {A : Wd} {v : MV} {x : V} {Q : VK} (h : Post G A A.mh v Q) (S : Sim G A) (r : Rep G A v x) : Q x A.H := h A x (Keep.refl A) rfl S r
theorem Post.step {G : Gb} {A B : Wd} {mh' : MHp} {v : MV} {Q : VK} (h : Post G A mh' v Q) (k : Keep A B) : Post G B mh' v Q := fun C x k' e S r => h C x (k.trans k') e S r
theorem Post.newTup {G : Gb} {A : Wd} {xs : List MV} {vs : List V} {Q : VK} {p : Addr} (h : Post G A A.mh (.tup xs) Q) (S : Sim G A) (r : Reps G A xs vs) (hp : A.H p = none) : Q (.ref p) (upd A.H p (.tup vs)) :=
  h (A.up p (.tup vs)) (.ref p) (keep_new hp) rfl (S.new hp) (rep_tup S hp r)
theorem Post.newLst {G : Gb} {A : Wd} {xs : List MV} {vs : List V} {Q : VK} {p : Addr} (h : Post G A A.mh (.lst xs) Q) (S : Sim G A) (r : Reps G A xs vs) (hp : A.H p = none) : Q (.ref p) (upd A.H p (.lst vs)) :=
  h (A.up p (.lst vs)) (.ref p) (keep_new hp) rfl (S.new hp) (rep_lst S hp r)

theorem OpR.or {X : Cx} {f : Value → Value → Sem Value} {r r' : R2} (h : OpR X f r) (h' : OpR X f r') : OpR X f (fun x y H Q => r x y H Q ∨ r' x y H Q) := by
  intro pins s σ H x y v u Q I rx ry q
  rcases q with q | q
  · exact h pins s σ H x y v u Q I rx ry q
  · exact h' pins s σ H x y v u Q I rx ry q
theorem CallR.or {X : Cx} {f : Value} {r r' : List V → Hp → VK → Prop} (h : CallR X f r) (h' : CallR X f r') : CallR X f (fun xs H Q => r xs H Q ∨ r' xs H Q) := by
  intro pins s σ H xs us Q I r q
  rcases q with q | q
  · exact h pins s σ H xs us Q I r q
  · exact h' pins s σ H xs us Q I r q
theorem MtR.or' {X : Cx} {id : String} {r r' : V → List V → Hp → VK → Prop} (h : MtR X id r) (h' : MtR X id r') : MtR X id (fun x xs H Q => r x xs H Q ∨ r' x xs H Q) := MtR.or h h'

/-! ### shapes -/
section
variable {G : Gb} {A : Wd}
theorem Rep.int_ {i : Int} {v : V} (h : Rep G A (.int i) v) : v = .int i := by unfold Rep at h; exact h
theorem Rep.str_ {s : Sx} {v : V} (h : Rep G A (.str s) v) : v = .str ⟨s.toArray⟩ := by unfold Rep at h; exact h
theorem Rep.bl_ {b : Bool} {v : V} (h : Rep G A (.bl b) v) : v = .bl b := by unfold Rep at h; exact h
theorem Rep.non_ {v : V} (h : Rep G A .non v) : v = .non := by unfold Rep at h; exact h
theorem Rep.tup_ {xs : List MV} {v : V} (h : Rep G A (.tup xs) v) : ∃ a vs, v = .ref a ∧ SqT G.K A.H a vs ∧ Reps G A xs vs := by unfold Rep at h; exact h
theorem Rep.loc_ {l : Nat} {v : V} (h : Rep G A (.loc l) v) : ∃ a, v = .ref a ∧ A.β[l]? = some a := by unfold Rep at h; exact h
theorem rep_int (i : Int) : Rep G A (.int i) (.int i) := by unfold Rep; rfl
theorem rep_str (s : Sx) : Rep G A (.str s) (.str ⟨s.toArray⟩) := by unfold Rep; rfl
theorem rep_bl (b : Bool) : Rep G A (.bl b) (.bl b) := by unfold Rep; rfl
theorem rep_non : Rep G A .non .non := by unfold Rep; rfl
/-- a list that is read: its items -/
theorem getL_rep (S : Sim G A) {x : MV} {v : V} {xs : List MV} (e : getL A.mh x = some xs) (h : Rep G A x v) : ∃ a vs, v = .ref a ∧ A.H a = some (.lst vs) ∧ Reps G A xs vs := by
  cases x with
  | lst ys =>
    cases e
    unfold Rep at h
    obtain ⟨a, vs, e1, e2, _, r⟩ := h
    exact ⟨a, vs, e1, e2, r⟩
  | loc l =>
    simp only [getL] at e
    split at e
    · rename_i ys hl
      cases e
      obtain ⟨a, e1, e2⟩ := h.loc_
      obtain ⟨vs, e3, r⟩ := S.obj l _ hl a e2
      exact ⟨a, vs, e1, e3, r⟩
    · cases e
  | _ => exact absurd e (by simp [getL])
/-! dicts -/
theorem kOf_inj {a b : MKey} (h : kOf a = kOf b) : a = b := by
  cases a with
  | inl i => cases b with
    | inl j => cases h; rfl
    | inr t => cases h
  | inr s => cases b with
    | inl j => cases h
    | inr t =>
      have h2 : (⟨s.toArray⟩ : Str) = ⟨t.toArray⟩ := by unfold kOf at h; exact Sum.inr.inj h
      have h3 := congrArg (fun z : Str => z.cps.toList) h2
      simp at h3
      rw [h3]
theorem kyV_rep {x : MV} {v : V} {k : MKey} (e : kyV x = some k) (h : Rep G A x v) : v = kV (kOf k) := by
  cases x with
  | int i => cases e; exact h.int_
  | str s => cases e; exact h.str_
  | _ => cases e
theorem kM_rep (k : MKey) : Rep G A (kM k) (kV (kOf k)) := by
  cases k with
  | inl i => exact rep_int i
  | inr s => exact rep_str s
theorem kMs_rep (ks : List MKey) : Reps G A (ks.map kM) (ks.map fun k => kV (kOf k)) := by
  induction ks with
  | nil => unfold Reps; rfl
  | cons k ks ih => rw [List.map_cons, List.map_cons]; unfold Reps; exact ⟨_, _, rfl, kM_rep k, ih⟩
theorem getD_rep (S : Sim G A) {x : MV} {v : V} {ks : List MKey} {ms : List MV} (e : getD A.mh x = some (ks, ms)) (h : Rep G A x v) : ∃ a vs, v = .ref a ∧ Rd A.H a (.dK ((ks.map kOf).zip vs)) ∧ ks.length = ms.length ∧ Reps G A ms vs := by
  cases x with
  | dct ls ns =>
    cases e
    unfold Rep at h
    obtain ⟨a, vs, e1, e2, _, l, r⟩ := h
    exact ⟨a, vs, e1, e2, l, r⟩
  | loc l =>
    simp only [getD] at e
    split at e
    · rename_i ls ns hl
      cases e
      obtain ⟨a, e1, e2⟩ := h.loc_
      obtain ⟨vs, e3, l, r⟩ := S.obj l _ hl a e2
      exact ⟨a, vs, e1, .inl e3, l, r⟩
    · cases e
  | _ => exact absurd e (by simp [getD])
theorem look_rep : ∀ {ks : List MKey} {ms : List MV} {vs : List V} (k : MKey), ks.length = ms.length → Reps G A ms vs → match dLook ks ms k with
    | some m => ∃ v, valV ((ks.map kOf).zip vs) (kOf k) = some v ∧ Rep G A m v
    | none => valV ((ks.map kOf).zip vs) (kOf k) = none
  | [], ms, vs, k, hl, r => by
    have : dLook [] ms k = none := by unfold dLook; rfl
    rw [this]
    rfl
  | k' :: ks, [], vs, k, hl, r => by simp at hl
  | k' :: ks, m :: ms, vs, k, hl, r => by
    unfold Reps at r
    obtain ⟨v, t, rfl, h1, h2⟩ := r
    unfold dLook
    by_cases h : k' = k
    · subst h
      rw [if_pos rfl]
      exact ⟨v, valV_pos (p := (kOf k', v)) rfl, h1⟩
    · rw [if_neg h]
      have ih := look_rep k (by simpa using hl) h2
      have e : valV (((k' :: ks).map kOf).zip (v :: t)) (kOf k) = valV ((ks.map kOf).zip t) (kOf k) := valV_neg (p := (kOf k', v)) fun z => h (kOf_inj z)
      rw [e]
      exact ih
theorem look_some {ks : List MKey} {ms : List MV} {vs : List V} {k : MKey} {m : MV} (hl : ks.length = ms.length) (r : Reps G A ms vs) (e : dLook ks ms k = some m) : ∃ v, valV ((ks.map kOf).zip vs) (kOf k) = some v ∧ Rep G A m v := by
  have := look_rep k hl r
  rw [e] at this
  exact this
theorem look_none {ks : List MKey} {ms : List MV} {vs : List V} {k : MKey} (hl : ks.length = ms.length) (r : Reps G A ms vs) (e : dLook ks ms k = none) : valV ((ks.map kOf).zip vs) (kOf k) = none := by
  have := look_rep k hl r
  rw [e] at this
  exact this
theorem any_rep (k : MKey) : ∀ {ks : List MKey} {vs : List V}, ks.length = vs.length → (((ks.map kOf).zip vs).any fun kv => decide (kv.1 = kOf k)) = ks.any fun k' => decide (k' = k)
  | [], vs, _ => rfl
  | k' :: ks, [], h => by simp at h
  | k' :: ks, v :: vs, h => by
    rw [List.map_cons, List.zip_cons_cons, List.any_cons, List.any_cons, any_rep k (by simpa using h)]
    congr 1
    by_cases e : k' = k
    · subst e; simp
    · rw [decide_eq_false e, decide_eq_false fun z => e (kOf_inj z)]
theorem dput_len {ks : List MKey} {ms : List MV} (k : MKey) (m : MV) (hl : ks.length = ms.length) : (dPutK ks k).length = (dPutV ks ms k m).length := by
  unfold dPutK dPutV
  split
  · rw [List.length_zipWith]; omega
  · simp [hl]
theorem dput_rep {ks : List MKey} {ms : List MV} {vs : List V} {k : MKey} {m : MV} {v : V} (hl : ks.length = ms.length) (r : Reps G A ms vs) (rv : Rep G A m v) :
    ∃ ws, putK ((ks.map kOf).zip vs) (kOf k) v = ((dPutK ks k).map kOf).zip ws ∧ Reps G A (dPutV ks ms k m) ws := by
  have hv : ks.length = vs.length := by rw [hl]; exact r.len
  unfold putK dPutK dPutV
  rw [any_rep k hv]
  split
  · refine ⟨List.zipWith (fun k' v' => if k' = k then v else v') ks vs, ?_, ?_⟩
    · clear r hl
      induction ks generalizing vs with
      | nil => rfl
      | cons k' ks ih =>
        cases vs with
        | nil => simp at hv
        | cons v' vs =>
          rename_i hc
          rw [List.map_cons, List.zip_cons_cons, List.map_cons, List.zipWith_cons_cons, List.zip_cons_cons]
          have e : (if kOf k' = kOf k then (kOf k', v) else (kOf k', v')) = (kOf k', if k' = k then v else v') := by
            by_cases h : k' = k
            · subst h; simp
            · rw [if_neg h, if_neg fun z => h (kOf_inj z)]
          simp only [e]
          congr 1
          have gen : ∀ (ks : List MKey) (vs : List V), ks.length = vs.length → ((ks.map kOf).zip vs).map (fun kv => if kv.1 = kOf k then (kv.1, v) else kv) = (ks.map kOf).zip (List.zipWith (fun k' v' => if k' = k then v else v') ks vs) := by
            intro ks
            induction ks with
            | nil => intro vs _; rfl
            | cons k' ks ih2 =>
              intro vs h
              cases vs with
              | nil => simp at h
              | cons v' vs =>
                rw [List.map_cons, List.zip_cons_cons, List.map_cons, List.zipWith_cons_cons, List.zip_cons_cons, ih2 vs (by simpa using h)]
                congr 1
                by_cases h : k' = k
                · subst h; simp
                · simp only [if_neg h, if_neg fun z => h (kOf_inj z)]
          exact gen ks vs (by simpa using hv)
    · have gen : ∀ (ks : List MKey) (ms : List MV) (vs : List V), ks.length = ms.length → Reps G A ms vs → Reps G A (List.zipWith (fun k' m' => if k' = k then m else m') ks ms) (List.zipWith (fun k' v' => if k' = k then v else v') ks vs) := by
        intro ks
        induction ks with
        | nil => intro ms vs h r; unfold Reps; rfl
        | cons k' ks ih =>
          intro ms vs h r
          cases ms with
          | nil => simp at h
          | cons m' ms =>
            unfold Reps at r
            obtain ⟨v', t, rfl, h1, h2⟩ := r
            rw [List.zipWith_cons_cons, List.zipWith_cons_cons]
            unfold Reps
            refine ⟨_, _, rfl, ?_, ih ms t (by simpa using h) h2⟩
            split
            · exact rv
            · exact h1
      exact gen ks ms vs hl r
  · refine ⟨vs ++ [v], ?_, r.app (Reps.one rv)⟩
    rw [List.map_append, List.zip_append (by simpa using hv)]
    rfl
theorem dfold_len : ∀ (ps : List (MKey × MV)) (ks : List MKey) (ms : List MV), ks.length = ms.length → (dFold ps ks ms).1.length = (dFold ps ks ms).2.length
  | [], ks, ms, h => h
  | p :: ps, ks, ms, h => dfold_len ps _ _ (dput_len p.1 p.2 h)
theorem Reps.map_int {ns : List Int} : Reps G A (ns.map .int) (ns.map .int) := by
  induction ns with
  | nil => unfold Reps; rfl
  | cons n ns ih => rw [List.map_cons, List.map_cons]; unfold Reps; exact ⟨_, _, rfl, rep_int n, ih⟩
theorem Reps.blOf : ∀ {xs : List MV} {vs : List V} {bs : List Bool}, Reps G A xs vs → xs.mapM blOf = some bs → vs = bs.map .bl
  | [], vs, bs, h, e => by
    unfold Reps at h
    simp at e
    subst e h
    rfl
  | x :: xs, vs, bs, h, e => by
    unfold Reps at h
    obtain ⟨v, r, rfl, h1, h2⟩ := h
    simp only [List.mapM_cons, Option.bind_eq_bind, Option.bind_eq_some_iff] at e
    obtain ⟨b, e1, cs, e2, e3⟩ := e
    cases x with
    | bl b' =>
      cases e1
      cases e3
      rw [h1.bl_, Reps.blOf h2 e2]
      rfl
    | _ => exact absurd e1 (by simp [Mi.blOf])
theorem Reps.intOf : ∀ {xs : List MV} {vs : List V} {bs : List Int}, Reps G A xs vs → xs.mapM intOf = some bs → vs = bs.map .int
  | [], vs, bs, h, e => by
    unfold Reps at h
    simp at e
    subst e h
    rfl
  | x :: xs, vs, bs, h, e => by
    unfold Reps at h
    obtain ⟨v, r, rfl, h1, h2⟩ := h
    simp only [List.mapM_cons, Option.bind_eq_bind, Option.bind_eq_some_iff] at e
    obtain ⟨b, e1, cs, e2, e3⟩ := e
    cases x with
    | int i' =>
      cases e1
      cases e3
      rw [h1.int_, Reps.intOf h2 e2]
      rfl
    | _ => exact absurd e1 (by simp [Mi.intOf])
theorem str_len (s : Sx) : (⟨s.toArray⟩ : Str).length = s.length := by simp [Str.length]
theorem str_app (s t : Sx) : (⟨s.toArray⟩ : Str) ++ ⟨t.toArray⟩ = ⟨(s ++ t).toArray⟩ := by
  show (Str.mk (s.toArray ++ t.toArray) : Str) = _
  rw [List.append_toArray]
end

/-! ### data -/
section
variable {G : Gb} {A : Wd}
theorem canLay_dct {xs : List MV} : PyData.canLay0 (.dict []) = false := rfl
mutual
theorem frz_dp (S : Sim G A) : ∀ (k : Nat) (x x' : MV) (v : V), frz 0 A.mh k x = some x' → PyData.canLay0 (toD x') = true → Rep G A x v → Dp G.K A.H v (toD x')
  | k, .non, x', v, e, c, h => by
    unfold frz at e; cases e; rw [h.non_]; unfold toD; exact .non
  | k, .bl b, x', v, e, c, h => by
    unfold frz at e; cases e; rw [h.bl_]; unfold toD; exact .bl b
  | k, .int i, x', v, e, c, h => by
    unfold frz at e; cases e; rw [h.int_]; unfold toD; exact .int i
  | k, .str s, x', v, e, c, h => by
    unfold frz at e; cases e; rw [h.str_]; unfold toD; exact .str _
  | k, .fn f, x', v, e, c, h => by
    unfold frz at e; cases e; unfold toD at c; exact absurd c (by decide)
  | k, .scr ns, x', v, e, c, h => by
    unfold frz at e; cases e
    unfold Rep at h
    obtain ⟨a, rfl, h⟩ := h
    unfold toD
    have sq : SqL G.K A.H a (ns.map .int) := by
      rcases h with ⟨h, _⟩ | (h | h)
      · exact .inl h
      · rcases h with h | ⟨o, h⟩ <;> exact nomatch h
      · exact .inr h
    exact .lst sq (DpAll_ints ns)
  | k, .dct ks vs, x', v, e, c, h => by
    unfold frz at e
    cases q : frzs 0 A.mh k vs with
    | none => rw [q] at e; exact nomatch e
    | some ys => rw [q] at e; cases e; unfold toD at c; exact absurd c (by decide)
  | k, .tup xs, x', v, e, c, h => by
    unfold frz at e
    cases q : frzs 0 A.mh k xs with
    | none => rw [q] at e; exact nomatch e
    | some ys =>
      rw [q] at e; cases e
      obtain ⟨a, vs, rfl, h1, h2⟩ := h.tup_
      unfold toD at c ⊢
      exact .tup h1 (frzs_dp S k xs ys vs q c h2)
  | k, .lst xs, x', v, e, c, h => by
    unfold frz at e
    cases q : frzs 0 A.mh k xs with
    | none => rw [q] at e; exact nomatch e
    | some ys =>
      rw [q] at e; cases e
      unfold Rep at h
      obtain ⟨a, vs, rfl, h1, _, h2⟩ := h
      unfold toD at c ⊢
      exact .lst (SqL.of h1) (frzs_dp S k xs ys vs q c h2)
  | 0, .loc l, x', v, e, c, h => by
    unfold frz at e
    simp at e
  | k + 1, .loc l, x', v, e, c, h => by
    unfold frz at e
    simp only [Nat.not_lt_zero, if_false] at e
    obtain ⟨a, rfl, e2⟩ := h.loc_
    split at e
    · rename_i xs hl
      cases q : frzs 0 A.mh k xs with
      | none => rw [q] at e; exact nomatch e
      | some ys =>
        rw [q] at e; cases e
        obtain ⟨vs, e3, r⟩ := S.obj l _ hl a e2
        unfold toD at c ⊢
        exact .lst (SqL.of e3) (frzs_dp S k xs ys vs q c r)
    · rename_i ks vs hl
      cases q : frzs 0 A.mh k vs with
      | none => rw [q] at e; exact nomatch e
      | some ys => rw [q] at e; cases e; unfold toD at c; exact absurd c (by decide)
    · exact nomatch e
  termination_by k x => (k, sizeOf x)
theorem frzs_dp (S : Sim G A) : ∀ (k : Nat) (xs ys : List MV) (vs : List V), frzs 0 A.mh k xs = some ys → PyData.canLayAll0 (toDs ys) = true → Reps G A xs vs → DpAll G.K A.H vs (toDs ys)
  | k, [], ys, vs, e, c, h => by
    unfold frzs at e; cases e
    unfold Reps at h; subst h
    unfold toDs; exact .nil
  | k, x :: xs, ys, vs, e, c, h => by
    unfold frzs at e
    unfold Reps at h
    obtain ⟨v, r, rfl, h1, h2⟩ := h
    cases q : frz 0 A.mh k x with
    | none => rw [q] at e; exact nomatch e
    | some y =>
      rw [q] at e
      simp only at e
      cases q2 : frzs 0 A.mh k xs with
      | none => rw [q2] at e; exact nomatch e
      | some ys' =>
        rw [q2] at e; cases e
        unfold toDs at c ⊢
        unfold PyData.canLayAll0 at c
        rw [Bool.and_eq_true] at c
        exact .cons (frz_dp S k x y v q c.1 h1) (frzs_dp S k xs ys' r q2 c.2 h2)
  termination_by k xs => (k, sizeOf xs)
theorem DpAll_ints {K : PySem.W.Frag} {H : Hp} : ∀ ns : List Int, DpAll K H (ns.map .int) (ns.map .int)
  | [] => .nil
  | n :: ns => .cons (.int n) (DpAll_ints ns)
end
theorem okD_can {x : MV} (h : okD x = true) : PyData.canLay0 (toD x) = true := SeqAt.canLay_of_shaped h

/-! ### equal, dicts within -/
/-- x == y is True, by what stands in them -/
inductive EqU (K : PySem.W.Frag) (H : Hp) : Nat → V → V → Prop
  | leaf {n : Nat} {x y : V} {d d' : PyData} : Dp K H x d → Dp K H y d' → SeqAt.shaped d = true → SeqAt.shaped d' = true → PyData.eqv d d' = true → d.depth = 0 → EqU K H n x y
  | tup {n : Nat} {a b : Addr} {vs ws : List V} : SqT K H a vs → SqT K H b ws → vs.length = ws.length → (∀ (i : Nat) x y, vs[i]? = some x → ws[i]? = some y → EqU K H n x y) → EqU K H (n + 1) (.ref a) (.ref b)
  | lst {n : Nat} {a b : Addr} {vs ws : List V} : SqL K H a vs → SqL K H b ws → vs.length = ws.length → (∀ (i : Nat) x y, vs[i]? = some x → ws[i]? = some y → EqU K H n x y) → EqU K H (n + 1) (.ref a) (.ref b)
  | dct {n : Nat} {a b : Addr} {ks ls : List (Key × V)} : Rd H a (.dK ks) → Rd H b (.dK ls) → ks.length = ls.length → (∀ p ∈ ks, (valV ls p.1).isSome = true) → (∀ p y, p ∈ ks → valV ls p.1 = some y → EqU K H n p.2 y) → EqU K H (n + 1) (.ref a) (.ref b)
theorem hgts_mem {x : MV} {xs : List MV} (h : x ∈ xs) : hgt x ≤ hgts xs := by
  induction xs with
  | nil => simp at h
  | cons y xs ih =>
    simp only [hgts]
    rcases List.mem_cons.mp h with rfl | h
    · omega
    · have := ih h; omega
theorem EqU.mono {K : PySem.W.Frag} {H : Hp} {n : Nat} {x y : V} (h : EqU K H n x y) : ∀ m, n ≤ m → EqU K H m x y := by
  induction h with
  | leaf h1 h2 h3 h4 h5 h6 => exact fun m _ => .leaf h1 h2 h3 h4 h5 h6
  | tup h1 h2 h3 _ ih =>
    intro m hm
    obtain ⟨m', rfl⟩ : ∃ m', m = m' + 1 := ⟨m - 1, by omega⟩
    exact .tup h1 h2 h3 fun i x y e1 e2 => ih i x y e1 e2 m' (by omega)
  | lst h1 h2 h3 _ ih =>
    intro m hm
    obtain ⟨m', rfl⟩ : ∃ m', m = m' + 1 := ⟨m - 1, by omega⟩
    exact .lst h1 h2 h3 fun i x y e1 e2 => ih i x y e1 e2 m' (by omega)
  | dct h1 h2 h3 h4 _ ih =>
    intro m hm
    obtain ⟨m', rfl⟩ : ∃ m', m = m' + 1 := ⟨m - 1, by omega⟩
    exact .dct h1 h2 h3 h4 fun p y hp e => ih p y hp e m' (by omega)
/-- a value with its live objects read out stands for the same -/
theorem frz_rep0 {G : Gb} {A : Wd} (S : Sim G A) : True := trivial
section
variable {G : Gb} {A : Wd}
/-- as Rep, where nothing is asked of who may write -/
inductive Rd' (G : Gb) (A : Wd) : MV → V → Prop
  | dat {x : MV} {v : V} : (PyData.canLay0 (toD x) = true → Dp G.K A.H v (toD x)) → (∀ xs, x ≠ .tup xs) → (∀ xs, x ≠ .lst xs) → (∀ ks ms, x ≠ .dct ks ms) → Rd' G A x v
  | tup {xs : List MV} {a : Addr} {vs : List V} : SqT G.K A.H a vs → xs.length = vs.length → (∀ (i : Nat) x v, xs[i]? = some x → vs[i]? = some v → Rd' G A x v) → Rd' G A (.tup xs) (.ref a)
  | lst {xs : List MV} {a : Addr} {vs : List V} : SqL G.K A.H a vs → xs.length = vs.length → (∀ (i : Nat) x v, xs[i]? = some x → vs[i]? = some v → Rd' G A x v) → Rd' G A (.lst xs) (.ref a)
  | dct {ks : List MKey} {ms : List MV} {a : Addr} {vs : List V} : Rd A.H a (.dK ((ks.map kOf).zip vs)) → ks.length = vs.length → ms.length = vs.length → (∀ (i : Nat) x v, ms[i]? = some x → vs[i]? = some v → Rd' G A x v) → Rd' G A (.dct ks ms) (.ref a)
mutual
theorem frz_rd (S : Sim G A) : ∀ (k : Nat) (x x' : MV) (v : V), frz 0 A.mh k x = some x' → Rep G A x v → Rd' G A x' v
  | k, .non, x', v, e, h => by
    have e' := e
    unfold frz at e; cases e
    exact .dat (fun c => frz_dp S k _ _ v e' c h) (fun _ z => nomatch z) (fun _ z => nomatch z) (fun _ _ z => nomatch z)
  | k, .bl b, x', v, e, h => by
    have e' := e
    unfold frz at e; cases e
    exact .dat (fun c => frz_dp S k _ _ v e' c h) (fun _ z => nomatch z) (fun _ z => nomatch z) (fun _ _ z => nomatch z)
  | k, .int i, x', v, e, h => by
    have e' := e
    unfold frz at e; cases e
    exact .dat (fun c => frz_dp S k _ _ v e' c h) (fun _ z => nomatch z) (fun _ z => nomatch z) (fun _ _ z => nomatch z)
  | k, .str s, x', v, e, h => by
    have e' := e
    unfold frz at e; cases e
    exact .dat (fun c => frz_dp S k _ _ v e' c h) (fun _ z => nomatch z) (fun _ z => nomatch z) (fun _ _ z => nomatch z)
  | k, .fn f, x', v, e, h => by
    have e' := e
    unfold frz at e; cases e
    exact .dat (fun c => frz_dp S k _ _ v e' c h) (fun _ z => nomatch z) (fun _ z => nomatch z) (fun _ _ z => nomatch z)
  | k, .scr ns, x', v, e, h => by
    have e' := e
    unfold frz at e; cases e
    exact .dat (fun c => frz_dp S k _ _ v e' c h) (fun _ z => nomatch z) (fun _ z => nomatch z) (fun _ _ z => nomatch z)
  | k, .dct ks ms, x', v, e, h => by
    unfold frz at e
    cases q : frzs 0 A.mh k ms with
    | none => rw [q] at e; exact nomatch e
    | some ys =>
      rw [q] at e; cases e
      unfold Rep at h
      obtain ⟨a, vs, rfl, h1, _, hl, h2⟩ := h
      obtain ⟨hl2, hh⟩ := frzs_rd S k ms ys vs q h2
      exact .dct h1 (by rw [hl, h2.len]) hl2 hh
  | k, .tup xs, x', v, e, h => by
    unfold frz at e
    cases q : frzs 0 A.mh k xs with
    | none => rw [q] at e; exact nomatch e
    | some ys =>
      rw [q] at e; cases e
      obtain ⟨a, vs, rfl, h1, h2⟩ := h.tup_
      obtain ⟨hl2, hh⟩ := frzs_rd S k xs ys vs q h2
      exact .tup h1 hl2 hh
  | k, .lst xs, x', v, e, h => by
    unfold frz at e
    cases q : frzs 0 A.mh k xs with
    | none => rw [q] at e; exact nomatch e
    | some ys =>
      rw [q] at e; cases e
      unfold Rep at h
      obtain ⟨a, vs, rfl, h1, _, h2⟩ := h
      obtain ⟨hl2, hh⟩ := frzs_rd S k xs ys vs q h2
      exact .lst (SqL.of h1) hl2 hh
  | 0, .loc l, x', v, e, h => by
    unfold frz at e
    simp at e
  | k + 1, .loc l, x', v, e, h => by
    unfold frz at e
    simp only [Nat.not_lt_zero, if_false] at e
    obtain ⟨a, rfl, e2⟩ := h.loc_
    split at e
    · rename_i xs hl
      cases q : frzs 0 A.mh k xs with
      | none => rw [q] at e; exact nomatch e
      | some ys =>
        rw [q] at e; cases e
        obtain ⟨vs, e3, r⟩ := S.obj l _ hl a e2
        obtain ⟨hl2, hh⟩ := frzs_rd S k xs ys vs q r
        exact .lst (SqL.of e3) hl2 hh
    · rename_i ks ms hl
      cases q : frzs 0 A.mh k ms with
      | none => rw [q] at e; exact nomatch e
      | some ys =>
        rw [q] at e; cases e
        obtain ⟨vs, e3, l1, r⟩ := S.obj l _ hl a e2
        obtain ⟨hl2, hh⟩ := frzs_rd S k ms ys vs q r
        exact .dct (.inl e3) (by rw [l1, r.len]) hl2 hh
    · exact nomatch e
  termination_by k x => (k, sizeOf x)
theorem frzs_rd (S : Sim G A) : ∀ (k : Nat) (xs ys : List MV) (vs : List V), frzs 0 A.mh k xs = some ys → Reps G A xs vs → ys.length = vs.length ∧ ∀ (i : Nat) y v, ys[i]? = some y → vs[i]? = some v → Rd' G A y v
  | k, [], ys, vs, e, h => by
    unfold frzs at e; cases e
    unfold Reps at h; subst h
    exact ⟨rfl, fun i y v e => by simp at e⟩
  | k, x :: xs, ys, vs, e, h => by
    unfold frzs at e
    unfold Reps at h
    obtain ⟨v, r, rfl, h1, h2⟩ := h
    cases q : frz 0 A.mh k x with
    | none => rw [q] at e; exact nomatch e
    | some y =>
      rw [q] at e
      simp only at e
      cases q2 : frzs 0 A.mh k xs with
      | none => rw [q2] at e; exact nomatch e
      | some ys' =>
        rw [q2] at e; cases e
        obtain ⟨hl, hh⟩ := frzs_rd S k xs ys' r q2 h2
        have h0 := frz_rd S k x y v q h1
        refine ⟨by simp [hl], fun i z w e1 e2 => ?_⟩
        cases i with
        | zero => simp at e1 e2; subst e1 e2; exact h0
        | succ i => exact hh i z w (by simpa using e1) (by simpa using e2)
  termination_by k xs => (k, sizeOf xs)
end
theorem Rd'.dp {x : MV} {v : V} (h : Rd' G A x v) : PyData.canLay0 (toD x) = true → Dp G.K A.H v (toD x) := by
  induction h with
  | dat h _ _ _ => exact h
  | @tup xs a vs h1 h2 _ ih =>
    intro c
    unfold toD at c ⊢
    refine .tup h1 ?_
    unfold PyData.canLay0 at c
    clear h1
    induction xs generalizing vs with
    | nil =>
      cases vs with
      | nil => unfold toDs; exact .nil
      | cons => simp at h2
    | cons x xs ihx =>
      cases vs with
      | nil => simp at h2
      | cons v vs =>
        unfold toDs at c ⊢
        unfold PyData.canLayAll0 at c
        rw [Bool.and_eq_true] at c
        exact .cons (ih 0 x v rfl rfl c.1) (ihx (vs := vs) (by simpa using h2) (fun i x' v' e1 e2 => by rename_i hh; exact hh (i + 1) x' v' (by simpa using e1) (by simpa using e2)) (fun i x' v' e1 e2 => ih (i + 1) x' v' (by simpa using e1) (by simpa using e2)) c.2)
  | @lst xs a vs h1 h2 _ ih =>
    intro c
    unfold toD at c ⊢
    refine .lst h1 ?_
    unfold PyData.canLay0 at c
    clear h1
    induction xs generalizing vs with
    | nil =>
      cases vs with
      | nil => unfold toDs; exact .nil
      | cons => simp at h2
    | cons x xs ihx =>
      cases vs with
      | nil => simp at h2
      | cons v vs =>
        unfold toDs at c ⊢
        unfold PyData.canLayAll0 at c
        rw [Bool.and_eq_true] at c
        exact .cons (ih 0 x v rfl rfl c.1) (ihx (vs := vs) (by simpa using h2) (fun i x' v' e1 e2 => by rename_i hh; exact hh (i + 1) x' v' (by simpa using e1) (by simpa using e2)) (fun i x' v' e1 e2 => ih (i + 1) x' v' (by simpa using e1) (by simpa using e2)) c.2)
  | dct _ _ _ _ _ =>
    intro c
    unfold toD at c
    exact absurd c (by decide)
end
section
variable {G : Gb} {A : Wd}
theorem look_idx : ∀ {ls : List MKey} {ns : List MV} {k : MKey} {m : MV} (ws : List V), ls.length = ws.length → dLook ls ns k = some m → ∃ (j : Nat) (w : V), ns[j]? = some m ∧ ws[j]? = some w ∧ valV ((ls.map kOf).zip ws) (kOf k) = some w
  | [], ns, k, m, ws, hl, e => by unfold dLook at e; cases e
  | k' :: ls, [], k, m, ws, hl, e => by unfold dLook at e; cases e
  | k' :: ls, n :: ns, k, m, [], hl, e => by simp at hl
  | k' :: ls, n :: ns, k, m, w :: ws, hl, e => by
    unfold dLook at e
    by_cases h : k' = k
    · subst h
      rw [if_pos rfl] at e
      cases e
      exact ⟨0, w, rfl, rfl, valV_pos (p := (kOf k', w)) rfl⟩
    · rw [if_neg h] at e
      obtain ⟨j, w', h1, h2, h3⟩ := look_idx ws (by simpa using hl) e
      refine ⟨j + 1, w', by simpa using h1, by simpa using h2, ?_⟩
      have e2 : valV (((k' :: ls).map kOf).zip (w :: ws)) (kOf k) = valV ((ls.map kOf).zip ws) (kOf k) := valV_neg (p := (kOf k', w)) fun z => h (kOf_inj z)
      rw [e2]
      exact h3
mutual
theorem eqT_rep : ∀ (x y : MV) (vx vy : V), eqT x y = true → Rd' G A x vx → Rd' G A y vy → EqU G.K A.H (hgt x) vx vy
  | x, y, vx, vy, e, rx, ry => by
    unfold eqT at e
    split at e
    · rename_i ks ms ls ns
      rw [Bool.and_eq_true] at e
      cases rx with
      | dat _ _ _ h => exact absurd rfl (h _ _)
      | dct a1 a2 a3 a4 =>
        rename_i a vs
        cases ry with
        | dat _ _ _ h => exact absurd rfl (h _ _)
        | dct b1 b2 b3 b4 =>
          rename_i b ws
          have hk := eqKs_rep ms ks ls ns e.2
          have hl : ks.length = ls.length := of_decide_eq_true e.1
          have find : ∀ p ∈ (ks.map kOf).zip vs, ∃ (i : Nat) (k : MKey) (m : MV), ks[i]? = some k ∧ ms[i]? = some m ∧ vs[i]? = some p.2 ∧ p.1 = kOf k := fun p hp => by
            obtain ⟨i, hi, e1⟩ := List.mem_iff_getElem.mp hp
            rw [List.length_zip, List.length_map] at hi
            have i1 : i < ks.length := by omega
            have i2 : i < vs.length := by omega
            have i3 : i < ms.length := by omega
            rw [List.getElem_zip] at e1
            refine ⟨i, ks[i], ms[i], List.getElem?_eq_getElem i1, List.getElem?_eq_getElem i3, ?_, ?_⟩
            · rw [← e1]; exact List.getElem?_eq_getElem i2
            · rw [← e1]; simp
          unfold hgt
          refine .dct a1 b1 ?_ (fun p hp => ?_) fun p y hp ey => ?_
          · rw [List.length_zip, List.length_zip, List.length_map, List.length_map]; omega
          · obtain ⟨i, k, m, h1, h2, h3, h4⟩ := find p hp
            obtain ⟨n', q1, q2⟩ := hk i m k h2 h1
            obtain ⟨j, w', _, _, q3⟩ := look_idx ws (by omega) q1
            rw [h4, q3]; rfl
          · obtain ⟨i, k, m, h1, h2, h3, h4⟩ := find p hp
            obtain ⟨n', q1, q2⟩ := hk i m k h2 h1
            obtain ⟨j, w', q3, q4, q5⟩ := look_idx ws (by omega) q1
            rw [h4, q5] at ey
            cases ey
            exact q2 _ _ (a4 i m _ h2 h3) (b4 j n' _ q3 q4)
    · rename_i xs ys
      obtain ⟨hl, hi⟩ := eqTs_rep xs ys e
      cases rx with
      | dat _ h _ _ => exact absurd rfl (h _)
      | tup a1 a2 a3 =>
        cases ry with
        | dat _ h _ _ => exact absurd rfl (h _)
        | tup b1 b2 b3 =>
          unfold hgt
          refine .tup a1 b1 (by omega) fun i u v e1 e2 => ?_
          have i1 : i < xs.length := by rw [a2]; exact (List.getElem?_eq_some_iff.mp e1).1
          have i2 : i < ys.length := by omega
          exact hi i _ _ _ _ (List.getElem?_eq_getElem i1) (List.getElem?_eq_getElem i2) (a3 i _ _ (List.getElem?_eq_getElem i1) e1) (b3 i _ _ (List.getElem?_eq_getElem i2) e2)
    · rename_i xs ys
      obtain ⟨hl, hi⟩ := eqTs_rep xs ys e
      cases rx with
      | dat _ _ h _ => exact absurd rfl (h _)
      | lst a1 a2 a3 =>
        cases ry with
        | dat _ _ h _ => exact absurd rfl (h _)
        | lst b1 b2 b3 =>
          unfold hgt
          refine .lst a1 b1 (by omega) fun i u v e1 e2 => ?_
          have i1 : i < xs.length := by rw [a2]; exact (List.getElem?_eq_some_iff.mp e1).1
          have i2 : i < ys.length := by omega
          exact hi i _ _ _ _ (List.getElem?_eq_getElem i1) (List.getElem?_eq_getElem i2) (a3 i _ _ (List.getElem?_eq_getElem i1) e1) (b3 i _ _ (List.getElem?_eq_getElem i2) e2)
    · simp only [Bool.and_eq_true, decide_eq_true_eq] at e
      obtain ⟨⟨⟨e1, e2⟩, e3⟩, e4⟩ := e
      exact .leaf (rx.dp (okD_can e1)) (ry.dp (okD_can e2)) e1 e2 e3 e4
  termination_by x => sizeOf x
theorem eqTs_rep : ∀ (xs ys : List MV), eqTs xs ys = true → xs.length = ys.length ∧ ∀ (i : Nat) x y vx vy, xs[i]? = some x → ys[i]? = some y → Rd' G A x vx → Rd' G A y vy → EqU G.K A.H (hgts xs) vx vy
  | [], [], _ => ⟨rfl, fun i x y vx vy e => by simp at e⟩
  | [], _ :: _, e => by unfold eqTs at e; cases e
  | _ :: _, [], e => by unfold eqTs at e; cases e
  | x :: xs, y :: ys, e => by
    unfold eqTs at e
    rw [Bool.and_eq_true] at e
    obtain ⟨hl, hi⟩ := eqTs_rep xs ys e.2
    refine ⟨by simp [hl], fun i x' y' vx vy e1 e2 rx ry => ?_⟩
    unfold hgts
    cases i with
    | zero =>
      simp at e1 e2
      subst e1 e2
      exact (eqT_rep x y vx vy e.1 rx ry).mono _ (Nat.le_max_left _ _)
    | succ i => exact (hi i x' y' vx vy (by simpa using e1) (by simpa using e2) rx ry).mono _ (Nat.le_max_right _ _)
  termination_by xs => sizeOf xs
theorem eqKs_rep : ∀ (ms : List MV) (ks ls : List MKey) (ns : List MV), eqKs ms ks ls ns = true → ∀ (i : Nat) m k, ms[i]? = some m → ks[i]? = some k → ∃ n', dLook ls ns k = some n' ∧ ∀ vx vy, Rd' G A m vx → Rd' G A n' vy → EqU G.K A.H (hgts ms) vx vy
  | [], _, _, _, _ => fun i m k e1 _ => by simp at e1
  | _ :: _, [], _, _, _ => fun i m k _ e2 => by simp at e2
  | m :: ms, k :: ks, ls, ns, e => by
    unfold eqKs at e
    rw [Bool.and_eq_true] at e
    intro i m' k' e1 e2
    unfold hgts
    cases i with
    | zero =>
      simp at e1 e2
      subst e1 e2
      cases q : dLook ls ns k with
      | none => rw [q] at e; cases e.1
      | some n' =>
        rw [q] at e
        exact ⟨n', rfl, fun vx vy rx ry => (eqT_rep m n' vx vy e.1 rx ry).mono _ (Nat.le_max_left _ _)⟩
    | succ i =>
      obtain ⟨n', q1, q2⟩ := eqKs_rep ms ks ls ns e.2 i m' k' (by simpa using e1) (by simpa using e2)
      exact ⟨n', q1, fun vx vy rx ry => (q2 vx vy rx ry).mono _ (Nat.le_max_right _ _)⟩
  termination_by ms => sizeOf ms
end
/-- equal lists, equal dicts -/
def EqTop (K : PySem.W.Frag) (H : Hp) (x y : V) : Prop :=
  (∃ n a b vs ws, n ≤ 60 ∧ x = .ref a ∧ y = .ref b ∧ SqL K H a vs ∧ SqL K H b ws ∧ vs.length = ws.length ∧ ∀ (i : Nat) u w, vs[i]? = some u → ws[i]? = some w → EqU K H n u w) ∨
  ∃ n a b ks ls, n ≤ 60 ∧ x = .ref a ∧ y = .ref b ∧ Rd H a (.dK ks) ∧ Rd H b (.dK ls) ∧ ks.length = ls.length ∧ (∀ p ∈ ks, (valV ls p.1).isSome = true) ∧ ∀ p u, p ∈ ks → valV ls p.1 = some u → EqU K H n p.2 u
theorem eqTop_rep {x y : MV} {vx vy : V} (e : eqT x y = true) (nd : ¬ (okD x = true ∧ okD y = true)) (hg : hgt x ≤ 60) (nt : notTup x = true) (rx : Rd' G A x vx) (ry : Rd' G A y vy) : EqTop G.K A.H vx vy := by
  unfold eqT at e
  split at e
  · rename_i ks ms ls ns
    rw [Bool.and_eq_true] at e
    cases rx with
    | dat _ _ _ h => exact absurd rfl (h _ _)
    | dct a1 a2 a3 a4 =>
      rename_i a vs
      cases ry with
      | dat _ _ _ h => exact absurd rfl (h _ _)
      | dct b1 b2 b3 b4 =>
        rename_i b ws
        have hk := eqKs_rep (G := G) (A := A) ms ks ls ns e.2
        have hl : ks.length = ls.length := of_decide_eq_true e.1
        have find : ∀ p ∈ (ks.map kOf).zip vs, ∃ (i : Nat) (k : MKey) (m : MV), ks[i]? = some k ∧ ms[i]? = some m ∧ vs[i]? = some p.2 ∧ p.1 = kOf k := fun p hp => by
          obtain ⟨i, hi, e1⟩ := List.mem_iff_getElem.mp hp
          rw [List.length_zip, List.length_map] at hi
          have i1 : i < ks.length := by omega
          have i2 : i < vs.length := by omega
          have i3 : i < ms.length := by omega
          rw [List.getElem_zip] at e1
          refine ⟨i, ks[i], ms[i], List.getElem?_eq_getElem i1, List.getElem?_eq_getElem i3, ?_, ?_⟩
          · rw [← e1]; exact List.getElem?_eq_getElem i2
          · rw [← e1]; simp
        unfold hgt at hg
        refine .inr ⟨hgts ms, a, b, _, _, by omega, rfl, rfl, a1, b1, ?_, fun p hp => ?_, fun p y hp ey => ?_⟩
        · rw [List.length_zip, List.length_zip, List.length_map, List.length_map]; omega
        · obtain ⟨i, k, m, h1, h2, h3, h4⟩ := find p hp
          obtain ⟨n', q1, q2⟩ := hk i m k h2 h1
          obtain ⟨j, w', _, _, q3⟩ := look_idx ws (by omega) q1
          rw [h4, q3]; rfl
        · obtain ⟨i, k, m, h1, h2, h3, h4⟩ := find p hp
          obtain ⟨n', q1, q2⟩ := hk i m k h2 h1
          obtain ⟨j, w', q3, q4, q5⟩ := look_idx ws (by omega) q1
          rw [h4, q5] at ey
          cases ey
          exact q2 _ _ (a4 i m _ h2 h3) (b4 j n' _ q3 q4)
  · cases nt
  · rename_i xs ys
    obtain ⟨hl, hi⟩ := eqTs_rep (G := G) (A := A) xs ys e
    cases rx with
    | dat _ _ h _ => exact absurd rfl (h _)
    | lst a1 a2 a3 =>
      cases ry with
      | dat _ _ h _ => exact absurd rfl (h _)
      | lst b1 b2 b3 =>
        unfold hgt at hg
        refine .inl ⟨hgts xs, _, _, _, _, by omega, rfl, rfl, a1, b1, by omega, fun i u v e1 e2 => ?_⟩
        have i1 : i < xs.length := by rw [a2]; exact (List.getElem?_eq_some_iff.mp e1).1
        have i2 : i < ys.length := by omega
        exact hi i _ _ _ _ (List.getElem?_eq_getElem i1) (List.getElem?_eq_getElem i2) (a3 i _ _ (List.getElem?_eq_getElem i1) e1) (b3 i _ _ (List.getElem?_eq_getElem i2) e2)
  · simp only [Bool.and_eq_true, decide_eq_true_eq] at e
    exact absurd ⟨e.1.1.1, e.1.1.2⟩ nd
end
/-! ### readings of the operations -/
theorem eqV_dp {G : Gb} {A : Wd} (S : Sim G A) {x y : MV} {vx vy : V} {c : Bool} (e : eqV A.mh x y = some c) (rx : Rep G A x vx) (ry : Rep G A y vy) :
    (∃ d d', Dp G.K A.H vx d ∧ Dp G.K A.H vy d' ∧ SeqAt.shaped d = true ∧ SeqAt.shaped d' = true ∧ PyData.eqv d d' = c) ∨ (c = true ∧ EqTop G.K A.H vx vy) := by
  unfold eqV at e
  cases q : frz 0 A.mh 8 x with
  | none => rw [q] at e; exact nomatch e
  | some x' =>
    rw [q] at e
    simp only at e
    cases q2 : frz 0 A.mh 8 y with
    | none => rw [q2] at e; exact nomatch e
    | some y' =>
      rw [q2] at e
      simp only at e
      split at e
      · rename_i hk
        cases e
        exact .inl ⟨_, _, frz_dp S 8 x x' vx q (okD_can hk.1) rx, frz_dp S 8 y y' vy q2 (okD_can hk.2) ry, hk.1, hk.2, rfl⟩
      · rename_i nd
        split at e
        · rename_i hk
          cases e
          exact .inr ⟨rfl, eqTop_rep hk.1 nd hk.2.1 hk.2.2 (frz_rd S 8 x x' vx q rx) (frz_rd S 8 y y' vy q2 ry)⟩
        · exact nomatch e
end
end L2.Mi

set_option Elab.async false
set_option linter.all false
set_option maxRecDepth 100000
set_option maxHeartbeats 4000000
/-! Mini4: operators and comparisons. -/
namespace PySem.SeqAt
open AutoSeq1 (wpAny_loadPart')
open MeetsSeq MeetsSeq2 MeetsSeq3
section
variable {prog : Program} {w : World}
abbrev miL (us : Array Value) (n : Nat) (d : Option Addr) (sl : Array (Option Value)) : Obj := { cls := .type "list", dict := d, data := .seq us n, slots := sl }
/-- the loop of != over two lists whose items are equal -/
theorem mi_ne_loop (p q : Addr) (us ws : Array Value) (n m : Nat) (d1 d2 : Option Addr) (s1 s2 : Array (Option Value)) (hz : us.size = ws.size) (r : Nat) :
    ∀ i : Nat, us.size - i = r → MeetsIn prog w (Builtin.«list.__eq__.loop» ⟨[.ref p, .ref q, rawInt i, rawInt 3], []⟩)
      (fun A R st => st.heap.get? p = some (miL us n d1 s1) ∧ st.heap.get? q = some (miL ws m d2 s2) ∧ (∀ j (a : j < us.size) (b : j < ws.size), EqIn prog w A.in1 st us[j] ws[j] true) ∧ R (.ok (.ret (.bool false))) st) := by
  induction r with
  | zero =>
    intro i hr A R st hy
    obtain ⟨hp, g, d, tk, os⟩ := st
    obtain ⟨e1, e2, e3, fin⟩ := hy
    wp_walk using wpAny_loadPart' e1, wpAny_loadPart' e2
    have o1 : us[((i : Nat) : Int).toNat]? = none := by simp; omega
    have o2 : ws[((i : Nat) : Int).toNat]? = none := by simp; omega
    rw [o1, o2]
    wp_walk using wpAny_loadPart' e1, wpAny_loadPart' e2
    show R (.ok (.ret (.bool (us.size != ws.size)))) _
    rw [hz]
    simpa using fin
  | succ r ih =>
    intro i hr A R st hy
    obtain ⟨hp, g, d, tk, os⟩ := st
    obtain ⟨e1, e2, e3, fin⟩ := hy
    wp_walk using wpAny_loadPart' e1, wpAny_loadPart' e2
    have l1 : i < us.size := by omega
    have l2 : i < ws.size := by omega
    have o1 : us[((i : Nat) : Int).toNat]? = some us[i] := by simp [l1]
    have o2 : ws[((i : Nat) : Int).toNat]? = some ws[i] := by simp [l2]
    have next : ((i : Int) + 1) = ((i + 1 : Nat) : Int) := by push_cast; rfl
    rw [o1, o2]
    refine wpAny_bind (e3 i l1 l2 _ _ ?_)
    wp_walk
    rw [next]
    refine ⟨plainId_quiet plain_eq_loop _, codeAny_builtin entry_eq_loop ?_⟩
    rw [Around.under_plainId plain_eq_loop _]
    exact ih (i + 1) (by omega) A R _ ⟨e1, e2, e3, fin⟩
theorem mi_ne_list (p q : Addr) (us ws : Array Value) (n m : Nat) (d1 d2 : Option Addr) (s1 s2 : Array (Option Value)) (hz : us.size = ws.size) :
    MeetsIn prog w (Builtin.«list.__ne__» ⟨[.ref p, .ref q], []⟩)
      (fun A R st => st.heap.get? p = some (miL us n d1 s1) ∧ st.heap.get? q = some (miL ws m d2 s2) ∧ (∀ j (a : j < us.size) (b : j < ws.size), EqIn prog w A.in1 st us[j] ws[j] true) ∧ R (.ok (.ret (.bool false))) st) := by
  intro A R st hy
  obtain ⟨hp, g, d, tk, os⟩ := st
  obtain ⟨e1, e2, e3, fin⟩ := hy
  have f3 := AutoSeq1.sub_list_list
  have same : ¬ (us.size != ws.size) = true := by simp [hz]
  wp_walk using wpAny_loadPart' e1, wpAny_loadPart' e2
  refine ⟨plainId_quiet plain_eq_loop _, codeAny_builtin entry_eq_loop ?_⟩
  rw [Around.under_plainId plain_eq_loop _]
  exact mi_ne_loop p q us ws n m d1 d2 s1 s2 hz _ 0 rfl A R _ ⟨e1, e2, e3, fin⟩
theorem mi_ne_lists {A : Around} {st : Shared} {E Q : Value → Shared → Prop} {p q : Addr} {us ws : Array Value} (hp : st.heap.IsList p us) (hq : st.heap.IsList q ws) (hz : us.size = ws.size) (hu : A.units < cLine)
    (he : ∀ j (a : j < us.size) (b : j < ws.size), EqIn prog w A.in1 st us[j] ws[j] true) (fin : Q (.bool false) st) : wpAny (model prog w) A (richCompare .NotEq (.ref p) (.ref q)) Q E st := by
  obtain ⟨⟨c1, d1, da1, s1⟩, o1, k1, n, z1⟩ := id hp
  obtain ⟨⟨c2, d2, da2, s2⟩, o2, k2, m, z2⟩ := id hq
  simp only at k1 z1 k2 z2
  subst k1 z1 k2 z2
  have t1 : st.TypeIs (.ref p) "list" := ⟨_, o1, rfl⟩
  have t2 : st.TypeIs (.ref q) "list" := ⟨_, o2, rfl⟩
  refine wpAny_richCompare_same_room (op := .NotEq) t1 t2 F.slot_list_ne (call_meetsIn F.slot_list_ne t1 F.entry_list_ne (F.args_list_ne_2 _ _) (mi_ne_list p q us ws n m d1 d2 s1 s2 hz) ⟨o1, o2, he, ?_⟩) hu
  exact show Value.bool false ≠ Value.notImplemented ∧ Q (.bool false) st from ⟨(fun x => nomatch x), fin⟩
end
end PySem.SeqAt
namespace PySem.W
open PySem PySem.Calls PyProof.Rows PyProof.V PySem.Spec
open PySem.SeqAt (EqIn)
theorem mi_ne_dicts {prog : Program} {w : World} {K : Type} [DecidableEq K] {knd : KeyKind prog w K} {A : Around} {E Q : Value → Shared → Prop} {st : Shared} {p q : Addr} {kp kq : List (K × Value)} (hp : (p == sysModules) = false) (hq : (q == sysModules) = false)
    (dp : st.heap.DictOf knd p kp) (dq : st.heap.DictOf knd q kq) (hu : A.units < cLine) (hl : kp.length = kq.length) (hits : KeqHitsIn prog w A.in1 st kq kp true) (fin : Q (.bool false) st) :
    wpAny (model prog w) A (compareOp .NotEq (.ref p) (.ref q)) Q E st := by
  refine wpAny_richCompare_same_room (op := .NotEq) dp.typeIs dq.typeIs PySem.F.slot_dict_ne ?_ hu
  refine wpAny_call_entry PySem.F.slot_dict_ne dp.typeIs PySem.F.entry_dict_ne ?_ (PySem.F.args_dict_ne_2 _ _)
  show wpAny _ _ (Builtin.Dict.dictSlotArgs "__ne__" ⟨[.ref p, .ref q], []⟩ >>= _) _ _ st
  refine wpAny_bind ?_
  unfold Builtin.Dict.dictSlotArgs
  refine wpAny_bind (wpAny_notOrdered_dict dp.typeIs ?_)
  show wpAny _ _ (pure (Value.ref p, Value.ref q)) _ _ st
  refine wpAny_pure (wpAny_bind (wpAny_isInstance (T := "dict") dq.typeIs PySem.F.sub_dict_dict ?_))
  simp only [Bool.not_true, Bool.false_eq_true, if_false]
  refine wpAny_bind (wpAny_pure (wpAny_bind (wpAny_pure ?_)))
  refine wpAny_bind (keq_samePairsIn hp hq dp dq (fun _ => hits) (wpAny_pure ⟨_, rfl, ?_, ?_⟩))
  · exact fun x => nomatch x
  · simpa [hl] using fin
end PySem.W
namespace L2.Mi
open PySem PySem.Spec PyProof.Rows

/-! ### a text so many times -/
theorem foldl_app (x : Array Nat) : ∀ (n : Nat) (a : Array Nat), ((List.replicate n x).foldl (· ++ ·) a).toList = a.toList ++ (List.replicate n x.toList).flatten
  | 0, a => by simp
  | n + 1, a => by
    rw [List.replicate_succ, List.foldl_cons, foldl_app x n, List.replicate_succ, List.flatten_cons]
    simp
theorem str_toList_eq {x y : Str} (h : x.cps.toList = y.cps.toList) : x = y := by
  cases x; cases y
  simp only at h
  exact congrArg Str.mk (Array.toList_inj.mp h)
def rMulS : R2 := fun x y H Q => ∃ (s : Str) (n : Int), x = .str s ∧ y = .int n ∧ 0 ≤ n ∧ n ≤ 1000000 ∧ s.length * n.toNat ≤ sizeLine ∧ Q (.str ⟨(List.replicate n.toNat s.cps.toList).flatten.toArray⟩) H
theorem op_mulS {X : Cx} : OpR X (binaryOp .Mult) rMulS := by
  intro pins s σ H x y v u Q I rx ry h
  obtain ⟨z, n, rfl, rfl, h0, h1, h2, q⟩ := h
  obtain ⟨t, rfl⟩ := rx
  obtain ⟨t', rfl⟩ := ry
  refine PySem.P.mul_str ?_ (fun h => ?_) (fun h _ => ?_) ?_
  · rw [decide_eq_false (by omega), decide_eq_false (by omega)]; rfl
  · intro hz hh
    have e1 : (z.length : Int) ≤ 16777216 := by
      have : z.length * 1 ≤ z.length * n.toNat := Nat.mul_le_mul_left _ (by omega)
      have h2' : z.length * n.toNat ≤ 16777216 := h2
      omega
    have e2 : (16777216 : Int) ≤ (2 ^ 63 - 1) / n := by
      have : 0 < n := by omega
      rw [Int.le_ediv_iff_mul_le this]
      omega
    omega
  · have h2' : z.length * n.toNat ≤ sizeLine := h2
    exact decide_eq_false (by omega)
  · split
    · rename_i hn
      have e : n.toNat = 0 := by omega
      refine ⟨by decide, .str Str.empty, H, I.tok _, ⟨_, rfl⟩, ?_⟩
      rw [e] at q
      exact q
    · split
      · rename_i hn hb
        refine ⟨.str z, H, I, ⟨_, rfl⟩, ?_⟩
        have e : (⟨(List.replicate n.toNat z.cps.toList).flatten.toArray⟩ : Str) = z := by
          apply str_toList_eq
          rw [Bool.or_eq_true] at hb
          rcases hb with hb | hb
          · have e : n.toNat = 1 := by
              have : n = 1 := by simpa using hb
              omega
            rw [e]; simp
          · have e : z.cps.toList = [] := by
              have : z.length = 0 := by simpa using hb
              have : z.cps.toList.length = 0 := by simpa [Str.length] using this
              exact List.length_eq_zero_iff.mp this
            rw [e]; simp
        rw [e] at q
        exact q
      · refine ⟨?_, .str _, H, I.tok _, ⟨_, rfl⟩, ?_⟩
        · show (⟨(List.replicate n.toNat z.cps).foldl (· ++ ·) #[]⟩ : Str).length ≤ _
          have : (⟨(List.replicate n.toNat z.cps).foldl (· ++ ·) #[]⟩ : Str).length = z.length * n.toNat := by
            show Array.size _ = _
            rw [← Array.length_toList, foldl_app]
            simp [Str.length, Nat.mul_comm]
          rw [this]
          exact h2
        · have e : (⟨(List.replicate n.toNat z.cps).foldl (· ++ ·) #[]⟩ : Str) = ⟨(List.replicate n.toNat z.cps.toList).flatten.toArray⟩ := by
            apply str_toList_eq
            rw [foldl_app]
            simp
          rw [e]
          exact q

def opOf : Op → Operator
  | .add => .Add
  | .sub => .Sub
  | .mul => .Mult
  | .fdiv => .FloorDiv
  | .mod => .Mod
def rAddS : R2 := fun x y H Q => ∃ i j, x = .str i ∧ y = .str j ∧ i.length + j.length ≤ sizeLine ∧ Q (.str (i ++ j)) H
def opR (K : PySem.W.Frag) : Op → R2
  | .add => fun x y H Q => rI0 (fun i j => .int (i + j)) x y H Q ∨ rAddS x y H Q ∨ rCatA K x y H Q ∨ rCat x y H Q
  | .sub => rI0 fun i j => .int (i - j)
  | .mul => fun x y H Q => rI CMul (fun i j => .int (i * j)) x y H Q ∨ rMulS x y H Q ∨ L2.rRepT K x y H Q
  | .fdiv => rI CDivN fun i j => .int (i.fdiv j)
  | .mod => rI (fun _ j => j ≠ 0) fun i j => .int (i.fmod j)
theorem op_ok {X : Cx} : ∀ o : Op, OpR X (binaryOp (opOf o)) (opR X.K o)
  | .add => op_add.or (op_add_str.or (op_catA.or op_cat))
  | .sub => op_sub
  | .mul => op_mul.or (op_mulS.or L2.op_repT)
  | .fdiv => op_fdivN
  | .mod => op_modN
section
variable {G : Gb} {A : Wd}
theorem opR_of (S : Sim G A) {o : Op} {x y v : MV} {vx vy : V} {Q : VK} (e : binV A.mh o x y = some v) (rx : Rep G A x vx) (ry : Rep G A y vy) (h : Post G A A.mh v Q) : opR G.K o vx vy A.H Q := by
  have lists : ∀ {xs ys : List MV}, getL A.mh x = some xs → getL A.mh y = some ys → xs.length + ys.length ≤ line → v = .lst (xs ++ ys) → rCat vx vy A.H Q := by
    intro xs ys e1 e2 hz ev
    subst ev
    obtain ⟨a, vs, rfl, h1, r1⟩ := getL_rep S e1 rx
    obtain ⟨b, ws, rfl, h2, r2⟩ := getL_rep S e2 ry
    refine ⟨a, b, vs, ws, rfl, rfl, h1, h2, ?_, fun p hp => h.newLst S (r1.app r2) hp⟩
    rw [← r1.len, ← r2.len]
    exact hz
  cases o with
  | add =>
    simp only [binV, addV] at e
    split at e
    · rename_i i j
      cases e
      exact .inl ⟨i, j, rx.int_, ry.int_, h.here S (rep_int _)⟩
    · rename_i s t
      split at e
      · rename_i hz
        cases e
        refine .inr (.inl ⟨⟨s.toArray⟩, ⟨t.toArray⟩, rx.str_, ry.str_, by rw [str_len, str_len]; exact hz, ?_⟩)
        rw [str_app]
        exact h.here S (rep_str _)
      · cases e
    · rename_i xs ys
      split at e
      · rename_i hz
        cases e
        obtain ⟨a, vs, rfl, h1, r1⟩ := rx.tup_
        obtain ⟨b, ws, rfl, h2, r2⟩ := ry.tup_
        refine .inr (.inr (.inl ⟨a, b, vs, ws, rfl, rfl, h1, h2, by rw [← r1.len, ← r2.len]; exact hz, fun e => ?_, fun _ e => ?_, fun _ _ p hp => h.newTup S (r1.app r2) hp⟩))
        · subst e
          have : xs = [] := List.length_eq_zero_iff.mp r1.len
          subst this
          exact h.here S ry
        · subst e
          have : ys = [] := List.length_eq_zero_iff.mp r2.len
          subst this
          rw [List.append_nil] at h
          exact h.here S rx
      · cases e
    · split at e
      · cases e
      · rename_i xs e1
        split at e
        · cases e
        · rename_i ys e2
          split at e
          · rename_i hz
            cases e
            exact .inr (.inr (.inr (lists e1 e2 hz rfl)))
          · cases e
  | sub =>
    simp only [binV, intV] at e
    split at e
    · rename_i i j
      cases e
      exact ⟨i, j, rx.int_, ry.int_, h.here S (rep_int _)⟩
    · cases e
  | mul =>
    simp only [binV, mulV] at e
    split at e
    · rename_i i j
      split at e
      · rename_i hz
        cases e
        exact .inl ⟨i, j, rx.int_, ry.int_, hz, h.here S (rep_int _)⟩
      · cases e
    · rename_i s j
      split at e
      · rename_i hz
        cases e
        exact .inr (.inl ⟨⟨s.toArray⟩, j, rx.str_, ry.int_, hz.1, hz.2.1, by rw [str_len]; exact hz.2.2, h.here S (rep_str _)⟩)
      · cases e
    · rename_i xs j
      split at e
      · rename_i hz
        cases e
        obtain ⟨a, vs, rfl, h1, r1⟩ := rx.tup_
        have rr : ∀ n : Nat, Reps G A (List.replicate n xs).flatten (List.replicate n vs).flatten := by
          intro n
          induction n with
          | zero => simp only [List.replicate_zero, List.flatten_nil]; unfold Reps; rfl
          | succ n ih => rw [List.replicate_succ, List.replicate_succ, List.flatten_cons, List.flatten_cons]; exact r1.app ih
        refine .inr (.inr ⟨a, j, vs, rfl, ry.int_, h1, fun z => ?_, hz.2.1, hz.2.2.1, by rw [← r1.len]; exact hz.2.2.2, fun p hp => h.newTup S (rr j.toNat) hp⟩)
        subst z
        have : xs = [] := List.length_eq_zero_iff.mp r1.len
        subst this
        simp at hz
      · cases e
    · cases e
  | fdiv =>
    simp only [binV, intV] at e
    split at e
    · rename_i i j
      split at e
      · rename_i hz
        cases e
        exact ⟨i, j, rx.int_, ry.int_, hz, h.here S (rep_int _)⟩
      · cases e
    · cases e
  | mod =>
    simp only [binV, intV] at e
    split at e
    · rename_i i j
      split at e
      · rename_i hz
        cases e
        exact ⟨i, j, rx.int_, ry.int_, hz, h.here S (rep_int _)⟩
      · cases e
    · cases e

/-! ### comparisons -/
theorem any_toDs (d : PyData) : ∀ ys : List MV, (toDs ys).any (fun z => PyData.eqv z d) = ys.any fun z => PyData.eqv (toD z) d
  | [] => rfl
  | y :: ys => by
    unfold toDs
    rw [List.any_cons, List.any_cons, any_toDs d ys]
end
def copOf : Cop → CmpOp
  | .eq => .Eq
  | .ne => .NotEq
  | .lt => .Lt
  | .le => .LtE
  | .gt => .Gt
  | .ge => .GtE
  | .mem => .In
  | .nmem => .NotIn
  | .is => .Is
  | .isn => .IsNot
def rInS1 (f : Bool → Bool) : R2 := fun x y H Q => ∃ (c : Nat) (z : Str), x = .str ⟨#[c]⟩ ∧ y = .str z ∧ Q (.bl (f (decide (c ∈ z.cps.toList)))) H
def rStr (f : List Nat → List Nat → Bool) : R2 := fun x y H Q => ∃ i j, x = .str i ∧ y = .str j ∧ Q (.bl (f i.cps.toList j.cps.toList)) H
def rIsM (f : Bool → Bool) : R2 := fun x y H Q => (y = .non ∧ Q (.bl (f (decide (x = .non)))) H) ∨ ∃ a b, x = .bl a ∧ y = .bl b ∧ Q (.bl (f (decide (a = b)))) H
theorem look_idxN : ∀ {ls : List MKey} {ns : List MV} {k : MKey} (ws : List V), ls.length = ws.length → ls.length = ns.length → dLook ls ns k = none → valV ((ls.map kOf).zip ws) (kOf k) = none
  | [], ns, k, ws, _, _, _ => rfl
  | k' :: ls, [], k, ws, _, h, _ => by simp at h
  | k' :: ls, n :: ns, k, [], h, _, _ => by simp at h
  | k' :: ls, n :: ns, k, w :: ws, h1, h2, e => by
    unfold dLook at e
    by_cases h : k' = k
    · rw [if_pos h] at e; cases e
    · rw [if_neg h] at e
      have e2 : valV (((k' :: ls).map kOf).zip (w :: ws)) (kOf k) = valV ((ls.map kOf).zip ws) (kOf k) := valV_neg (p := (kOf k', w)) fun z => h (kOf_inj z)
      rw [e2]
      exact look_idxN ws (by simpa using h1) (by simpa using h2) e
/-! equal lists and dicts -/
theorem kv_mem {kvs : List (Key × V)} {vs : List (Key × Value)} (r : KV kvs vs) : ∀ {k : Key} {v : Value}, (k, v) ∈ vs → ∃ p ∈ kvs, p.1 = k ∧ RelV p.2 v := by
  unfold KV at r
  induction r with
  | nil => intro k v h; simp at h
  | @cons p q ps qs h t ih =>
    intro k v hm
    rcases List.mem_cons.mp hm with e | hm
    · subst e
      exact ⟨p, List.mem_cons_self, h.1, h.2⟩
    · obtain ⟨p', h1, h2⟩ := ih hm
      exact ⟨p', List.mem_cons_of_mem _ h1, h2⟩
theorem relO_some {o : Option V} {u : Value} (r : RelO o (some u)) : ∃ y, o = some y ∧ RelV y u := by
  cases o with
  | none => cases r
  | some y => exact ⟨y, rfl, r⟩
theorem eqU_tree {X : Cx} {pins : List (Addr × Obj)} {σ : L2.St} {H : Hp} {s : Shared} (I : Inv X pins σ H s) {n : Nat} {x y : V} (h : EqU X.K H n x y) : ∀ {v u : Value}, RelV x v → RelV y u → PySem.W.EqTree X.prog X.w s n v u true := by
  induction h with
  | @leaf n x y d d' h1 h2 h3 h4 h5 h6 =>
    intro v u rx ry
    obtain ⟨as, r1⟩ := Dp.reads I d x v h1 rx
    obtain ⟨bs, r2⟩ := Dp.reads I d' y u h2 ry
    refine .leaf fun A hu => ?_
    have := SeqAt.eqAt_reads d d' A s v u as bs r1 r2 (SeqAt.canLay_of_shaped h3) (SeqAt.canLay_of_shaped h4) (by rw [h6, Nat.zero_min]; omega)
    rw [h5] at this
    exact this
  | @tup n a b vs ws h1 h2 h3 _ ih =>
    intro v u rx ry
    obtain rfl : v = Value.ref a := rx
    obtain rfl : u = Value.ref b := ry
    obtain ⟨us, r1, p1, _⟩ := I.tuple h1
    obtain ⟨zs, r2, p2, _⟩ := I.tuple h2
    by_cases e : a = b
    · subst e; exact .same
    · have l1 := r1.length
      have l2 := r2.length
      have t := PySem.W.EqTree.tuples (prog := X.prog) (w := X.w) (s := s) (n := n) (e := fun _ => true) e p1 p2 fun j j1 j2 => by
        have k1 : j < vs.length := by rw [l1]; simpa using j1
        have k2 : j < ws.length := by rw [l2]; simpa using j2
        obtain ⟨v', q1, q2⟩ := r1.get (List.getElem?_eq_getElem k1)
        obtain ⟨u', q3, q4⟩ := r2.get (List.getElem?_eq_getElem k2)
        have e1 : us.toArray[j] = v' := by
          have := List.getElem?_eq_some_iff.mp q1
          obtain ⟨_, e⟩ := this
          simpa using e
        have e2 : zs.toArray[j] = u' := by
          have := List.getElem?_eq_some_iff.mp q3
          obtain ⟨_, e⟩ := this
          simpa using e
        rw [e1, e2]
        exact ih j _ _ (List.getElem?_eq_getElem k1) (List.getElem?_eq_getElem k2) q2 q4
      have e3 : ((List.range (min us.toArray.size zs.toArray.size)).all (fun _ => true) && us.toArray.size == zs.toArray.size) = true := by
        rw [List.size_toArray, List.size_toArray, ← l1, ← l2, h3]
        simp
      rw [e3] at t
      exact t
  | @lst n a b vs ws h1 h2 h3 _ ih =>
    intro v u rx ry
    obtain rfl : v = Value.ref a := rx
    obtain rfl : u = Value.ref b := ry
    obtain ⟨us, r1, p1, _⟩ := I.list h1
    obtain ⟨zs, r2, p2, _⟩ := I.list h2
    by_cases e : a = b
    · subst e; exact .same
    · have l1 := r1.length
      have l2 := r2.length
      have t := PySem.W.EqTree.lists (prog := X.prog) (w := X.w) (s := s) (n := n) (e := fun _ => true) e p1.isList p2.isList (by rw [List.size_toArray, List.size_toArray]; omega) fun j j1 j2 => by
        have k1 : j < vs.length := by rw [l1]; simpa using j1
        have k2 : j < ws.length := by rw [l2]; simpa using j2
        obtain ⟨v', q1, q2⟩ := r1.get (List.getElem?_eq_getElem k1)
        obtain ⟨u', q3, q4⟩ := r2.get (List.getElem?_eq_getElem k2)
        have e1 : us.toArray[j] = v' := by
          have := List.getElem?_eq_some_iff.mp q1
          obtain ⟨_, e⟩ := this
          simpa using e
        have e2 : zs.toArray[j] = u' := by
          have := List.getElem?_eq_some_iff.mp q3
          obtain ⟨_, e⟩ := this
          simpa using e
        rw [e1, e2]
        exact ih j _ _ (List.getElem?_eq_getElem k1) (List.getElem?_eq_getElem k2) q2 q4
      have e3 : ((List.range us.toArray.size).all fun _ => true) = true := List.all_eq_true.mpr fun _ _ => rfl
      rw [e3] at t
      exact t
  | @dct n a b ks ls h1 h2 h3 h4 _ ih =>
    intro v u rx ry
    obtain rfl : v = Value.ref a := rx
    obtain rfl : u = Value.ref b := ry
    obtain ⟨_, ya, va, ra, da⟩ := dk_rd I.hok h1
    obtain ⟨_, yb, vb, rb, db⟩ := dk_rd I.hok h2
    by_cases e : a = b
    · subst e; exact .same
    · have t := PySem.W.EqTree.dicts (prog := X.prog) (w := X.w) (s := s) (n := n) (e := fun _ => true) e ya yb da db fun k v' y' hm hv => by
        obtain ⟨p, hp, e1, e2⟩ := kv_mem ra hm
        have o := rb.val k
        rw [hv] at o
        obtain ⟨y, ey, ry'⟩ := relO_some o
        have ey' : valV ls p.1 = some y := by rw [e1]; exact ey
        exact ih p y hp ey' e2 ry'
      have e3 : (va.length == vb.length && va.all fun p => (valueAt vb p.1).isSome && true) = true := by
        rw [← ra.length, ← rb.length, h3]
        simp only [beq_self_eq_true, Bool.true_and, Bool.and_true, List.all_eq_true]
        intro p hp
        obtain ⟨q, hq, e1, _⟩ := kv_mem ra (k := p.1) (v := p.2) hp
        rw [← (rb.val p.1).isSome_eq, ← e1]
        exact h4 q hq
      rw [e3] at t
      exact t
def rEqM (K : PySem.W.Frag) : R2 := fun x y H Q => EqTop K H x y ∧ Q (.bl true) H
def rNeM (K : PySem.W.Frag) : R2 := fun x y H Q => EqTop K H x y ∧ Q (.bl false) H
theorem items_tree {X : Cx} {pins : List (Addr × Obj)} {σ : L2.St} {H : Hp} {s : Shared} (I : Inv X pins σ H s) {n : Nat} {A : Around} (hu : A.units + n < cLine) {vs ws : List V} {us zs : List Value} (r1 : Vals vs us) (r2 : Vals ws zs)
    (h : ∀ (i : Nat) u w, vs[i]? = some u → ws[i]? = some w → EqU X.K H n u w) (j : Nat) (j1 : j < us.toArray.size) (j2 : j < zs.toArray.size) : SeqAt.EqIn X.prog X.w A s us.toArray[j] zs.toArray[j] true := by
  have k1 : j < vs.length := by rw [r1.length]; simpa using j1
  have k2 : j < ws.length := by rw [r2.length]; simpa using j2
  obtain ⟨v', q1, q2⟩ := r1.get (List.getElem?_eq_getElem k1)
  obtain ⟨u', q3, q4⟩ := r2.get (List.getElem?_eq_getElem k2)
  have e1 : us.toArray[j] = v' := by
    obtain ⟨_, e⟩ := List.getElem?_eq_some_iff.mp q1
    simpa using e
  have e2 : zs.toArray[j] = u' := by
    obtain ⟨_, e⟩ := List.getElem?_eq_some_iff.mp q3
    simpa using e
  rw [e1, e2]
  exact (eqU_tree I (h j _ _ (List.getElem?_eq_getElem k1) (List.getElem?_eq_getElem k2)) q2 q4).at A hu
theorem hits_tree {X : Cx} {pins : List (Addr × Obj)} {σ : L2.St} {H : Hp} {s : Shared} (I : Inv X pins σ H s) {n : Nat} {A : Around} (hu : A.units + n < cLine) {ks ls : List (Key × V)} {va vb : List (Key × Value)} (ra : KV ks va) (rb : KV ls vb)
    (h4 : ∀ p ∈ ks, (valV ls p.1).isSome = true) (h5 : ∀ p u, p ∈ ks → valV ls p.1 = some u → EqU X.K H n p.2 u) : PySem.W.KeqHitsIn X.prog X.w A s vb va true := by
  have t := PySem.W.KeqHitsIn.of (prog := X.prog) (w := X.w) (A := A) (s := s) (kb := vb) (e := fun _ => true) va fun k v' y' hm hv => by
    obtain ⟨p, hp, e1, e2⟩ := kv_mem ra hm
    have o := rb.val k
    rw [hv] at o
    obtain ⟨y, ey, ry'⟩ := relO_some o
    have ey' : valV ls p.1 = some y := by rw [e1]; exact ey
    exact (eqU_tree I (h5 p y hp ey') e2 ry').at A hu
  have e3 : (va.all fun p => (valueAt vb p.1).isSome && true) = true := by
    simp only [Bool.and_true, List.all_eq_true]
    intro p hp
    obtain ⟨q, hq, e1, _⟩ := kv_mem ra (k := p.1) (v := p.2) hp
    rw [← (rb.val p.1).isSome_eq, ← e1]
    exact h4 q hq
  rw [e3] at t
  exact t
theorem op_eqM {X : Cx} (hu : X.A.units + 64 < cLine) : OpR X (compareOp .Eq) (rEqM X.K) := by
  intro pins s σ H x y v u Q I rx ry h
  obtain ⟨⟨n, a, b, vs, ws, hn, rfl, rfl, h1, h2, h3, h4⟩ | ⟨n, a, b, ks, ls, hn, rfl, rfl, h1, h2, h3, h4, h5⟩, q⟩ := h
  · obtain rfl : v = Value.ref a := rx
    obtain rfl : u = Value.ref b := ry
    obtain ⟨us, r1, p1, _⟩ := I.list h1
    obtain ⟨zs, r2, p2, _⟩ := I.list h2
    have l1 := r1.length
    have l2 := r2.length
    refine SeqAt.rcIn_lists (e := fun _ => true) p1.isList p2.isList (by rw [List.size_toArray, List.size_toArray]; omega) (by omega) (fun j j1 j2 => items_tree I (A := X.A.in1) (by show X.A.units + 1 + n < cLine; omega) r1 r2 h4 j j1 j2) ?_
    have e3 : ((List.range us.toArray.size).all fun _ => true) = true := List.all_eq_true.mpr fun _ _ => rfl
    rw [e3]
    exact ⟨.bl true, H, I, rfl, q⟩
  · obtain rfl : v = Value.ref a := rx
    obtain rfl : u = Value.ref b := ry
    obtain ⟨_, ya, va, ra, da⟩ := dk_rd I.hok h1
    obtain ⟨_, yb, vb, rb, db⟩ := dk_rd I.hok h2
    refine PySem.W.keq_eqIn (r := true) ya yb da db (by omega) (fun _ => hits_tree I (A := X.A.in1) (by show X.A.units + 1 + n < cLine; omega) ra rb h4 h5) ?_
    have e3 : (va.length == vb.length && true) = true := by rw [← ra.length, ← rb.length, h3]; simp
    rw [e3]
    exact ⟨.bl true, H, I, rfl, q⟩
theorem op_neM {X : Cx} (hu : X.A.units + 64 < cLine) : OpR X (compareOp .NotEq) (rNeM X.K) := by
  intro pins s σ H x y v u Q I rx ry h
  obtain ⟨⟨n, a, b, vs, ws, hn, rfl, rfl, h1, h2, h3, h4⟩ | ⟨n, a, b, ks, ls, hn, rfl, rfl, h1, h2, h3, h4, h5⟩, q⟩ := h
  · obtain rfl : v = Value.ref a := rx
    obtain rfl : u = Value.ref b := ry
    obtain ⟨us, r1, p1, _⟩ := I.list h1
    obtain ⟨zs, r2, p2, _⟩ := I.list h2
    have l1 := r1.length
    have l2 := r2.length
    exact SeqAt.mi_ne_lists p1.isList p2.isList (by rw [List.size_toArray, List.size_toArray]; omega) (by omega) (fun j j1 j2 => items_tree I (A := X.A.in1) (by show X.A.units + 1 + n < cLine; omega) r1 r2 h4 j j1 j2) ⟨.bl false, H, I, rfl, q⟩
  · obtain rfl : v = Value.ref a := rx
    obtain rfl : u = Value.ref b := ry
    obtain ⟨_, ya, va, ra, da⟩ := dk_rd I.hok h1
    obtain ⟨_, yb, vb, rb, db⟩ := dk_rd I.hok h2
    exact PySem.W.mi_ne_dicts ya yb da db (by omega) (by rw [← ra.length, ← rb.length]; exact h3) (hits_tree I (A := X.A.in1) (by show X.A.units + 1 + n < cLine; omega) ra rb h4 h5) ⟨.bl false, H, I, rfl, q⟩
def rDIn (f : Bool → Bool) : R2 := fun x y H Q => ∃ a o, y = .ref a ∧ DGet H a x o ∧ Q (.bl (f o.isSome)) H
theorem op_din {X : Cx} (hu : X.A.units + 1 < cLine) : OpR X (compareOp .In) (rDIn id) := by
  intro pins s σ H x y v u Q I rx ry h
  obtain ⟨a, o, rfl, g, q⟩ := h
  obtain rfl : u = Value.ref a := ry
  exact d_in hu I g rx fun s' I' => ⟨.bl o.isSome, H, I', rfl, q⟩
theorem op_dnin {X : Cx} (hu : X.A.units + 1 < cLine) : OpR X (compareOp .NotIn) (rDIn (!·)) := by
  intro pins s σ H x y v u Q I rx ry h
  obtain ⟨a, o, rfl, g, q⟩ := h
  obtain rfl : u = Value.ref a := ry
  exact d_notIn hu I g rx fun s' I' => ⟨.bl (!o.isSome), H, I', rfl, q⟩
def copR (K : PySem.W.Frag) : Cop → R2
  | .eq => fun x y H Q => rEqD K x y H Q ∨ rEqM K x y H Q
  | .ne => fun x y H Q => rNeD K x y H Q ∨ rNeM K x y H Q
  | .lt => fun x y H Q => rI0 (fun i j => .bl (decide (i < j))) x y H Q ∨ rStr (fun i j => decide (i < j)) x y H Q
  | .le => fun x y H Q => rI0 (fun i j => .bl (decide (i ≤ j))) x y H Q ∨ rStr (fun i j => !decide (j < i)) x y H Q
  | .gt => fun x y H Q => rI0 (fun i j => .bl (decide (j < i))) x y H Q ∨ rStr (fun i j => decide (j < i)) x y H Q
  | .ge => fun x y H Q => rI0 (fun i j => .bl (decide (j ≤ i))) x y H Q ∨ rStr (fun i j => !decide (i < j)) x y H Q
  | .mem => fun x y H Q => rInS1 id x y H Q ∨ rInD K x y H Q ∨ rDIn id x y H Q
  | .nmem => fun x y H Q => rInS1 (!·) x y H Q ∨ rNotInD K x y H Q ∨ rDIn (!·) x y H Q
  | .is => rIsM id
  | .isn => rIsM (!·)
theorem cop_ok {X : Cx} (hu : X.A.units + 65 < cLine) : ∀ o : Cop, OpR X (compareOp (copOf o)) (copR X.K o)
  | .eq => (op_eqD (by omega)).or (op_eqM (by omega))
  | .ne => (op_neD (by omega)).or (op_neM (by omega))
  | .lt => op_lt.or op_lt_str
  | .le => op_le.or op_le_str
  | .gt => op_gt.or op_gt_str
  | .ge => op_ge.or op_ge_str
  | .mem => op_in_sign.or ((op_inD hu).or (op_din (by omega)))
  | .nmem => op_notIn_sign.or ((op_notInD hu).or (op_dnin (by omega)))
  | .is => op_isN.or op_is_bl
  | .isn => op_notN.or op_isnot_bl
section
variable {G : Gb} {A : Wd}
theorem rep_one (c : Nat) : (V.str ⟨[c].toArray⟩) = .str ⟨#[c]⟩ := rfl
theorem Rep.not_non {x : MV} {v : V} (h : Rep G A x v) (hx : x ≠ .non) : v ≠ .non := by
  intro e
  subst e
  cases x with
  | non => exact hx rfl
  | bl b => exact nomatch h.bl_
  | int i => exact nomatch h.int_
  | str s => exact nomatch h.str_
  | fn f => unfold Rep at h; obtain ⟨a, _, e⟩ := h; exact nomatch e
  | tup xs => obtain ⟨a, vs, e, _⟩ := h.tup_; exact nomatch e
  | lst xs => unfold Rep at h; obtain ⟨a, vs, e, _⟩ := h; exact nomatch e
  | loc l => obtain ⟨a, e, _⟩ := h.loc_; exact nomatch e
  | dct ks vs => unfold Rep at h; obtain ⟨a, vs, e, _⟩ := h; exact nomatch e
  | scr ns => unfold Rep at h; obtain ⟨a, e, _⟩ := h; exact nomatch e
theorem mem_of (S : Sim G A) {x y : MV} {c : Bool} {vx vy : V} {f : Bool → Bool} {Q : VK} (e : memV A.mh x y = some c) (rx : Rep G A x vx) (ry : Rep G A y vy) (h : Q (.bl (f c)) A.H) :
    rInS1 f vx vy A.H Q ∨ (∃ d ds, Dp G.K A.H vx d ∧ Dp G.K A.H vy (.list ds) ∧ SeqAt.shaped d = true ∧ SeqAt.shaped (.list ds) = true ∧ Q (.bl (f (ds.any fun z => PyData.eqv z d))) A.H) ∨ rDIn f vx vy A.H Q := by
  unfold memV at e
  split at e
  · rename_i c' t
    cases e
    refine .inl ⟨c', ⟨t.toArray⟩, rx.str_, ry.str_, ?_⟩
    exact h
  · cases q : frz 0 A.mh 8 x with
    | none => rw [q] at e; exact nomatch e
    | some x' =>
      rw [q] at e
      simp only at e
      split at e
      · rename_i ys q2
        split at e
        · rename_i hk
          cases e
          refine .inr (.inl ⟨toD x', toDs ys, frz_dp S 8 x x' vx q (okD_can hk.1) rx, ?_, hk.1, ?_, ?_⟩)
          · have := frz_dp S 8 y _ vy q2 (okD_can hk.2) ry
            unfold toD at this
            exact this
          · have := hk.2
            unfold okD toD at this
            exact this
          · rw [any_toDs]
            exact h
        · exact nomatch e
      · rename_i ks ms q2
        simp only [Option.map_eq_some_iff] at e
        obtain ⟨k, e1, rfl⟩ := e
        have rd := frz_rd S 8 y _ vy q2 ry
        cases rd with
        | dat _ _ _ h => exact absurd rfl (h _ _)
        | @dct _ _ a vs a1 a2 a3 a4 =>
          refine .inr (.inr ⟨a, _, rfl, .inl ⟨_, kOf k, a1, kyV_rep e1 rx, rfl⟩, ?_⟩)
          have e2 : (valV ((ks.map kOf).zip vs) (kOf k)).isSome = (dLook ks ms k).isSome := by
            cases q : dLook ks ms k with
            | some m =>
              obtain ⟨j, w, _, _, e3⟩ := look_idx vs a2 q
              rw [e3]; rfl
            | none => rw [look_idxN vs a2 (by omega) q]; rfl
          rw [e2]
          exact h
      · exact nomatch e
theorem dec_le {i j : Int} : decide (i ≤ j) = !decide (j < i) := by
  rw [Bool.eq_iff_iff]; simp
theorem copR_of (S : Sim G A) {o : Cop} {x y : MV} {c : Bool} {vx vy : V} {Q : VK} (e : cmpV A.mh o x y = some c) (rx : Rep G A x vx) (ry : Rep G A y vy) (h : Q (.bl c) A.H) : copR G.K o vx vy A.H Q := by
  have ord : ∀ {p : Bool × Bool}, ordV x y = some p → (∃ i j : Int, vx = .int i ∧ vy = .int j ∧ p = (decide (i < j), decide (j < i))) ∨ ∃ s t : Str, vx = .str s ∧ vy = .str t ∧ p = (decide (s.cps.toList < t.cps.toList), decide (t.cps.toList < s.cps.toList)) := by
    intro p e
    unfold ordV at e
    split at e
    · cases e
      exact .inl ⟨_, _, rx.int_, ry.int_, rfl⟩
    · cases e
      exact .inr ⟨_, _, rx.str_, ry.str_, rfl⟩
    · exact nomatch e
  have is : ∀ {c : Bool} {f : Bool → Bool}, isV x y = some c → Q (.bl (f c)) A.H → rIsM f vx vy A.H Q := by
    intro c f e h
    unfold isV at e
    split at e
    · cases e
      refine .inl ⟨ry.non_, ?_⟩
      rw [rx.non_, decide_eq_true rfl]
      exact h
    · cases e
      refine .inl ⟨ry.non_, ?_⟩
      rw [decide_eq_false (rx.not_non (by assumption))]
      exact h
    · cases e
      exact .inr ⟨_, _, rx.bl_, ry.bl_, h⟩
    · exact nomatch e
  cases o with
  | eq =>
    rcases eqV_dp S e rx ry with ⟨d, d', h1, h2, h3, h4, h5⟩ | ⟨rfl, h1⟩
    · exact .inl ⟨d, d', h1, h2, h3, h4, by rw [h5]; exact h⟩
    · exact .inr ⟨h1, h⟩
  | ne =>
    simp only [cmpV, Option.map_eq_some_iff] at e
    obtain ⟨c', e, rfl⟩ := e
    rcases eqV_dp S e rx ry with ⟨d, d', h1, h2, h3, h4, h5⟩ | ⟨rfl, h1⟩
    · exact .inl ⟨d, d', h1, h2, h3, h4, by rw [h5]; exact h⟩
    · exact .inr ⟨h1, h⟩
  | mem => exact mem_of (f := id) S e rx ry h
  | nmem =>
    simp only [cmpV, Option.map_eq_some_iff] at e
    obtain ⟨c', e, rfl⟩ := e
    exact mem_of (f := (!·)) S e rx ry h
  | lt =>
    simp only [cmpV, Option.map_eq_some_iff] at e
    obtain ⟨p, e, rfl⟩ := e
    rcases ord e with ⟨i, j, h1, h2, rfl⟩ | ⟨i, j, h1, h2, rfl⟩
    · exact .inl ⟨i, j, h1, h2, h⟩
    · exact .inr ⟨i, j, h1, h2, h⟩
  | gt =>
    simp only [cmpV, Option.map_eq_some_iff] at e
    obtain ⟨p, e, rfl⟩ := e
    rcases ord e with ⟨i, j, h1, h2, rfl⟩ | ⟨i, j, h1, h2, rfl⟩
    · exact .inl ⟨i, j, h1, h2, h⟩
    · exact .inr ⟨i, j, h1, h2, h⟩
  | le =>
    simp only [cmpV, Option.map_eq_some_iff] at e
    obtain ⟨p, e, rfl⟩ := e
    rcases ord e with ⟨i, j, h1, h2, rfl⟩ | ⟨i, j, h1, h2, rfl⟩
    · exact .inl ⟨i, j, h1, h2, by dsimp only; rw [dec_le]; exact h⟩
    · exact .inr ⟨i, j, h1, h2, h⟩
  | ge =>
    simp only [cmpV, Option.map_eq_some_iff] at e
    obtain ⟨p, e, rfl⟩ := e
    rcases ord e with ⟨i, j, h1, h2, rfl⟩ | ⟨i, j, h1, h2, rfl⟩
    · exact .inl ⟨i, j, h1, h2, by dsimp only; rw [dec_le]; exact h⟩
    · exact .inr ⟨i, j, h1, h2, h⟩
  | is => exact is (f := id) e h
  | isn =>
    simp only [cmpV, Option.map_eq_some_iff] at e
    obtain ⟨c', e, rfl⟩ := e
    exact is (f := (!·)) e h
end
end L2.Mi

set_option Elab.async false
set_option linter.all false
set_option maxRecDepth 100000
set_option maxHeartbeats 4000000
/-! Mini5: list.extend of a tuple, list of a text; subscripts, slices, built-ins, methods. -/
namespace PySem.AutoSeq1
open PySem PySem.Spec PyProof.Rows
theorem list_extend_tupAny (l : Addr) (items : Array Value) (n : Nat) (b : Addr) (dd : Option Addr) (sl : Array (Option Value)) (items2 : Array Value) (n2 : Nat) (hs0 : ¬(!items.isEmpty && Builtin.List.listTooLong (items.size + items2.size)) = true) (hs1 : items.size ≤ sizeLine) (hs2 : items.size + items2.size ≤ sizeLine + 1 := by seq_fits) :
    Meets (Builtin.«list.extend» ⟨[.ref l, .ref b], []⟩) (fun _ R s => s.heap.get? l = some { cls := .type "list", dict := none, data := .seq items n, slots := #[] } ∧ s.heap.get? b = some { cls := .type "tuple", dict := dd, data := .seq items2 n2, slots := sl } ∧ R (.ok (.ret Value.none)) { s with heap := s.heap.update l (Obj.mapSeq fun x => x ++ items2), toks := s.toks }) :=
  .of_wp fun prog w A R s h => by
    obtain ⟨hp, g, d, tk, os⟩ := s; obtain ⟨hl, hb, h⟩ := h; have f1 := idx_int; have f2 := sub_tuple_tuple; have f3 := sub_list_list; have f4 := sub_tuple_list; have f5 := sub_list_tuple;
    have hz' : (items ++ items2).size ≤ sizeLine + 1 := by rw [Array.size_append]; exact hs2
    wp_walk using (wpAny_updateSeq hl rfl (hz := hs1) (_hz' := hz')), wpAny_loadPart' hl, wpAny_loadPart' hb; exact ⟨_, rfl, h⟩
end PySem.AutoSeq1
namespace L2.Mi
open PySem PySem.Spec PyProof.Rows
def rExtT (K : PySem.W.Frag) : V → List V → Hp → VK → Prop := fun x vs H Q => ∃ l b xs zs, x = .ref l ∧ vs = [.ref b] ∧ H l = some (.lst xs) ∧ SqT K H b zs ∧ xs.length + zs.length ≤ sizeLine ∧ Q .non (upd H l (.lst (xs ++ zs)))
theorem mt_extT {X : Cx} : MtM X "list.extend" (rExtT X.K) := by
  intro pins s σ H x vs v us Q I rx rv h
  obtain ⟨l, b, xs, zs, rfl, rfl, hH, hB, hz, q⟩ := h
  cases rx
  obtain ⟨u, rfl, ru⟩ := rv.one
  cases ru
  obtain ⟨z, its, n, r, hl, e⟩ := I.lstM hH
  obtain ⟨its2, r2, pt, hz2⟩ := I.tuple hB
  obtain ⟨⟨cls, dd, data, sl⟩, e2, hc, n2, hd⟩ := id pt
  simp only at hc hd
  subst hc hd
  have hl2 := r2.length
  have hsz : its.toArray.size + its2.toArray.size ≤ sizeLine := by rw [List.size_toArray, List.size_toArray]; omega
  have hlong : ¬ (!its.toArray.isEmpty && Builtin.List.listTooLong (its.toArray.size + its2.toArray.size)) = true := by
    rw [notLongL hsz, Bool.and_false]
    exact Bool.false_ne_true
  refine call_meets F.slot_list_extend ⟨_, e, rfl⟩ F.entry_list_extend (F.args_list_extend_2 _ _)
    (AutoSeq1.list_extend_tupAny l its.toArray n b dd sl its2.toArray n2 hlong (by rw [List.size_toArray]; omega) (by omega)) ⟨e, e2, ?_⟩
  refine ⟨.non, _, I.lset (its' := its ++ its2) hH e (by simp) (r.append r2) ?_, rfl, q⟩
  rw [List.length_append]
  omega

theorem call_listS {X : Cx} (hc : X.calm = true) : CallR X (.type "list") (fun xs H Q => ∃ z : Str, xs = [.str z] ∧ z.length ≤ sizeLine ∧ ∀ p, H p = none → Q (.ref p) (upd H p (.lst (z.cps.toList.map fun c => .str ⟨#[c]⟩)))) := by
  intro pins s σ H xs us Q I r h
  obtain ⟨z, rfl, hz, q⟩ := h
  obtain ⟨u, rfl, rx⟩ := vals1 r
  obtain ⟨t, rfl⟩ := rx
  refine PySem.call_list_str (I.ok.hd hc) z t (hn := hz) fun h' tk acc' c' hk hS' hacc => ?_
  have hl : acc'.toList.length = z.cps.toList.length := by simp [hacc.1]
  have rv : Vals (z.cps.toList.map fun c => V.str ⟨#[c]⟩) acc'.toList := by
    have gen : ∀ (cs : List Nat) (us : List Value), us.length = cs.length → (∀ (j : Nat) v, us[j]? = some v → ∃ c u, cs[j]? = some c ∧ v = Value.str ⟨#[c]⟩ u) → Vals (cs.map fun c => V.str ⟨#[c]⟩) us := by
      intro cs
      induction cs with
      | nil => intro us h1 _; cases us with | nil => exact .nil | cons => simp at h1
      | cons c cs ih =>
        intro us h1 h2
        cases us with
        | nil => simp at h1
        | cons u us =>
          obtain ⟨c', t', e1, e2⟩ := h2 0 u rfl
          have : c = c' := by simpa using e1
          subst this
          exact .cons ⟨t', e2⟩ (ih us (by simpa using h1) fun j v hj => by simpa using h2 (j + 1) v (by simpa using hj))
    refine gen _ _ hl fun j v hj => ?_
    obtain ⟨c, u, e1, e2⟩ := hacc.2 j v (by simpa using hj)
    exact ⟨c, u, by simpa using e1, e2⟩
  have hf : H s.heap.objs.size = none := I.hok.fresh (Nat.le_refl _)
  refine ⟨.ref s.heap.objs.size, _, I.laid (t' := tk) hk (Nat.le_refl _) (show ObjOk X.prog X.w _ h' _ (.lst _) from ⟨?_, acc'.toList, c', rv, by simpa using hS'⟩), rfl, q _ hf⟩
  rw [List.length_map, Array.length_toList]
  exact hz

section
variable {G : Gb} {A : Wd}
theorem idx_rep {xs : List MV} {vs : List V} (r : Reps G A xs vs) {i : Int} {x : MV} (e : idx xs i = some x) : ∃ v, atI vs i = some v ∧ Rep G A x v := by
  unfold idx atI at e
  cases q : ixN xs.length i with
  | none => rw [q] at e; exact nomatch e
  | some j =>
    rw [q] at e
    obtain ⟨v, h1, h2⟩ := r.get (show xs[j]? = some x from e)
    refine ⟨v, ?_, h2⟩
    unfold atI
    rw [← r.len, q]
    exact h1
/-! ### subscripts -/
def rDSub : R2 := fun x y H Q => ∃ a v, x = .ref a ∧ DGet H a y (some v) ∧ Q v H
theorem subD_of' (S : Sim G A) {x y v : MV} {vx vy : V} {Q : VK} (e : subD A.mh x y = some v) (rx : Rep G A x vx) (ry : Rep G A y vy) (h : Post G A A.mh v Q) : rDSub vx vy A.H Q := by
  unfold subD at e
  split at e
  · rename_i ks ms e1
    rw [Option.bind_eq_some_iff] at e
    obtain ⟨k, e2, e3⟩ := e
    obtain ⟨a, vs, rfl, hH, hl, r⟩ := getD_rep S e1 rx
    obtain ⟨w, q1, q2⟩ := look_some hl r e3
    exact ⟨a, w, rfl, .inl ⟨_, kOf k, hH, kyV_rep e2 ry, q1.symm⟩, h.here S q2⟩
  · cases e
/-- subscripts of all but dicts -/
def subN (mh : MHp) : MV → MV → Option MV
  | .tup xs, .int i => idx xs i
  | .str s, .int i => if s.length ≤ line then (idx s i).map fun c => .str [c] else none
  | x, .int i => match getL mh x with
    | some xs => idx xs i
    | none => none
  | _, _ => none
theorem subV_cases {mh : MHp} {x y v : MV} (e : subV mh x y = some v) : subN mh x y = some v ∨ subD mh x y = some v := by
  unfold subV at e
  split at e
  · exact .inl e
  · exact .inl e
  · rename_i i h1 h2
    cases q : getL mh x with
    | none => rw [q] at e; exact .inr e
    | some xs =>
      rw [q] at e
      refine .inl ?_
      cases x with
      | tup xs => simp [getL] at q
      | str s => simp [getL] at q
      | lst xs => simp only [subN, q]; exact e
      | loc l => simp only [subN, q]; exact e
      | _ => simp [getL] at q
  · exact .inr e
theorem sub_of (S : Sim G A) {x y v : MV} {vx vy : V} {Q : VK} (e : subN A.mh x y = some v) (rx : Rep G A x vx) (ry : Rep G A y vy) (h : Post G A A.mh v Q) : rIx G.K vx vy A.H Q := by
  unfold subN at e
  split at e
  · rename_i xs i
    obtain ⟨a, vs, rfl, h1, r⟩ := rx.tup_
    obtain ⟨w, h2, h3⟩ := idx_rep r e
    exact .inr (.inl ⟨a, vs, i, w, rfl, ry.int_, h1, h2, h.here S h3⟩)
  · rename_i s i
    split at e
    · rename_i hz
      simp only [Option.map_eq_some_iff] at e
      obtain ⟨c, e, rfl⟩ := e
      refine .inr (.inr ⟨⟨s.toArray⟩, i, c, rx.str_, ry.int_, by rw [str_len]; exact hz, e, ?_⟩)
      exact h.here S (rep_str [c])
    · cases e
  · split at e
    · rename_i xs e1
      obtain ⟨a, vs, rfl, h1, r⟩ := getL_rep S e1 rx
      obtain ⟨w, h2, h3⟩ := idx_rep r e
      exact .inl ⟨a, vs, _, w, rfl, ry.int_, SqL.of h1, h2, h.here S h3⟩
    · cases e
  · cases e
/-! ### slices -/
theorem cut_rep {xs : List MV} {vs : List V} (r : Reps G A xs vs) (lo hi : Option Int) : Reps G A (cut xs lo hi) (cutV vs lo hi) := by
  unfold cut cutV
  rw [r.len]
  exact (r.drop _).take _
theorem cut_whole {α : Type} {xs : List α} {lo hi : Option Int} (h : HT.sIx xs.length 0 lo = 0 ∧ HT.sIx xs.length xs.length hi = xs.length) : cut xs lo hi = xs := by
  unfold cut
  rw [h.1, h.2]
  simp
def slR (K : PySem.W.Frag) : V → Option Int → Option Int → Hp → VK → Prop := fun x lo hi H Q => rSlL K x lo hi H Q ∨ rSlA K x lo hi H Q ∨ rSlS x lo hi H Q
theorem sl_ok {X : Cx} : SlR X (slR X.K) := sl_list.or (sl_tupA.or sl_str)
theorem slc_of (S : Sim G A) {x v : MV} {lo hi : Option Int} {vx : V} {Q : VK} (e : slcV A.mh x lo hi = some v) (rx : Rep G A x vx) (h : Post G A A.mh v Q) : slR G.K vx lo hi A.H Q := by
  unfold slcV at e
  split at e
  · rename_i xs
    cases e
    obtain ⟨a, vs, rfl, h1, r⟩ := rx.tup_
    refine .inr (.inl ⟨a, vs, rfl, h1, fun w => ?_, fun _ p hp => h.newTup S (cut_rep r lo hi) hp⟩)
    rw [← r.len] at w
    rw [cut_whole w] at h
    exact h.here S rx
  · rename_i s
    split at e
    · rename_i hz
      cases e
      refine .inr (.inr ⟨⟨s.toArray⟩, rx.str_, by rw [str_len]; exact hz, ?_⟩)
      have q := h.here S (rep_str (cut s lo hi))
      unfold cut at q
      unfold L2.cutS
      rw [str_len]
      exact q
    · cases e
  · rename_i ns
    cases e
    unfold Rep at rx
    obtain ⟨a, rfl, hq⟩ := rx
    have sq : SqL G.K A.H a (ns.map .int) := by
      rcases hq with ⟨h, _⟩ | (h | h)
      · exact .inl h
      · rcases h with h | ⟨o, h⟩ <;> exact nomatch h
      · exact .inr h
    exact .inl ⟨a, _, rfl, sq, fun p hp => h.newLst S (cut_rep Reps.map_int lo hi) hp⟩
  · simp only [Option.map_eq_some_iff] at e
    obtain ⟨xs, e, rfl⟩ := e
    obtain ⟨a, vs, rfl, h1, r⟩ := getL_rep S e rx
    exact .inl ⟨a, vs, rfl, SqL.of h1, fun p hp => h.newLst S (cut_rep r lo hi) hp⟩
/-! ### built-ins -/
theorem Reps.one_ {x : MV} {vs : List V} (h : Reps G A [x] vs) : ∃ v, vs = [v] ∧ Rep G A x v := by
  unfold Reps at h
  obtain ⟨v, r, rfl, h1, h2⟩ := h
  unfold Reps at h2
  subst h2
  exact ⟨v, rfl, h1⟩
theorem Reps.nil_ {vs : List V} (h : Reps G A [] vs) : vs = [] := by
  unfold Reps at h; exact h
/-- the arguments of a call of a built-in, by its reading -/
def BiS (f : Bi) (r : PySem.W.Frag → List V → Hp → VK → Prop) : Prop :=
  ∀ (G : Gb) (A : Wd) (xs : List MV) (v : MV) (vs : List V) (Q : VK), Sim G A → biV A.mh f xs = some v → Reps G A xs vs → Post G A A.mh v Q → r G.K vs A.H Q
theorem one1_some {f : MV → Option MV} {xs : List MV} {v : MV} (h : one1 f xs = some v) : ∃ x, xs = [x] ∧ f x = some v := by
  unfold one1 at h
  split at h
  · exact ⟨_, rfl, h⟩
  · cases h
theorem bls_rep (S : Sim G A) {x : MV} {bs : List Bool} {w : V} (e : bls A.mh x = some bs) (r : Rep G A x w) : ∃ a, w = .ref a ∧ SqL G.K A.H a (bs.map .bl) := by
  unfold bls at e
  rw [Option.bind_eq_some_iff] at e
  obtain ⟨xs, e1, e2⟩ := e
  obtain ⟨a, vs, rfl, h1, r1⟩ := getL_rep S e1 r
  rw [r1.blOf e2] at h1
  exact ⟨a, rfl, SqL.of h1⟩
theorem ints_rep (S : Sim G A) {x : MV} {bs : List Int} {w : V} (e : intsM A.mh x = some bs) (r : Rep G A x w) : ∃ a, w = .ref a ∧ SqL G.K A.H a (bs.map .int) := by
  unfold intsM at e
  rw [Option.bind_eq_some_iff] at e
  obtain ⟨xs, e1, e2⟩ := e
  obtain ⟨a, vs, rfl, h1, r1⟩ := getL_rep S e1 r
  rw [r1.intOf e2] at h1
  exact ⟨a, rfl, SqL.of h1⟩
end
def rLen (K : PySem.W.Frag) : List V → Hp → VK → Prop := fun xs H Q => (∃ x n, xs = [x] ∧ LenV K x H n ∧ Q (.int n) H) ∨ ∃ a kvs, xs = [V.ref a] ∧ Rd H a (.dK kvs) ∧ Q (.int kvs.length) H
theorem call_lenR {X : Cx} : CallR X (.builtin "len") (fun xs H Q => ∃ a kvs, xs = [V.ref a] ∧ Rd H a (.dK kvs) ∧ Q (.int kvs.length) H) := by
  intro pins s σ H xs us Q I r h
  obtain ⟨a, kvs, rfl, hH, q⟩ := h
  obtain ⟨u, rfl, ru⟩ := vals1 r
  obtain rfl : u = Value.ref a := ru
  exact d_len I hH fun t s' I' => ⟨.int kvs.length, H, I', ⟨t, rfl⟩, q⟩
theorem bi_len : BiS .len rLen := by
  intro G A xs v vs Q S e r h
  obtain ⟨x, hx, e'⟩ := one1_some e
  subst hx
  replace e := e'
  clear e'
  obtain ⟨w, rfl, rx⟩ := r.one_
  unfold lenV at e
  split at e
  · split at e
    · rename_i hz
      cases e
      exact .inl ⟨_, _, rfl, by rw [rx.str_]; exact ⟨by rw [str_len]; exact hz, rfl⟩, by rw [str_len]; exact h.here S (rep_int _)⟩
    · cases e
  · cases e
    obtain ⟨a, ws, rfl, h1, r1⟩ := rx.tup_
    exact .inl ⟨_, _, rfl, .inr ⟨ws, h1, rfl⟩, by rw [← r1.len]; exact h.here S (rep_int _)⟩
  · split at e
    · rename_i ys e1
      cases e
      obtain ⟨a, ws, rfl, h1, r1⟩ := getL_rep S e1 rx
      exact .inl ⟨_, _, rfl, .inl ⟨ws, SqL.of h1, rfl⟩, by rw [← r1.len]; exact h.here S (rep_int _)⟩
    · simp only [Option.map_eq_some_iff] at e
      obtain ⟨⟨ks, ms⟩, e1, rfl⟩ := e
      obtain ⟨a, ws, rfl, h1, hl, r1⟩ := getD_rep S e1 rx
      refine .inr ⟨a, _, rfl, h1, ?_⟩
      have : ((ks.map kOf).zip ws).length = ks.length := by rw [List.length_zip, List.length_map, ← r1.len, hl, Nat.min_self]
      rw [this]
      exact h.here S (rep_int _)
def rAbs (_ : PySem.W.Frag) : List V → Hp → VK → Prop := fun xs H Q => ∃ i, xs = [.int i] ∧ Q (.int (if i < 0 then -i else i)) H
theorem bi_abs : BiS .abs rAbs := by
  intro G A xs v vs Q S e r h
  obtain ⟨x, hx, e'⟩ := one1_some e
  subst hx
  replace e := e'
  clear e'
  obtain ⟨w, rfl, rx⟩ := r.one_
  unfold Mi.absV at e
  split at e
  · cases e
    exact ⟨_, by rw [rx.int_], h.here S (rep_int _)⟩
  · cases e
def rInt1 (_ : PySem.W.Frag) : List V → Hp → VK → Prop := fun xs H Q => (∃ i, xs = [.int i] ∧ Q (.int i) H) ∨ ∃ k, xs = [.bl k] ∧ Q (.int (if k then 1 else 0)) H
theorem bi_int : BiS .int rInt1 := by
  intro G A xs v vs Q S e r h
  obtain ⟨x, hx, e'⟩ := one1_some e
  subst hx
  replace e := e'
  clear e'
  obtain ⟨w, rfl, rx⟩ := r.one_
  unfold intV1 at e
  split at e
  · cases e
    exact .inl ⟨_, by rw [rx.int_], h.here S (rep_int _)⟩
  · cases e
    exact .inr ⟨_, by rw [rx.bl_], h.here S (rep_int _)⟩
  · cases e
def rStrI (_ : PySem.W.Frag) : List V → Hp → VK → Prop := fun xs H Q => ∃ i, xs = [.int i] ∧ i.natAbs.log2 < 1920 ∧ Q (.str (toString i)) H
theorem bi_strI : BiS .strI rStrI := by
  intro G A xs v vs Q S e r h
  obtain ⟨x, hx, e'⟩ := one1_some e
  subst hx
  replace e := e'
  clear e'
  obtain ⟨w, rfl, rx⟩ := r.one_
  unfold strV at e
  split at e
  · split at e
    · rename_i hz
      cases e
      refine ⟨_, by rw [rx.int_], hz, ?_⟩
      have q := h.here S (rep_str _)
      have e2 : ∀ z : Str, (⟨z.cps.toList.toArray⟩ : Str) = z := fun z => str_toList_eq (by simp)
      rw [e2] at q
      exact q
    · cases e
  · cases e
def rTupC (K : PySem.W.Frag) : List V → Hp → VK → Prop := fun xs H Q => ∃ p ys, xs = [.ref p] ∧ ((SqL K H p ys ∧ ∀ l, H l = none → Q (.ref l) (upd H l (.tup ys))) ∨ (SqT K H p ys ∧ Q (.ref p) H))
theorem bi_tuple : BiS .tuple rTupC := by
  intro G A xs v vs Q S e r h
  obtain ⟨x, hx, e'⟩ := one1_some e
  subst hx
  replace e := e'
  clear e'
  obtain ⟨w, rfl, rx⟩ := r.one_
  unfold tupV at e
  split at e
  · cases e
    obtain ⟨a, ws, rfl, h1, r1⟩ := rx.tup_
    exact ⟨a, ws, rfl, .inr ⟨h1, h.here S rx⟩⟩
  · simp only [Option.map_eq_some_iff] at e
    obtain ⟨ys, e, rfl⟩ := e
    obtain ⟨a, ws, rfl, h1, r1⟩ := getL_rep S e rx
    exact ⟨a, ws, rfl, .inl ⟨SqL.of h1, fun l hl => h.newTup S r1 hl⟩⟩
/-- list(d) of a dict, locked or not -/
def rListR : List V → Hp → VK → Prop := fun us H Q => ∃ d ks, us = [V.ref d] ∧ Rd H d (.dK ks) ∧ ∀ q, H q = none → Q (.ref q) (upd H q (.lst (ks.map fun p => kV p.1)))
theorem call_listR {X : Cx} (calm : X.calm = true) : CallR X (.type "list") rListR := by
  intro pins s σ H vs us Q I rv hy
  obtain ⟨d, ks, rfl, hd, fin⟩ := hy
  obtain ⟨u, rfl, ru⟩ := vals1 rv
  obtain rfl : u = Value.ref d := ru
  obtain ⟨small, nomod, ws, kv, D⟩ := dk_rd I.hok hd
  obtain ⟨ep, at'⟩ := D.dictAt
  have len : ks.length = ws.length := Paired.length kv
  have go := PySem.W.kdl_dict (knd := mixKind X.prog X.w) (kvs := ws) (ep := ep) nomod
  refine PySem.W.kdl_call go (I.ok.hd calm) at' (by omega) fun h1 tk acc c keep hS hacc => ?_
  have alen : acc.toList.length = ks.length := by rw [Array.length_toList, hacc.1, len]
  have vals : Vals (ks.map fun p => kV p.1) acc.toList := vals_of_at (by rw [List.length_map, alen]) fun j x z e1 e2 => by
    obtain ⟨k, y, ek, is⟩ := hacc.2 j z (by rw [← Array.getElem?_toList]; exact e2)
    rw [List.getElem?_map, Option.map_eq_some_iff] at e1
    obtain ⟨p, ep, rfl⟩ := e1
    have same : (ks.map Prod.fst)[j]? = (ws.map Prod.fst)[j]? := congrArg (·[j]?) (KV.keys kv)
    rw [List.getElem?_map, List.getElem?_map, ep, ek] at same
    have same' : p.1 = k := Option.some.inj same
    rw [same']
    exact keyIs_rel is
  have new : ObjOk X.prog X.w (upd H s.heap.objs.size (.lst (ks.map fun p => kV p.1))) h1 s.heap.objs.size (.lst (ks.map fun p => kV p.1)) := ⟨by rw [List.length_map]; exact small, acc.toList, c, vals, by rw [Array.toArray_toList]; exact hS⟩
  exact ⟨.ref s.heap.objs.size, _, I.laid keep (Nat.le_refl _) new, rfl, fin _ (I.hok.fresh (Nat.le_refl _))⟩
def rLstC (K : PySem.W.Frag) : List V → Hp → VK → Prop := fun xs H Q => (∃ p ys, xs = [.ref p] ∧ (SqL K H p ys ∨ SqT K H p ys) ∧ ∀ l, H l = none → Q (.ref l) (upd H l (.lst ys))) ∨
  (∃ z : Str, xs = [.str z] ∧ z.length ≤ sizeLine ∧ ∀ p, H p = none → Q (.ref p) (upd H p (.lst (z.cps.toList.map fun c => .str ⟨#[c]⟩)))) ∨ rListR xs H Q
theorem call_lstC {X : Cx} (hc : X.calm = true) : CallR X (.type "list") (rLstC X.K) := call_list_of.or ((call_listS hc).or (call_listR hc))
theorem Reps.signs {G : Gb} {A : Wd} : ∀ s : Sx, Reps G A (s.map fun c => .str [c]) (s.map fun c => V.str ⟨#[c]⟩)
  | [] => by unfold Reps; rfl
  | c :: s => by rw [List.map_cons, List.map_cons]; unfold Reps; exact ⟨_, _, rfl, rep_str [c], Reps.signs s⟩
theorem bi_list : BiS .list rLstC := by
  intro G A xs v vs Q S e r h
  obtain ⟨x, hx, e'⟩ := one1_some e
  subst hx
  replace e := e'
  clear e'
  obtain ⟨w, rfl, rx⟩ := r.one_
  unfold lstV at e
  split at e
  · cases e
    obtain ⟨a, ws, rfl, h1, r1⟩ := rx.tup_
    exact .inl ⟨a, ws, rfl, .inr h1, fun l hl => h.newLst S r1 hl⟩
  · split at e
    · rename_i hz
      cases e
      exact .inr (.inl ⟨_, by rw [rx.str_], by rw [str_len]; exact hz, fun l hl => h.newLst S (Reps.signs _) hl⟩)
    · cases e
  · split at e
    · rename_i ys e1
      cases e
      obtain ⟨a, ws, rfl, h1, r1⟩ := getL_rep S e1 rx
      exact .inl ⟨a, ws, rfl, .inl (SqL.of h1), fun l hl => h.newLst S r1 hl⟩
    · simp only [Option.map_eq_some_iff] at e
      obtain ⟨⟨ks, ms⟩, e1, rfl⟩ := e
      obtain ⟨a, ws, rfl, h1, hl, r1⟩ := getD_rep S e1 rx
      refine .inr (.inr ⟨a, _, rfl, h1, fun q hq => ?_⟩)
      have e2 : ((ks.map kOf).zip ws).map (fun kv => kV kv.1) = ks.map fun k => kV (kOf k) := by
        have hz : ks.length = ws.length := by rw [hl]; exact r1.len
        have : ((ks.map kOf).zip ws).map Prod.fst = ks.map kOf := List.map_fst_zip (by rw [List.length_map]; omega)
        have e3 : ((ks.map kOf).zip ws).map (fun kv => kV kv.1) = (((ks.map kOf).zip ws).map Prod.fst).map kV := by rw [List.map_map]; rfl
        rw [e3, this, List.map_map]
        rfl
      rw [e2]
      exact h.newLst S (kMs_rep ks) hq
theorem bi_all : BiS .all rAll := by
  intro G A xs v vs Q S e r h
  obtain ⟨x, hx, e'⟩ := one1_some e
  subst hx
  replace e := e'
  clear e'
  obtain ⟨w, rfl, rx⟩ := r.one_
  simp only [Option.map_eq_some_iff] at e
  obtain ⟨bs, e, rfl⟩ := e
  obtain ⟨a, rfl, h1⟩ := bls_rep S e rx
  exact ⟨a, bs, rfl, h1, h.here S (rep_bl _)⟩
theorem bi_any : BiS .any rAny := by
  intro G A xs v vs Q S e r h
  obtain ⟨x, hx, e'⟩ := one1_some e
  subst hx
  replace e := e'
  clear e'
  obtain ⟨w, rfl, rx⟩ := r.one_
  simp only [Option.map_eq_some_iff] at e
  obtain ⟨bs, e, rfl⟩ := e
  obtain ⟨a, rfl, h1⟩ := bls_rep S e rx
  exact ⟨a, bs, rfl, h1, h.here S (rep_bl _)⟩
theorem bi_sum : BiS .sum rSum := by
  intro G A xs v vs Q S e r h
  obtain ⟨x, hx, e'⟩ := one1_some e
  subst hx
  replace e := e'
  clear e'
  obtain ⟨w, rfl, rx⟩ := r.one_
  simp only [Option.map_eq_some_iff] at e
  obtain ⟨bs, e, rfl⟩ := e
  obtain ⟨a, rfl, h1⟩ := ints_rep S e rx
  exact ⟨a, bs, rfl, h1, h.here S (rep_int _)⟩
theorem bi_max : BiS .max rMax := by
  intro G A xs v vs Q S e r h
  obtain ⟨x, hx, e'⟩ := one1_some e
  subst hx
  replace e := e'
  clear e'
  obtain ⟨w, rfl, rx⟩ := r.one_
  rw [Option.bind_eq_some_iff] at e
  obtain ⟨ns, e, e2⟩ := e
  simp only [Option.map_eq_some_iff] at e2
  obtain ⟨m, e2, rfl⟩ := e2
  obtain ⟨a, rfl, h1⟩ := ints_rep S e rx
  have hm := List.max?_eq_some_iff.mp e2
  refine ⟨a, ns, rfl, h1, List.length_pos_of_mem hm.1, fun m' h2 h3 => ?_⟩
  have : m' = m := Int.le_antisymm (hm.2 m' h2) (h3 m hm.1)
  rw [this]
  exact h.here S (rep_int _)
theorem bi_min : BiS .min rMin := by
  intro G A xs v vs Q S e r h
  obtain ⟨x, hx, e'⟩ := one1_some e
  subst hx
  replace e := e'
  clear e'
  obtain ⟨w, rfl, rx⟩ := r.one_
  rw [Option.bind_eq_some_iff] at e
  obtain ⟨ns, e, e2⟩ := e
  simp only [Option.map_eq_some_iff] at e2
  obtain ⟨m, e2, rfl⟩ := e2
  obtain ⟨a, rfl, h1⟩ := ints_rep S e rx
  have hm := List.min?_eq_some_iff.mp e2
  refine ⟨a, ns, rfl, h1, List.length_pos_of_mem hm.1, fun m' h2 h3 => ?_⟩
  have : m' = m := Int.le_antisymm (h3 m hm.1) (hm.2 m' h2)
  rw [this]
  exact h.here S (rep_int _)

/-! ### methods -/
section
variable {G : Gb} {A : Wd}
theorem bd_of : (n : Nat) → (S : Sim G A) → (A.mh.length ≤ n) → True := fun _ _ _ => trivial
theorem liveL_rep (S : Sim G A) {o : MV} {l : Nat} {xs : List MV} {w : V} (e : liveL A.mh o = some (l, xs)) (r : Rep G A o w) :
    A.mh[l]? = some (some (.lst xs)) ∧ ∃ a vs, A.β[l]? = some a ∧ w = .ref a ∧ A.H a = some (.lst vs) ∧ Reps G A xs vs := by
  unfold liveL at e
  split at e
  · split at e
    · rename_i l' ys hl
      cases e
      obtain ⟨a, rfl, e2⟩ := r.loc_
      obtain ⟨vs, e3, r3⟩ := S.obj _ _ hl a e2
      exact ⟨hl, a, vs, e2, rfl, e3, r3⟩
    · cases e
  · cases e
theorem bds_app (n : Nat) : ∀ xs ys : List MV, bds n (xs ++ ys) = (bds n xs && bds n ys)
  | [], ys => by simp [bds]
  | x :: xs, ys => by
    show (bd n x && bds n (xs ++ ys)) = ((bd n x && bds n xs) && bds n ys)
    rw [bds_app n xs ys, Bool.and_assoc]
mutual
theorem bd_mono {n m : Nat} (h : n ≤ m) : ∀ x : MV, bd n x = true → bd m x = true
  | .tup xs, e => by unfold bd at e ⊢; exact bds_mono h xs e
  | .lst xs, e => by unfold bd at e ⊢; exact bds_mono h xs e
  | .dct _ vs, e => by unfold bd at e ⊢; exact bds_mono h vs e
  | .loc l, e => by
    unfold bd at e ⊢
    have : l < n := of_decide_eq_true e
    exact decide_eq_true (by omega)
  | .non, e => e
  | .bl _, e => e
  | .int _, e => e
  | .str _, e => e
  | .fn _, e => e
  | .scr _, e => e
theorem bds_mono {n m : Nat} (h : n ≤ m) : ∀ xs : List MV, bds n xs = true → bds m xs = true
  | [], e => by unfold bds; rfl
  | x :: xs, e => by
    unfold bds at e ⊢
    rw [Bool.and_eq_true] at e ⊢
    exact ⟨bd_mono h x e.1, bds_mono h xs e.2⟩
end
/-- what may be written keeps the bounds of all frames -/
theorem wr_bd (S : Sim G A) {l : Nat} {x : MV} (h : wr A.base l x = true) {b : Nat} (hb : b ∈ A.bs) (hl : l < b) : bd b x = true := by
  unfold wr at h
  rw [Bool.or_eq_true] at h
  rcases h with h | h
  · have h1 : A.base ≤ l := of_decide_eq_true h
    have := S.top b hb
    omega
  · exact bd_mono (by omega) x h
theorem wrs_bd (S : Sim G A) {l : Nat} : ∀ {xs : List MV}, xs.all (wr A.base l) = true → ∀ {b : Nat}, b ∈ A.bs → l < b → bds b xs = true
  | [], _, b, _, _ => by unfold bds; rfl
  | x :: xs, h, b, hb, hl => by
    rw [List.all_cons, Bool.and_eq_true] at h
    unfold bds
    rw [wr_bd S h.1 hb hl, wrs_bd S h.2 hb hl]
    rfl
theorem bds_sub {n : Nat} : ∀ {xs : List MV}, bds n xs = true → ∀ {ys : List MV}, (∀ y ∈ ys, y ∈ xs) → bds n ys = true := by
  intro xs h ys
  have all : ∀ {xs : List MV}, bds n xs = true → ∀ x ∈ xs, bd n x = true := by
    intro xs
    induction xs with
    | nil => intro _ x hx; exact absurd hx (by simp)
    | cons y ys ih =>
      intro h x hx
      unfold bds at h
      rw [Bool.and_eq_true] at h
      rcases List.mem_cons.mp hx with rfl | hx
      · exact h.1
      · exact ih h.2 x hx
  induction ys with
  | nil => intro _; unfold bds; rfl
  | cons y ys ih =>
    intro hs
    unfold bds
    rw [all h y (hs y (by simp)), ih fun z hz => hs z (List.mem_cons_of_mem _ hz)]
    rfl
theorem lst_wr (S : Sim G A) {l : Nat} {a : Addr} {xs ys : List MV} {ws : List V} (hl : A.mh[l]? = some (some (.lst xs))) (hb : A.β[l]? = some a) (r : Reps G A ys ws) (hbd : ∀ b ∈ A.bs, l < b → bds b ys = true) :
    Keep A (A.wr l a (.lst ws) (.lst ys)) ∧ Sim G (A.wr l a (.lst ws) (.lst ys)) := by
  have k : Keep A (A.wr l a (.lst ws) (.lst ys)) := keep_wr S hl hb
  exact ⟨k, S.wr hl hb ⟨ws, upd_same, Reps.keep S k _ _ r⟩ ⟨(fun _ z => nomatch z), (fun _ _ z => nomatch z)⟩ hbd⟩
/-- the reading of a method, where what is wanted behind it is told by a post of the new heap -/
def MeS (m : Me) (r : PySem.W.Frag → V → List V → Hp → VK → Prop) : Prop :=
  ∀ (G : Gb) (A : Wd) (o : MV) (xs : List MV) (v : MV) (mh' : MHp) (w : V) (vs : List V) (Q : VK), Sim G A → methV A.base A.mh m o xs = some (v, mh') → Rep G A o w → Reps G A xs vs → Post G A mh' v Q → r G.K w vs A.H Q
end
theorem me_append : MeS .append (fun _ => rAppend) := by
  intro G A o xs v mh' w vs Q S e ro r h
  simp only [methV, appV] at e
  split at e
  · rename_i l ys x e1
    split at e
    · rename_i hc
      cases e
      obtain ⟨hl, a, ws, hb, rfl, hH, rr⟩ := liveL_rep S e1 ro
      obtain ⟨y, rfl, ry⟩ := r.one_
      obtain ⟨k, S'⟩ := lst_wr S hl hb (rr.app (Reps.one ry)) fun b hbs hlb => by
        rw [bds_app]
        have h1 : bds b ys = true := S.bnd b hbs l _ hlb hl
        rw [h1]
        show (true && (bd b x && true)) = true
        rw [wr_bd S hc.1 hbs hlb]
        rfl
      exact ⟨a, ws, y, rfl, rfl, hH, by rw [← rr.len]; exact hc.2, h _ .non k rfl S' rep_non⟩
    · cases e
  · cases e
def rExtB (K : PySem.W.Frag) : V → List V → Hp → VK → Prop := fun x vs H Q => rExtend x vs H Q ∨ rExtT K x vs H Q
theorem mt_extB {X : Cx} : MtR X "list.extend" (rExtB X.K) := MtR.or mt_extend mt_extT
theorem me_extend : MeS .extend rExtB := by
  intro G A o xs v mh' w vs Q S e ro r h
  simp only [methV, extV] at e
  split at e
  · rename_i l ys x e1
    split at e
    · rename_i zs e2
      split at e
      · rename_i hc
        cases e
        obtain ⟨hl, a, ws, hb, rfl, hH, rr⟩ := liveL_rep S e1 ro
        obtain ⟨y, rfl, ry⟩ := r.one_
        have bdd : ∀ b ∈ A.bs, l < b → bds b (ys ++ zs) = true := fun b hbs hlb => by
          rw [bds_app]
          have h1 : bds b ys = true := S.bnd b hbs l _ hlb hl
          rw [h1, wrs_bd S hc.1 hbs hlb]
          rfl
        unfold seqOf at e2
        split at e2
        · cases e2
          obtain ⟨b, us, rfl, h1, r1⟩ := ry.tup_
          obtain ⟨k, S'⟩ := lst_wr S hl hb (rr.app r1) bdd
          exact .inr ⟨a, b, ws, us, rfl, rfl, hH, h1, by rw [← rr.len, ← r1.len]; exact hc.2, h _ .non k rfl S' rep_non⟩
        · obtain ⟨b, us, rfl, h1, r1⟩ := getL_rep S e2 ry
          obtain ⟨k, S'⟩ := lst_wr S hl hb (rr.app r1) bdd
          exact .inl ⟨a, b, ws, us, rfl, rfl, hH, h1, by rw [← rr.len, ← r1.len]; exact hc.2, h _ .non k rfl S' rep_non⟩
      · cases e
    · cases e
  · cases e
theorem me_pop : MeS .pop (fun _ => rPop) := by
  intro G A o xs v mh' w vs Q S e ro r h
  simp only [methV, popV] at e
  split at e
  · rename_i l ys e1
    simp only [Option.map_eq_some_iff] at e
    obtain ⟨y, e2, e3⟩ := e
    cases e3
    obtain ⟨hl, a, ws, hb, rfl, hH, rr⟩ := liveL_rep S e1 ro
    obtain ⟨u, hu, ru⟩ := rr.get e2
    obtain ⟨k, S'⟩ := lst_wr S hl hb rr.dropLast fun b hbs hlb => bds_sub (S.bnd b hbs l _ hlb hl) fun z hz => List.dropLast_subset _ hz
    exact ⟨a, ws, u, rfl, r.nil_, hH, by rw [← rr.len]; exact hu, h _ u k rfl S' (Rep.keep S k _ _ ru)⟩
  · cases e
theorem me_popAt : MeS .popAt (fun _ => rPopAt) := by
  intro G A o xs v mh' w vs Q S e ro r h
  simp only [methV, popAtV] at e
  split at e
  · rename_i l ys i e1
    split at e
    · rename_i hi
      split at e
      · cases e
      · rename_i j e4
        simp only [Option.map_eq_some_iff] at e
        obtain ⟨y, e2, e3⟩ := e
        cases e3
        obtain ⟨hl, a, ws, hb, rfl, hH, rr⟩ := liveL_rep S e1 ro
        obtain ⟨u, hu, ru⟩ := rr.get e2
        obtain ⟨z, rfl, rz⟩ := r.one_
        obtain ⟨k, S'⟩ := lst_wr S hl hb (rr.eraseIdx j) fun b hbs hlb => bds_sub (S.bnd b hbs l _ hlb hl) fun z hz => List.mem_of_mem_eraseIdx hz
        exact ⟨a, ws, i, j, u, rfl, by rw [rz.int_], hH, hi.1, hi.2, by rw [← rr.len]; exact e4, hu, h _ u k rfl S' (Rep.keep S k _ _ ru)⟩
    · cases e
  · cases e
def rUpp (_ : PySem.W.Frag) : V → List V → Hp → VK → Prop := fun x xs H Q => ∃ a, x = .str a ∧ xs = [] ∧ a.length ≤ 5592405 ∧ Q (.str (Txt.upper a)) H
theorem me_upper : MeS .upper rUpp := by
  intro G A o xs v mh' w vs Q S e ro r h
  simp only [methV, uppV] at e
  split at e
  · split at e
    · rename_i s hz
      cases e
      refine ⟨_, ro.str_, r.nil_, by rw [str_len]; exact hz, ?_⟩
      have q := h.here S (rep_str _)
      unfold upperC at q
      have e2 : (⟨(Txt.upper ⟨s.toArray⟩).cps.toList.toArray⟩ : Str) = Txt.upper ⟨s.toArray⟩ := str_toList_eq (by simp)
      rw [e2] at q
      exact q
    · cases e
  · cases e
/-! ### dict(pairs) -/
def rDictP (K : PySem.W.Frag) : List V → Hp → VK → Prop := fun xs H Q => ∃ (a : Addr) (ps : List Addr) (kvs : List (Key × V)), xs = [.ref a] ∧ SqL K H a (ps.map V.ref) ∧ Paired (fun p kv => SqT K H p [kV kv.1, kv.2]) ps kvs ∧ ∀ p, H p = none → Q (.ref p) (upd H p (.dK (mergeK [] kvs)))
section
variable {G : Gb} {A : Wd}
theorem dfold_rep : ∀ (ps : List (MKey × MV)) (us : List V), Reps G A (ps.map Prod.snd) us → ∀ (ks : List MKey) (ms : List MV) (vs : List V), ks.length = ms.length → Reps G A ms vs →
    ∃ ws, mergeK ((ks.map kOf).zip vs) ((ps.map fun p => kOf p.1).zip us) = ((dFold ps ks ms).1.map kOf).zip ws ∧ Reps G A (dFold ps ks ms).2 ws
  | [], us, r, ks, ms, vs, hl, rm => by
    have : us = [] := by unfold Reps at r; exact r
    subst this
    exact ⟨vs, rfl, rm⟩
  | p :: ps, us, r, ks, ms, vs, hl, rm => by
    rw [List.map_cons] at r
    unfold Reps at r
    obtain ⟨v, t, rfl, h1, h2⟩ := r
    obtain ⟨ws, e1, r1⟩ := dput_rep (k := p.1) hl rm h1
    obtain ⟨xs, e2, r2⟩ := dfold_rep ps t h2 (dPutK ks p.1) (dPutV ks ms p.1 p.2) ws (dput_len p.1 p.2 hl) r1
    refine ⟨xs, ?_, r2⟩
    have e3 : mergeK ((ks.map kOf).zip vs) (((p :: ps).map fun p => kOf p.1).zip (v :: t)) = mergeK (putK ((ks.map kOf).zip vs) (kOf p.1) v) ((ps.map fun p => kOf p.1).zip t) := rfl
    rw [e3, e1, e2]
    rfl
theorem Post.newDct {ks : List MKey} {ms : List MV} {vs : List V} {Q : VK} {p : Addr} (h : Post G A A.mh (.dct ks ms) Q) (S : Sim G A) (hl : ks.length = ms.length) (r : Reps G A ms vs) (hp : A.H p = none) : Q (.ref p) (upd A.H p (.dK ((ks.map kOf).zip vs))) :=
  h (A.up p (.dK ((ks.map kOf).zip vs))) (.ref p) (keep_new hp) rfl (S.new hp) (rep_dct S hp hl r)
theorem pairs_rep : ∀ {xs : List MV} {vs : List V} {ps : List (MKey × MV)}, Reps G A xs vs → xs.mapM pairK = some ps → ∃ (as : List Addr) (us : List V), vs = as.map V.ref ∧ Reps G A (ps.map Prod.snd) us ∧ Paired (fun p kv => SqT G.K A.H p [kV kv.1, kv.2]) as ((ps.map fun p => kOf p.1).zip us)
  | [], vs, ps, r, e => by
    have : vs = [] := by unfold Reps at r; exact r
    subst this
    simp at e
    subst e
    exact ⟨[], [], rfl, (by unfold Reps; rfl), .nil⟩
  | x :: xs, vs, ps, r, e => by
    unfold Reps at r
    obtain ⟨v, t, rfl, h1, h2⟩ := r
    simp only [List.mapM_cons, Option.bind_eq_bind, Option.bind_eq_some_iff] at e
    obtain ⟨p, e1, qs, e2, e3⟩ := e
    cases e3
    obtain ⟨as, us, rfl, r2, pr⟩ := pairs_rep h2 e2
    unfold pairK at e1
    split at e1
    · rename_i k m
      simp only [Option.map_eq_some_iff] at e1
      obtain ⟨k', e4, rfl⟩ := e1
      obtain ⟨a, ws, rfl, hT, rr⟩ := h1.tup_
      unfold Reps at rr
      obtain ⟨w1, ws1, rfl, g1, g2⟩ := rr
      obtain ⟨w2, rfl, g3⟩ := g2.one_
      have := kyV_rep e4 g1
      subst this
      refine ⟨a :: as, w2 :: us, rfl, ?_, .cons hT pr⟩
      rw [List.map_cons]
      unfold Reps
      exact ⟨w2, us, rfl, g3, r2⟩
    · cases e1
end
theorem bi_dict : BiS .dict rDictP := by
  intro G A xs v vs Q S e r h
  obtain ⟨x, hx, e'⟩ := one1_some e
  subst hx
  replace e := e'
  clear e'
  obtain ⟨w, rfl, rx⟩ := r.one_
  unfold dictV at e
  split at e
  · cases e
  rename_i ys e1
  split at e
  · rename_i ps e2
    cases e
    obtain ⟨a, ws, rfl, hH, rr⟩ := getL_rep S e1 rx
    obtain ⟨as, us, rfl, r2, pr⟩ := pairs_rep rr e2
    obtain ⟨zs, q1, q2⟩ := dfold_rep ps us r2 [] [] [] rfl (by unfold Reps; rfl)
    refine ⟨a, as, _, rfl, SqL.of hH, pr, fun p hp => ?_⟩
    have q1' : mergeK [] ((ps.map fun p => kOf p.1).zip us) = _ := q1
    rw [q1']
    exact h.newDct S (dfold_len ps [] [] rfl) q2 hp
  · cases e
end L2.Mi

set_option Elab.async false
set_option linter.all false
set_option maxRecDepth 100000
set_option maxHeartbeats 4000000
/-! Mini6: expressions. -/
namespace L2.Mi
open PySem PySem.Spec PyProof.Rows

section
variable (G : Gb) (C : CallF)
/-- an expression by the evaluator -/
def tE (m : ME) : TE := fun σ H Q => ∃ (A : Wd) (ρ : Env) (v : MV) (mh' : MHp), A.H = H ∧ Sim G A ∧ Envs G A ρ σ ∧ ev C A.base m ρ A.mh = some (v, mh') ∧ Post G A mh' v Q
def tT (m : ME) : TT := fun σ H Q => ∃ (A : Wd) (ρ : Env) (c : Bool) (mh' : MHp), A.H = H ∧ Sim G A ∧ Envs G A ρ σ ∧ ev C A.base m ρ A.mh = some (.bl c, mh') ∧ ∀ B, Keep A B → B.mh = mh' → Sim G B → Q c B.H
def tEs (ms : List ME) : TA := fun σ H Q => ∃ (A : Wd) (ρ : Env) (vs : List MV) (mh' : MHp), A.H = H ∧ Sim G A ∧ Envs G A ρ σ ∧ evs C A.base ms ρ A.mh = some (vs, mh') ∧ ∀ B xs, Keep A B → B.mh = mh' → Sim G B → Reps G B vs xs → Q xs B.H
end
theorem Keep.base {A B : Wd} (k : Keep A B) : B.base = A.base := by unfold Wd.base; rw [k.bs]

theorem _root_.L2.PE.mono {X : Cx} {e : Expr} {t t' : TE} (h : PE X e t) (k : ∀ σ H Q, t' σ H Q → t σ H Q) : PE X e t' := ⟨fun pins s σ H Q I q => h.run pins s σ H Q I (k σ H Q q)⟩
theorem _root_.L2.PT.mono {X : Cx} {e : Expr} {t t' : TT} (h : PT X e t) (k : ∀ σ H Q, t' σ H Q → t σ H Q) : PT X e t' := ⟨fun pins s σ H Q I q => h.run pins s σ H Q I (k σ H Q q)⟩
theorem _root_.L2.PW.mono {X : Cx} {e : Expr} {t t' : TT} (h : PW X e t) (k : ∀ σ H Q, t' σ H Q → t σ H Q) : PW X e t' := ⟨fun wh pins s σ H Q I q => h.run wh pins s σ H Q I (k σ H Q q)⟩
theorem _root_.L2.PA.mono {X : Cx} {es : List Expr} {t t' : TA} (h : PA X es t) (k : ∀ σ H Q, t' σ H Q → t σ H Q) : PA X es t' := ⟨fun pos pins s σ H Q I q => h.run pos pins s σ H Q I (k σ H Q q)⟩

section
variable {G : Gb} {C : CallF} {A : Wd} {ρ : Env} {σ : L2.St}
theorem tE.go {m : ME} {v : MV} {mh1 : MHp} {Q : VK} (S : Sim G A) (N : Envs G A ρ σ) (e : ev C A.base m ρ A.mh = some (v, mh1))
    (h : ∀ B x, Keep A B → B.mh = mh1 → Sim G B → Envs G B ρ σ → Rep G B v x → Q x B.H) : tE G C m σ A.H Q :=
  ⟨A, ρ, v, mh1, rfl, S, N, e, fun B x k em SB r => h B x k em SB (N.keep S k) r⟩
theorem tT.go {m : ME} {c : Bool} {mh1 : MHp} {Q : Bool → Hp → Prop} (S : Sim G A) (N : Envs G A ρ σ) (e : ev C A.base m ρ A.mh = some (.bl c, mh1))
    (h : ∀ B, Keep A B → B.mh = mh1 → Sim G B → Envs G B ρ σ → Q c B.H) : tT G C m σ A.H Q :=
  ⟨A, ρ, c, mh1, rfl, S, N, e, fun B k em SB => h B k em SB (N.keep S k)⟩
theorem tEs.go {ms : List ME} {vs : List MV} {mh1 : MHp} {Q : List V → Hp → Prop} (S : Sim G A) (N : Envs G A ρ σ) (e : evs C A.base ms ρ A.mh = some (vs, mh1))
    (h : ∀ B xs, Keep A B → B.mh = mh1 → Sim G B → Envs G B ρ σ → Reps G B vs xs → Q xs B.H) : tEs G C ms σ A.H Q :=
  ⟨A, ρ, vs, mh1, rfl, S, N, e, fun B xs k em SB r => h B xs k em SB (N.keep S k) r⟩
/-- the evaluation goes on in B -/
theorem ev.at {A B : Wd} {m : ME} {mh1 : MHp} {r : Option (MV × MHp)} (k : Keep A B) (em : B.mh = mh1) (e : ev C A.base m ρ mh1 = r) : ev C B.base m ρ B.mh = r := by rw [k.base, em]; exact e
theorem evs.at {A B : Wd} {m : List ME} {mh1 : MHp} {r : Option (List MV × MHp)} (k : Keep A B) (em : B.mh = mh1) (e : evs C A.base m ρ mh1 = r) : evs C B.base m ρ B.mh = r := by rw [k.base, em]; exact e
end

section
variable {G : Gb} {C : CallF} {X : Cx} {pos p : Pos} {e a b c : Expr} {ma mb mc m : ME}
/-! ### names, constants -/
theorem se_var {i : Nat} {x : Str} (hN : X.N[i]? = some x) (hv : Vis X.env.scope x) (hd : (x == ("__debug__" : Str)) = false := by decide) (hcd : (x == ("__classdict__" : Str)) = false := by decide) : PE X (.Name x pos) (tE G C (.var i)) := by
  refine (pe_var hN hv hd hcd).mono fun σ H Q h => ?_
  obtain ⟨A, ρ, v, mh', rfl, S, N, e, q⟩ := h
  simp only [ev] at e
  split at e
  · rename_i w hw
    cases e
    obtain ⟨x, h1, h2⟩ := N.2 i _ hw
    exact ⟨x, h1, Post.here q S h2⟩
  · cases e
theorem se_c {v : V} {mv : MV} (h : PE X e (tC v)) (hr : ∀ A, Rep G A mv v) : PE X e (tE G C (.c mv)) := by
  refine h.mono fun σ H Q h => ?_
  obtain ⟨A, ρ, w, mh', rfl, S, N, e, q⟩ := h
  simp only [ev] at e
  cases e
  exact Post.here q S (hr A)
theorem se_int {i j} : PE X (.Constant (.int i) j pos) (tE G C (.c (.int i))) := se_c pe_int fun _ => rep_int i
theorem se_bl {b j} : PE X (.Constant (.bool b) j pos) (tE G C (.c (.bl b))) := se_c pe_bl fun _ => rep_bl b
theorem se_non {j} : PE X (.Constant .none j pos) (tE G C (.c .non)) := se_c pe_non fun _ => rep_non
theorem se_str {x : Str} {j} {s : Sx} (h : x = ⟨s.toArray⟩) : PE X (.Constant (.str x) j pos) (tE G C (.c (.str s))) := by
  subst h
  exact se_c pe_str fun _ => rep_str s
/-- a module's number -/
theorem se_glob {x : Str} {i : Int} {t : Tok} (hg : Gl X x) (hm : X.mg x = some (.int i t)) (hd : (x == ("__debug__" : Str)) = false := by decide) : PE X (.Name x pos) (tE G C (.c (.int i))) :=
  se_c (pe_glob (v := .int i) hg hm ⟨t, rfl⟩ hd) fun _ => rep_int i
/-- a def as a value -/
theorem se_fn {x : Str} {f : Nat} {a : Addr} (hg : Gl X x) (hm : X.mg x = some (.ref a)) (hf : G.fa f = some a) (hd : (x == ("__debug__" : Str)) = false := by decide) : PE X (.Name x pos) (tE G C (.c (.fn f))) :=
  se_c (pe_glob (v := .ref a) hg hm rfl hd) fun _ => by unfold Rep; exact ⟨a, hf, rfl⟩
/-! ### operators -/
theorem se_bin {o : Op} (hK : X.K = G.K) (ha : PE X a (tE G C ma)) (hb : PE X b (tE G C mb)) : PE X (.BinOp a (opOf o) b pos) (tE G C (.bin o ma mb)) := by
  refine (pe_op (op_ok (X := X) o) ha hb).mono fun σ H Q h => ?_
  obtain ⟨A, ρ, v, mh', rfl, S, N, e, q⟩ := h
  simp only [ev] at e
  split at e
  · cases e
  rename_i x mh1 e1
  split at e
  · cases e
  rename_i y mh2 e2
  simp only [Option.map_eq_some_iff] at e
  obtain ⟨w, e3, e4⟩ := e
  cases e4
  refine tE.go S N e1 fun B vx kB em SB NB rx => tE.go SB NB (ev.at kB em e2) fun B2 vy k2 em2 S2 N2 ry => ?_
  rw [hK]
  refine opR_of S2 (by rw [em2]; exact e3) (Rep.keep SB k2 _ _ rx) ry ?_
  rw [em2]
  exact Post.step q (kB.trans k2)
theorem se_neg (ha : PE X a (tE G C ma)) : PE X (.UnaryOp .USub a pos) (tE G C (.neg ma)) := by
  refine (pe_un un_neg ha).mono fun σ H Q h => ?_
  obtain ⟨A, ρ, v, mh', rfl, S, N, e, q⟩ := h
  simp only [ev] at e
  split at e
  · rename_i i mh1 e1
    cases e
    exact tE.go S N e1 fun B vx kB em SB NB rx => ⟨i, rx.int_, q B _ kB em SB (rep_int _)⟩
  · cases e
theorem ev_cmp {o : Cop} {base : Nat} {ρ : Env} {mh mh' : MHp} {v : MV} (e : ev C base (.cmp o ma mb) ρ mh = some (v, mh')) :
    ∃ x mh1 y c, ev C base ma ρ mh = some (x, mh1) ∧ ev C base mb ρ mh1 = some (y, mh') ∧ cmpV mh' o x y = some c ∧ v = .bl c := by
  simp only [ev] at e
  split at e
  · cases e
  rename_i x mh1 e1
  split at e
  · cases e
  rename_i y mh2 e2
  simp only [Option.map_eq_some_iff] at e
  obtain ⟨w, e3, e4⟩ := e
  cases e4
  exact ⟨x, mh1, y, w, e1, e2, e3, rfl⟩
theorem se_cmp {o : Cop} (hK : X.K = G.K) (hu : X.A.units + 65 < cLine) (hm : behindInMarks (copOf o) b = false) (ha : PE X a (tE G C ma)) (hb : PE X b (tE G C mb)) : PE X (.Compare a [copOf o] [b] pos) (tE G C (.cmp o ma mb)) := by
  refine (pe_cmpR (cop_ok (X := X) hu o) ha hb hm).mono fun σ H Q h => ?_
  obtain ⟨A, ρ, v, mh', rfl, S, N, e, q⟩ := h
  obtain ⟨x, mh1, y, c, e1, e2, e3, rfl⟩ := ev_cmp e
  refine tE.go S N e1 fun B vx kB em SB NB rx => tE.go SB NB (ev.at kB em e2) fun B2 vy k2 em2 S2 N2 ry => ?_
  rw [hK]
  exact copR_of S2 (by rw [em2]; exact e3) (Rep.keep SB k2 _ _ rx) ry (q B2 _ (kB.trans k2) em2 S2 (rep_bl c))
theorem st_cmp {o : Cop} (hK : X.K = G.K) (hu : X.A.units + 65 < cLine) (hm : behindInMarks (copOf o) b = false) (ha : PE X a (tE G C ma)) (hb : PE X b (tE G C mb)) : PT X (.Compare a [copOf o] [b] pos) (tT G C (.cmp o ma mb)) := by
  refine (pt_cmpR (cop_ok (X := X) hu o) ha hb hm).mono fun σ H Q h => ?_
  obtain ⟨A, ρ, c', mh', rfl, S, N, e, q⟩ := h
  obtain ⟨x, mh1, y, c, e1, e2, e3, e4⟩ := ev_cmp e
  cases e4
  refine tE.go S N e1 fun B vx kB em SB NB rx => tE.go SB NB (ev.at kB em e2) fun B2 vy k2 em2 S2 N2 ry => ?_
  rw [hK]
  exact copR_of S2 (by rw [em2]; exact e3) (Rep.keep SB k2 _ _ rx) ry ⟨c', rfl, q B2 (kB.trans k2) em2 S2⟩
theorem ev_chn {o o' : Cop} {base : Nat} {ρ : Env} {mh mh' : MHp} {v : MV} (e : ev C base (.chn o o' ma mb mc) ρ mh = some (v, mh')) :
    ∃ x mh1 y mh2, ev C base ma ρ mh = some (x, mh1) ∧ ev C base mb ρ mh1 = some (y, mh2) ∧ ((cmpV mh2 o x y = some false ∧ v = .bl false ∧ mh' = mh2) ∨ (cmpV mh2 o x y = some true ∧ ∃ z c, ev C base mc ρ mh2 = some (z, mh') ∧ cmpV mh' o' y z = some c ∧ v = .bl c)) := by
  simp only [ev] at e
  split at e
  · cases e
  rename_i x mh1 e1
  split at e
  · cases e
  rename_i y mh2 e2
  refine ⟨x, mh1, y, mh2, e1, e2, ?_⟩
  split at e
  · cases e
  · rename_i e3
    cases e
    exact .inl ⟨e3, rfl, rfl⟩
  · rename_i e3
    split at e
    · cases e
    rename_i z mh3 e4
    simp only [Option.map_eq_some_iff] at e
    obtain ⟨w, e5, e6⟩ := e
    cases e6
    exact .inr ⟨e3, z, w, e4, e5, rfl⟩
theorem chn_go {o o' : Cop} {A : Wd} {ρ : Env} {σ : L2.St} {v : MV} {mh' : MHp} {Q : VK} (hK : X.K = G.K) (S : Sim G A) (N : Envs G A ρ σ) (e : ev C A.base (.chn o o' ma mb mc) ρ A.mh = some (v, mh')) (q : Post G A mh' v Q) :
    tChain (copR X.K o) (copR X.K o') (tE G C ma) (tE G C mb) (tE G C mc) σ A.H Q := by
  obtain ⟨x, mh1, y, mh2, e1, e2, h⟩ := ev_chn e
  refine tE.go S N e1 fun B vx kB em SB NB rx => tE.go SB NB (ev.at kB em e2) fun B2 vy k2 em2 S2 N2 ry => ?_
  rw [hK]
  rcases h with ⟨e3, rfl, rfl⟩ | ⟨e3, z, c, e4, e5, rfl⟩
  · refine copR_of S2 (by rw [em2]; exact e3) (Rep.keep SB k2 _ _ rx) ry ⟨false, rfl, ?_⟩
    rw [if_neg Bool.false_ne_true]
    exact q B2 _ (kB.trans k2) em2 S2 (rep_bl false)
  · refine copR_of S2 (by rw [em2]; exact e3) (Rep.keep SB k2 _ _ rx) ry ⟨true, rfl, ?_⟩
    rw [if_pos rfl]
    refine tE.go S2 N2 (ev.at (kB.trans k2) em2 e4) fun B3 vz k3 em3 S3 N3 rz => ?_
    exact copR_of S3 (by rw [em3]; exact e5) (Rep.keep S2 k3 _ _ ry) rz (q B3 _ ((kB.trans k2).trans k3) em3 S3 (rep_bl c))
theorem se_chn {o o' : Cop} (hK : X.K = G.K) (hu : X.A.units + 65 < cLine) (ha : PE X a (tE G C ma)) (hb : PE X b (tE G C mb)) (hc : PE X c (tE G C mc))
    (hm : lastMarks [copOf o, copOf o'] [b, c] = false := by with_unfolding_all rfl) : PE X (.Compare a [copOf o, copOf o'] [b, c] pos) (tE G C (.chn o o' ma mb mc)) := by
  refine (pe_chain (cop_ok (X := X) hu o) (cop_ok (X := X) hu o') ha hb hc hm).mono fun σ H Q h => ?_
  obtain ⟨A, ρ, v, mh', rfl, S, N, e, q⟩ := h
  exact chn_go hK S N e q
theorem st_chn {o o' : Cop} (hK : X.K = G.K) (hu : X.A.units + 65 < cLine) (ha : PE X a (tE G C ma)) (hb : PE X b (tE G C mb)) (hc : PE X c (tE G C mc))
    (hm : lastMarks [copOf o, copOf o'] [b, c] = false := by with_unfolding_all rfl) : PT X (.Compare a [copOf o, copOf o'] [b, c] pos) (tT G C (.chn o o' ma mb mc)) := by
  refine (pt_chain (cop_ok (X := X) hu o) (cop_ok (X := X) hu o') ha hb hc hm).mono fun σ H Q h => ?_
  obtain ⟨A, ρ, v, mh', rfl, S, N, e, q⟩ := h
  refine chn_go hK S N e fun B x k em SB r => ⟨v, r.bl_, q B k em SB⟩
/-! ### tests, and, or, not -/
theorem st_val (h : PE X e (tE G C m)) (he : ∀ whole, isTrue e X.env whole = (do let v ← whole; standAt e.pos; holding [v] (truthy v)) := by intro _; rfl) : PT X e (tT G C m) := by
  refine (pt_val h he).mono fun σ H Q h => ?_
  obtain ⟨A, ρ, c, mh', rfl, S, N, e, q⟩ := h
  exact tE.go S N e fun B x k em SB _ r => ⟨c, r.bl_, q B k em SB⟩
theorem ev_and {base : Nat} {ρ : Env} {mh mh' : MHp} {v : MV} (e : ev C base (.and ma mb) ρ mh = some (v, mh')) : (∃ mh1, ev C base ma ρ mh = some (.bl true, mh1) ∧ ev C base mb ρ mh1 = some (v, mh')) ∨ (ev C base ma ρ mh = some (.bl false, mh') ∧ v = .bl false) := by
  simp only [ev] at e
  split at e
  · rename_i mh1 e1; exact .inl ⟨mh1, e1, e⟩
  · rename_i mh1 e1; cases e; exact .inr ⟨e1, rfl⟩
  · cases e
theorem ev_or {base : Nat} {ρ : Env} {mh mh' : MHp} {v : MV} (e : ev C base (.or ma mb) ρ mh = some (v, mh')) : (∃ mh1, ev C base ma ρ mh = some (.bl false, mh1) ∧ ev C base mb ρ mh1 = some (v, mh')) ∨ (ev C base ma ρ mh = some (.bl true, mh') ∧ v = .bl true) := by
  simp only [ev] at e
  split at e
  · rename_i mh1 e1; exact .inl ⟨mh1, e1, e⟩
  · rename_i mh1 e1; cases e; exact .inr ⟨e1, rfl⟩
  · cases e
theorem sw_and1 (ha : PT X a (tT G C ma)) : PW X (.BoolOp .And [a] pos) (tT G C ma) := pw_and1 ha
theorem sw_or1 (ha : PT X a (tT G C ma)) : PW X (.BoolOp .Or [a] pos) (tT G C ma) := pw_or1 ha
theorem sw_and {rest : List Expr} (ha : PT X a (tT G C ma)) (hb : PW X (.BoolOp .And (b :: rest) pos) (tT G C mb)) : PW X (.BoolOp .And (a :: b :: rest) pos) (tT G C (.and ma mb)) := by
  refine (pw_and ha hb).mono fun σ H Q h => ?_
  obtain ⟨A, ρ, c, mh', rfl, S, N, e, q⟩ := h
  rcases ev_and e with ⟨mh1, e1, e2⟩ | ⟨e1, e2⟩
  · refine tT.go S N e1 fun B k em SB NB => ?_
    rw [if_pos rfl]
    exact tT.go SB NB (ev.at k em e2) fun B2 k2 em2 S2 _ => q B2 (k.trans k2) em2 S2
  · cases e2
    refine tT.go S N e1 fun B k em SB NB => ?_
    rw [if_neg Bool.false_ne_true]
    exact q B k em SB
theorem sw_or {rest : List Expr} (ha : PT X a (tT G C ma)) (hb : PW X (.BoolOp .Or (b :: rest) pos) (tT G C mb)) : PW X (.BoolOp .Or (a :: b :: rest) pos) (tT G C (.or ma mb)) := by
  refine (pw_or ha hb).mono fun σ H Q h => ?_
  obtain ⟨A, ρ, c, mh', rfl, S, N, e, q⟩ := h
  rcases ev_or e with ⟨mh1, e1, e2⟩ | ⟨e1, e2⟩
  · refine tT.go S N e1 fun B k em SB NB => ?_
    rw [if_neg Bool.false_ne_true]
    exact tT.go SB NB (ev.at k em e2) fun B2 k2 em2 S2 _ => q B2 (k.trans k2) em2 S2
  · cases e2
    refine tT.go S N e1 fun B k em SB NB => ?_
    rw [if_pos rfl]
    exact q B k em SB
theorem ev_not {base : Nat} {ρ : Env} {mh mh' : MHp} {v : MV} (e : ev C base (.not ma) ρ mh = some (v, mh')) : ∃ b, ev C base ma ρ mh = some (.bl b, mh') ∧ v = .bl (!b) := by
  simp only [ev] at e
  split at e
  · cases e; exact ⟨_, by assumption, rfl⟩
  · cases e
theorem st_not (ha : PT X a (tT G C ma)) : PT X (.UnaryOp .Not a pos) (tT G C (.not ma)) := by
  refine (pt_not ha).mono fun σ H Q h => ?_
  obtain ⟨A, ρ, c, mh', rfl, S, N, e, q⟩ := h
  obtain ⟨b, e1, e2⟩ := ev_not e
  cases e2
  exact tT.go S N e1 fun B k em SB _ => q B k em SB
theorem se_one {op} (h : PE X a (tE G C ma)) : PE X (.BoolOp op [a] pos) (tE G C ma) := pe_one h
theorem se_and {rest : List Expr} (ha : PE X a (tE G C ma)) (hb : PE X (.BoolOp .And (b :: rest) pos) (tE G C mb)) : PE X (.BoolOp .And (a :: b :: rest) pos) (tE G C (.and ma mb)) := by
  refine (pe_and ha hb).mono fun σ H Q h => ?_
  obtain ⟨A, ρ, v, mh', rfl, S, N, e, q⟩ := h
  rcases ev_and e with ⟨mh1, e1, e2⟩ | ⟨e1, rfl⟩
  · refine tE.go S N e1 fun B x k em SB NB r => ⟨true, r.bl_, ?_⟩
    rw [if_pos rfl]
    exact tE.go SB NB (ev.at k em e2) fun B2 x2 k2 em2 S2 _ r2 => q B2 x2 (k.trans k2) em2 S2 r2
  · refine tE.go S N e1 fun B x k em SB NB r => ⟨false, r.bl_, ?_⟩
    rw [if_neg Bool.false_ne_true]
    exact q B _ k em SB (rep_bl false)
theorem se_or {rest : List Expr} (ha : PE X a (tE G C ma)) (hb : PE X (.BoolOp .Or (b :: rest) pos) (tE G C mb)) : PE X (.BoolOp .Or (a :: b :: rest) pos) (tE G C (.or ma mb)) := by
  refine (pe_or ha hb).mono fun σ H Q h => ?_
  obtain ⟨A, ρ, v, mh', rfl, S, N, e, q⟩ := h
  rcases ev_or e with ⟨mh1, e1, e2⟩ | ⟨e1, rfl⟩
  · refine tE.go S N e1 fun B x k em SB NB r => ⟨false, r.bl_, ?_⟩
    rw [if_neg Bool.false_ne_true]
    exact tE.go SB NB (ev.at k em e2) fun B2 x2 k2 em2 S2 _ r2 => q B2 x2 (k.trans k2) em2 S2 r2
  · refine tE.go S N e1 fun B x k em SB NB r => ⟨true, r.bl_, ?_⟩
    rw [if_pos rfl]
    exact q B _ k em SB (rep_bl true)
theorem se_not (ha : PE X a (tE G C ma)) : PE X (.UnaryOp .Not a pos) (tE G C (.not ma)) := by
  refine (pe_not ha).mono fun σ H Q h => ?_
  obtain ⟨A, ρ, v, mh', rfl, S, N, e, q⟩ := h
  obtain ⟨b, e1, rfl⟩ := ev_not e
  exact tE.go S N e1 fun B x k em SB _ r => ⟨b, r.bl_, q B _ k em SB (rep_bl _)⟩
theorem ev_ite {base : Nat} {ρ : Env} {mh mh' : MHp} {v : MV} (e : ev C base (.ite mc ma mb) ρ mh = some (v, mh')) : ∃ b mh1, ev C base mc ρ mh = some (.bl b, mh1) ∧ ev C base (if b = true then ma else mb) ρ mh1 = some (v, mh') := by
  simp only [ev] at e
  split at e
  · rename_i mh1 e1; exact ⟨true, mh1, e1, by rw [if_pos rfl]; exact e⟩
  · rename_i mh1 e1; exact ⟨false, mh1, e1, by rw [if_neg Bool.false_ne_true]; exact e⟩
  · cases e
theorem se_ite (hc : PT X c (tT G C mc)) (ha : PE X a (tE G C ma)) (hb : PE X b (tE G C mb)) : PE X (.IfExp c a b pos) (tE G C (.ite mc ma mb)) := by
  refine (pe_ifExp hc ha hb).mono fun σ H Q h => ?_
  obtain ⟨A, ρ, v, mh', rfl, S, N, e, q⟩ := h
  obtain ⟨b, mh1, e1, e2⟩ := ev_ite e
  refine tT.go S N e1 fun B k em SB NB => ?_
  cases b with
  | true =>
    rw [if_pos rfl] at e2 ⊢
    exact tE.go SB NB (ev.at k em e2) fun B2 x2 k2 em2 S2 _ r2 => q B2 x2 (k.trans k2) em2 S2 r2
  | false =>
    rw [if_neg Bool.false_ne_true] at e2 ⊢
    exact tE.go SB NB (ev.at k em e2) fun B2 x2 k2 em2 S2 _ r2 => q B2 x2 (k.trans k2) em2 S2 r2
/-! ### arguments, displays -/
theorem sa_nil : PA X [] (tEs G C []) := by
  refine pa_nil.mono fun σ H Q h => ?_
  obtain ⟨A, ρ, vs, mh', rfl, S, N, e, q⟩ := h
  simp only [evs] at e
  cases e
  exact q A [] (Keep.refl A) rfl S (by unfold Reps; rfl)
theorem evs_cons {ms : List ME} {base : Nat} {ρ : Env} {mh mh' : MHp} {vs : List MV} (e : evs C base (m :: ms) ρ mh = some (vs, mh')) : ∃ x mh1 xs, ev C base m ρ mh = some (x, mh1) ∧ evs C base ms ρ mh1 = some (xs, mh') ∧ vs = x :: xs := by
  simp only [evs] at e
  split at e
  · cases e
  rename_i x mh1 e1
  split at e
  · cases e
  rename_i xs mh2 e2
  cases e
  exact ⟨x, mh1, xs, e1, e2, rfl⟩
theorem sa_cons {es : List Expr} {ms : List ME} (ha : PE X e (tE G C m)) (hr : PA X es (tEs G C ms)) (hs : starEach (e :: es) X.env = (false, eval e X.env) :: starEach es X.env := by rfl) : PA X (e :: es) (tEs G C (m :: ms)) := by
  refine (pa_cons ha hr hs).mono fun σ H Q h => ?_
  obtain ⟨A, ρ, vs, mh', rfl, S, N, e, q⟩ := h
  obtain ⟨x, mh1, xs, e1, e2, rfl⟩ := evs_cons e
  refine tE.go S N e1 fun B vx k em SB NB rx => tEs.go SB NB (evs.at k em e2) fun B2 ys k2 em2 S2 _ r2 => ?_
  refine q B2 _ (k.trans k2) em2 S2 ?_
  unfold Reps
  exact ⟨vx, ys, rfl, Rep.keep SB k2 _ _ rx, r2⟩
theorem se_tup {es : List Expr} {ms : List ME} {x1} (h : PA X es (tEs G C ms)) : PE X (.Tuple es x1 pos) (tE G C (.tup ms)) := by
  refine (pe_tup h).mono fun σ H Q h => ?_
  obtain ⟨A, ρ, v, mh', rfl, S, N, e, q⟩ := h
  simp only [ev] at e
  split at e
  · cases e
  rename_i xs mh1 e1
  split at e
  · rename_i hz
    cases e
    refine tEs.go S N e1 fun B ys k em SB _ r => ⟨by rw [← r.len]; exact hz, fun p hp => ?_⟩
    have q' := Post.step q k
    rw [← em] at q'
    exact q'.newTup SB r hp
  · cases e
theorem ev_lst {ms : List ME} {base : Nat} {ρ : Env} {mh mh' : MHp} {v : MV} (e : ev C base (.lst ms) ρ mh = some (v, mh')) : ∃ xs, evs C base ms ρ mh = some (xs, mh') ∧ xs.length ≤ line ∧ v = .lst xs := by
  simp only [ev] at e
  split at e
  · cases e
  rename_i xs mh1 e1
  split at e
  · rename_i hz
    cases e
    exact ⟨xs, e1, hz, rfl⟩
  · cases e
theorem se_lst {es : List Expr} {ms : List ME} (h : PA X es (tEs G C ms)) : PE X (.List es pos) (tE G C (.lst ms)) := by
  refine (pe_lst h).mono fun σ H Q h => ?_
  obtain ⟨A, ρ, v, mh', rfl, S, N, e, q⟩ := h
  obtain ⟨xs, e1, hz, rfl⟩ := ev_lst e
  refine tEs.go S N e1 fun B ys k em SB _ r => ⟨by rw [← r.len]; exact hz, fun p hp => ?_⟩
  have q' := Post.step q k
  rw [← em] at q'
  exact q'.newLst SB r hp
theorem ev_al {base : Nat} {ρ : Env} {mh mh' : MHp} {v : MV} (e : ev C base (.al m) ρ mh = some (v, mh')) : (∃ xs mh1, ev C base m ρ mh = some (.lst xs, mh1) ∧ v = .loc mh1.length ∧ mh' = mh1 ++ [some (.lst xs)]) ∨ (∃ ks vs mh1, ev C base m ρ mh = some (.dct ks vs, mh1) ∧ v = .loc mh1.length ∧ mh' = mh1 ++ [some (.dct ks vs)]) := by
  simp only [ev] at e
  split at e
  · rename_i xs mh1 e1; cases e; exact .inl ⟨xs, mh1, e1, rfl, rfl⟩
  · rename_i ks vs mh1 e1; cases e; exact .inr ⟨ks, vs, mh1, e1, rfl, rfl⟩
  · cases e
/-- a new list is laid as a live object -/
theorem Post.alLst {A : Wd} {xs : List MV} {vs : List V} {Q : VK} {p : Addr} (h : Post G A (A.mh ++ [some (.lst xs)]) (.loc A.mh.length) Q) (S : Sim G A) (r : Reps G A xs vs) (hp : A.H p = none) : Q (.ref p) (upd A.H p (.lst vs)) := by
  have k : Keep A (A.al p (.lst vs) (.lst xs)) := keep_al S hp
  refine h (A.al p (.lst vs) (.lst xs)) (.ref p) k rfl (S.al hp ⟨vs, upd_same, Reps.keep S k _ _ r⟩ ⟨(fun _ z => nomatch z), (fun _ _ z => nomatch z)⟩) ?_
  unfold Rep
  refine ⟨p, rfl, ?_⟩
  show (A.β ++ [p])[A.mh.length]? = some p
  rw [← S.len, List.getElem?_append_right (Nat.le_refl _)]
  simp
theorem sal_lst {es : List Expr} {ms : List ME} (h : PA X es (tEs G C ms)) : PE X (.List es pos) (tE G C (.al (.lst ms))) := by
  refine (pe_lst h).mono fun σ H Q h => ?_
  obtain ⟨A, ρ, v, mh', rfl, S, N, e, q⟩ := h
  rcases ev_al e with ⟨xs, mh1, e9, rfl, rfl⟩ | ⟨ks, vs, mh1, e9, rfl, rfl⟩
  · obtain ⟨ys, e1, hz, e2⟩ := ev_lst e9
    cases e2
    refine tEs.go S N e1 fun B ys k em SB _ r => ⟨by rw [← r.len]; exact hz, fun p hp => ?_⟩
    have q' := Post.step q k
    rw [← em] at q'
    exact q'.alLst SB r hp
  · obtain ⟨ys, e1, hz, e2⟩ := ev_lst e9
    cases e2
/-! ### built-ins -/
theorem ev_bi {f : Bi} {ms : List ME} {base : Nat} {ρ : Env} {mh mh' : MHp} {v : MV} (e : ev C base (.bi f ms) ρ mh = some (v, mh')) : ∃ xs, evs C base ms ρ mh = some (xs, mh') ∧ biV mh' f xs = some v := by
  simp only [ev] at e
  split at e
  · cases e
  rename_i xs mh1 e1
  simp only [Option.map_eq_some_iff] at e
  obtain ⟨w, e3, e4⟩ := e
  cases e4
  exact ⟨xs, e1, e3⟩
theorem bi_go {f : Bi} {ms : List ME} {r : PySem.W.Frag → List V → Hp → VK → Prop} (hr : BiS f r) (hK : X.K = G.K) {σ : L2.St} {H : Hp} {Q : VK} (h : tE G C (.bi f ms) σ H Q) : tCB (r X.K) (tEs G C ms) σ H Q := by
  obtain ⟨A, ρ, v, mh', rfl, S, N, e, q⟩ := h
  obtain ⟨xs, e1, e2⟩ := ev_bi e
  refine tEs.go S N e1 fun B ys k em SB _ rr => ?_
  rw [hK]
  have q' := Post.step q k
  rw [← em] at q'
  exact hr G B xs v ys Q SB (by rw [em]; exact e2) rr q'
theorem se_biB {f : Bi} {id : String} {es : List Expr} {ms : List ME} {r : PySem.W.Frag → List V → Hp → VK → Prop} {x : Str} (hr : BiS f r) (hc : CallR X (.builtin id) (r X.K)) (hK : X.K = G.K) (hg : Gl X x) (hm : X.mg x = none) (hv : bootBuiltins x = some (.builtin id)) (ha : PA X (e :: es) (tEs G C ms)) (hn : x ≠ "__name__" := by decide) (hdb : (x == ("__debug__" : Str)) = false := by decide)
    (he : starEach (e :: es) X.env = (false, eval e X.env) :: starEach es X.env := by rfl) (hpl : (backTo pos (starEach es X.env)).any (·.1) = false := by rfl) : PE X (.Call (.Name x p) (e :: es) [] pos) (tE G C (.bi f ms)) :=
  (pe_callB hc hg hm hv ha hn hdb he hpl).mono fun _ _ _ h => bi_go hr hK h
theorem se_biT {f : Bi} {id : String} {es : List Expr} {ms : List ME} {r : PySem.W.Frag → List V → Hp → VK → Prop} {x : Str} (hr : BiS f r) (hc : CallR X (.type id) (r X.K)) (hK : X.K = G.K) (hg : Gl X x) (hm : X.mg x = none) (hv : bootBuiltins x = some (.type id)) (ha : PA X (e :: es) (tEs G C ms)) (hn : x ≠ "__name__" := by decide) (hdb : (x == ("__debug__" : Str)) = false := by decide)
    (he : starEach (e :: es) X.env = (false, eval e X.env) :: starEach es X.env := by rfl) (hpl : (backTo pos (starEach es X.env)).any (·.1) = false := by rfl) : PE X (.Call (.Name x p) (e :: es) [] pos) (tE G C (.bi f ms)) :=
  (pe_callTy hc hg hm hv ha hn hdb he hpl).mono fun _ _ _ h => bi_go hr hK h
end
end L2.Mi

set_option Elab.async false
set_option linter.all false
set_option maxRecDepth 100000
set_option maxHeartbeats 4000000
/-! Mini7: calls, isinstance, methods, subscripts, slices. -/
namespace L2.Mi
open PySem PySem.Spec PyProof.Rows

/-! ### calls of defs -/
/-- a def's promise: what the calls' function C tells -/
def spC (G : Gb) (C : CallF) (f n : Nat) : Sp := fun vs H Q _ => vs.length = n ∧ ∃ (A : Wd) (args : List MV) (r : MV) (mh' : MHp), A.H = H ∧ Sim G A ∧ Reps G A args vs ∧ C f args A.mh = some (r, mh') ∧ Post G A mh' r Q
structure FnC (P : Program) (w : World) (K : PySem.W.Frag) (mg : Str → Option Value) (base : Heap) (G : Gb) (C : CallF) (k f : Nat) (a : Addr) : Prop where
  ex : ∃ (fd : FuncData) (ps : List Str), FnOk P w K mg base CX0 k a fd ps (spC G C f ps.length) ∧ PySem.W.keepIn K (.ref a) = true ∧ Binds K fd ps [] ∧ ∀ args mh r, C f args mh = some r → args.length = ps.length
section
variable {G : Gb} {C : CallF} {X : Cx} {pos p : Pos} {e a b c : Expr} {ma mb mc m : ME} {k : Nat}
theorem call_go {f : Nat} {fa : Addr} {ms : List ME} {σ : L2.St} {H : Hp} {Q : VK} {n : Nat} (hl : ∀ args mh r, C f args mh = some r → args.length = n) (h : tE G C (.call f ms) σ H Q) : tCall (spC G C f n) [] E0 (tEs G C ms) σ H Q := by
  obtain ⟨A, ρ, v, mh', rfl, S, N, e, q⟩ := h
  simp only [ev] at e
  split at e
  · cases e
  rename_i xs mh1 e1
  refine tEs.go S N e1 fun B ys kB em SB _ r => ?_
  rw [List.append_nil]
  refine ⟨?_, B, xs, v, mh', rfl, SB, r, by rw [em]; exact e, Post.step q kB⟩
  rw [← r.len]
  exact hl _ _ _ e
theorem se_call {f : Nat} {fa : Addr} {x : Str} {es : List Expr} {ms : List ME} (F : FnC X.prog X.w X.K X.mg X.base G C k f fa) (hr : Room k X.A) (hg : Gl X x) (hm : X.mg x = some (.ref fa)) (ha : PA X (e :: es) (tEs G C ms))
    (hdb : (x == ("__debug__" : Str)) = false := by decide) (he : starEach (e :: es) X.env = (false, eval e X.env) :: starEach es X.env := by rfl) (hpl : (backTo pos (starEach es X.env)).any (·.1) = false := by rfl) :
    PE X (.Call (.Name x p) (e :: es) [] pos) (tE G C (.call f ms)) := by
  obtain ⟨fd, ps, F, hk, hb, hl⟩ := F.ex
  exact (pe_call F hr hg hm hk hb .nil pass0 ha hdb he hpl).mono fun σ H Q h => call_go (fa := fa) hl h
theorem se_call0 {f : Nat} {fa : Addr} {x : Str} (F : FnC X.prog X.w X.K X.mg X.base G C k f fa) (hr : Room k X.A) (hg : Gl X x) (hm : X.mg x = some (.ref fa))
    (hdb : (x == ("__debug__" : Str)) = false := by decide) : PE X (.Call (.Name x p) [] [] pos) (tE G C (.call f [])) := by
  obtain ⟨fd, ps, F, hk, hb, hl⟩ := F.ex
  refine (pe_call0 F hr hg hm hk hb .nil pass0 hdb).mono fun σ H Q h => ?_
  obtain ⟨A, ρ, v, mh', rfl, S, N, e, q⟩ := h
  simp only [ev, evs] at e
  exact ⟨(hl _ _ _ e : [].length = ps.length), A, [], v, mh', rfl, S, by unfold Reps; rfl, e, q⟩
/-- a call of what a name holds -/
theorem se_callv {i : Nat} {x : Str} {es : List Expr} {ms : List ME} (F : ∀ f fa, G.fa f = some fa → FnC X.prog X.w X.K X.mg X.base G C k f fa) (hr : Room k X.A) (hN : X.N[i]? = some x) (hv : Vis X.env.scope x) (ha : PA X (e :: es) (tEs G C ms))
    (hdb : (x == ("__debug__" : Str)) = false := by decide) (hcd : (x == ("__classdict__" : Str)) = false := by decide) (he : starEach (e :: es) X.env = (false, eval e X.env) :: starEach es X.env := by rfl) (hpl : (backTo pos (starEach es X.env)).any (·.1) = false := by rfl) :
    PE X (.Call (.Name x p) (e :: es) [] pos) (tE G C (.callv i ms)) := by
  refine ⟨fun pins s σ H Q I h => ?_⟩
  obtain ⟨A, ρ, v, mh', rfl, S, N, e, q⟩ := h
  simp only [ev] at e
  split at e
  · rename_i f hi
    split at e
    · cases e
    rename_i xs mh1 e1
    obtain ⟨y, hs, ry⟩ := N.2 i _ hi
    unfold Rep at ry
    obtain ⟨fa, hf, rfl⟩ := ry
    obtain ⟨fd, ps, F, hk, hb, hl⟩ := (F f fa hf).ex
    refine (pe_callL (E := E0) F hr hN hv hk hb .nil pass0 ha hdb hcd he hpl).run pins s σ A.H Q I ⟨hs, ?_⟩
    refine tEs.go S N e1 fun B ys kB em SB _ r => ?_
    rw [List.append_nil]
    refine ⟨?_, B, xs, v, mh', rfl, SB, r, by rw [em]; exact e, Post.step q kB⟩
    rw [← r.len]
    exact hl _ _ _ e
  · cases e
/-! ### isinstance -/
def tyN : Ty → String
  | .int => "int"
  | .bool => "bool"
  | .str => "str"
  | .tuple => "tuple"
  | .list => "list"
  | .dict => "dict"
def kindN : String → Ty → Bool
  | "bool", .bool => true
  | "bool", .int => true
  | "int", .int => true
  | "str", .str => true
  | "tuple", .tuple => true
  | "list", .list => true
  | "dict", .dict => true
  | _, _ => false
theorem kit_all {K : PySem.W.Frag} : ∀ n ∈ ["NoneType", "bool", "int", "str", "tuple", "list", "dict"], ∀ t : Ty, PySem.W.kitOne K (.type n) (.type (tyN t)) = some (kindN n t) := by
  intro n hn t
  simp only [List.mem_cons, List.not_mem_nil, or_false] at hn
  rcases hn with rfl | rfl | rfl | rfl | rfl | rfl | rfl <;> cases t <;> exact kit_ty (by decide +kernel)
theorem isTy_of {A : Wd} (S : Sim G A) {x : MV} {t : Ty} {b : Bool} {v : V} (e : isTy x t A.mh = some b) (r : Rep G A x v) : ∃ n, n ∈ ["NoneType", "bool", "int", "str", "tuple", "list", "dict"] ∧ TyX G.K A.H v (.type n) ∧ kindN n t = b := by
  have tupX : ∀ {xs : List MV}, Rep G A (.tup xs) v → TyX G.K A.H v (.type "tuple") := fun {xs} r => by
    obtain ⟨a, vs, rfl, h1, _⟩ := r.tup_
    rcases h1 with (h1 | ⟨o, h1⟩) | ⟨o, its, n, h1, h2, _⟩
    · exact .base (.tup h1)
    · exact .fTuple h1
    · exact .kTuple h1 h2
  cases x with
  | non => cases t <;> cases e <;> exact ⟨"NoneType", by decide, by rw [r.non_]; exact .base .non, rfl⟩
  | bl c => cases t <;> cases e <;> exact ⟨"bool", by decide, by rw [r.bl_]; exact .base (.bl _), rfl⟩
  | int i => cases t <;> cases e <;> exact ⟨"int", by decide, by rw [r.int_]; exact .base (.int _), rfl⟩
  | str s => cases t <;> cases e <;> exact ⟨"str", by decide, by rw [r.str_]; exact .base (.str _), rfl⟩
  | tup xs => cases t <;> cases e <;> exact ⟨"tuple", by decide, tupX r, rfl⟩
  | lst xs =>
    have hL : TyX G.K A.H v (.type "list") := by
      unfold Rep at r
      obtain ⟨a, vs, rfl, h1, _⟩ := r
      exact .base (.lst h1)
    cases t <;> cases e <;> exact ⟨"list", by decide, hL, rfl⟩
  | loc l =>
    simp only [isTy] at e
    split at e
    · rename_i ys hl
      obtain ⟨a, rfl, e2⟩ := r.loc_
      obtain ⟨vs, e3, r3⟩ := S.obj _ _ hl a e2
      cases t <;> cases e <;> exact ⟨"list", by decide, .base (.lst e3), rfl⟩
    · rename_i ys ks hl
      obtain ⟨a, rfl, e2⟩ := r.loc_
      obtain ⟨vs, e3, r3⟩ := S.obj _ _ hl a e2
      cases t <;> cases e <;> exact ⟨"dict", by decide, .base (.dK e3), rfl⟩
    · cases e
  | dct ks vs =>
    have hD : TyX G.K A.H v (.type "dict") := by
      unfold Rep at r
      obtain ⟨a, vs, rfl, h1 | ⟨o, h1⟩, _⟩ := r
      · exact .base (.dK h1)
      · exact .fDict h1
    cases t <;> cases e <;> exact ⟨"dict", by decide, hD, rfl⟩
  | fn f => cases t <;> cases e
  | scr ns => cases t <;> cases e
theorem se_isi {x y : Str} {p2 : Pos} {t : Ty} (hK : X.K = G.K) (hg : Gl X x) (hm : X.mg x = none) (hv : bootBuiltins x = some (.builtin "isinstance")) (hg2 : Gl X y) (hm2 : X.mg y = none) (hv2 : bootBuiltins y = some (.type (tyN t))) (ha : PE X e (tE G C m))
    (hn : x ≠ "__name__" := by decide) (hdb : (x == ("__debug__" : Str)) = false := by decide) (hn2 : y ≠ "__name__" := by decide) (hdb2 : (y == ("__debug__" : Str)) = false := by decide)
    (he : starEach [e, .Name y p2] X.env = (false, eval e X.env) :: starEach [.Name y p2] X.env := by rfl) (hpl : (backTo pos (starEach [.Name y p2] X.env)).any (·.1) = false := by rfl) :
    PE X (.Call (.Name x p) [e, .Name y p2] [] pos) (tE G C (.isi m t)) := by
  refine (pe_callB call_isi hg hm hv (pa_cons ha (pa_cons (pe_bltn (v := .ty (tyN t)) hg2 hm2 hv2 rfl hn2 hdb2) pa_nil) he) hn hdb he hpl).mono fun σ H Q h => ?_
  obtain ⟨A, ρ, v, mh', rfl, S, N, e, q⟩ := h
  simp only [ev] at e
  split at e
  · cases e
  rename_i z mh1 e1
  simp only [Option.map_eq_some_iff] at e
  obtain ⟨w, e3, e4⟩ := e
  cases e4
  refine tE.go S N e1 fun B vx kB em SB _ r => ?_
  obtain ⟨n, h1, h2, h3⟩ := isTy_of SB (by rw [em]; exact e3) r
  refine ⟨vx, .ty (tyN t), .type n, .type (tyN t), w, rfl, .ty _, by rw [hK]; exact h2, ?_, q B _ kB em SB (rep_bl w)⟩
  rw [← h3]
  exact kit_all n h1 t
/-! ### methods -/
/-- the receiver's kind -/
def meT : Me → String
  | .upper => "str"
  | .get2 => "dict"
  | _ => "list"
theorem tyM_of {A : Wd} (S : Sim G A) {x : MV} {mm : Me} {v : V} (e : tyM A.mh mm x = true) (r : Rep G A x v) (hg : mm ≠ .get2) : tyV G.K (meT mm) v A.H := by
  have lists : (liveL A.mh x).isSome = true → tyV G.K "list" v A.H := fun e => by
    obtain ⟨⟨l, xs⟩, e⟩ := Option.isSome_iff_exists.mp e
    obtain ⟨_, a, vs, _, rfl, h1, _⟩ := liveL_rep S e r
    exact .inl ⟨rfl, vs, SqL.of h1⟩
  cases mm with
  | append => exact lists e
  | extend => exact lists e
  | pop => exact lists e
  | popAt => exact lists e
  | upper =>
    cases x with
    | str s => rw [r.str_]; rfl
    | _ => cases e
  | get2 => exact absurd rfl hg
theorem ev_meth {mm : Me} {ms : List ME} {base : Nat} {ρ : Env} {mh mh' : MHp} {v : MV} (e : ev C base (.meth mm m ms) ρ mh = some (v, mh')) : ∃ x mh1 xs mh2, ev C base m ρ mh = some (x, mh1) ∧ tyM mh1 mm x = true ∧ evs C base ms ρ mh1 = some (xs, mh2) ∧ methV base mh2 mm x xs = some (v, mh') := by
  simp only [ev] at e
  split at e
  · cases e
  rename_i x mh1 e1
  split at e
  · rename_i ht
    split at e
    · cases e
    rename_i xs mh2 e2
    exact ⟨x, mh1, xs, mh2, e1, ht, e2, e⟩
  · cases e
theorem se_meth {mm : Me} {name : Str} {id : String} {apos cpos : Pos} {es : List Expr} {ms : List ME} {r : PySem.W.Frag → V → List V → Hp → VK → Prop} (hr : MeS mm r) (hK : X.K = G.K)
    (pa : PlainAttrs (meT mm)) (slot : Slot (meT mm) name id) (hty : typeOf (.builtin id) = pure (.type "method_descriptor")) (hm : MtR X id (r X.K)) (ho : PE X a (tE G C m)) (ha : PA X (e :: es) (tEs G C ms))
    (hbase : attributeBase a name X.env (eval a X.env) = eval a X.env := by rfl)
    (hfew : ((backTo cpos (starEach (e :: es) X.env)).all (fun x => !x.1) && (backToKw cpos (keywordEach [] X.env)).all (fun x => x.1.isSome)
      && decide ((e :: es).length + ([] : List Keyword).length + (if ([] : List Keyword).isEmpty then 0 else 1) < 30)) = true := by rfl)
    (hline : (apos.endLine == cpos.line) = true := by rfl) (hs : starEach (e :: es) X.env = (false, eval e X.env) :: starEach es X.env := by rfl) (hplain : (backTo cpos (starEach es X.env)).any (·.1) = false := by rfl)
    (hg : mm ≠ .get2 := by exact fun h => nomatch h) : PE X (.Call (.Attribute a name apos) (e :: es) [] cpos) (tE G C (.meth mm m ms)) := by
  refine (pe_bm pa slot hty hm ho ha hbase hfew hline hs hplain).mono fun σ H Q h => ?_
  obtain ⟨A, ρ, v, mh', rfl, S, N, e, q⟩ := h
  obtain ⟨x, mh1, xs, mh2, e1, ht, e2, e3⟩ := ev_meth e
  refine tE.go S N e1 fun B vx kB em SB NB rx => ⟨by rw [hK]; exact tyM_of SB (by rw [em]; exact ht) rx hg, ?_⟩
  refine tEs.go SB NB (evs.at kB em e2) fun B2 ys k2 em2 S2 _ r2 => ?_
  rw [hK]
  exact hr G B2 x xs v mh' vx ys Q S2 (by rw [(kB.trans k2).base, em2]; exact e3) (Rep.keep SB k2 _ _ rx) r2 (Post.step q (kB.trans k2))
theorem se_meth0 {mm : Me} {name : Str} {id : String} {apos cpos : Pos} {r : PySem.W.Frag → V → List V → Hp → VK → Prop} (hr : MeS mm r) (hK : X.K = G.K)
    (pa : PlainAttrs (meT mm)) (slot : Slot (meT mm) name id) (hty : typeOf (.builtin id) = pure (.type "method_descriptor")) (hm : MtR X id (r X.K)) (ho : PE X a (tE G C m))
    (hbase : attributeBase a name X.env (eval a X.env) = eval a X.env := by rfl) (hline : (apos.endLine == cpos.line) = true := by rfl)
    (hg : mm ≠ .get2 := by exact fun h => nomatch h) : PE X (.Call (.Attribute a name apos) [] [] cpos) (tE G C (.meth mm m [])) := by
  refine (pe_bm0 pa slot hty hm ho hbase hline).mono fun σ H Q h => ?_
  obtain ⟨A, ρ, v, mh', rfl, S, N, e, q⟩ := h
  obtain ⟨x, mh1, xs, mh2, e1, ht, e2, e3⟩ := ev_meth e
  simp only [evs] at e2
  cases e2
  refine tE.go S N e1 fun B vx kB em SB NB rx => ⟨by rw [hK]; exact tyM_of SB (by rw [em]; exact ht) rx hg, ?_⟩
  rw [hK]
  exact hr G B x [] v mh' vx [] Q SB (by rw [kB.base, em]; exact e3) rx (by unfold Reps; rfl) (Post.step q kB)
/-! ### subscripts, slices -/
theorem PE.or' {X : Cx} {e : Expr} {t t' : TE} (h : PE X e t) (h' : PE X e t') : PE X e (fun σ H Q => t σ H Q ∨ t' σ H Q) := ⟨fun pins s σ H Q I q => q.elim (h.run pins s σ H Q I) (h'.run pins s σ H Q I)⟩
theorem se_sub (hK : X.K = G.K) (hu : X.A.units + 65 < cLine) (ha : PE X a (tE G C ma)) (hb : PE X b (tE G C mb)) (hs : PlainIx b := by intro _ _; rfl) (hs2 : NoSl b := by intro _ _; rfl) : PE X (.Subscript a b pos) (tE G C (.sub ma mb)) := by
  refine (PE.or' (pe_ix ix_seq ha hb hs) (pe_dget (by omega) ha hb hs2)).mono fun σ H Q h => ?_
  obtain ⟨A, ρ, v, mh', rfl, S, N, e, q⟩ := h
  simp only [ev] at e
  split at e
  · cases e
  rename_i x mh1 e1
  split at e
  · cases e
  rename_i y mh2 e2
  simp only [Option.map_eq_some_iff] at e
  obtain ⟨w, e3, e4⟩ := e
  cases e4
  rcases subV_cases e3 with e3 | e3
  · refine .inl (tE.go S N e1 fun B vx kB em SB NB rx => tE.go SB NB (ev.at kB em e2) fun B2 vy k2 em2 S2 N2 ry => ?_)
    rw [hK]
    refine sub_of S2 (by rw [em2]; exact e3) (Rep.keep SB k2 _ _ rx) ry ?_
    rw [em2]
    exact Post.step q (kB.trans k2)
  · refine .inr (tE.go S N e1 fun B vx kB em SB NB rx => tE.go SB NB (ev.at kB em e2) fun B2 vy k2 em2 S2 N2 ry => ?_)
    refine subD_of' S2 (by rw [em2]; exact e3) (Rep.keep SB k2 _ _ rx) ry ?_
    rw [em2]
    exact Post.step q (kB.trans k2)
/-! d.get(k, x) -/
theorem se_get2 {apos cpos : Pos} {f : Expr} {mf : ME} (hu : X.A.units + 65 < cLine) (ho : PE X a (tE G C ma)) (he : PE X b (tE G C mb)) (hf : PE X f (tE G C mf))
    (h1 : attributeBase a "get" X.env (eval a X.env) = eval a X.env := by rfl)
    (h2 : ((backTo cpos (starEach [b, f] X.env)).all (fun x => !x.1) && (backToKw cpos (keywordEach [] X.env)).all (fun x => x.1.isSome) && decide (([b, f] : List Expr).length + ([] : List Keyword).length + (if ([] : List Keyword).isEmpty then 0 else 1) < 30)) = true := by rfl)
    (h3 : (apos.endLine == cpos.line) = true := by rfl) (h4 : backTo cpos (starEach [b, f] X.env) = [(false, eval b X.env), (false, eval f X.env)] := by rfl) :
    PE X (.Call (.Attribute a "get" apos) [b, f] [] cpos) (tE G C (.meth .get2 ma [mb, mf])) := by
  refine (pe_dget2 (by omega) ho he hf ⟨h1, h2, h3, h4⟩).mono fun σ H Q h => ?_
  obtain ⟨A, ρ, v, mh', rfl, S, N, e, q⟩ := h
  obtain ⟨x, mh1, xs, mh2, e1, ht, e2, e3⟩ := ev_meth e
  simp only [evs] at e2
  split at e2
  · cases e2
  rename_i y mh3 e4
  split at e2
  · cases e2
  rename_i zs mh4 e5
  split at e5
  · cases e5
  rename_i z mh5 e6
  cases e5
  cases e2
  obtain ⟨⟨ks, ms⟩, hd⟩ := Option.isSome_iff_exists.mp (show (getD mh1 x).isSome = true from ht)
  simp only [methV, getV] at e3
  split at e3
  · rename_i ls ns y' d' q1 q2
    cases q2
    simp only [Option.map_eq_some_iff] at e3
    obtain ⟨k, e7, e8⟩ := e3
    cases e8
    refine tE.go S N e1 fun B vx kB em SB NB rx => ?_
    obtain ⟨a', vs, rfl, hH, hl, r⟩ := getD_rep SB (by rw [em]; exact hd) rx
    refine ⟨a', rfl, .inl ⟨_, hH⟩, tE.go SB NB (ev.at kB em e4) fun B2 vy k2 em2 S2 N2 ry => tE.go S2 N2 (ev.at (kB.trans k2) em2 e6) fun B3 vz k3 em3 S3 N3 rz => ?_⟩
    have rx3 := Rep.keep S2 k3 _ _ (Rep.keep SB k2 _ _ rx)
    obtain ⟨a2, vs2, ea, hH2, hl2, r2⟩ := getD_rep S3 (by rw [em3]; exact q1) rx3
    cases ea
    have ry3 := Rep.keep S2 k3 _ _ ry
    refine ⟨_, .inl ⟨_, kOf k, hH2, kyV_rep e7 ry3, rfl⟩, ?_⟩
    cases q5 : dLook ls ns k with
    | some m =>
      obtain ⟨w, q6, q7⟩ := look_some hl2 r2 q5
      rw [q6]
      rw [q5] at q
      exact q B3 w ((kB.trans k2).trans k3) em3 S3 q7
    | none =>
      rw [look_none hl2 r2 q5]
      rw [q5] at q
      exact q B3 vz ((kB.trans k2).trans k3) em3 S3 rz
  · cases e3
theorem se_slcL {p2 : Pos} (hK : X.K = G.K) (ha : PE X a (tE G C ma)) (hb : PE X b (tE G C mb)) : PE X (.Subscript a (.Slice (some b) none none p2) pos) (tE G C (.slcL ma mb)) := by
  refine (pe_slice sl_ok ha (po_some hb) po_none).mono fun σ H Q h => ?_
  obtain ⟨A, ρ, v, mh', rfl, S, N, e, q⟩ := h
  simp only [ev] at e
  split at e
  · cases e
  rename_i x mh1 e1
  split at e
  · rename_i l mh2 e2
    simp only [Option.map_eq_some_iff] at e
    obtain ⟨w, e3, e4⟩ := e
    cases e4
    refine tE.go S N e1 fun B vx kB em SB NB rx => tE.go SB NB (ev.at kB em e2) fun B2 vy k2 em2 S2 N2 ry => ⟨l, ry.int_, ?_⟩
    show slR X.K vx (some l) none B2.H Q
    rw [hK]
    refine slc_of S2 (by rw [em2]; exact e3) (Rep.keep SB k2 _ _ rx) ?_
    rw [em2]
    exact Post.step q (kB.trans k2)
  · cases e
theorem se_slcH {p2 : Pos} (hK : X.K = G.K) (ha : PE X a (tE G C ma)) (hb : PE X b (tE G C mb)) : PE X (.Subscript a (.Slice none (some b) none p2) pos) (tE G C (.slcH ma mb)) := by
  refine (pe_slice sl_ok ha po_none (po_some hb)).mono fun σ H Q h => ?_
  obtain ⟨A, ρ, v, mh', rfl, S, N, e, q⟩ := h
  simp only [ev] at e
  split at e
  · cases e
  rename_i x mh1 e1
  split at e
  · rename_i l mh2 e2
    simp only [Option.map_eq_some_iff] at e
    obtain ⟨w, e3, e4⟩ := e
    cases e4
    refine tE.go S N e1 fun B vx kB em SB NB rx => ?_
    show tE G C mb σ B.H _
    refine tE.go SB NB (ev.at kB em e2) fun B2 vy k2 em2 S2 N2 ry => ⟨l, ry.int_, ?_⟩
    show slR X.K vx none (some l) B2.H Q
    rw [hK]
    refine slc_of S2 (by rw [em2]; exact e3) (Rep.keep SB k2 _ _ rx) ?_
    rw [em2]
    exact Post.step q (kB.trans k2)
  · cases e
theorem se_slcB {p2 : Pos} (hK : X.K = G.K) (ha : PE X a (tE G C ma)) (hb : PE X b (tE G C mb)) (hc : PE X c (tE G C mc)) : PE X (.Subscript a (.Slice (some b) (some c) none p2) pos) (tE G C (.slcB ma mb mc)) := by
  refine (pe_slice sl_ok ha (po_some hb) (po_some hc)).mono fun σ H Q h => ?_
  obtain ⟨A, ρ, v, mh', rfl, S, N, e, q⟩ := h
  simp only [ev] at e
  split at e
  · cases e
  rename_i x mh1 e1
  split at e
  · rename_i l mh2 e2
    split at e
    · rename_i l' mh3 e3'
      simp only [Option.map_eq_some_iff] at e
      obtain ⟨w, e3, e4⟩ := e
      cases e4
      refine tE.go S N e1 fun B vx kB em SB NB rx => tE.go SB NB (ev.at kB em e2) fun B2 vy k2 em2 S2 N2 ry => ⟨l, ry.int_, ?_⟩
      show tE G C mc σ B2.H _
      refine tE.go S2 N2 (ev.at (kB.trans k2) em2 e3') fun B3 vz k3 em3 S3 _ rz => ⟨l', rz.int_, ?_⟩
      show slR X.K vx (some l) (some l') B3.H Q
      rw [hK]
      refine slc_of S3 (by rw [em3]; exact e3) (Rep.keep S2 k3 _ _ (Rep.keep SB k2 _ _ rx)) ?_
      rw [em3]
      exact Post.step q ((kB.trans k2).trans k3)
    · cases e
  · cases e
end
end L2.Mi

set_option Elab.async false
set_option linter.all false
set_option maxRecDepth 100000
set_option maxHeartbeats 4000000
/-! Mini8: targets; what is walked. -/
namespace L2.Mi
open PySem PySem.Spec PyProof.Rows

/-! ### targets -/
mutual
def tgN : Tg → List Nat
  | .nm i => [i]
  | .tp ts => tgNs ts
def tgNs : List Tg → List Nat
  | [] => []
  | t :: ts => tgN t ++ tgNs ts
end
/-- only the names ns are set -/
def Off (ns : List Nat) (σ σ' : L2.St) : Prop := σ'.length = σ.length ∧ ∀ i, i ∉ ns → σ'[i]? = σ[i]?
theorem Off.refl {ns : List Nat} {σ : L2.St} : Off ns σ σ := ⟨rfl, fun _ _ => rfl⟩
theorem Off.trans {ns ms : List Nat} {σ σ' σ'' : L2.St} (h : Off ns σ σ') (h' : Off ms σ' σ'') : Off (ns ++ ms) σ σ'' :=
  ⟨h'.1.trans h.1, fun i hi => (h'.2 i fun z => hi (List.mem_append_right _ z)).trans (h.2 i fun z => hi (List.mem_append_left _ z))⟩
theorem wipe_get {σ : L2.St} : ∀ {vs : List Nat} {i : Nat}, i < σ.length → (L2.wipe σ vs)[i]? = if i ∈ vs then some none else σ[i]?
  | [], i, hi => by simp [L2.wipe]
  | v :: vs, i, hi => by
    unfold L2.wipe
    by_cases e : v = i
    · subst e
      rw [List.getElem?_set_self (by rw [L2.wipe_length]; exact hi)]
      simp
    · rw [List.getElem?_set_ne e, wipe_get hi]
      have e' : ¬ i = v := fun z => e z.symm
      simp [e']
theorem Off.wipe {ns own : List Nat} {σ σ' : L2.St} (h : Off ns σ σ') (hs : ∀ i ∈ ns, i ∈ own) : L2.wipe σ' own = L2.wipe σ own := by
  apply List.ext_getElem?
  intro i
  by_cases hi : i < σ.length
  · rw [wipe_get hi, wipe_get (by rw [h.1]; exact hi)]
    by_cases hm : i ∈ own
    · rw [if_pos hm, if_pos hm]
    · rw [if_neg hm, if_neg hm]
      exact h.2 i fun z => hm (hs i z)
  · rw [List.getElem?_eq_none (by rw [L2.wipe_length, h.1]; omega), List.getElem?_eq_none (by rw [L2.wipe_length]; omega)]
theorem wipe_wipe {σ : L2.St} {vs : List Nat} : L2.wipe (L2.wipe σ vs) vs = L2.wipe σ vs := by
  apply List.ext_getElem?
  intro i
  by_cases hi : i < σ.length
  · rw [wipe_get (by rw [L2.wipe_length]; exact hi), wipe_get hi]
    by_cases hm : i ∈ vs
    · rw [if_pos hm, if_pos hm]
    · rw [if_neg hm, if_neg hm]
  · rw [List.getElem?_eq_none (by rw [L2.wipe_length, L2.wipe_length]; omega), List.getElem?_eq_none (by rw [L2.wipe_length]; omega)]
def tG (G : Gb) (t : Tg) : TG := fun x σ H Q => ∃ (A : Wd) (ρ ρ' : Env) (v : MV), A.H = H ∧ Sim G A ∧ Envs G A ρ σ ∧ Rep G A v x ∧ asg A.mh t v ρ = some ρ' ∧ ∀ σ', Envs G A ρ' σ' → Off (tgN t) σ σ' → Q σ' H
def tGs (G : Gb) (ts : List Tg) : TGs := fun xs σ H Q => ∃ (A : Wd) (ρ ρ' : Env) (vs : List MV), A.H = H ∧ Sim G A ∧ Envs G A ρ σ ∧ Reps G A vs xs ∧ asgs A.mh ts vs ρ = some ρ' ∧ ∀ σ', Envs G A ρ' σ' → Off (tgNs ts) σ σ' → Q σ' H
theorem _root_.L2.PG.mono {X : Cx} {e : Expr} {t t' : TG} (h : PG X e t) (k : ∀ x σ H Q, t' x σ H Q → t x σ H Q) : PG X e t' := ⟨fun pins s σ H v u Q I r q => h.run pins s σ H v u Q I r (k _ _ _ _ q)⟩
theorem _root_.L2.PGs.mono {X : Cx} {e : List Expr} {t t' : TGs} (h : PGs X e t) (k : ∀ x σ H Q, t' x σ H Q → t x σ H Q) : PGs X e t' := ⟨fun pins s σ H v u Q I r q => h.run pins s σ H v u Q I r (k _ _ _ _ q)⟩
theorem _root_.L2.PI.mono {X : Cx} {tg e : Expr} {t t' : TI} (h : PI X tg e t) (k : ∀ σ H Q, t' σ H Q → t σ H Q) : PI X tg e t' := ⟨fun pins s σ H R I q => h.run pins s σ H R I (k _ _ _ q)⟩
section
variable {G : Gb} {C : CallF} {X : Cx} {pos p : Pos} {e a b c : Expr} {ma mb mc m : ME}
theorem sg_name {i : Nat} {x : Str} (hN : X.N.Nodup) (hi : X.N[i]? = some x) (hx : Loc X.env.scope x) (hf : X.fn x = true ∨ X.env.scope.names.lookup x = some .local := by first | exact .inl rfl | exact .inr rfl | assumption) : PG X (.Name x pos) (tG G (.nm i)) := by
  refine (pg_name hN hi hx hf).mono fun y σ H Q h => ?_
  obtain ⟨A, ρ, ρ', v, rfl, S, N, r, e, q⟩ := h
  simp only [asg] at e
  split at e
  · rename_i hl
    cases e
    refine q _ (N.set r i) ⟨by rw [List.length_set], fun j hj => ?_⟩
    have : i ≠ j := fun z => hj (by rw [z]; simp [tgN])
    rw [List.getElem?_set_ne this]
  · cases e
theorem sgs_nil : PGs X [] (tGs G []) := by
  refine pgs_nil.mono fun y σ H Q h => ?_
  obtain ⟨A, ρ, ρ', vs, rfl, S, N, r, e, q⟩ := h
  cases vs with
  | nil =>
    simp only [asgs] at e
    cases e
    unfold Reps at r
    exact ⟨r, q _ N Off.refl⟩
  | cons => simp only [asgs] at e; cases e
theorem sgs_cons {t : Tg} {ts : List Tg} {es : List Expr} (h1 : PG X e (tG G t)) (h2 : PGs X es (tGs G ts))
    (hs : (assignEach (e :: es) X.env).map (·.2) = assign e X.env :: (assignEach es X.env).map (·.2) := by rfl) : PGs X (e :: es) (tGs G (t :: ts)) := by
  refine (pgs_cons h1 h2 hs).mono fun y σ H Q h => ?_
  obtain ⟨A, ρ, ρ', vs, rfl, S, N, r, e, q⟩ := h
  cases vs with
  | nil => simp only [asgs] at e; cases e
  | cons v vs =>
    simp only [asgs] at e
    split at e
    · cases e
    rename_i ρ1 e1
    unfold Reps at r
    obtain ⟨x, xs, rfl, r1, r2⟩ := r
    refine ⟨x, xs, rfl, A, ρ, ρ1, v, rfl, S, N, r1, e1, fun σ1 N1 o1 => ⟨A, ρ1, ρ', vs, rfl, S, N1, r2, e, fun σ2 N2 o2 => q σ2 N2 ?_⟩⟩
    exact o1.trans o2
theorem asgs_len {mh : MHp} : ∀ {ts : List Tg} {vs : List MV} {ρ ρ' : Env}, asgs mh ts vs ρ = some ρ' → ts.length = vs.length
  | [], [], ρ, ρ', e => rfl
  | [], v :: vs, ρ, ρ', e => by simp only [asgs] at e; cases e
  | t :: ts, [], ρ, ρ', e => by simp only [asgs] at e; cases e
  | t :: ts, v :: vs, ρ, ρ', e => by
    simp only [asgs] at e
    split at e
    · cases e
    rw [List.length_cons, List.length_cons, asgs_len e]
theorem sg_tup {ts : List Tg} {es : List Expr} {k : Nat} (hK : X.K = G.K) (hc : X.calm = true) (h : PGs X es (tGs G ts)) (hl : ts.length = es.length := by rfl)
    (hn : (assignEach es X.env).length = es.length := by rfl) (hst : (assignEach es X.env).findIdx? (·.1) = none := by rfl) : PG X (.Tuple es k pos) (tG G (.tp ts)) := by
  refine (pg_tup hc h hn hst).mono fun y σ H Q h => ?_
  obtain ⟨A, ρ, ρ', v, rfl, S, N, r, e, q⟩ := h
  cases v with
  | tup vs =>
    simp only [asg] at e
    obtain ⟨a, xs, rfl, h1, h2⟩ := r.tup_
    refine ⟨a, xs, rfl, by rw [hK]; exact h1, by rw [← h2.len, ← asgs_len e, hl], A, ρ, ρ', vs, rfl, S, N, h2, e, q⟩
  | _ => simp only [asg] at e; cases e
end

/-! ### what is walked -/
structure Wk (G : Gb) (B : Wd) (J : Its) (I : L2.It) : Prop where
  go : ∀ D, Keep B D → Sim G D → J.ok D.mh → ∀ i, i < J.items.length → I.go i D.H
  stop : ∀ D, Keep B D → Sim G D → J.ok D.mh → I.stop J.items.length D.H
  yld : ∀ D, Keep B D → Sim G D → J.ok D.mh → ∀ i x H', i < J.items.length → I.yld i D.H x H' → ∃ E y, Keep D E ∧ E.mh = D.mh ∧ E.H = H' ∧ Sim G E ∧ J.items[i]? = some y ∧ Rep G E y x
def tI (G : Gb) (C : CallF) (m : ME) : TI := fun σ H R => ∃ (A : Wd) (ρ : Env) (J : Its) (mh' : MHp), A.H = H ∧ Sim G A ∧ Envs G A ρ σ ∧ evI C A.base m ρ A.mh = some (J, mh') ∧ ∀ B I, Keep A B → B.mh = mh' → Sim G B → Wk G B J I → R I B.H
section
variable {G : Gb} {C : CallF} {X : Cx} {tg : Expr} {pos p : Pos} {e a b c : Expr} {ma mb mc m : ME}
def iAny (K : PySem.W.Frag) (tl : TE) : TI := fun σ H R => tl σ H fun x H1 => (∃ a, x = .ref a ∧ (∃ xs, SqL K H1 a xs) ∧ R (Itl K a) H1) ∨ (∃ a, x = .ref a ∧ (∃ xs, SqT K H1 a xs) ∧ R (Itt K a) H1) ∨ (∃ z, x = .str z ∧ R (L2.Its z) H1) ∨ ∃ d kvs, x = .ref d ∧ ((∃ o, H1 d = some (.frz o (.dK kvs)) ∧ R (Itk d o kvs) H1) ∨ (H1 d = some (.dK kvs) ∧ ∀ o, R (Itk d o kvs) (upd H1 d (.frz o (.dK kvs)))))
theorem pi_any {l : Expr} {tl : TE} (hl : PE X l tl) : PI X tg l (iAny X.K tl) := by
  refine ⟨fun pins s σ H R I h => ?_⟩
  refine thn (hl.run pins s σ H _ I h) fun v s1 ⟨x, H1, I1, r1, q1⟩ => ?_
  rcases q1 with ⟨a, rfl, ⟨xs, hq⟩, q⟩ | ⟨a, rfl, ⟨xs, hq⟩, q⟩ | ⟨z, rfl, q⟩ | ⟨d, kvs, rfl, ⟨o, hd, q⟩ | ⟨hd, q⟩⟩
  · cases r1
    obtain ⟨its, _, p, _⟩ := I1.list hq
    exact wpAny_pyIter_list p.isList (pi_one (tk := s1.toks) I1 _ (turn_list a _) ⟨_, Heap.get?_push_size _ rfl, rfl, rfl⟩ q)
  · cases r1
    obtain ⟨its, _, p, _⟩ := I1.tuple hq
    exact wpAny_pyIter_tuple (show s1.heap.IsTuple a its.toArray from p) (pi_one (tk := s1.toks) I1 _ (turn_tuple a _) ⟨_, Heap.get?_push_size _ rfl, rfl, rfl⟩ q)
  · obtain ⟨t, rfl⟩ := r1
    cases ha : z.cps.all (· < 128)
    · exact wpAny_pyIter_wide ha (pi_one (tk := s1.toks) I1 _ (turn_str _ z t "str_iterator" (.inr rfl)) ⟨_, Heap.get?_push_size _ rfl, rfl, rfl⟩ q)
    · exact wpAny_pyIter_ascii ha (pi_one (tk := s1.toks) I1 _ (turn_str _ z t "str_ascii_iterator" (.inl rfl)) ⟨_, Heap.get?_push_size _ rfl, rfl, rfl⟩ q)
  · obtain rfl : v = Value.ref d := r1
    obtain ⟨a1, a2, a3, es, ep, vs, a4, a5, _, _⟩ := I1.frzK hd
    refine iter_keys a1 a2 a3 a4 (pi_one (tk := s1.toks) I1 _ (turn_keys _ a4) ⟨_, Heap.get?_push_size _ rfl, rfl, ?_⟩ q)
    rw [a5] <;> rfl
  · obtain rfl : v = Value.ref d := r1
    obtain ⟨o, I2⟩ := I1.lock hd trivial
    have hl : upd H1 d (.frz o (.dK kvs)) d = some (.frz o (.dK kvs)) := upd_same
    obtain ⟨a1, a2, a3, es, ep, vs, a4, a5, _, _⟩ := I2.frzK hl
    refine iter_keys a1 a2 a3 a4 (pi_one (tk := s1.toks) I2 _ (turn_keys _ a4) ⟨_, Heap.get?_push_size _ rfl, rfl, ?_⟩ (q o))
    rw [a5] <;> rfl
/-- what it walks, by the values at every later world -/
theorem wk_of {B : Wd} {J : Its} {I : L2.It} (W : ∀ D, Keep B D → Sim G D → J.ok D.mh → (∀ i, i < J.items.length → I.go i D.H) ∧ I.stop J.items.length D.H ∧ ∀ i x H', i < J.items.length → I.yld i D.H x H' → H' = D.H ∧ ∃ y, J.items[i]? = some y ∧ Rep G D y x) : Wk G B J I where
  go := fun D k S o => (W D k S o).1
  stop := fun D k S o => (W D k S o).2.1
  yld := fun D k S o i x H' hi y => by
    obtain ⟨e, z, h1, h2⟩ := (W D k S o).2.2 i x H' hi y
    exact ⟨D, z, Keep.refl D, rfl, e.symm, S, h1, h2⟩
theorem wk_list {B : Wd} {J : Its} {a : Addr} (h : ∀ D, Keep B D → Sim G D → J.ok D.mh → ∃ vs, D.H a = some (.lst vs) ∧ Reps G D J.items vs) : Wk G B J (Itl G.K a) := wk_of fun D k S o => by
  obtain ⟨vs, h1, h2⟩ := h D k S o
  have w := walk_list (K := G.K) (a := a) (xs := vs)
  refine ⟨fun i hi => w.goes i D.H (by rw [← h2.len]; exact hi) (SqL.of h1), by rw [h2.len]; exact w.stops D.H (SqL.of h1), fun i x H' hi y => ?_⟩
  obtain ⟨e1, e2⟩ := w.yields i D.H x H' (by rw [← h2.len]; exact hi) (SqL.of h1) y
  exact ⟨e1, _, List.getElem?_eq_getElem hi, h2.at (List.getElem?_eq_getElem hi) e2⟩
theorem wk_tup {B : Wd} {J : Its} {a : Addr} (h : ∀ D, Keep B D → Sim G D → J.ok D.mh → ∃ vs, SqT G.K D.H a vs ∧ Reps G D J.items vs) : Wk G B J (Itt G.K a) := wk_of fun D k S o => by
  obtain ⟨vs, h1, h2⟩ := h D k S o
  have w := walk_tup (K := G.K) (a := a) (xs := vs)
  refine ⟨fun i hi => w.goes i D.H (by rw [← h2.len]; exact hi) h1, by rw [h2.len]; exact w.stops D.H h1, fun i x H' hi y => ?_⟩
  obtain ⟨e1, e2⟩ := w.yields i D.H x H' (by rw [← h2.len]; exact hi) h1 y
  exact ⟨e1, _, List.getElem?_eq_getElem hi, h2.at (List.getElem?_eq_getElem hi) e2⟩
theorem wk_str {B : Wd} {s : Sx} : Wk G B ⟨s.map fun c => .str [c], none⟩ (L2.Its ⟨s.toArray⟩) := wk_of fun D k S o => by
  have w := walk_str (z := ⟨s.toArray⟩)
  have hl : (⟨s.map fun c => .str [c], none⟩ : Its).items.length = (⟨s.toArray⟩ : Str).cps.size := by simp
  refine ⟨fun i hi => w.goes i D.H (by rw [← hl]; exact hi) trivial, by rw [hl]; exact w.stops D.H trivial, fun i x H' hi y => ?_⟩
  obtain ⟨e1, c, e2, rfl⟩ := w.yields i D.H x H' (by rw [← hl]; exact hi) trivial y
  have e2' : s[i]? = some c := by simpa using e2
  exact ⟨e1, .str [c], by simp [e2'], rep_str [c]⟩
theorem wk_range {B : Wd} {lo : Int} {n : Nat} : Wk G B ⟨(List.range n).map fun (k : Nat) => .int (lo + (k : Int)), none⟩ (Itr lo n) := wk_of fun D k S o => by
  have w := walk_range (lo := lo) (n := n)
  have hl : (⟨(List.range n).map fun (k : Nat) => .int (lo + (k : Int)), none⟩ : Its).items.length = n := by simp
  refine ⟨fun i hi => w.goes i D.H (by rw [← hl]; exact hi) trivial, by rw [hl]; exact w.stops D.H trivial, fun i x H' hi y => ?_⟩
  obtain ⟨e1, rfl⟩ := w.yields i D.H x H' (by rw [← hl]; exact hi) trivial y
  have hi' : i < n := by rw [← hl]; exact hi
  exact ⟨e1, .int (lo + (i : Int)), by simp [hi'], rep_int _⟩
/-! a dict that is locked -/
theorem keep_lock {W : Wd} {d : Addr} {o : Obj} {kvs : List (Key × V)} (h : W.H d = some (.dK kvs)) (nx : d ∉ W.ex) : Keep W (W.up d (.frz o (.dK kvs))) := by
  refine ⟨fun _ h => h, fun _ h => .inl h, upd_dom, rfl, ⟨[], by simp⟩, fun a u e _ => ?_, fun a z => .inl z, fun a ha u e _ => by show upd W.H d _ a = _; rw [upd_ne fun z => nx (by rw [← z]; exact ha)]; exact e⟩
  by_cases ha : a = d
  · subst ha
    rw [h] at e
    cases e
    exact ⟨_, upd_same, .inr ⟨o, kvs, rfl, rfl⟩⟩
  · exact ⟨u, by show upd W.H d _ a = _; rw [upd_ne ha]; exact e, .inl rfl⟩
theorem Sim.lock {W : Wd} (S : Sim G W) {d : Addr} {o : Obj} {kvs : List (Key × V)} (h : W.H d = some (.dK kvs)) (n : ¬ W.live d ∧ d ∉ W.ex) : Sim G (W.up d (.frz o (.dK kvs))) where
  len := S.len
  ble := S.ble
  top := S.top
  obj := fun l u e a q => by
    refine (S.obj l u e a q).keep S (keep_lock h n.2) ?_
    exact upd_ne fun z => n.1 (by rw [← z]; exact ⟨l, u, e, q⟩)
  inj := S.inj
  exo := fun a ha => by
    obtain ⟨u, e, nt⟩ := S.exo a ha
    exact ⟨u, by show upd W.H d _ a = _; rw [upd_ne fun z => n.2 (by rw [← z]; exact ha)]; exact e, nt⟩
  exl := S.exl
  bnd := S.bnd
theorem wk_keys {B : Wd} {d : Addr} {o : Obj} {ks : List MKey} {vs : List V} (hl : ks.length = vs.length) (n : ¬ B.live d) (h : B.H d = some (.frz o (.dK ((ks.map kOf).zip vs)))) : Wk G B ⟨ks.map kM, none⟩ (Itk d o ((ks.map kOf).zip vs)) := wk_of fun D k S _ => by
  have hD := k.obj' h n (fun _ z => nomatch z)
  have hz : ((ks.map kOf).zip vs).length = ks.length := by rw [List.length_zip, List.length_map]; omega
  have hi : (⟨ks.map kM, none⟩ : Its).items.length = ks.length := by simp
  refine ⟨fun i hi' => ⟨hD, by rw [hz, ← hi]; exact hi'⟩, ⟨hD, by rw [hz, hi]; exact Nat.le_refl _⟩, fun i x H' hi' y => ?_⟩
  obtain ⟨e, k', v, e1, rfl⟩ := y
  refine ⟨e, ?_⟩
  rw [hi] at hi'
  have e2 : ks[i]? = some ks[i] := List.getElem?_eq_getElem hi'
  have e3 : ((ks.map kOf).zip vs)[i]? = some (kOf ks[i], vs[i]) := by
    rw [List.getElem?_zip_eq_some]
    exact ⟨by rw [List.getElem?_map, e2]; rfl, List.getElem?_eq_getElem (by omega)⟩
  rw [e3] at e1
  cases e1
  exact ⟨kM ks[i], by rw [List.getElem?_map, e2]; rfl, kM_rep _⟩
theorem wk_its {B : Wd} {v : MV} {x : V} {J : Its} {R : It → Hp → Prop} (S : Sim G B) (e : itsOf B.mh v = some J) (r : Rep G B v x) (q : ∀ B' I, Keep B B' → B'.mh = B.mh → Sim G B' → Wk G B' J I → R I B'.H) :
    (∃ a, x = .ref a ∧ (∃ xs, SqL G.K B.H a xs) ∧ R (Itl G.K a) B.H) ∨ (∃ a, x = .ref a ∧ (∃ xs, SqT G.K B.H a xs) ∧ R (Itt G.K a) B.H) ∨ (∃ z, x = .str z ∧ R (L2.Its z) B.H) ∨ ∃ d kvs, x = .ref d ∧ ((∃ o, B.H d = some (.frz o (.dK kvs)) ∧ R (Itk d o kvs) B.H) ∨ (B.H d = some (.dK kvs) ∧ ∀ o, R (Itk d o kvs) (upd B.H d (.frz o (.dK kvs))))) := by
  have q0 : ∀ I, Wk G B J I → R I B.H := fun I w => q B I (Keep.refl B) rfl S w
  cases v with
  | tup xs =>
    cases e
    obtain ⟨a, vs, rfl, h1, h2⟩ := r.tup_
    exact .inr (.inl ⟨a, rfl, ⟨vs, h1⟩, q0 _ (wk_tup fun D k SD o => ⟨vs, k.tup S h1, Reps.keep S k _ _ h2⟩)⟩)
  | lst xs =>
    cases e
    unfold Rep at r
    obtain ⟨a, vs, rfl, h1, h2, h3⟩ := r
    exact .inl ⟨a, rfl, ⟨vs, SqL.of h1⟩, q0 _ (wk_list fun D k SD o => ⟨vs, (k.off h1 h2 (fun _ z => nomatch z)).1, Reps.keep S k _ _ h3⟩)⟩
  | str s =>
    cases e
    rw [r.str_]
    exact .inr (.inr (.inl ⟨_, rfl, q0 _ wk_str⟩))
  | dct ks ms =>
    cases e
    unfold Rep at r
    obtain ⟨a, vs, rfl, h1, h2, h3, h4⟩ := r
    have hl : ks.length = vs.length := by rw [h3]; exact h4.len
    rcases h1 with h1 | ⟨o, h1⟩
    · exact .inr (.inr (.inr ⟨a, _, rfl, .inr ⟨h1, fun o => q (B.up a (.frz o _)) _ (keep_lock h1 h2.2) rfl (S.lock h1 h2) (wk_keys hl h2.1 upd_same)⟩⟩))
    · exact .inr (.inr (.inr ⟨a, _, rfl, .inl ⟨o, h1, q0 _ (wk_keys hl h2.1 h1)⟩⟩))
  | loc l =>
    simp only [itsOf] at e
    split at e
    · rename_i xs hl
      cases e
      obtain ⟨a, rfl, h1⟩ := r.loc_
      obtain ⟨vs, h2, _⟩ := S.obj l _ hl a h1
      refine .inl ⟨a, rfl, ⟨vs, SqL.of h2⟩, q0 _ (wk_list fun D k SD o => ?_)⟩
      have o' : D.mh[l]? = some (some (.lst xs)) := o
      obtain ⟨t, ht⟩ := k.pre
      exact SD.obj l _ o' a (by rw [ht]; exact pre_get h1)
    · cases e
  | _ => cases e
theorem si_any (hK : X.K = G.K) (h : PE X e (tE G C m)) (hm : ∀ base ρ mh, evI C base m ρ mh = match ev C base m ρ mh with
    | none => none
    | some (v, mh1) => (itsOf mh1 v).map (·, mh1) := by intros; simp only [evI] <;> rfl) : PI X tg e (tI G C m) := by
  refine (pi_any h).mono fun σ H R h => ?_
  obtain ⟨A, ρ, J, mh', rfl, S, N, e, q⟩ := h
  rw [hm] at e
  split at e
  · cases e
  rename_i v mh1 e1
  simp only [Option.map_eq_some_iff] at e
  obtain ⟨J', e2, e3⟩ := e
  cases e3
  refine tE.go S N e1 fun B x k em SB NB r => ?_
  rw [hK]
  exact wk_its SB (by rw [em]; exact e2) r fun B' I k' em' SB' w => q B' I (k.trans k') (em'.trans em) SB' w
theorem si_range1 (hg : Gl X "range") (hm : X.mg "range" = none) (ha : PE X a (tE G C ma)) (hs : starEach [a] X.env = [(false, eval a X.env)] := by rfl) : PI X tg (.Call (.Name "range" p) [a] [] pos) (tI G C (.rng1 ma)) := by
  refine (pi_range1 hg hm (sa_cons ha sa_nil hs) hs).mono fun σ H R h => ?_
  obtain ⟨A, ρ, J, mh', rfl, S, N, e, q⟩ := h
  simp only [evI] at e
  split at e
  · rename_i n mh1 e1
    split at e
    · rename_i hn
      cases e
      refine tEs.go (vs := [.int n]) (mh1 := mh') S N (by simp only [evs, e1]) fun B xs k em SB NB r => ?_
      unfold Reps at r
      obtain ⟨v, r', rfl, r1, r2⟩ := r
      unfold Reps at r2
      subst r2
      refine ⟨n, by rw [r1.int_], hn.1, hn.2, q B _ k em SB ?_⟩
      have w := wk_range (G := G) (B := B) (lo := 0) (n := n.toNat)
      simpa using w
    · cases e
  · cases e
theorem si_range2 (hg : Gl X "range") (hm : X.mg "range" = none) (ha : PE X a (tE G C ma)) (hb : PE X b (tE G C mb)) (hs : starEach [a, b] X.env = [(false, eval a X.env), (false, eval b X.env)] := by rfl) (hs2 : starEach [b] X.env = [(false, eval b X.env)] := by rfl) : PI X tg (.Call (.Name "range" p) [a, b] [] pos) (tI G C (.rng2 ma mb)) := by
  refine (pi_range2 hg hm (sa_cons ha (sa_cons hb sa_nil hs2) (by rw [hs, hs2])) hs hs2).mono fun σ H R h => ?_
  obtain ⟨A, ρ, J, mh', rfl, S, N, e, q⟩ := h
  simp only [evI] at e
  split at e
  · rename_i i mh1 e1
    split at e
    · rename_i j mh2 e2
      split at e
      · rename_i hn
        cases e
        refine tEs.go (vs := [.int i, .int j]) (mh1 := mh') S N (by simp only [evs, e1, e2]) fun B xs k em SB NB r => ?_
        unfold Reps at r
        obtain ⟨v, r', rfl, r1, r2⟩ := r
        unfold Reps at r2
        obtain ⟨w, r'', rfl, r3, r4⟩ := r2
        unfold Reps at r4
        subst r4
        exact ⟨i, j, by rw [r1.int_, r3.int_], hn, q B _ k em SB wk_range⟩
      · cases e
    · cases e
  · cases e
end
end L2.Mi

set_option Elab.async false
set_option linter.all false
set_option maxRecDepth 100000
set_option maxHeartbeats 4000000
/-! Mini9: comprehensions. -/
namespace L2.Mi
open PySem PySem.Spec PyProof.Rows

/-! ### a hidden new list -/
theorem put_live {W : Wd} {p : Addr} {o : HO} {a : Addr} : (W.up p o).live a ↔ W.live a := Iff.rfl
mutual
theorem Rep.put {G : Gb} {W : Wd} (S : Sim G W) {p : Addr} (hp : p ∈ W.ex) {o : HO} : ∀ (x : MV) (v : V), Rep G W x v → Rep G (W.up p o) x v
  | .non, v, h => h
  | .bl b, v, h => h
  | .int i, v, h => h
  | .str s, v, h => h
  | .fn f, v, h => h
  | .tup xs, v, h => by
    unfold Rep at h ⊢
    obtain ⟨a, vs, e, h1, h2⟩ := h
    refine ⟨a, vs, e, SqT_cases h1 fun u e' n => ?_, Reps.put S hp xs vs h2⟩
    obtain ⟨w, e9, n9⟩ := S.exo p hp
    have : a ≠ p := fun z => by subst z; rw [e'] at e9; cases e9; exact n n9
    show upd W.H p o a = _
    rw [upd_ne this]; exact e'
  | .lst xs, v, h => by
    unfold Rep at h ⊢
    obtain ⟨a, vs, e, h1, h2, h3⟩ := h
    have : a ≠ p := fun z => h2.2 (by rw [z]; exact hp)
    exact ⟨a, vs, e, by show upd W.H p o a = _; rw [upd_ne this]; exact h1, h2, Reps.put S hp xs vs h3⟩
  | .dct ks ms, v, h => by
    unfold Rep at h ⊢
    obtain ⟨a, vs, e, h1, h2, h3, h4⟩ := h
    have : a ≠ p := fun z => h2.2 (by rw [z]; exact hp)
    exact ⟨a, vs, e, by show Rd (upd W.H p o) a _; unfold Rd; rw [upd_ne this]; exact h1, h2, h3, Reps.put S hp ms vs h4⟩
  | .loc l, v, h => h
  | .scr ns, v, h => by
    unfold Rep at h ⊢
    obtain ⟨a, e, h1⟩ := h
    refine ⟨a, e, ?_⟩
    rcases h1 with ⟨h1, h2⟩ | h1
    · have : a ≠ p := fun z => h2.2 (by rw [z]; exact hp)
      refine .inl ⟨?_, h2⟩
      rcases h1 with h1 | ⟨o', h1⟩
      · exact .inl (by show upd W.H p o a = _; rw [upd_ne this]; exact h1)
      · exact .inr ⟨o', by show upd W.H p o a = _; rw [upd_ne this]; exact h1⟩
    · exact .inr h1
theorem Reps.put {G : Gb} {W : Wd} (S : Sim G W) {p : Addr} (hp : p ∈ W.ex) {o : HO} : ∀ (xs : List MV) (vs : List V), Reps G W xs vs → Reps G (W.up p o) xs vs
  | [], vs, h => h
  | x :: xs, vs, h => by
    unfold Reps at h ⊢
    obtain ⟨v, r, e, h1, h2⟩ := h
    exact ⟨v, r, e, Rep.put S hp x v h1, Reps.put S hp xs r h2⟩
end
theorem ORep.put {G : Gb} {W : Wd} (S : Sim G W) {p : Addr} (hp : p ∈ W.ex) {o : HO} {u : MO} {a : Addr} (h : ORep G W u a) (hn : a ≠ p) : ORep G (W.up p o) u a := by
  cases u with
  | lst xs =>
    obtain ⟨vs, q, r⟩ := h
    exact ⟨vs, by show upd W.H p o a = _; rw [upd_ne hn]; exact q, Reps.put S hp _ _ r⟩
  | dct ks ms =>
    obtain ⟨vs, q, l, r⟩ := h
    exact ⟨vs, by show upd W.H p o a = _; rw [upd_ne hn]; exact q, l, Reps.put S hp _ _ r⟩
theorem Sim.put {G : Gb} {W : Wd} (S : Sim G W) {p : Addr} (hp : p ∈ W.ex) {o : HO} (nt : NoTup o) : Sim G (W.up p o) where
  len := S.len
  ble := S.ble
  top := S.top
  obj := fun l u e a q => (S.obj l u e a q).put S hp fun z => S.exl p hp ⟨l, u, e, by rw [← z]; exact q⟩
  inj := S.inj
  exo := fun a ha => by
    by_cases e : a = p
    · subst e; exact ⟨o, upd_same, nt⟩
    · obtain ⟨u, e1, n⟩ := S.exo a ha
      exact ⟨u, by show upd W.H p o a = _; rw [upd_ne e]; exact e1, n⟩
  exl := S.exl
  bnd := S.bnd
theorem keep_put {B D : Wd} (k : Keep B D) {p : Addr} (hp : B.H p = none) {o : HO} : Keep B (D.up p o) where
  ex := k.ex
  exn := k.exn
  dom := fun a h => upd_dom a (k.dom a h)
  bs := k.bs
  pre := k.pre
  obj := fun a u e n => by
    show ∃ u', upd D.H p o a = some u' ∧ _
    rw [upd_ne (ne_of_none e hp)]
    exact k.obj a u e n
  liv := k.liv
  exk := fun a ha u e n => by
    show upd D.H p o a = _
    rw [upd_ne (ne_of_none e hp)]
    exact k.exk a ha u e n
/-- a new list is hidden -/
abbrev Wd.hid (W : Wd) (p : Addr) (o : HO) : Wd := { W with H := upd W.H p o, ex := p :: W.ex }
theorem keep_hid {W : Wd} {p : Addr} {o : HO} (h : W.H p = none) : Keep W (W.hid p o) where
  ex := fun a h => List.mem_cons_of_mem _ h
  exn := fun a ha => by
    rcases List.mem_cons.mp ha with rfl | ha
    · exact .inr h
    · exact .inl ha
  dom := upd_dom
  bs := rfl
  pre := ⟨[], by simp⟩
  obj := fun a u e _ => ⟨u, by show upd W.H p o a = _; rw [upd_ne (ne_of_none e h)]; exact e, .inl rfl⟩
  liv := fun a z => .inl z
  exk := fun a _ u e _ => by show upd W.H p o a = _; rw [upd_ne (ne_of_none e h)]; exact e
theorem Sim.hid {G : Gb} {W : Wd} (S : Sim G W) {p : Addr} {o : HO} (h : W.H p = none) (nt : NoTup o) : Sim G (W.hid p o) where
  len := S.len
  ble := S.ble
  top := S.top
  obj := fun l u e a q => by
    have r := S.obj l u e a q
    refine r.keep S (keep_hid h) ?_
    obtain ⟨v, e', _⟩ := r.at
    exact upd_ne (ne_of_none e' h)
  inj := S.inj
  exo := fun a ha => by
    rcases List.mem_cons.mp ha with rfl | ha
    · exact ⟨o, upd_same, nt⟩
    · obtain ⟨u, e, n⟩ := S.exo a ha
      exact ⟨u, by show upd W.H p o a = _; rw [upd_ne (ne_of_none e h)]; exact e, n⟩
  exl := fun a ha => by
    rcases List.mem_cons.mp ha with rfl | ha
    · exact (off_new S h).1
    · exact S.exl a ha
  bnd := S.bnd
/-- the hidden ones come out -/
abbrev Wd.out (W : Wd) (ex : List Addr) : Wd := { W with ex := ex }
mutual
theorem Rep.out {G : Gb} {W : Wd} {ex : List Addr} (hx : ∀ a ∈ ex, a ∈ W.ex) : ∀ (x : MV) (v : V), Rep G W x v → Rep G (W.out ex) x v
  | .non, v, h => h
  | .bl b, v, h => h
  | .int i, v, h => h
  | .str s, v, h => h
  | .fn f, v, h => h
  | .tup xs, v, h => by
    unfold Rep at h ⊢
    obtain ⟨a, vs, e, h1, h2⟩ := h
    exact ⟨a, vs, e, h1, Reps.out hx xs vs h2⟩
  | .lst xs, v, h => by
    unfold Rep at h ⊢
    obtain ⟨a, vs, e, h1, h2, h3⟩ := h
    exact ⟨a, vs, e, h1, ⟨h2.1, fun z => h2.2 (hx a z)⟩, Reps.out hx xs vs h3⟩
  | .dct ks ms, v, h => by
    unfold Rep at h ⊢
    obtain ⟨a, vs, e, h1, h2, h3, h4⟩ := h
    exact ⟨a, vs, e, h1, ⟨h2.1, fun z => h2.2 (hx a z)⟩, h3, Reps.out hx ms vs h4⟩
  | .loc l, v, h => h
  | .scr ns, v, h => by
    unfold Rep at h ⊢
    obtain ⟨a, e, h1⟩ := h
    refine ⟨a, e, ?_⟩
    rcases h1 with ⟨h1, h2⟩ | h1
    · exact .inl ⟨h1, h2.1, fun z => h2.2 (hx a z)⟩
    · exact .inr h1
theorem Reps.out {G : Gb} {W : Wd} {ex : List Addr} (hx : ∀ a ∈ ex, a ∈ W.ex) : ∀ (xs : List MV) (vs : List V), Reps G W xs vs → Reps G (W.out ex) xs vs
  | [], vs, h => h
  | x :: xs, vs, h => by
    unfold Reps at h ⊢
    obtain ⟨v, r, e, h1, h2⟩ := h
    exact ⟨v, r, e, Rep.out hx x v h1, Reps.out hx xs r h2⟩
end
theorem Sim.out {G : Gb} {W : Wd} (S : Sim G W) {ex : List Addr} (hx : ∀ a ∈ ex, a ∈ W.ex) : Sim G (W.out ex) where
  len := S.len
  ble := S.ble
  top := S.top
  obj := fun l u e a q => by
    have r := S.obj l u e a q
    cases u with
    | lst xs => obtain ⟨vs, q, r⟩ := r; exact ⟨vs, q, Reps.out hx _ _ r⟩
    | dct ks ms => obtain ⟨vs, q, l, r⟩ := r; exact ⟨vs, q, l, Reps.out hx _ _ r⟩
  inj := S.inj
  exo := fun a ha => S.exo a (hx a ha)
  exl := fun a ha => S.exl a (hx a ha)
  bnd := S.bnd
theorem keep_out {B D : Wd} (k : Keep B D) : Keep B (D.out B.ex) where
  ex := fun a h => h
  exn := fun a h => .inl h
  dom := k.dom
  bs := k.bs
  pre := k.pre
  obj := k.obj
  liv := k.liv
  exk := k.exk
/-- a hidden list comes out as a live one -/
abbrev Wd.fix (W : Wd) (p : Addr) (xs : List MV) (ex : List Addr) : Wd := { W with ex := ex, β := W.β ++ [p], mh := W.mh ++ [some (.lst xs)] }
theorem fix_live {G : Gb} {W : Wd} (S : Sim G W) {p : Addr} {xs : List MV} {ex : List Addr} {a : Addr} (h : (W.fix p xs ex).live a) : W.live a ∨ a = p := by
  obtain ⟨l, o, e1, e2⟩ := h
  have e2' : (W.β ++ [p])[l]? = some a := e2
  rcases app_get e1 with e1 | ⟨rfl, _⟩
  · have hl : l < W.β.length := by rw [S.len]; exact (List.getElem?_eq_some_iff.mp e1).1
    rw [List.getElem?_append_left hl] at e2'
    exact .inl ⟨l, o, e1, e2'⟩
  · rw [← S.len, List.getElem?_append_right (Nat.le_refl _)] at e2'
    simp at e2'
    exact .inr e2'.symm
mutual
theorem Rep.fix {G : Gb} {W : Wd} (S : Sim G W) {p : Addr} (hp : p ∈ W.ex) {ys : List MV} {ex : List Addr} (hx : ∀ a ∈ ex, a ∈ W.ex) : ∀ (x : MV) (v : V), Rep G W x v → Rep G (W.fix p ys ex) x v
  | .non, v, h => h
  | .bl b, v, h => h
  | .int i, v, h => h
  | .str s, v, h => h
  | .fn f, v, h => h
  | .tup xs, v, h => by
    unfold Rep at h ⊢
    obtain ⟨a, vs, e, h1, h2⟩ := h
    exact ⟨a, vs, e, h1, Reps.fix S hp hx xs vs h2⟩
  | .lst xs, v, h => by
    unfold Rep at h ⊢
    obtain ⟨a, vs, e, h1, h2, h3⟩ := h
    exact ⟨a, vs, e, h1, ⟨fun z => (fix_live S z).elim h2.1 fun z => h2.2 (by rw [z]; exact hp), fun z => h2.2 (hx a z)⟩, Reps.fix S hp hx xs vs h3⟩
  | .dct ks ms, v, h => by
    unfold Rep at h ⊢
    obtain ⟨a, vs, e, h1, h2, h3, h4⟩ := h
    exact ⟨a, vs, e, h1, ⟨fun z => (fix_live S z).elim h2.1 fun z => h2.2 (by rw [z]; exact hp), fun z => h2.2 (hx a z)⟩, h3, Reps.fix S hp hx ms vs h4⟩
  | .loc l, v, h => by
    unfold Rep at h ⊢
    obtain ⟨a, e, h1⟩ := h
    exact ⟨a, e, pre_get h1⟩
  | .scr ns, v, h => by
    unfold Rep at h ⊢
    obtain ⟨a, e, h1⟩ := h
    refine ⟨a, e, ?_⟩
    rcases h1 with ⟨h1, h2⟩ | h1
    · exact .inl ⟨h1, fun z => (fix_live S z).elim h2.1 fun z => h2.2 (by rw [z]; exact hp), fun z => h2.2 (hx a z)⟩
    · exact .inr h1
theorem Reps.fix {G : Gb} {W : Wd} (S : Sim G W) {p : Addr} (hp : p ∈ W.ex) {ys : List MV} {ex : List Addr} (hx : ∀ a ∈ ex, a ∈ W.ex) : ∀ (xs : List MV) (vs : List V), Reps G W xs vs → Reps G (W.fix p ys ex) xs vs
  | [], vs, h => h
  | x :: xs, vs, h => by
    unfold Reps at h ⊢
    obtain ⟨v, r, e, h1, h2⟩ := h
    exact ⟨v, r, e, Rep.fix S hp hx x v h1, Reps.fix S hp hx xs r h2⟩
end
theorem fix_get {G : Gb} {W : Wd} (S : Sim G W) {p : Addr} {ys : List MV} {l : Nat} {o : MO} {a : Addr} (e : (W.mh ++ [some (.lst ys)])[l]? = some (some o)) (q : (W.β ++ [p])[l]? = some a) :
    (W.mh[l]? = some (some o) ∧ W.β[l]? = some a) ∨ (l = W.mh.length ∧ o = .lst ys ∧ a = p) := by
  rcases app_get e with e | ⟨rfl, e9⟩
  · have hl : l < W.β.length := by rw [S.len]; exact (List.getElem?_eq_some_iff.mp e).1
    rw [List.getElem?_append_left hl] at q
    exact .inl ⟨e, q⟩
  · rw [← S.len, List.getElem?_append_right (Nat.le_refl _)] at q
    simp at q
    exact .inr ⟨rfl, Option.some.inj e9, q.symm⟩
theorem Sim.fix {G : Gb} {W : Wd} (S : Sim G W) {p : Addr} (hp : p ∈ W.ex) {ys : List MV} {vs : List V} {ex : List Addr} (hx : ∀ a ∈ ex, a ∈ W.ex) (hpx : p ∉ ex) (e : W.H p = some (HO.lst vs)) (r : Reps G W ys vs) : Sim G (W.fix p ys ex) where
  len := by show (W.β ++ [p]).length = (W.mh ++ [some (MO.lst ys)]).length; rw [List.length_append, List.length_append, S.len]; rfl
  ble := fun b hb => by show b ≤ (W.mh ++ [some (MO.lst ys)]).length; rw [List.length_append]; exact Nat.le_trans (S.ble b hb) (Nat.le_add_right _ _)
  top := S.top
  obj := fun l u e' a q => by
    rcases fix_get S e' q with ⟨e1, q1⟩ | ⟨_, rfl, rfl⟩
    · have r := S.obj l u e1 a q1
      cases u with
      | lst xs => obtain ⟨ws, q, r⟩ := r; exact ⟨ws, q, Reps.fix S hp hx _ _ r⟩
      | dct ks ms => obtain ⟨ws, q, l, r⟩ := r; exact ⟨ws, q, l, Reps.fix S hp hx _ _ r⟩
    · exact ⟨vs, e, Reps.fix S hp hx _ _ r⟩
  inj := fun l1 l2 c o1 o2 e1 e2 q1 q2 => by
    rcases fix_get S e1 q1 with ⟨a1, a2⟩ | ⟨a1, _, a2⟩
    · rcases fix_get S e2 q2 with ⟨b1, b2⟩ | ⟨b1, _, b2⟩
      · exact S.inj l1 l2 c _ _ a1 b1 a2 b2
      · exact absurd ⟨l1, o1, a1, by rw [← b2]; exact a2⟩ (S.exl p hp)
    · rcases fix_get S e2 q2 with ⟨b1, b2⟩ | ⟨b1, _, b2⟩
      · exact absurd ⟨l2, o2, b1, by rw [← a2]; exact b2⟩ (S.exl p hp)
      · rw [a1, b1]
  exo := fun a ha => S.exo a (hx a ha)
  exl := fun a ha z => (fix_live S z).elim (S.exl a (hx a ha)) fun z => hpx (by rw [← z]; exact ha)
  bnd := fun b hb l w hl e' => by
    rcases app_get e' with e' | ⟨rfl, _⟩
    · exact S.bnd b hb l w hl e'
    · exact absurd (Nat.lt_of_lt_of_le hl (S.ble b hb)) (Nat.lt_irrefl _)
theorem keep_fix {G : Gb} {B D : Wd} (S : Sim G D) (k : Keep B D) {p : Addr} {ys : List MV} (hp : B.H p = none) : Keep B (D.fix p ys B.ex) where
  ex := fun a h => h
  exn := fun a h => .inl h
  dom := k.dom
  bs := k.bs
  pre := by
    obtain ⟨t, e⟩ := k.pre
    exact ⟨t ++ [p], by show D.β ++ [p] = _; rw [e, List.append_assoc]⟩
  obj := k.obj
  liv := fun a z => (fix_live S z).elim (k.liv a) fun z => .inr (by rw [z]; exact hp)
  exk := k.exk

/-! ### the comprehension -/
noncomputable def compF (C : CallF) (base : Nat) (t : Tg) (own : List Nat) (mc me : ME) (ρ : Env) : MV → MHp → Option (Option MV × MHp) := fun x mh2 => match asg mh2 t x (wipeE ρ own) with
  | none => none
  | some ρ' => match ev C base mc ρ' mh2 with
    | some (.bl true, mh3) => match ev C base me ρ' mh3 with
      | none => none
      | some (y, mh4) => some (some y, mh4)
    | some (.bl false, mh3) => some (none, mh3)
    | _ => none
section
variable {G : Gb} {C : CallF} {X : Cx} {pos p : Pos} {mc me mi m : ME} {t : Tg} {own : List Nat}
theorem ev_comp {base : Nat} {ρ : Env} {mh mh' : MHp} {v : MV} (e : ev C base (.comp t own mi mc me) ρ mh = some (v, mh')) : ∃ J mh1 ys, evI C base mi ρ mh = some (J, mh1) ∧ J.items.length ≤ line ∧ compGo J (compF C base t own mc me ρ) J.items mh1 = some (ys, mh') ∧ v = .lst ys := by
  simp only [ev] at e
  split at e
  · cases e
  rename_i J mh1 e1
  split at e
  · rename_i hl
    split at e
    · cases e
    rename_i ys mh5 e2
    cases e
    exact ⟨J, mh1, ys, e1, hl, e2, rfl⟩
  · cases e
theorem compF_of {base : Nat} {ρ : Env} {mh mh' : MHp} {x : MV} {r : Option MV} (e : compF C base t own mc me ρ x mh = some (r, mh')) : ∃ ρ' c mh3, asg mh t x (wipeE ρ own) = some ρ' ∧ ev C base mc ρ' mh = some (.bl c, mh3) ∧
    ((c = true ∧ ∃ y, ev C base me ρ' mh3 = some (y, mh') ∧ r = some y) ∨ (c = false ∧ mh' = mh3 ∧ r = none)) := by
  unfold compF at e
  split at e
  · cases e
  rename_i ρ' e1
  split at e
  · rename_i mh3 e2
    split at e
    · cases e
    rename_i y mh4 e3
    cases e
    exact ⟨ρ', true, mh3, e1, e2, .inl ⟨rfl, y, e3, rfl⟩⟩
  · rename_i mh3 e2
    cases e
    exact ⟨ρ', false, _, e1, e2, .inr ⟨rfl, rfl, rfl⟩⟩
  · cases e
theorem compGo_nil {J : Its} {f : MV → MHp → Option (Option MV × MHp)} {mh mh' : MHp} {ys : List MV} (e : compGo J f [] mh = some (ys, mh')) : J.ok mh ∧ ys = [] ∧ mh' = mh := by
  unfold compGo at e
  split at e
  · cases e; exact ⟨by assumption, rfl, rfl⟩
  · cases e
theorem compGo_cons {J : Its} {f : MV → MHp → Option (Option MV × MHp)} {x : MV} {xs : List MV} {mh mh' : MHp} {ys : List MV} (e : compGo J f (x :: xs) mh = some (ys, mh')) : J.ok mh ∧ ∃ r mh1 rs, f x mh = some (r, mh1) ∧ compGo J f xs mh1 = some (rs, mh') ∧ ys = r.toList ++ rs := by
  unfold compGo at e
  split at e
  · rename_i ho
    split at e
    · cases e
    rename_i r mh1 e1
    split at e
    · cases e
    rename_i rs mh2 e2
    cases e
    exact ⟨ho, r, mh1, rs, e1, e2, rfl⟩
  · cases e
theorem lc_loop {B : Wd} {ρ : Env} {σ : L2.St} {J : Its} {I : L2.It} {ys : List MV} {mh5 : MHp} {Q : Hp → Prop} (hown : ∀ i ∈ tgN t, i ∈ own) (SB : Sim G B) (NB : Envs G B ρ σ) (wk : Wk G B J I) (hl : J.items.length ≤ line)
    (hc : compGo J (compF C B.base t own mc me ρ) J.items B.mh = some (ys, mh5)) {p : Addr} (hp : B.H p = none)
    (fin : ∀ D vs, Keep B D → Sim G D → p ∈ D.ex → D.mh = mh5 → D.H p = some (.lst vs) → Reps G D ys vs → Q D.H) :
    ∃ W : Nat → Nat → Hp → Prop, (∃ m, W 0 m (upd B.H p (.lst []))) ∧ ∀ i m H, W i m H →
  (I.stop i H ∧ Q H) ∨ (I.go i H ∧ ∃ Nx : Hp → Prop, (∀ H', Nx H' → ∃ m', m' < m ∧ W (i + 1) m' H') ∧ ∀ x H', I.yld i H x H' → tG G t x (L2.wipe σ own) H' fun σ2 H2 => L2.wipe σ2 own = L2.wipe σ own ∧ tT G C mc σ2 H2 fun b H3 =>
    if b = true then tE G C me σ2 H3 fun y H4 => ∃ acc, H4 p = some (.lst acc) ∧ acc.length < sizeLine ∧ Nx (upd H4 p (.lst (acc ++ [y]))) else Nx H3) := by
  let W : Nat → Nat → Hp → Prop := fun i m H => m = J.items.length - i ∧ i ≤ J.items.length ∧ ∃ (D : Wd) (as rs : List MV) (vs : List V), Keep B D ∧ Sim G D ∧ p ∈ D.ex ∧ D.H = H ∧ H p = some (.lst vs) ∧ Reps G D as vs ∧ as.length ≤ i ∧ compGo J (compF C B.base t own mc me ρ) (J.items.drop i) D.mh = some (rs, mh5) ∧ ys = as ++ rs
  have nt : NoTup (.lst ([] : List V)) := ⟨(fun _ z => nomatch z), (fun _ _ z => nomatch z)⟩
  refine ⟨W, ⟨J.items.length, by simp, Nat.zero_le _, B.hid p (.lst []), [], ys, [], keep_hid hp, SB.hid hp nt, by simp, rfl, upd_same, by unfold Reps; rfl, Nat.le_refl _, hc, rfl⟩, ?_⟩
  rintro i m H ⟨rfl, hi, D, as, rs, vs, kD, SD, pD, rfl, eD, rD, lD, cD, yD⟩
  by_cases hlt : i < J.items.length
  · have hd : J.items.drop i = J.items[i] :: J.items.drop (i + 1) := List.drop_eq_getElem_cons hlt
    rw [hd] at cD
    obtain ⟨oD, r, mh1, rs', f1, c1, rfl⟩ := compGo_cons cD
    refine .inr ⟨wk.go D kD SD oD i hlt, fun H' => W (i + 1) (J.items.length - (i + 1)) H', fun H' w => ⟨_, by omega, w⟩, fun x H' y => ?_⟩
    obtain ⟨E, z, kE, mE, rfl, SE, hz, rz⟩ := wk.yld D kD SD oD i x H' hlt y
    have hz' : J.items[i] = z := by
      rw [List.getElem?_eq_getElem hlt] at hz
      exact Option.some.inj hz
    rw [hz', ← mE] at f1
    obtain ⟨ρ', c, mh3, g1, g2, g3⟩ := compF_of f1
    have kBE := kD.trans kE
    refine ⟨E, wipeE ρ own, ρ', z, rfl, SE, (NB.keep SB kBE).wipe own, rz, g1, fun σ' N' off => ⟨?_, ?_⟩⟩
    · rw [off.wipe hown, wipe_wipe]
    have pE : p ∈ E.ex := kE.ex p pD
    have eE : E.H p = some (.lst vs) := kE.exk p pD _ eD (SD.exl p pD)
    have rE : Reps G E as vs := Reps.keep SD kE _ _ rD
    refine tT.go SE N' (by rw [kBE.base]; exact g2) fun F kF mF SF NF => ?_
    have pF : p ∈ F.ex := kF.ex p pE
    have eF : F.H p = some (.lst vs) := kF.exk p pE _ eE (SE.exl p pE)
    have rF : Reps G F as vs := Reps.keep SE kF _ _ rE
    rcases g3 with ⟨rfl, y', g4, rfl⟩ | ⟨rfl, g5, rfl⟩
    · rw [if_pos rfl]
      refine tE.go SF NF (by rw [(kBE.trans kF).base, mF]; exact g4) fun K vx kK mK SK NK rx => ?_
      have pK : p ∈ K.ex := kK.ex p pF
      have eK : K.H p = some (.lst vs) := kK.exk p pF _ eF (SF.exl p pF)
      have rK : Reps G K as vs := Reps.keep SF kK _ _ rF
      refine ⟨vs, eK, ?_, rfl, hlt, K.up p (.lst (vs ++ [vx])), as ++ [y'], rs', vs ++ [vx], keep_put ((kBE.trans kF).trans kK) hp, SK.put pK ⟨(fun _ z => nomatch z), (fun _ _ z => nomatch z)⟩, pK, rfl, upd_same, ?_, ?_, ?_, ?_⟩
      · rw [← rD.len]
        exact Nat.lt_of_le_of_lt lD (Nat.lt_of_lt_of_le hlt hl)
      · exact Reps.put SK pK _ _ (rK.app (Reps.one rx))
      · simp; exact lD
      · show compGo J _ _ K.mh = _
        rw [mK]; exact c1
      · rw [yD]; simp
    · rw [if_neg Bool.false_ne_true]
      refine ⟨rfl, hlt, F, as, rs', vs, kBE.trans kF, SF, pF, rfl, eF, rF, Nat.le_succ_of_le lD, ?_, ?_⟩
      · rw [mF, ← g5]; exact c1
      · rw [yD]; rfl
  · have e : i = J.items.length := by omega
    subst e
    rw [List.drop_length] at cD
    obtain ⟨oD, rfl, e5⟩ := compGo_nil cD
    refine .inl ⟨wk.stop D kD SD oD, fin D vs kD SD pD e5.symm eD ?_⟩
    rw [yD, List.append_nil]
    exact rD
theorem _root_.L2.PTs.mono {X : Cx} {ifs : List Expr} {t t' : TT} (h : PTs X ifs t) (k : ∀ σ H Q, t' σ H Q → t σ H Q) : PTs X ifs t' := ⟨fun pins s σ H Q I q => h.run pins s σ H Q I (k _ _ _ q)⟩
theorem sts_nil : PTs X [] (tT G C (.c (.bl true))) := pts_nil.mono fun σ H Q h => by
  obtain ⟨A, ρ, c, mh', rfl, S, N, e, q⟩ := h
  simp only [ev] at e
  cases e
  exact q A (Keep.refl A) rfl S
theorem lc_frozen {A : Wd} {ρ : Env} {σ : L2.St} {v : MV} {mh' : MHp} {Q : VK} (hown : ∀ i ∈ tgN t, i ∈ own) (S : Sim G A) (N : Envs G A ρ σ) (e : ev C A.base (.comp t own mi mc me) ρ A.mh = some (v, mh')) (q : Post G A mh' v Q) :
    tLc (tI G C mi) (tG G t) (tT G C mc) (tE G C me) own σ A.H Q := by
  obtain ⟨J, mh1, ys, e1, hl, e2, rfl⟩ := ev_comp e
  refine ⟨A, ρ, J, mh1, rfl, S, N, e1, fun B I k em SB wk p hp => ?_⟩
  refine lc_loop hown SB (N.keep S k) wk hl (by rw [k.base, em]; exact e2) hp fun D vs kD SD pD mD eD rD => ?_
  have hx : ∀ a ∈ B.ex, a ∈ D.ex := kD.ex
  refine q (D.out B.ex) (.ref p) (k.trans (keep_out kD)) mD (SD.out hx) ?_
  unfold Rep
  refine ⟨p, vs, rfl, eD, ⟨SD.exl p pD, fun z => ?_⟩, Reps.out hx _ _ rD⟩
  obtain ⟨u, e9, _⟩ := SB.exo p z
  rw [hp] at e9; cases e9
theorem lc_live {A : Wd} {ρ : Env} {σ : L2.St} {v : MV} {mh' : MHp} {Q : VK} (hown : ∀ i ∈ tgN t, i ∈ own) (S : Sim G A) (N : Envs G A ρ σ) (e : ev C A.base (.al (.comp t own mi mc me)) ρ A.mh = some (v, mh')) (q : Post G A mh' v Q) :
    tLc (tI G C mi) (tG G t) (tT G C mc) (tE G C me) own σ A.H Q := by
  rcases ev_al e with ⟨xs, mh5, e9, rfl, rfl⟩ | ⟨ks, vs, mh1, e9, rfl, rfl⟩
  · obtain ⟨J, mh1, ys, e1, hl, e2, e3⟩ := ev_comp e9
    cases e3
    refine ⟨A, ρ, J, mh1, rfl, S, N, e1, fun B I k em SB wk p hp => ?_⟩
    refine lc_loop hown SB (N.keep S k) wk hl (by rw [k.base, em]; exact e2) hp fun D vs kD SD pD mD eD rD => ?_
    have hx : ∀ a ∈ B.ex, a ∈ D.ex := kD.ex
    have hpx : p ∉ B.ex := fun z => by
      obtain ⟨u, e9, _⟩ := SB.exo p z
      rw [hp] at e9; cases e9
    refine q (D.fix p xs B.ex) (.ref p) (k.trans (keep_fix SD kD hp)) (by show D.mh ++ _ = _; rw [mD]) (SD.fix pD hx hpx eD rD) ?_
    unfold Rep
    refine ⟨p, rfl, ?_⟩
    show (D.β ++ [p])[mh5.length]? = some p
    rw [← mD, ← SD.len, List.getElem?_append_right (Nat.le_refl _)]
    simp
  · obtain ⟨J, mh1, ys, e1, hl, e2, e3⟩ := ev_comp e9
    cases e3
end
section
variable {G : Gb} {C : CallF} {X : Cx} {mc me mi : ME} {t : Tg} {elt tg iter : Expr} {ifs : List Expr} {scope : Scope} {own : List (Str × Nat)} {pos : Pos}
theorem se_comp (hown : ∀ i ∈ tgN t, i ∈ own.map (·.2)) (hc : X.calm = true) (hN : X.N.Nodup) (hi : PI X tg iter (tI G C mi)) (ok : BlkOk X.N X.env.scope scope own)
    (hg : ∀ (s : Shared) (H : Hp) (D : Addr) (cl : List (Str × Addr)) (fp : List Addr), PG (X.blk s H scope (compEnvC scope cl D X.env) fp) tg (tG G t)) (ht : ∀ (s : Shared) (H : Hp) (D : Addr) (cl : List (Str × Addr)) (fp : List Addr), PTs (X.blk s H scope (compEnvC scope cl D X.env) fp) ifs (tT G C mc))
    (he : ∀ (s : Shared) (H : Hp) (D : Addr) (cl : List (Str × Addr)) (fp : List Addr), PE (X.blk s H scope (compEnvC scope cl D X.env) fp) elt (tE G C me)) (hs : ∀ x, foldedSetIterable iter X.env x = pure x := by intro _; rfl) :
    PE X (.ListComp elt [⟨tg, iter, ifs, 0⟩] scope pos) (tE G C (.comp t (own.map (·.2)) mi mc me)) := by
  refine (pe_lc hc hN hi ok hg ht he hs).mono fun σ H Q h => ?_
  obtain ⟨A, ρ, v, mh', rfl, S, N, e, q⟩ := h
  exact lc_frozen hown S N e q
theorem sal_comp (hown : ∀ i ∈ tgN t, i ∈ own.map (·.2)) (hc : X.calm = true) (hN : X.N.Nodup) (hi : PI X tg iter (tI G C mi)) (ok : BlkOk X.N X.env.scope scope own)
    (hg : ∀ (s : Shared) (H : Hp) (D : Addr) (cl : List (Str × Addr)) (fp : List Addr), PG (X.blk s H scope (compEnvC scope cl D X.env) fp) tg (tG G t)) (ht : ∀ (s : Shared) (H : Hp) (D : Addr) (cl : List (Str × Addr)) (fp : List Addr), PTs (X.blk s H scope (compEnvC scope cl D X.env) fp) ifs (tT G C mc))
    (he : ∀ (s : Shared) (H : Hp) (D : Addr) (cl : List (Str × Addr)) (fp : List Addr), PE (X.blk s H scope (compEnvC scope cl D X.env) fp) elt (tE G C me)) (hs : ∀ x, foldedSetIterable iter X.env x = pure x := by intro _; rfl) :
    PE X (.ListComp elt [⟨tg, iter, ifs, 0⟩] scope pos) (tE G C (.al (.comp t (own.map (·.2)) mi mc me))) := by
  refine (pe_lc hc hN hi ok hg ht he hs).mono fun σ H Q h => ?_
  obtain ⟨A, ρ, v, mh', rfl, S, N, e, q⟩ := h
  exact lc_live hown S N e q
end
end L2.Mi

set_option Elab.async false
set_option linter.all false
set_option maxRecDepth 100000
set_option maxHeartbeats 4000000
/-! Mini10: statements. -/
namespace L2.Mi
open PySem PySem.Spec PyProof.Rows

def FlOk (G : Gb) (B : Wd) (ρ : Env) (D : Ends) : Fl → Prop
  | .nx => ∀ σ, Envs G B ρ σ → D.nx σ B.H
  | .bk => ∀ σ, Envs G B ρ σ → D.bk σ B.H
  | .ct => ∀ σ, Envs G B ρ σ → D.ct σ B.H
  | .rt v => ∀ x, Rep G B v x → D.rt x B.H
def EndP (G : Gb) (A : Wd) (mh' : MHp) (ρ : Env) (fl : Fl) (D : Ends) : Prop := ∀ B, Keep A B → B.mh = mh' → Sim G B → FlOk G B ρ D fl
def tS (G : Gb) (C : CallF) (s : MS) : TS := fun D σ H => ∃ (A : Wd) (ρ : Env) (fl : Fl) (ρ' : Env) (mh' : MHp), A.H = H ∧ Sim G A ∧ Envs G A ρ σ ∧ ex C A.base s ρ A.mh = some (fl, ρ', mh') ∧ EndP G A mh' ρ' fl D
def tSs (G : Gb) (C : CallF) (ss : List MS) : TS := fun D σ H => ∃ (A : Wd) (ρ : Env) (fl : Fl) (ρ' : Env) (mh' : MHp), A.H = H ∧ Sim G A ∧ Envs G A ρ σ ∧ exs C A.base ss ρ A.mh = some (fl, ρ', mh') ∧ EndP G A mh' ρ' fl D
theorem EndP.step {G : Gb} {A B : Wd} {mh' : MHp} {ρ : Env} {fl : Fl} {D : Ends} (h : EndP G A mh' ρ fl D) (k : Keep A B) : EndP G B mh' ρ fl D := fun K k' e S => h K (k.trans k') e S
theorem _root_.L2.PS.mono {X : Cx} {e : Stmt} {t t' : TS} (h : PS X e t) (k : ∀ D σ H, t' D σ H → t D σ H) : PS X e t' := ⟨fun pins s σ H D I q => h.run pins s σ H D I (k _ _ _ q)⟩
theorem _root_.L2.PSs.mono {X : Cx} {e : List Stmt} {t t' : TS} (h : PSs X e t) (k : ∀ D σ H, t' D σ H → t D σ H) : PSs X e t' := ⟨fun pins s σ H D I q => h.run pins s σ H D I (k _ _ _ q)⟩
section
variable {G : Gb} {C : CallF} {X : Cx} {pos p : Pos} {e a b c : Expr} {ma mb mc m : ME} {st : Stmt} {rest body : List Stmt} {s : MS} {ss ms : List MS}
theorem sss_nil : PSs X [] (tSs G C []) := pss_nil.mono fun D σ H h => by
  obtain ⟨A, ρ, fl, ρ', mh', rfl, S, N, e, q⟩ := h
  simp only [exs] at e
  cases e
  exact q A (Keep.refl A) rfl S σ N
theorem exs_cons {base : Nat} {ρ ρ' : Env} {mh mh' : MHp} {fl : Fl} (e : exs C base (s :: ss) ρ mh = some (fl, ρ', mh')) : (∃ ρ1 mh1, ex C base s ρ mh = some (.nx, ρ1, mh1) ∧ exs C base ss ρ1 mh1 = some (fl, ρ', mh')) ∨ (ex C base s ρ mh = some (fl, ρ', mh') ∧ fl ≠ .nx) := by
  simp only [exs] at e
  split at e
  · rename_i ρ1 mh1 e1
    exact .inl ⟨ρ1, mh1, e1, e⟩
  · rename_i hn
    exact .inr ⟨e, fun z => hn ρ' mh' (by rw [e, z])⟩
theorem sss_cons (h1 : PS X st (tS G C s)) (h2 : PSs X rest (tSs G C ss)) : PSs X (st :: rest) (tSs G C (s :: ss)) := (pss_cons h1 h2).mono fun D σ H h => by
  obtain ⟨A, ρ, fl, ρ', mh', rfl, S, N, e, q⟩ := h
  rcases exs_cons e with ⟨ρ1, mh1, e1, e2⟩ | ⟨e1, hn⟩
  · exact ⟨A, ρ, .nx, ρ1, mh1, rfl, S, N, e1, fun B k em SB σ' N' => ⟨B, ρ1, fl, ρ', mh', rfl, SB, N', by rw [k.base, em]; exact e2, q.step k⟩⟩
  · refine ⟨A, ρ, fl, ρ', mh', rfl, S, N, e1, fun B k em SB => ?_⟩
    have z := q B k em SB
    cases fl with
    | nx => exact absurd rfl hn
    | _ => exact z
theorem ss_pass : PS X (.Pass pos) (tS G C .pass) := ps_pass.mono fun D σ H h => by
  obtain ⟨A, ρ, fl, ρ', mh', rfl, S, N, e, q⟩ := h
  simp only [ex] at e
  cases e
  exact q A (Keep.refl A) rfl S σ N
theorem ss_brk : PS X (.Break pos) (tS G C .brk) := ps_break.mono fun D σ H h => by
  obtain ⟨A, ρ, fl, ρ', mh', rfl, S, N, e, q⟩ := h
  simp only [ex] at e
  cases e
  exact q A (Keep.refl A) rfl S σ N
theorem ss_cnt : PS X (.Continue pos) (tS G C .cnt) := ps_continue.mono fun D σ H h => by
  obtain ⟨A, ρ, fl, ρ', mh', rfl, S, N, e, q⟩ := h
  simp only [ex] at e
  cases e
  exact q A (Keep.refl A) rfl S σ N
theorem ss_doc {x j pos'} : PS X (.Expr (.Constant (.str x) j pos) pos') (tS G C .pass) := ps_doc.mono fun D σ H h => by
  obtain ⟨A, ρ, fl, ρ', mh', rfl, S, N, e, q⟩ := h
  simp only [ex] at e
  cases e
  exact q A (Keep.refl A) rfl S σ N
theorem ss_expr (he : PE X e (tE G C m)) (hs : swapsWith e none pos.line X.env = pure false := by rfl) : PS X (.Expr e pos) (tS G C (.ex m)) := (ps_expr he hs).mono fun D σ H h => by
  obtain ⟨A, ρ, fl, ρ', mh', rfl, S, N, e, q⟩ := h
  simp only [ex] at e
  split at e
  · cases e
  rename_i v mh1 e1
  cases e
  exact tE.go S N e1 fun B x k em SB NB _ => q B k em SB σ NB
theorem ex_set {t : Tg} {base : Nat} {ρ ρ' : Env} {mh mh' : MHp} {fl : Fl} (e : ex C base (.set t m) ρ mh = some (fl, ρ', mh')) : ∃ v, ev C base m ρ mh = some (v, mh') ∧ asg mh' t v ρ = some ρ' ∧ fl = .nx := by
  simp only [ex] at e
  split at e
  · cases e
  rename_i v mh1 e1
  split at e
  · cases e
  rename_i ρ1 e2
  cases e
  exact ⟨v, e1, e2, rfl⟩
theorem ss_set {i : Nat} {x : Str} {pos' : Pos} (hN : X.N.Nodup) (hi : X.N[i]? = some x) (hx : Loc X.env.scope x) (he : PE X e (tE G C m)) (hs : swapsWith e (some (.Name x pos')) pos.line X.env = pure false := by rfl) (hf : X.fn x = true ∨ X.env.scope.names.lookup x = some .local := by first | exact .inl rfl | exact .inr rfl | assumption) :
    PS X (.Assign [.Name x pos'] e pos) (tS G C (.set (.nm i) m)) := (ps_set hN hi hx he hs hf).mono fun D σ H h => by
  obtain ⟨A, ρ, fl, ρ', mh', rfl, S, N, e, q⟩ := h
  obtain ⟨v, e1, e2, rfl⟩ := ex_set e
  simp only [asg] at e2
  split at e2
  · cases e2
    exact tE.go S N e1 fun B x k em SB NB r => q B k em SB _ (NB.set r i)
  · cases e2
theorem ss_asg {t : Tg} {tg : Expr} (he : PE X e (tE G C m)) (hg : PG X tg (tG G t)) (hs : swapsWithSole [tg] e pos.line X.env = pure false := by rfl) (hw : swappedStores [tg] e X.env = pure none := by rfl)
    (h1 : (assignEach [tg] X.env).map (·.2) = [assign tg X.env] := by rfl) : PS X (.Assign [tg] e pos) (tS G C (.set t m)) := (ps_asg he hg hs hw h1).mono fun D σ H h => by
  obtain ⟨A, ρ, fl, ρ', mh', rfl, S, N, e, q⟩ := h
  obtain ⟨v, e1, e2, rfl⟩ := ex_set e
  exact tE.go S N e1 fun B x k em SB NB r => ⟨B, ρ, ρ', v, rfl, SB, NB, r, by rw [em]; exact e2, fun σ' N' _ => q B k em SB σ' N'⟩
theorem ss_setLc {t : Tg} {mi me : ME} {i : Nat} {y : Str} {py : Pos} {elt tg iter : Expr} {ifs : List Expr} {scope : Scope} {own : List (Str × Nat)} {pos spos : Pos} (hown : ∀ i ∈ tgN t, i ∈ own.map (·.2)) (hc : X.calm = true) (hN : X.N.Nodup) (hy : X.N[i]? = some y) (hyl : X.env.scope.names.lookup y = some .local)
    (hsw : swapsWith (.ListComp elt [⟨tg, iter, ifs, 0⟩] scope pos) (some (.Name y py)) spos.line X.env = pure true) (hi : PI X tg iter (tI G C mi)) (ok : BlkOk X.N X.env.scope scope own)
    (hg : ∀ (s : Shared) (H : Hp) (D : Addr) (cl : List (Str × Addr)) (fp : List Addr), PG (X.blk s H scope (compEnvC scope cl D X.env) fp) tg (tG G t)) (ht : ∀ (s : Shared) (H : Hp) (D : Addr) (cl : List (Str × Addr)) (fp : List Addr), PTs (X.blk s H scope (compEnvC scope cl D X.env) fp) ifs (tT G C mc))
    (he : ∀ (s : Shared) (H : Hp) (D : Addr) (cl : List (Str × Addr)) (fp : List Addr), PE (X.blk s H scope (compEnvC scope cl D X.env) fp) elt (tE G C me)) (hs : ∀ x, foldedSetIterable iter X.env x = pure x := by intro _; rfl) :
    PS X (.Assign [.Name y py] (.ListComp elt [⟨tg, iter, ifs, 0⟩] scope pos) spos) (tS G C (.set (.nm i) (.comp t (own.map (·.2)) mi mc me))) := (ps_setLc hc hN hy hyl hsw hi ok hg ht he hs).mono fun D σ H h => by
  obtain ⟨A, ρ, fl, ρ', mh', rfl, S, N, e, q⟩ := h
  obtain ⟨v, e1, e2, rfl⟩ := ex_set e
  simp only [asg] at e2
  split at e2
  · cases e2
    exact lc_frozen hown S N e1 fun B x k em SB r => q B k em SB _ ((N.keep S k).set r i)
  · cases e2
theorem ss_setLcA {t : Tg} {mi me : ME} {i : Nat} {y : Str} {py : Pos} {elt tg iter : Expr} {ifs : List Expr} {scope : Scope} {own : List (Str × Nat)} {pos spos : Pos} (hown : ∀ i ∈ tgN t, i ∈ own.map (·.2)) (hc : X.calm = true) (hN : X.N.Nodup) (hy : X.N[i]? = some y) (hyl : X.env.scope.names.lookup y = some .local)
    (hsw : swapsWith (.ListComp elt [⟨tg, iter, ifs, 0⟩] scope pos) (some (.Name y py)) spos.line X.env = pure true) (hi : PI X tg iter (tI G C mi)) (ok : BlkOk X.N X.env.scope scope own)
    (hg : ∀ (s : Shared) (H : Hp) (D : Addr) (cl : List (Str × Addr)) (fp : List Addr), PG (X.blk s H scope (compEnvC scope cl D X.env) fp) tg (tG G t)) (ht : ∀ (s : Shared) (H : Hp) (D : Addr) (cl : List (Str × Addr)) (fp : List Addr), PTs (X.blk s H scope (compEnvC scope cl D X.env) fp) ifs (tT G C mc))
    (he : ∀ (s : Shared) (H : Hp) (D : Addr) (cl : List (Str × Addr)) (fp : List Addr), PE (X.blk s H scope (compEnvC scope cl D X.env) fp) elt (tE G C me)) (hs : ∀ x, foldedSetIterable iter X.env x = pure x := by intro _; rfl) :
    PS X (.Assign [.Name y py] (.ListComp elt [⟨tg, iter, ifs, 0⟩] scope pos) spos) (tS G C (.set (.nm i) (.al (.comp t (own.map (·.2)) mi mc me)))) := (ps_setLc hc hN hy hyl hsw hi ok hg ht he hs).mono fun D σ H h => by
  obtain ⟨A, ρ, fl, ρ', mh', rfl, S, N, e, q⟩ := h
  obtain ⟨v, e1, e2, rfl⟩ := ex_set e
  simp only [asg] at e2
  split at e2
  · cases e2
    exact lc_live hown S N e1 fun B x k em SB r => q B k em SB _ ((N.keep S k).set r i)
  · cases e2
theorem ss_par {i j : Nat} {x y : Str} {px py pt : Pos} {kt k2 pt2} (hc : X.calm = true) (hN : X.N.Nodup) (hi : X.N[i]? = some x) (hj : X.N[j]? = some y) (hij : i ≠ j)
    (hx : X.env.scope.names.lookup x = some .local) (hy : X.env.scope.names.lookup y = some .local) (ha : PE X a (tE G C ma)) (hb : PE X b (tE G C mb))
    (hw : swappedStores [.Tuple [.Name x px, .Name y py] kt pt] (.Tuple [a, b] k2 pt2) X.env = pure (some [x, y]))
    (hs : swapsWithSole [.Tuple [.Name x px, .Name y py] kt pt] (.Tuple [a, b] k2 pt2) pos.line X.env = pure false := by rfl)
    (hs1 : starEach [a, b] X.env = (false, eval a X.env) :: starEach [b] X.env := by rfl) (hs2 : starEach [b] X.env = (false, eval b X.env) :: starEach [] X.env := by rfl) :
    PS X (.Assign [.Tuple [.Name x px, .Name y py] kt pt] (.Tuple [a, b] k2 pt2) pos) (tS G C (.par i j ma mb)) := (ps_par hc hN hi hj hij hx hy (sa_cons ha (sa_cons hb sa_nil hs2) hs1) hw hs).mono fun D σ H h => by
  obtain ⟨A, ρ, fl, ρ', mh', rfl, S, N, e, q⟩ := h
  simp only [ex] at e
  split at e
  · cases e
  rename_i v mh1 e1
  split at e
  · cases e
  rename_i w mh2 e2
  split at e
  · cases e
    refine tEs.go (vs := [v, w]) (mh1 := mh') S N (by simp only [evs, e1, e2]) fun B xs k em SB NB r => ?_
    unfold Reps at r
    obtain ⟨v', r', rfl, r1, r2⟩ := r
    unfold Reps at r2
    obtain ⟨w', r'', rfl, r3, r4⟩ := r2
    unfold Reps at r4
    subst r4
    exact ⟨v', w', rfl, q B k em SB _ ((NB.set r1 i).set r3 j)⟩
  · cases e
theorem ss_ret (he : PE X e (tE G C m)) : PS X (.Return (some e) pos) (tS G C (.ret m)) := (ps_ret he).mono fun D σ H h => by
  obtain ⟨A, ρ, fl, ρ', mh', rfl, S, N, e, q⟩ := h
  simp only [ex] at e
  split at e
  · cases e
  rename_i v mh1 e1
  cases e
  exact tE.go S N e1 fun B x k em SB NB r => q B k em SB x r
theorem ss_retN : PS X (.Return none pos) (tS G C (.ret (.c .non))) := ps_retN.mono fun D σ H h => by
  obtain ⟨A, ρ, fl, ρ', mh', rfl, S, N, e, q⟩ := h
  simp only [ex, ev] at e
  cases e
  exact q A (Keep.refl A) rfl S _ rep_non
theorem ss_if {sa sb : List Stmt} {na nb : List MS} (hc : PT X c (tT G C mc)) (ha : PSs X sa (tSs G C na)) (hb : PSs X sb (tSs G C nb)) : PS X (.If c sa sb pos) (tS G C (.ite mc na nb)) := (ps_if hc ha hb).mono fun D σ H h => by
  obtain ⟨A, ρ, fl, ρ', mh', rfl, S, N, e, q⟩ := h
  simp only [ex] at e
  split at e
  · rename_i mh1 e1
    refine tT.go S N e1 fun B k em SB NB => ?_
    rw [if_pos rfl]
    exact ⟨B, ρ, fl, ρ', mh', rfl, SB, NB, by rw [k.base, em]; exact e, q.step k⟩
  · rename_i mh1 e1
    refine tT.go S N e1 fun B k em SB NB => ?_
    rw [if_neg Bool.false_ne_true]
    exact ⟨B, ρ, fl, ρ', mh', rfl, SB, NB, by rw [k.base, em]; exact e, q.step k⟩
  · cases e
/-! ### for -/
theorem forGo_nil {J : Its} {f : MV → Env → MHp → Option (Fl × Env × MHp)} {ρ ρ' : Env} {mh mh' : MHp} {fl : Fl} (e : forGo J f [] ρ mh = some (fl, ρ', mh')) : J.ok mh ∧ fl = .nx ∧ ρ' = ρ ∧ mh' = mh := by
  unfold forGo at e
  split at e
  · cases e; exact ⟨by assumption, rfl, rfl, rfl⟩
  · cases e
theorem forGo_cons {J : Its} {f : MV → Env → MHp → Option (Fl × Env × MHp)} {x : MV} {xs : List MV} {ρ ρ' : Env} {mh mh' : MHp} {fl : Fl} (e : forGo J f (x :: xs) ρ mh = some (fl, ρ', mh')) :
    J.ok mh ∧ ∃ g ρ1 mh1, f x ρ mh = some (g, ρ1, mh1) ∧ (((g = .nx ∨ g = .ct) ∧ forGo J f xs ρ1 mh1 = some (fl, ρ', mh')) ∨ (g = .bk ∧ fl = .nx ∧ ρ' = ρ1 ∧ mh' = mh1) ∨ (∃ v, g = .rt v ∧ fl = .rt v ∧ ρ' = ρ1 ∧ mh' = mh1)) := by
  unfold forGo at e
  split at e
  · rename_i ho
    refine ⟨ho, ?_⟩
    split at e
    · cases e
    · rename_i ρ1 mh1 e1; exact ⟨_, _, _, e1, .inl ⟨.inl rfl, e⟩⟩
    · rename_i ρ1 mh1 e1; exact ⟨_, _, _, e1, .inl ⟨.inr rfl, e⟩⟩
    · rename_i ρ1 mh1 e1; cases e; exact ⟨_, _, _, e1, .inr (.inl ⟨rfl, rfl, rfl, rfl⟩)⟩
    · rename_i v ρ1 mh1 e1; cases e; exact ⟨_, _, _, e1, .inr (.inr ⟨v, rfl, rfl, rfl, rfl⟩)⟩
  · cases e
theorem ss_for {t : Tg} {tg iter : Expr} {mi : ME} (hp : PassesOwn (model X.prog X.w) X.A X.env X.xe) (hc : X.calm = true) (hi : PI X tg iter (tI G C mi)) (hg : PG X tg (tG G t)) (hb : PSs X body (tSs G C ms))
    (hs : ∀ x, foldedSetIterable iter X.env x = pure x := by intro _; rfl) : PS X (.For tg iter body [] pos) (tS G C (.for t mi ms)) := (ps_for hp hc hi hg hb hs).mono fun D σ H h => by
  obtain ⟨A, ρ, fl, ρ', mh', rfl, S, N, e, q⟩ := h
  simp only [ex] at e
  split at e
  · cases e
  rename_i J mh1 e1
  refine ⟨A, ρ, J, mh1, rfl, S, N, e1, fun B I k em SB wk => ?_⟩
  let f : MV → Env → MHp → Option (Fl × Env × MHp) := fun x ρ1 mh2 => match asg mh2 t x ρ1 with
      | none => none
      | some ρ2 => exs C A.base ms ρ2 mh2
  let W : Nat → Nat → L2.St → Hp → Prop := fun i m σ H => m = J.items.length - i ∧ i ≤ J.items.length ∧ ∃ (E : Wd) (ρ1 : Env), Keep B E ∧ Sim G E ∧ E.H = H ∧ Envs G E ρ1 σ ∧ forGo J f (J.items.drop i) ρ1 E.mh = some (fl, ρ', mh')
  refine ⟨W, ⟨J.items.length, by simp, Nat.zero_le _, B, ρ, Keep.refl B, SB, rfl, N.keep S k, by rw [em]; exact e⟩, ?_⟩
  rintro i m σ1 H ⟨rfl, hi, E, ρ1, kE, SE, rfl, NE, cE⟩
  by_cases hlt : i < J.items.length
  · have hd : J.items.drop i = J.items[i] :: J.items.drop (i + 1) := List.drop_eq_getElem_cons hlt
    rw [hd] at cE
    obtain ⟨oE, g, ρ2, mh2, f1, c1⟩ := forGo_cons cE
    refine .inr ⟨wk.go E kE SE oE i hlt, fun σ' H' => W (i + 1) (J.items.length - (i + 1)) σ' H', fun σ' H' w => ⟨_, by omega, w⟩, fun x H' y => ?_⟩
    obtain ⟨F, z, kF, mF, rfl, SF, hz, rz⟩ := wk.yld E kE SE oE i x H' hlt y
    have hz' : J.items[i] = z := by
      rw [List.getElem?_eq_getElem hlt] at hz
      exact Option.some.inj hz
    rw [hz', ← mF] at f1
    have f1' : (match asg F.mh t z ρ1 with
      | none => none
      | some ρ2 => exs C A.base ms ρ2 F.mh) = some (g, ρ2, mh2) := f1
    split at f1'
    · cases f1'
    rename_i ρ3 g1
    refine ⟨F, ρ1, ρ3, z, rfl, SF, NE.keep SE kF, rz, g1, fun σ2 N2 off => ?_⟩
    have kAF := k.trans (kE.trans kF)
    refine ⟨F, ρ3, g, ρ2, mh2, rfl, SF, N2, by rw [kAF.base]; exact f1', fun L kL mL SL => ?_⟩
    have kBL := (kE.trans kF).trans kL
    rcases c1 with ⟨hg, c1⟩ | ⟨rfl, rfl, rfl, rfl⟩ | ⟨v, rfl, rfl, rfl, rfl⟩
    · have fin : ∀ σ', Envs G L ρ2 σ' → W (i + 1) (J.items.length - (i + 1)) σ' L.H := fun σ' N' => ⟨rfl, hlt, L, ρ2, kBL, SL, rfl, N', by rw [mL]; exact c1⟩
      rcases hg with rfl | rfl
      · exact fin
      · exact fin
    · exact q L (k.trans kBL) mL SL
    · exact q L (k.trans kBL) mL SL
  · have hi' : i = J.items.length := by omega
    subst hi'
    rw [List.drop_length] at cE
    obtain ⟨oE, rfl, rfl, e5⟩ := forGo_nil cE
    exact .inl ⟨wk.stop E kE SE oE, q E (k.trans kE) e5.symm SE σ1 NE⟩
/-! ### while -/
theorem whileM_of {cf : Env → MHp → Option (Bool × MHp)} {f : Env → MHp → Option (Fl × Env × MHp)} {ρ : Env} {mh : MHp} {r : Fl × Env × MHp} (e : whileM cf f ρ mh = some r) : ∃ n, whileN cf f n ρ mh = some r := by
  unfold whileM at e
  split at e
  · exact ⟨_, e⟩
  · cases e
theorem ss_while (hp : PassesOwn (model X.prog X.w) X.A X.env X.xe) (hc : PT X c (tT G C mc)) (hb : PSs X body (tSs G C ms)) : PS X (.While c body [] pos) (tS G C (.while mc ms)) := (ps_while hp hc hb).mono fun D σ H h => by
  obtain ⟨A, ρ, fl, ρ', mh', rfl, S, N, e, q⟩ := h
  simp only [ex] at e
  obtain ⟨n, e⟩ := whileM_of e
  let cf : Env → MHp → Option (Bool × MHp) := fun ρ1 mh1 => match ev C A.base mc ρ1 mh1 with
      | some (.bl b, mh2) => some (b, mh2)
      | _ => none
  let f : Env → MHp → Option (Fl × Env × MHp) := fun ρ1 mh1 => exs C A.base ms ρ1 mh1
  let W : Nat → L2.St → Hp → Prop := fun n σ H => ∃ (E : Wd) (ρ1 : Env), Keep A E ∧ Sim G E ∧ E.H = H ∧ Envs G E ρ1 σ ∧ whileN cf f n ρ1 E.mh = some (fl, ρ', mh')
  refine ⟨W, ⟨n, A, ρ, Keep.refl A, S, rfl, N, e⟩, ?_⟩
  rintro m σ1 H ⟨E, ρ1, kE, SE, rfl, NE, cE⟩
  cases m with
  | zero => unfold whileN at cE; cases cE
  | succ m =>
    unfold whileN at cE
    have hcf : ∀ {b mh1}, cf ρ1 E.mh = some (b, mh1) → ev C A.base mc ρ1 E.mh = some (.bl b, mh1) := fun {b mh1} z => by
      have z' : (match ev C A.base mc ρ1 E.mh with
        | some (.bl b, mh2) => some (b, mh2)
        | _ => none) = some (b, mh1) := z
      split at z'
      · rename_i b' mh2 e9
        cases z'; exact e9
      · cases z'
    split at cE
    · cases cE
    · rename_i mh1 e1
      cases cE
      refine tT.go SE NE (by rw [kE.base]; exact hcf e1) fun F kF mF SF NF => ?_
      rw [if_neg Bool.false_ne_true]
      exact q F (kE.trans kF) mF SF σ1 NF
    · rename_i mh1 e1
      refine tT.go SE NE (by rw [kE.base]; exact hcf e1) fun F kF mF SF NF => ?_
      rw [if_pos rfl]
      refine ⟨W m, fun σ' H' w => ⟨m, Nat.lt_succ_self m, w⟩, ?_⟩
      have kAF := kE.trans kF
      have go : ∀ {g ρ2 mh2}, f ρ1 mh1 = some (g, ρ2, mh2) → (∀ L, Keep F L → L.mh = mh2 → Sim G L → FlOk G L ρ2 { D with nx := W m, ct := W m, bk := D.nx } g) → tSs G C ms { D with nx := W m, ct := W m, bk := D.nx } σ1 F.H := fun {g ρ2 mh2} z l =>
        ⟨F, ρ1, g, ρ2, mh2, rfl, SF, NF, by rw [kAF.base, mF]; exact z, l⟩
      split at cE
      · cases cE
      · rename_i ρ2 mh2 e2
        exact go e2 fun L kL mL SL σ' N' => ⟨L, ρ2, kAF.trans kL, SL, rfl, N', by rw [mL]; exact cE⟩
      · rename_i ρ2 mh2 e2
        exact go e2 fun L kL mL SL σ' N' => ⟨L, ρ2, kAF.trans kL, SL, rfl, N', by rw [mL]; exact cE⟩
      · rename_i ρ2 mh2 e2
        cases cE
        exact go e2 fun L kL mL SL => q L (kAF.trans kL) mL SL
      · rename_i v ρ2 mh2 e2
        cases cE
        exact go e2 fun L kL mL SL => q L (kAF.trans kL) mL SL
/-! ### o[i] = e, name op= e -/
theorem dPutV_mem {ks : List MKey} {ms : List MV} {k : MKey} {m x : MV} (h : x ∈ dPutV ks ms k m) : x ∈ ms ++ [m] := by
  unfold dPutV at h
  split at h
  · have gen : ∀ (ks : List MKey) (ms : List MV), x ∈ List.zipWith (fun k' m' => if k' = k then m else m') ks ms → x ∈ ms ++ [m] := by
      intro ks
      induction ks with
      | nil => intro ms h; simp at h
      | cons k' ks ih =>
        intro ms h
        cases ms with
        | nil => simp at h
        | cons m' ms =>
          rw [List.zipWith_cons_cons] at h
          rcases List.mem_cons.mp h with h | h
          · split at h
            · subst h; simp
            · subst h; simp
          · exact List.mem_cons_of_mem _ (ih ms h)
    exact gen ks ms h
  · exact h
theorem dct_wr {A : Wd} (S : Sim G A) {l : Nat} {a : Addr} {ks ls : List MKey} {ms ns : List MV} {ws : List V} (hl : A.mh[l]? = some (some (.dct ks ms))) (hb : A.β[l]? = some a) (hz : ls.length = ns.length) (r : Reps G A ns ws) (hbd : ∀ b ∈ A.bs, l < b → bds b ns = true) :
    Keep A (A.wr l a (.dK ((ls.map kOf).zip ws)) (.dct ls ns)) ∧ Sim G (A.wr l a (.dK ((ls.map kOf).zip ws)) (.dct ls ns)) := by
  have k : Keep A (A.wr l a (.dK ((ls.map kOf).zip ws)) (.dct ls ns)) := keep_wr S hl hb
  exact ⟨k, S.wr hl hb ⟨ws, upd_same, hz, Reps.keep S k _ _ r⟩ ⟨(fun _ z => nomatch z), (fun _ _ z => nomatch z)⟩ hbd⟩
/-- d[k] = v, from what was reckoned -/
theorem dput_go {A B3 : Wd} {l : Nat} {ks : List MKey} {ms : List MV} {k : MKey} {v : MV} {vx y : V} {w : V} (S3 : Sim G B3) (hl : B3.mh[l]? = some (some (.dct ks ms))) (ry : Rep G B3 (.loc l) w) (hy : y = kV (kOf k)) (rx : Rep G B3 v vx) (hw : wr B3.base l v = true) (hz : ks.length < line) :
    ∃ a H4, w = .ref a ∧ DPut B3.H a y vx H4 ∧ ∃ W : Wd, W.H = H4 ∧ Keep B3 W ∧ Sim G W ∧ W.mh = B3.mh.set l (some (.dct (dPutK ks k) (dPutV ks ms k v))) := by
  obtain ⟨a, rfl, hb⟩ := ry.loc_
  obtain ⟨vs, eH, h3, rr⟩ := S3.obj l _ hl a hb
  obtain ⟨ws, e1, r1⟩ := dput_rep (k := k) h3 rr rx
  obtain ⟨kW, SW⟩ := dct_wr S3 hl hb (dput_len k v h3) r1 fun b hbs hlb => by
    have h1 : bds b ms = true := S3.bnd b hbs l _ hlb hl
    have h2 : bds b (ms ++ [v]) = true := by
      rw [bds_app, h1]
      show (true && (bd b v && true)) = true
      rw [wr_bd S3 hw hbs hlb]
      rfl
    exact bds_sub h2 fun z hz => dPutV_mem hz
  refine ⟨a, _, rfl, .inl ⟨_, kOf k, eH, hy, ?_, rfl⟩, _, ?_, kW, SW, rfl⟩
  · have : ((ks.map kOf).zip vs).length = ks.length := by rw [List.length_zip, List.length_map, ← rr.len, ← h3, Nat.min_self]
    rw [this]; exact hz
  · rw [e1]
theorem PS.or' {X : Cx} {s : Stmt} {t t' : TS} (h : PS X s t) (h' : PS X s t') : PS X s (fun D σ H => t D σ H ∨ t' D σ H) := ⟨fun pins s σ H D I q => q.elim (h.run pins s σ H D I) (h'.run pins s σ H D I)⟩
theorem ss_sti {o i : Expr} {mo mi : ME} {pos' : Pos} (hu : X.A.units + 65 < cLine) (he : PE X e (tE G C m)) (ho : PE X o (tE G C mo)) (hi : PE X i (tE G C mi))
    (ha : ∀ v, assign (.Subscript o i pos') X.env v = (do
      let ov ← holding [v] (eval o X.env)
      let iv ← holding [v, ov] (eval i X.env)
      standAt pos'
      holding [v, ov, iv] (setItem ov iv v)
      release [v, ov, iv] []) := by intro _; rfl)
    (hs : swapsWithSole [.Subscript o i pos'] e pos.line X.env = pure false := by rfl) (hw : swappedStores [.Subscript o i pos'] e X.env = pure none := by rfl)
    (h1 : (assignEach [.Subscript o i pos'] X.env).map (·.2) = [assign (.Subscript o i pos') X.env] := by rfl) (hs2 : swapsWith e (some (.Subscript o i pos')) pos.line X.env = pure false := by rfl) : PS X (.Assign [.Subscript o i pos'] e pos) (tS G C (.sti mo mi m)) := (PS.or' (ps_asg he (pg_sub ho hi set_list ha) hs hw h1) (ps_dput (by omega) ho hi he hs2)).mono fun D σ H h => by
  obtain ⟨A, ρ, fl, ρ', mh', rfl, S, N, e, q⟩ := h
  simp only [ex] at e
  split at e
  · cases e
  rename_i v mh1 e1
  split at e
  · rename_i l mh2 e2
    split at e
    · rename_i j mh3 e3
      split at e
      · rename_i xs hl
        split at e
        · cases e
        rename_i jj hj
        split at e
        · rename_i hw
          cases e
          refine .inl ?_
          refine tE.go S N e1 fun B x k em SB NB r => tE.go SB NB (ev.at k em e2) fun B2 y k2 em2 S2 N2 r2 => tE.go S2 N2 (ev.at (k.trans k2) em2 e3) fun B3 z k3 em3 S3 N3 r3 => ?_
          rw [← em3] at hl
          obtain ⟨a, rfl, hb⟩ := (Rep.keep S2 k3 _ _ r2).loc_
          obtain ⟨vs, eH, rr⟩ := S3.obj l _ hl a hb
          have rx := Rep.keep S2 k3 _ _ (Rep.keep SB k2 _ _ r)
          have kk := (k.trans k2).trans k3
          obtain ⟨kW, SW⟩ := lst_wr S3 hl hb (rr.set rx jj) fun b hbs hlb => by
            have h1 : bds b xs = true := S3.bnd b hbs l _ hlb hl
            have h2 : bds b (xs ++ [v]) = true := by
              rw [bds_app, h1]
              show (true && (bd b v && true)) = true
              rw [wr_bd S3 (by rw [kk.base]; exact hw) hbs hlb]
              rfl
            exact bds_sub h2 fun z hz => by
              rcases List.mem_or_eq_of_mem_set hz with hz | rfl
              · exact List.mem_append_left _ hz
              · simp
          exact ⟨a, vs, j, jj, rfl, r3.int_, eH, by rw [← rr.len]; exact hj, q _ (kk.trans kW) (by show B3.mh.set l _ = _; rw [em3]) SW _ ((N3.keep S3 kW))⟩
        · cases e
      · rename_i ks ms hl
        split at e
        · rename_i hc
          cases e
          refine .inr ?_
          refine tE.go S N e1 fun B x k em SB NB r => tE.go SB NB (ev.at k em e2) fun B2 y k2 em2 S2 N2 r2 => tE.go S2 N2 (ev.at (k.trans k2) em2 e3) fun B3 z k3 em3 S3 N3 r3 => ?_
          have kk := (k.trans k2).trans k3
          obtain ⟨a, H4, h1, h2, W, rfl, kW, SW, mW⟩ := dput_go (A := A) (k := .inl j) S3 (by rw [em3]; exact hl) (Rep.keep S2 k3 _ _ r2) r3.int_ (Rep.keep S2 k3 _ _ (Rep.keep SB k2 _ _ r)) (by rw [kk.base]; exact hc.1) hc.2
          exact ⟨a, _, h1, h2, q _ (kk.trans kW) (by rw [mW, em3]) SW _ (N3.keep S3 kW)⟩
        · cases e
      · cases e
    · rename_i s mh3 e3
      split at e
      · rename_i ks ms hl
        split at e
        · rename_i hc
          cases e
          refine .inr ?_
          refine tE.go S N e1 fun B x k em SB NB r => tE.go SB NB (ev.at k em e2) fun B2 y k2 em2 S2 N2 r2 => tE.go S2 N2 (ev.at (k.trans k2) em2 e3) fun B3 z k3 em3 S3 N3 r3 => ?_
          have kk := (k.trans k2).trans k3
          obtain ⟨a, H4, h1, h2, W, rfl, kW, SW, mW⟩ := dput_go (A := A) (k := .inr s) S3 (by rw [em3]; exact hl) (Rep.keep S2 k3 _ _ r2) r3.str_ (Rep.keep S2 k3 _ _ (Rep.keep SB k2 _ _ r)) (by rw [kk.base]; exact hc.1) hc.2
          exact ⟨a, _, h1, h2, q _ (kk.trans kW) (by rw [mW, em3]) SW _ (N3.keep S3 kW)⟩
        · cases e
      · cases e
    · cases e
  · cases e
theorem ss_aug {i : Nat} {x : Str} {o : Op} {pos' : Pos} (ho : o = .add ∨ o = .sub) (hN : X.N.Nodup) (hi : X.N[i]? = some x) (hx : Loc X.env.scope x) (he : PE X e (tE G C m)) (hf : X.fn x = true ∨ X.env.scope.names.lookup x = some .local := by first | exact .inl rfl | exact .inr rfl | assumption) :
    PS X (.AugAssign (.Name x pos') (opOf o) e pos) (tS G C (.aug i o m)) := by
  have main : ∀ (f : Int → Int → Int), PIp X (opOf o) (ipI f) → (∀ base ρ mh ρ' mh' fl, ex C base (.aug i o m) ρ mh = some (fl, ρ', mh') → ∃ a b, ρ[i]? = some (some (.int a)) ∧ ev C base m ρ mh = some (.int b, mh') ∧ fl = .nx ∧ ρ' = ρ.set i (some (.int (f a b)))) → PS X (.AugAssign (.Name x pos') (opOf o) e pos) (tS G C (.aug i o m)) := fun f hip hex =>
    (ps_aug hN hi hx he hip hf).mono fun D σ H h => by
      obtain ⟨A, ρ, fl, ρ', mh', rfl, S, N, e, q⟩ := h
      obtain ⟨a, b, e1, e2, rfl, rfl⟩ := hex _ _ _ _ _ _ e
      obtain ⟨y, h1, h2⟩ := N.2 i _ e1
      refine ⟨y, h1, tE.go S N e2 fun B z k em SB NB r => ⟨a, b, h2.int_, r.int_, q B k em SB _ (NB.set (rep_int _) i)⟩⟩
  rcases ho with rfl | rfl
  · refine main (fun a b => a + b) ip_add fun base ρ mh ρ' mh' fl e => ?_
    simp only [ex] at e
    split at e
    · rename_i a ha
      split at e
      · rename_i b mh1 hb
        cases e
        exact ⟨a, b, ha, hb, rfl, rfl⟩
      · cases e
    · cases e
  · refine main (fun a b => a - b) ip_sub fun base ρ mh ρ' mh' fl e => ?_
    simp only [ex] at e
    split at e
    · rename_i a ha
      split at e
      · rename_i b mh1 hb
        cases e
        exact ⟨a, b, ha, hb, rfl, rfl⟩
      · cases e
    · cases e
end
end L2.Mi

set_option Elab.async false
set_option linter.all false
set_option maxRecDepth 100000
set_option maxHeartbeats 4000000
/-! Mini11: a call's entry and exit; all defs of a table. -/
namespace L2.Mi
open PySem PySem.Spec PyProof.Rows

/-! ### worlds that hold less -/
structure Les (A B : Wd) (n : Nat) : Prop where
  H : B.H = A.H
  β : ∀ (l : Nat) (a : Addr), l < n → A.β[l]? = some a → B.β[l]? = some a
  liv : ∀ a, B.live a → A.live a
  ex : ∀ a ∈ B.ex, a ∈ A.ex
mutual
theorem Rep.les {G : Gb} {A B : Wd} {n : Nat} (h : Les A B n) : ∀ (x : MV) (v : V), bd n x = true → Rep G A x v → Rep G B x v
  | .non, v, _, r => r
  | .bl b, v, _, r => r
  | .int i, v, _, r => r
  | .str s, v, _, r => r
  | .fn f, v, _, r => r
  | .tup xs, v, d, r => by
    unfold Rep at r ⊢
    unfold bd at d
    obtain ⟨a, vs, e, h1, h2⟩ := r
    exact ⟨a, vs, e, by rw [h.H]; exact h1, Reps.les h xs vs d h2⟩
  | .lst xs, v, d, r => by
    unfold Rep at r ⊢
    unfold bd at d
    obtain ⟨a, vs, e, h1, h2, h3⟩ := r
    exact ⟨a, vs, e, by rw [h.H]; exact h1, ⟨fun z => h2.1 (h.liv a z), fun z => h2.2 (h.ex a z)⟩, Reps.les h xs vs d h3⟩
  | .dct ks ms, v, d, r => by
    unfold Rep at r ⊢
    unfold bd at d
    obtain ⟨a, vs, e, h1, h2, h3, h4⟩ := r
    exact ⟨a, vs, e, by rw [h.H]; exact h1, ⟨fun z => h2.1 (h.liv a z), fun z => h2.2 (h.ex a z)⟩, h3, Reps.les h ms vs d h4⟩
  | .loc l, v, d, r => by
    unfold Rep at r ⊢
    unfold bd at d
    obtain ⟨a, e, h1⟩ := r
    exact ⟨a, e, h.β l a (of_decide_eq_true d) h1⟩
  | .scr ns, v, _, r => by
    unfold Rep at r ⊢
    obtain ⟨a, e, h1⟩ := r
    refine ⟨a, e, ?_⟩
    rcases h1 with ⟨h1, h2⟩ | h1
    · exact .inl ⟨by rw [h.H]; exact h1, fun z => h2.1 (h.liv a z), fun z => h2.2 (h.ex a z)⟩
    · exact .inr h1
theorem Reps.les {G : Gb} {A B : Wd} {n : Nat} (h : Les A B n) : ∀ (xs : List MV) (vs : List V), bds n xs = true → Reps G A xs vs → Reps G B xs vs
  | [], vs, _, r => r
  | x :: xs, vs, d, r => by
    unfold Reps at r ⊢
    unfold bds at d
    rw [Bool.and_eq_true] at d
    obtain ⟨v, t, e, h1, h2⟩ := r
    exact ⟨v, t, e, Rep.les h x v d.1 h1, Reps.les h xs t d.2 h2⟩
end
theorem ORep.les {G : Gb} {A B : Wd} {n : Nat} (h : Les A B n) {o : MO} {a : Addr} (d : obd n o = true) (r : ORep G A o a) : ORep G B o a := by
  cases o with
  | lst xs => obtain ⟨vs, q, r⟩ := r; exact ⟨vs, by rw [h.H]; exact q, Reps.les h _ _ d r⟩
  | dct ks ms => obtain ⟨vs, q, l, r⟩ := r; exact ⟨vs, by rw [h.H]; exact q, l, Reps.les h _ _ d r⟩
mutual
theorem Rep.bd {G : Gb} {A : Wd} : ∀ (x : MV) (v : V), Rep G A x v → bd A.β.length x = true
  | .non, v, r => rfl
  | .bl b, v, r => rfl
  | .int i, v, r => rfl
  | .str s, v, r => rfl
  | .fn f, v, r => rfl
  | .scr ns, v, r => rfl
  | .tup xs, v, r => by
    unfold Rep at r
    unfold Mi.bd
    obtain ⟨a, vs, e, h1, h2⟩ := r
    exact Reps.bd xs vs h2
  | .lst xs, v, r => by
    unfold Rep at r
    unfold Mi.bd
    obtain ⟨a, vs, e, h1, h2, h3⟩ := r
    exact Reps.bd xs vs h3
  | .dct ks ms, v, r => by
    unfold Rep at r
    unfold Mi.bd
    obtain ⟨a, vs, e, h1, h2, h3, h4⟩ := r
    exact Reps.bd ms vs h4
  | .loc l, v, r => by
    unfold Rep at r
    unfold Mi.bd
    obtain ⟨a, e, h1⟩ := r
    exact decide_eq_true (List.getElem?_eq_some_iff.mp h1).1
theorem Reps.bd {G : Gb} {A : Wd} : ∀ (xs : List MV) (vs : List V), Reps G A xs vs → bds A.β.length xs = true
  | [], vs, r => rfl
  | x :: xs, vs, r => by
    unfold Reps at r
    unfold bds
    obtain ⟨v, t, e, h1, h2⟩ := r
    rw [Rep.bd x v h1, Reps.bd xs t h2]
    rfl
end
theorem ORep.bd {G : Gb} {A : Wd} {o : MO} {a : Addr} (r : ORep G A o a) : obd A.β.length o = true := by
  cases o with
  | lst xs => obtain ⟨vs, q, r⟩ := r; exact Reps.bd _ _ r
  | dct ks ms => obtain ⟨vs, q, l, r⟩ := r; exact Reps.bd _ _ r
/-! ### entry -/
abbrev Wd.ent (A : Wd) : Wd := { A with bs := A.mh.length :: A.bs }
theorem les_ent {A : Wd} (n : Nat) : Les A A.ent n := ⟨rfl, fun _ _ _ h => h, fun _ h => h, fun _ h => h⟩
theorem Sim.ent {G : Gb} {A : Wd} (S : Sim G A) : Sim G A.ent where
  len := S.len
  ble := fun b hb => by
    rcases List.mem_cons.mp hb with rfl | hb
    · exact Nat.le_refl _
    · exact S.ble b hb
  top := fun b hb => by
    show b ≤ A.mh.length
    rcases List.mem_cons.mp hb with rfl | hb
    · exact Nat.le_refl _
    · exact S.ble b hb
  obj := fun l o e a q => (S.obj l o e a q).les (les_ent A.β.length) (S.obj l o e a q).bd
  inj := S.inj
  exo := S.exo
  exl := S.exl
  bnd := fun b hb l o hl e => by
    rcases List.mem_cons.mp hb with rfl | hb
    · have hl' : l < A.β.length := by rw [S.len]; exact hl
      have := (S.obj l o e A.β[l] (List.getElem?_eq_getElem hl')).bd
      rw [S.len] at this
      exact this
    · exact S.bnd b hb l o hl e
theorem envs_start {G : Gb} {A : Wd} {args : List MV} {vs : List V} {N : List Str} {ns : Nat} (hN : N.length = ns) (r : Reps G A args vs) : Envs G A (args.map some ++ List.replicate (ns - args.length) none) (L2.start N vs) := by
  have hl := r.len
  refine ⟨by unfold L2.start; simp [hl, hN], fun i v e => ?_⟩
  by_cases hi : i < args.length
  · rw [List.getElem?_append_left (by simpa using hi)] at e
    rw [List.getElem?_map] at e
    cases q : args[i]? with
    | none => rw [q] at e; cases e
    | some x =>
      rw [q] at e
      cases e
      obtain ⟨w, h1, h2⟩ := r.get q
      refine ⟨w, ?_, h2⟩
      unfold L2.start
      rw [List.getElem?_append_left (by rw [List.length_map, ← hl]; exact hi), List.getElem?_map, h1]
      rfl
  · rw [List.getElem?_append_right (by simpa using hi)] at e
    rw [List.getElem?_replicate] at e
    split at e
    · cases e
    · cases e
/-! ### exit -/
abbrev Wd.exi (A B : Wd) : Wd := { B with bs := A.bs }
theorem les_exi {A B : Wd} (n : Nat) : Les B (A.exi B) n := ⟨rfl, fun _ _ _ h => h, fun _ h => h, fun _ h => h⟩
theorem keep_exi {A B : Wd} (k : Keep A.ent B) : Keep A (A.exi B) := ⟨k.ex, k.exn, k.dom, rfl, k.pre, k.obj, k.liv, k.exk⟩
theorem Sim.exi {G : Gb} {A B : Wd} (SA : Sim G A) (S : Sim G B) (k : Keep A.ent B) : Sim G (A.exi B) where
  len := S.len
  ble := fun b hb => S.ble b (by rw [k.bs]; exact List.mem_cons_of_mem _ hb)
  top := fun b hb => SA.top b hb
  obj := fun l o e a q => (S.obj l o e a q).les (les_exi B.β.length) (S.obj l o e a q).bd
  inj := S.inj
  exo := S.exo
  exl := S.exl
  bnd := fun b hb => S.bnd b (by rw [k.bs]; exact List.mem_cons_of_mem _ hb)
abbrev Wd.cutd (A B : Wd) : Wd := { B with bs := A.bs, mh := B.mh.take A.mh.length, β := B.β.take A.mh.length }
theorem take_lt {α : Type} {xs : List α} {n l : Nat} {x : α} (h : (xs.take n)[l]? = some x) : l < n ∧ xs[l]? = some x := by
  rw [List.getElem?_take] at h
  split at h
  · exact ⟨by assumption, h⟩
  · cases h
theorem cutd_live {A B : Wd} {a : Addr} (h : (A.cutd B).live a) : ∃ (l : Nat) (o : MO), l < A.mh.length ∧ B.mh[l]? = some (some o) ∧ B.β[l]? = some a := by
  obtain ⟨l, o, e1, e2⟩ := h
  obtain ⟨h1, h2⟩ := take_lt e1
  obtain ⟨_, h3⟩ := take_lt e2
  exact ⟨l, o, h1, h2, h3⟩
theorem les_cutd {A B : Wd} : Les B (A.cutd B) A.mh.length := ⟨rfl, fun l a hl h => by
    show (B.β.take A.mh.length)[l]? = some a
    rw [List.getElem?_take, if_pos hl]; exact h, fun a z => let ⟨l, o, _, h2, h3⟩ := cutd_live z; ⟨l, o, h2, h3⟩, fun _ h => h⟩
theorem keep_cutd {G : Gb} {A B : Wd} (SA : Sim G A) (S : Sim G B) (k : Keep A.ent B) : Keep A (A.cutd B) := by
  refine ⟨k.ex, k.exn, k.dom, rfl, ⟨[], ?_⟩, k.obj, fun a z => ?_, k.exk⟩
  · obtain ⟨t, e⟩ := k.pre
    show B.β.take A.mh.length = A.β ++ []
    have e' : B.β = A.β ++ t := e
    rw [e', ← SA.len, List.take_left', List.append_nil]
    rfl
  · obtain ⟨l, o, _, h2, h3⟩ := cutd_live z
    exact k.liv a ⟨l, o, h2, h3⟩
theorem ent_len {G : Gb} {A B : Wd} (S : Sim G B) (k : Keep A.ent B) : A.mh.length ≤ B.mh.length := S.ble _ (by rw [k.bs]; simp)
theorem Sim.cutd {G : Gb} {A B : Wd} (SA : Sim G A) (S : Sim G B) (k : Keep A.ent B) : Sim G (A.cutd B) where
  len := by
    show (B.β.take A.mh.length).length = (B.mh.take A.mh.length).length
    rw [List.length_take, List.length_take, S.len]
  ble := fun b hb => by
    show b ≤ (B.mh.take A.mh.length).length
    rw [List.length_take]
    have h1 := ent_len S k
    have h2 := SA.ble b hb
    omega
  top := fun b hb => SA.top b hb
  obj := fun l o e a q => by
    obtain ⟨h1, h2⟩ := take_lt e
    obtain ⟨_, h3⟩ := take_lt q
    exact (S.obj l o h2 a h3).les les_cutd (S.bnd _ (by rw [k.bs]; simp) l o h1 h2)
  inj := fun l l' a o o' e1 e2 q1 q2 => S.inj l l' a o o' (take_lt e1).2 (take_lt e2).2 (take_lt q1).2 (take_lt q2).2
  exo := S.exo
  exl := fun a ha z => S.exl a ha (by obtain ⟨l, o, _, h2, h3⟩ := cutd_live z; exact ⟨l, o, h2, h3⟩)
  bnd := fun b hb l o hl e => S.bnd b (by rw [k.bs]; exact List.mem_cons_of_mem _ hb) l o hl (take_lt e).2
section
variable {G : Gb} {A B : Wd}
mutual
theorem frz_rep (SA : Sim G A) (S : Sim G B) : ∀ (k : Nat) (x x' : MV) (v : V), frz A.mh.length B.mh k x = some x' → Rep G B x v → Rep G (A.cutd B) x' v
  | k, .non, x', v, e, r => by unfold frz at e; cases e; exact r
  | k, .bl b, x', v, e, r => by unfold frz at e; cases e; exact r
  | k, .int i, x', v, e, r => by unfold frz at e; cases e; exact r
  | k, .str s, x', v, e, r => by unfold frz at e; cases e; exact r
  | k, .fn f, x', v, e, r => by unfold frz at e; cases e; exact r
  | k, .scr ns, x', v, e, r => by unfold frz at e; cases e; exact Rep.les les_cutd _ _ rfl r
  | k, .tup xs, x', v, e, r => by
    unfold frz at e
    cases q : frzs A.mh.length B.mh k xs with
    | none => rw [q] at e; exact nomatch e
    | some ys =>
      rw [q] at e; cases e
      unfold Rep at r ⊢
      obtain ⟨a, vs, e1, h1, h2⟩ := r
      exact ⟨a, vs, e1, h1, frzs_rep SA S k xs ys vs q h2⟩
  | k, .lst xs, x', v, e, r => by
    unfold frz at e
    cases q : frzs A.mh.length B.mh k xs with
    | none => rw [q] at e; exact nomatch e
    | some ys =>
      rw [q] at e; cases e
      unfold Rep at r ⊢
      obtain ⟨a, vs, e1, h1, h2, h3⟩ := r
      exact ⟨a, vs, e1, h1, ⟨fun z => h2.1 (les_cutd.liv a z), h2.2⟩, frzs_rep SA S k xs ys vs q h3⟩
  | k, .dct ks ms, x', v, e, r => by
    unfold frz at e
    cases q : frzs A.mh.length B.mh k ms with
    | none => rw [q] at e; exact nomatch e
    | some ys =>
      rw [q] at e; cases e
      unfold Rep at r ⊢
      obtain ⟨a, vs, e1, h1, h2, h3, h4⟩ := r
      have r' := frzs_rep SA S k ms ys vs q h4
      exact ⟨a, vs, e1, h1, ⟨fun z => h2.1 (les_cutd.liv a z), h2.2⟩, by rw [h3, h4.len, r'.len], r'⟩
  | 0, .loc l, x', v, e, r => by
    unfold frz at e
    split at e
    · rename_i hl
      cases e
      exact Rep.les les_cutd _ _ (by unfold Mi.bd; exact decide_eq_true hl) r
    · simp at e
  | k + 1, .loc l, x', v, e, r => by
    unfold frz at e
    split at e
    · rename_i hl
      cases e
      exact Rep.les les_cutd _ _ (by unfold Mi.bd; exact decide_eq_true hl) r
    · rename_i hl
      obtain ⟨a, rfl, e2⟩ := r.loc_
      have off : ∀ {o}, B.mh[l]? = some (some o) → ¬ (A.cutd B).live a ∧ a ∉ (A.cutd B).ex := fun {o} ho => by
        refine ⟨fun z => ?_, fun z => S.exl a z ⟨l, o, ho, e2⟩⟩
        obtain ⟨l', o', h1, h2, h3⟩ := cutd_live z
        have := S.inj l' l a o' o h2 ho h3 e2
        omega
      simp only at e
      split at e
      · rename_i xs ho
        cases q : frzs A.mh.length B.mh k xs with
        | none => rw [q] at e; exact nomatch e
        | some ys =>
          rw [q] at e; cases e
          obtain ⟨vs, e3, r3⟩ := S.obj l _ ho a e2
          unfold Rep
          exact ⟨a, vs, rfl, e3, off ho, frzs_rep SA S k xs ys vs q r3⟩
      · rename_i ks ms ho
        cases q : frzs A.mh.length B.mh k ms with
        | none => rw [q] at e; exact nomatch e
        | some ys =>
          rw [q] at e; cases e
          obtain ⟨vs, e3, hl', r3⟩ := S.obj l _ ho a e2
          have r' := frzs_rep SA S k ms ys vs q r3
          unfold Rep
          exact ⟨a, vs, rfl, .inl e3, off ho, by rw [hl', r3.len, r'.len], r'⟩
      · exact nomatch e
  termination_by k x => (k, sizeOf x)
theorem frzs_rep (SA : Sim G A) (S : Sim G B) : ∀ (k : Nat) (xs ys : List MV) (vs : List V), frzs A.mh.length B.mh k xs = some ys → Reps G B xs vs → Reps G (A.cutd B) ys vs
  | k, [], ys, vs, e, r => by unfold frzs at e; cases e; exact r
  | k, x :: xs, ys, vs, e, r => by
    unfold frzs at e
    unfold Reps at r
    obtain ⟨v, t, rfl, h1, h2⟩ := r
    cases q : frz A.mh.length B.mh k x with
    | none => rw [q] at e; exact nomatch e
    | some y =>
      rw [q] at e
      simp only at e
      cases q2 : frzs A.mh.length B.mh k xs with
      | none => rw [q2] at e; exact nomatch e
      | some ys' =>
        rw [q2] at e; cases e
        unfold Reps
        exact ⟨v, t, rfl, frz_rep SA S k x y v q h1, frzs_rep SA S k xs ys' t q2 h2⟩
  termination_by k xs => (k, sizeOf xs)
end
end
/-- the body of a def keeps the word of runD -/
theorem run_ok {G : Gb} {C : CallF} {d : Df} {N : List Str} {vs : List V} {Q : VK} {A : Wd} {args : List MV} {r : MV} {mh' : MHp} (hN : N.length = d.ns) (S : Sim G A) (ra : Reps G A args vs) (e : runD C d args A.mh = some (r, mh')) (q : Post G A mh' r Q) :
    args.length = d.np ∧ tSs G C d.body { nx := fun _ H' => Q .non H', rt := Q } (L2.start N vs) A.H := by
  unfold runD at e
  split at e
  · rename_i hl
    refine ⟨hl, ?_⟩
    split at e
    · cases e
    rename_i fl ρ' mh1 e1
    split at e
    · cases e
    rename_i v e2
    have SE := S.ent
    refine ⟨A.ent, _, fl, ρ', mh1, rfl, SE, (envs_start hN (Reps.les (les_ent A.β.length) _ _ ra.bd ra) : Envs G A.ent (args.map some ++ List.replicate (d.ns - args.length) none) _), ?_, fun B k em SB => ?_⟩
    · rw [hl]; exact e1
    have fin : ∀ x, Rep G B v x → Q x B.H := fun x rx => by
      split at e
      · cases e
        exact q (A.exi B) x (keep_exi k) em (S.exi SB k) (Rep.les (les_exi B.β.length) _ _ rx.bd rx)
      · simp only [Option.map_eq_some_iff] at e
        obtain ⟨w, e3, e4⟩ := e
        cases e4
        refine q (A.cutd B) x (keep_cutd S SB k) ?_ (S.cutd SB k) ?_
        · show B.mh.take _ = _; rw [em]
        · exact frz_rep S SB 8 v _ x (by rw [em]; exact e3) rx
    cases fl with
    | nx =>
      cases e2
      exact fun σ _ => fin .non rep_non
    | rt w =>
      cases e2
      exact fin
    | bk => cases e2
    | ct => cases e2
  · cases e
theorem _root_.L2.PSs.noxM {X : Cx} {sts : List Stmt} {t : TS} (h : PSs X.nox sts t) : PSs X.nox sts t := h
/-! ### the table -/
structure DefOk (P : Program) (w : World) (K : PySem.W.Frag) (mg : Str → Option Value) (base : Heap) (G : Gb) (T : List Df) (f : Nat) (a : Addr) : Prop where
  ex : ∃ (d : Df) (x qual : Str) (st : Stmt) (fd : FuncData) (N ps : List Str), T[f]? = some d ∧ FunD K x qual (defArgs st) (defBody st) (defScope st) [] [] a fd ∧ FnScope N ps (defScope st) ∧ N.length = d.ns ∧ ps.length = d.np ∧ Binds K fd ps [] ∧
    ∀ (k : Nat) (C : CallF) (cdv : Value) (A : Around) (outer : List PySem.Env) (s : Shared) (H : Hp) (E : XK), (∀ f a, G.fa f = some a → FnC P w K mg base G C k f a) → Room k (A.deeper (envOfC qual (defScope st) s.heap.objs.size a cdv)) →
      PSs (cxOf CX0 P w K mg base N qual (defScope st) a cdv A outer s H E).nox (defBody st) (tSs G C d.body)
theorem fnC_of {P : Program} {w : World} {K : PySem.W.Frag} {mg : Str → Option Value} {base : Heap} {G : Gb} {T : List Df} (h : ∀ f a, G.fa f = some a → DefOk P w K mg base G T f a) : ∀ k f a, G.fa f = some a → FnC P w K mg base G (callM T k) k f a := by
  intro k
  induction k with
  | zero =>
    intro f a hf
    obtain ⟨d, x, qual, st, fd, N, ps, hd, F, S, hN, hp, hb, hbody⟩ := (h f a hf).ex
    refine ⟨fd, ps, ⟨fun vs H Q E q => q.1, fun A outer s H args us vs Q E _ _ _ _ q => ?_⟩, F.kp, hb, fun args mh r e => ?_⟩
    · obtain ⟨_, A, args, r, mh', _, _, _, e, _⟩ := q
      unfold callM at e
      cases e
    · unfold callM at e
      cases e
  | succ k ih =>
    intro f a hf
    obtain ⟨d, x, qual, st, fd, N, ps, hd, F, S, hN, hp, hb, hbody⟩ := (h f a hf).ex
    refine ⟨fd, ps, F.ok S (fun vs H Q E q => q.1) (fun cdv A outer s H vs Q E hr q => ⟨_, (hbody k (callM T k) cdv A outer s H E ih hr).nox, ?_⟩), F.kp, hb, fun args mh r e => ?_⟩
    · obtain ⟨hl, W, args, r, mh', rfl, SW, ra, e, q⟩ := q
      unfold callM at e
      rw [hd] at e
      exact (run_ok hN SW ra e q).2
    · unfold callM at e
      rw [hd] at e
      simp only [runD] at e
      split at e
      · rename_i hl; rw [hl, hp]
      · cases e
end L2.Mi

set_option Elab.async false
set_option linter.all false
set_option maxRecDepth 100000
set_option maxHeartbeats 4000000
/-! Mini12: short words for printed derivations. -/
namespace L2.Mi
open PySem PySem.Spec PyProof.Rows

theorem bt_len : bootBuiltins "len" = some (.builtin "len") := by decide +kernel
theorem bt_abs : bootBuiltins "abs" = some (.builtin "abs") := by decide +kernel
theorem bt_all : bootBuiltins "all" = some (.builtin "all") := by decide +kernel
theorem bt_any : bootBuiltins "any" = some (.builtin "any") := by decide +kernel
theorem bt_sum : bootBuiltins "sum" = some (.builtin "sum") := by decide +kernel
theorem bt_max : bootBuiltins "max" = some (.builtin "max") := by decide +kernel
theorem bt_min : bootBuiltins "min" = some (.builtin "min") := by decide +kernel
theorem bt_isinstance : bootBuiltins "isinstance" = some (.builtin "isinstance") := by decide +kernel
theorem bt_int : bootBuiltins "int" = some (.type "int") := by decide +kernel
theorem bt_str : bootBuiltins "str" = some (.type "str") := by decide +kernel
theorem bt_bool : bootBuiltins "bool" = some (.type "bool") := by decide +kernel
theorem bt_tuple : bootBuiltins "tuple" = some (.type "tuple") := by decide +kernel
theorem bt_list : bootBuiltins "list" = some (.type "list") := by decide +kernel
theorem bt_dict : bootBuiltins "dict" = some (.type "dict") := by decide +kernel
section
variable {G : Gb} {C : CallF} {X : Cx} {pos p : Pos} {e a b c : Expr} {ma mb mc m : ME} {k : Nat}
/-- the i-th name -/
theorem sv (i : Nat) {x : Str} (hN : X.N[i]? = some x := by rfl) (hv : Vis X.env.scope x := by first | exact Or.inl rfl | exact Or.inr (Or.inl rfl) | exact Or.inr (Or.inr rfl)) (hd : (x == ("__debug__" : Str)) = false := by decide)
    (hcd : (x == ("__classdict__" : Str)) = false := by decide) : PE X (.Name x pos) (tE G C (.var i)) := se_var hN hv hd hcd
theorem sgl {x : Str} {i : Int} (hm : ∃ t, X.mg x = some (.int i t)) (hg : Gl X x := by rfl) (hd : (x == ("__debug__" : Str)) = false := by decide) : PE X (.Name x pos) (tE G C (.c (.int i))) := by
  obtain ⟨t, h⟩ := hm
  exact se_glob hg h hd
theorem sfn {x : Str} (f : Nat) {a : Addr} (hm : X.mg x = some (.ref a)) (hf : G.fa f = some a := by rfl) (hg : Gl X x := by rfl) (hd : (x == ("__debug__" : Str)) = false := by decide) : PE X (.Name x pos) (tE G C (.c (.fn f))) := se_fn hg hm hf hd
theorem scall {x : Str} (f : Nat) {fa : Addr} {es : List Expr} {ms : List ME} (F : ∀ f a, G.fa f = some a → FnC X.prog X.w X.K X.mg X.base G C k f a) (hr : Room k X.A) (hm : X.mg x = some (.ref fa)) (ha : PA X (e :: es) (tEs G C ms)) (hf : G.fa f = some fa := by rfl) (hg : Gl X x := by rfl)
    (hdb : (x == ("__debug__" : Str)) = false := by decide) (he : starEach (e :: es) X.env = (false, eval e X.env) :: starEach es X.env := by rfl) (hpl : (backTo pos (starEach es X.env)).any (·.1) = false := by rfl) :
    PE X (.Call (.Name x p) (e :: es) [] pos) (tE G C (.call f ms)) := se_call (F f fa hf) hr hg hm ha hdb he hpl
theorem scallv {x : Str} (i : Nat) {es : List Expr} {ms : List ME} (F : ∀ f fa, G.fa f = some fa → FnC X.prog X.w X.K X.mg X.base G C k f fa) (hr : Room k X.A) (ha : PA X (e :: es) (tEs G C ms)) (hN : X.N[i]? = some x := by rfl) (hv : Vis X.env.scope x := by first | exact Or.inl rfl | exact Or.inr (Or.inl rfl) | exact Or.inr (Or.inr rfl))
    (hdb : (x == ("__debug__" : Str)) = false := by decide) (hcd : (x == ("__classdict__" : Str)) = false := by decide) (he : starEach (e :: es) X.env = (false, eval e X.env) :: starEach es X.env := by rfl) (hpl : (backTo pos (starEach es X.env)).any (·.1) = false := by rfl) :
    PE X (.Call (.Name x p) (e :: es) [] pos) (tE G C (.callv i ms)) := se_callv F hr hN hv ha hdb hcd he hpl
theorem sgn (i : Nat) {x : Str} (hN : X.N.Nodup) (hi : X.N[i]? = some x := by rfl) (hx : Loc X.env.scope x := by first | exact Or.inl rfl | exact Or.inr rfl) (hf : X.fn x = true ∨ X.env.scope.names.lookup x = some .local := by first | exact .inl rfl | exact .inr rfl) : PG X (.Name x pos) (tG G (.nm i)) := sg_name hN hi hx hf
theorem sset (i : Nat) {x : Str} {pos' : Pos} (hN : X.N.Nodup) (he : PE X e (tE G C m)) (hi : X.N[i]? = some x := by rfl) (hx : Loc X.env.scope x := by first | exact Or.inl rfl | exact Or.inr rfl) (hs : swapsWith e (some (.Name x pos')) pos.line X.env = pure false := by rfl) (hf : X.fn x = true ∨ X.env.scope.names.lookup x = some .local := by first | exact .inl rfl | exact .inr rfl) :
    PS X (.Assign [.Name x pos'] e pos) (tS G C (.set (.nm i) m)) := ss_set hN hi hx he hs hf
theorem spar (i j : Nat) {x y : Str} {px py pt : Pos} {kt k2 pt2} (hN : X.N.Nodup) (ha : PE X a (tE G C ma)) (hb : PE X b (tE G C mb)) (hw : swappedStores [.Tuple [.Name x px, .Name y py] kt pt] (.Tuple [a, b] k2 pt2) X.env = pure (some [x, y]))
    (hc : X.calm = true := by rfl) (hi : X.N[i]? = some x := by rfl) (hj : X.N[j]? = some y := by rfl) (hij : i ≠ j := by decide)
    (hx : X.env.scope.names.lookup x = some .local := by rfl) (hy : X.env.scope.names.lookup y = some .local := by rfl) 
    (hs : swapsWithSole [.Tuple [.Name x px, .Name y py] kt pt] (.Tuple [a, b] k2 pt2) pos.line X.env = pure false := by rfl)
    (hs1 : starEach [a, b] X.env = (false, eval a X.env) :: starEach [b] X.env := by rfl) (hs2 : starEach [b] X.env = (false, eval b X.env) :: starEach [] X.env := by rfl) :
    PS X (.Assign [.Tuple [.Name x px, .Name y py] kt pt] (.Tuple [a, b] k2 pt2) pos) (tS G C (.par i j ma mb)) := ss_par hc hN hi hj hij hx hy ha hb hw hs hs1 hs2
theorem saug (i : Nat) {x : Str} {o : Op} {pos' : Pos} (ho : o = .add ∨ o = .sub) (hN : X.N.Nodup) (he : PE X e (tE G C m)) (hi : X.N[i]? = some x := by rfl) (hx : Loc X.env.scope x := by first | exact Or.inl rfl | exact Or.inr rfl) (hf : X.fn x = true ∨ X.env.scope.names.lookup x = some .local := by first | exact .inl rfl | exact .inr rfl) :
    PS X (.AugAssign (.Name x pos') (opOf o) e pos) (tS G C (.aug i o m)) := ss_aug ho hN hi hx he hf
/-! built-ins -/
theorem sb_len (hm : X.mg "len" = none) (hK : X.K = G.K) {es : List Expr} {ms : List ME} (ha : PA X (e :: es) (tEs G C ms)) (hg : Gl X "len" := by rfl) (he : starEach (e :: es) X.env = (false, eval e X.env) :: starEach es X.env := by rfl) (hpl : (backTo pos (starEach es X.env)).any (·.1) = false := by rfl) : PE X (.Call (.Name "len" p) (e :: es) [] pos) (tE G C (.bi .len ms)) := se_biB bi_len (call_len.or call_lenR) hK hg hm bt_len ha (by decide) (by decide) he hpl
theorem sb_abs (hm : X.mg "abs" = none) (hK : X.K = G.K) {es : List Expr} {ms : List ME} (ha : PA X (e :: es) (tEs G C ms)) (hg : Gl X "abs" := by rfl) (he : starEach (e :: es) X.env = (false, eval e X.env) :: starEach es X.env := by rfl) (hpl : (backTo pos (starEach es X.env)).any (·.1) = false := by rfl) : PE X (.Call (.Name "abs" p) (e :: es) [] pos) (tE G C (.bi .abs ms)) := se_biB bi_abs call_abs hK hg hm bt_abs ha (by decide) (by decide) he hpl
theorem sb_all (hm : X.mg "all" = none) (hK : X.K = G.K) {es : List Expr} {ms : List ME} (ha : PA X (e :: es) (tEs G C ms)) (hc : X.calm = true := by rfl) (hg : Gl X "all" := by rfl) (he : starEach (e :: es) X.env = (false, eval e X.env) :: starEach es X.env := by rfl) (hpl : (backTo pos (starEach es X.env)).any (·.1) = false := by rfl) : PE X (.Call (.Name "all" p) (e :: es) [] pos) (tE G C (.bi .all ms)) := se_biB bi_all (cr_all hc) hK hg hm bt_all ha (by decide) (by decide) he hpl
theorem sb_any (hm : X.mg "any" = none) (hK : X.K = G.K) {es : List Expr} {ms : List ME} (ha : PA X (e :: es) (tEs G C ms)) (hc : X.calm = true := by rfl) (hg : Gl X "any" := by rfl) (he : starEach (e :: es) X.env = (false, eval e X.env) :: starEach es X.env := by rfl) (hpl : (backTo pos (starEach es X.env)).any (·.1) = false := by rfl) : PE X (.Call (.Name "any" p) (e :: es) [] pos) (tE G C (.bi .any ms)) := se_biB bi_any (cr_any hc) hK hg hm bt_any ha (by decide) (by decide) he hpl
theorem sb_sum (hm : X.mg "sum" = none) (hK : X.K = G.K) {es : List Expr} {ms : List ME} (ha : PA X (e :: es) (tEs G C ms)) (hc : X.calm = true := by rfl) (hg : Gl X "sum" := by rfl) (he : starEach (e :: es) X.env = (false, eval e X.env) :: starEach es X.env := by rfl) (hpl : (backTo pos (starEach es X.env)).any (·.1) = false := by rfl) : PE X (.Call (.Name "sum" p) (e :: es) [] pos) (tE G C (.bi .sum ms)) := se_biB bi_sum (cr_sum hc) hK hg hm bt_sum ha (by decide) (by decide) he hpl
theorem sb_int (hm : X.mg "int" = none) (hK : X.K = G.K) {es : List Expr} {ms : List ME} (ha : PA X (e :: es) (tEs G C ms)) (hg : Gl X "int" := by rfl) (he : starEach (e :: es) X.env = (false, eval e X.env) :: starEach es X.env := by rfl) (hpl : (backTo pos (starEach es X.env)).any (·.1) = false := by rfl) : PE X (.Call (.Name "int" p) (e :: es) [] pos) (tE G C (.bi .int ms)) := se_biT bi_int call_int1 hK hg hm bt_int ha (by decide) (by decide) he hpl
theorem sb_str (hm : X.mg "str" = none) (hK : X.K = G.K) {es : List Expr} {ms : List ME} (ha : PA X (e :: es) (tEs G C ms)) (hg : Gl X "str" := by rfl) (he : starEach (e :: es) X.env = (false, eval e X.env) :: starEach es X.env := by rfl) (hpl : (backTo pos (starEach es X.env)).any (·.1) = false := by rfl) : PE X (.Call (.Name "str" p) (e :: es) [] pos) (tE G C (.bi .strI ms)) := se_biT bi_strI call_str_int hK hg hm bt_str ha (by decide) (by decide) he hpl
theorem sb_tuple (hm : X.mg "tuple" = none) (hK : X.K = G.K) {es : List Expr} {ms : List ME} (ha : PA X (e :: es) (tEs G C ms)) (hg : Gl X "tuple" := by rfl) (he : starEach (e :: es) X.env = (false, eval e X.env) :: starEach es X.env := by rfl) (hpl : (backTo pos (starEach es X.env)).any (·.1) = false := by rfl) : PE X (.Call (.Name "tuple" p) (e :: es) [] pos) (tE G C (.bi .tuple ms)) := se_biT bi_tuple call_tuple_of hK hg hm bt_tuple ha (by decide) (by decide) he hpl
theorem sb_list (hm : X.mg "list" = none) (hK : X.K = G.K) {es : List Expr} {ms : List ME} (ha : PA X (e :: es) (tEs G C ms)) (hc : X.calm = true := by rfl) (hg : Gl X "list" := by rfl) (he : starEach (e :: es) X.env = (false, eval e X.env) :: starEach es X.env := by rfl) (hpl : (backTo pos (starEach es X.env)).any (·.1) = false := by rfl) : PE X (.Call (.Name "list" p) (e :: es) [] pos) (tE G C (.bi .list ms)) := se_biT bi_list (call_lstC hc) hK hg hm bt_list ha (by decide) (by decide) he hpl
theorem sisi (t : Ty) {y : Str} {p2 : Pos} (hm : X.mg "isinstance" = none) (hm2 : X.mg y = none) (hv2 : bootBuiltins y = some (.type (tyN t))) (hK : X.K = G.K) (ha : PE X e (tE G C m)) (hg : Gl X "isinstance" := by rfl) (hg2 : Gl X y := by rfl)
    (hn2 : y ≠ "__name__" := by decide) (hdb2 : (y == ("__debug__" : Str)) = false := by decide)
    (he : starEach [e, .Name y p2] X.env = (false, eval e X.env) :: starEach [.Name y p2] X.env := by rfl) (hpl : (backTo pos (starEach [.Name y p2] X.env)).any (·.1) = false := by rfl) :
    PE X (.Call (.Name "isinstance" p) [e, .Name y p2] [] pos) (tE G C (.isi m t)) := se_isi hK hg hm bt_isinstance hg2 hm2 hv2 ha (by decide) (by decide) hn2 hdb2 he hpl
/-! methods -/
theorem sm_append {apos cpos : Pos} {es : List Expr} {ms : List ME} (hK : X.K = G.K) (ho : PE X a (tE G C m)) (ha : PA X (e :: es) (tEs G C ms)) (hbase : attributeBase a "append" X.env (eval a X.env) = eval a X.env := by rfl)
    (hfew : ((backTo cpos (starEach (e :: es) X.env)).all (fun x => !x.1) && (backToKw cpos (keywordEach [] X.env)).all (fun x => x.1.isSome)
      && decide ((e :: es).length + ([] : List Keyword).length + (if ([] : List Keyword).isEmpty then 0 else 1) < 30)) = true := by rfl)
    (hline : (apos.endLine == cpos.line) = true := by rfl) (hs : starEach (e :: es) X.env = (false, eval e X.env) :: starEach es X.env := by rfl) (hplain : (backTo cpos (starEach es X.env)).any (·.1) = false := by rfl) :
    PE X (.Call (.Attribute a "append" apos) (e :: es) [] cpos) (tE G C (.meth .append m ms)) := se_meth me_append hK PySem.F.plainAttrs_list PySem.F.slot_list_append PySem.F.type_list_append mt_append ho ha hbase hfew hline hs hplain
theorem sm_extend {apos cpos : Pos} {es : List Expr} {ms : List ME} (hK : X.K = G.K) (ho : PE X a (tE G C m)) (ha : PA X (e :: es) (tEs G C ms)) (hbase : attributeBase a "extend" X.env (eval a X.env) = eval a X.env := by rfl)
    (hfew : ((backTo cpos (starEach (e :: es) X.env)).all (fun x => !x.1) && (backToKw cpos (keywordEach [] X.env)).all (fun x => x.1.isSome)
      && decide ((e :: es).length + ([] : List Keyword).length + (if ([] : List Keyword).isEmpty then 0 else 1) < 30)) = true := by rfl)
    (hline : (apos.endLine == cpos.line) = true := by rfl) (hs : starEach (e :: es) X.env = (false, eval e X.env) :: starEach es X.env := by rfl) (hplain : (backTo cpos (starEach es X.env)).any (·.1) = false := by rfl) :
    PE X (.Call (.Attribute a "extend" apos) (e :: es) [] cpos) (tE G C (.meth .extend m ms)) := se_meth me_extend hK PySem.F.plainAttrs_list PySem.F.slot_list_extend PySem.F.type_list_extend mt_extB ho ha hbase hfew hline hs hplain
theorem sm_pop0 {apos cpos : Pos} (hK : X.K = G.K) (ho : PE X a (tE G C m)) (hbase : attributeBase a "pop" X.env (eval a X.env) = eval a X.env := by rfl) (hline : (apos.endLine == cpos.line) = true := by rfl) :
    PE X (.Call (.Attribute a "pop" apos) [] [] cpos) (tE G C (.meth .pop m [])) := se_meth0 me_pop hK PySem.F.plainAttrs_list PySem.F.slot_list_pop PySem.F.type_list_pop mt_pop ho hbase hline
theorem sm_pop1 {apos cpos : Pos} {es : List Expr} {ms : List ME} (hK : X.K = G.K) (ho : PE X a (tE G C m)) (ha : PA X (e :: es) (tEs G C ms)) (hbase : attributeBase a "pop" X.env (eval a X.env) = eval a X.env := by rfl)
    (hfew : ((backTo cpos (starEach (e :: es) X.env)).all (fun x => !x.1) && (backToKw cpos (keywordEach [] X.env)).all (fun x => x.1.isSome)
      && decide ((e :: es).length + ([] : List Keyword).length + (if ([] : List Keyword).isEmpty then 0 else 1) < 30)) = true := by rfl)
    (hline : (apos.endLine == cpos.line) = true := by rfl) (hs : starEach (e :: es) X.env = (false, eval e X.env) :: starEach es X.env := by rfl) (hplain : (backTo cpos (starEach es X.env)).any (·.1) = false := by rfl) :
    PE X (.Call (.Attribute a "pop" apos) (e :: es) [] cpos) (tE G C (.meth .popAt m ms)) := se_meth me_popAt hK PySem.F.plainAttrs_list PySem.F.slot_list_pop PySem.F.type_list_pop mt_popAt ho ha hbase hfew hline hs hplain
theorem sm_upper {apos cpos : Pos} (hK : X.K = G.K) (ho : PE X a (tE G C m)) (hbase : attributeBase a "upper" X.env (eval a X.env) = eval a X.env := by rfl) (hline : (apos.endLine == cpos.line) = true := by rfl) :
    PE X (.Call (.Attribute a "upper" apos) [] [] cpos) (tE G C (.meth .upper m [])) := se_meth0 me_upper hK PySem.F.plainAttrs_str PySem.F.slot_str_upper PySem.F.type_str_upper mt_upper ho hbase hline
end
end L2.Mi

set_option Elab.async false
set_option linter.all false
set_option maxRecDepth 100000
set_option maxHeartbeats 4000000
/-! Mini13: t[::-1] of a tuple. -/
namespace L2.Mi
open PySem PySem.Spec PyProof.Rows
section
variable {prog : Program} {w : World} {A : Around} {E : Value → Shared → Prop} {s : Shared}
theorem adjust_back (n : Nat) : Builtin.Slice.sliceAdjust none none (-1) (n : Int) = ((n : Int) - 1, -1) := by
  unfold Builtin.Slice.sliceAdjust
  simp
theorem places_back (n : Nat) : Builtin.Slice.slicePlaces ((n : Int) - 1) (-1) (-1) = n := by
  unfold Builtin.Slice.slicePlaces
  simp
  omega
theorem applied_back {sl : Addr} {vk : Value} {n : Nat} {Q : Int × Int × Nat → Shared → Prop} (hs : s.heap.IsSliceOf sl .none .none vk) (pk : IsPart vk (some (-1))) (h : Q ((n : Int) - 1, -1, n) s) :
    wpAny (model prog w) A (Builtin.Slice.sliceApplied (.ref sl) (pure (n : Int))) Q E s := by
  obtain ⟨os, hos, hcs, hds⟩ := id hs
  unfold Builtin.Slice.sliceApplied Builtin.Slice.sliceFields
  refine wpAny_bind (wpAny_bind (wpAny_field hos hds (x := .none) rfl (wpAny_bind (wpAny_field hos hds (x := .none) rfl (wpAny_bind (wpAny_field hos hds (x := vk) rfl (wpAny_pure ?_)))))))
  refine wpAny_bind (HT.slicePart_ pk ?_)
  show wpAny _ _ (if ((-1 : Int) == 0) = true then _ else _) _ _ s
  rw [if_neg (by decide)]
  refine wpAny_bind (HT.slicePart_ .none (wpAny_bind (HT.slicePart_ .none (wpAny_bind (wpAny_pure ?_)))))
  show wpAny _ _ (match Builtin.Slice.sliceAdjust none none (-1) (n : Int) with | (lo, hi) => pure (lo, (-1 : Int), Builtin.Slice.slicePlaces lo hi (-1))) _ _ s
  rw [adjust_back n]
  show wpAny _ _ (pure ((n : Int) - 1, (-1 : Int), Builtin.Slice.slicePlaces ((n : Int) - 1) (-1) (-1))) _ _ s
  rw [places_back]
  exact wpAny_pure h
theorem pick_back (xs : Array Value) : ((List.range xs.size).filterMap fun (m : Nat) => xs[(((xs.size : Int) - 1) + (m : Int) * (-1)).toNat]?).toArray = xs.toList.reverse.toArray := by
  have cong : ∀ {l : List Nat} {f g : Nat → Option Value}, (∀ m ∈ l, f m = g m) → l.filterMap f = l.filterMap g := fun {l f g} h => by
    induction l with
    | nil => rfl
    | cons a l ih => rw [List.filterMap_cons, List.filterMap_cons, h a (by simp), ih fun m hm => h m (List.mem_cons_of_mem _ hm)]
  have e : ((List.range xs.size).filterMap fun (m : Nat) => xs[(((xs.size : Int) - 1) + (m : Int) * (-1)).toNat]?) = ((List.range xs.size).map fun k => xs.size - 1 - k).filterMap (xs[·]?) := by
    rw [List.filterMap_map]
    refine cong fun m hm => ?_
    have : (((xs.size : Int) - 1) + (m : Int) * (-1)).toNat = xs.size - 1 - m := by
      have := List.mem_range.mp hm
      omega
    rw [this]
    rfl
  rw [e, PySem.W.krv_range, List.filterMap_reverse, PySem.W.krv_all]
theorem getItem_back {t sl : Addr} {items : Array Value} {vk : Value} {Q : Value → Shared → Prop} (ht : IsTup s.heap t items) (hs : s.heap.IsSliceOf sl .none .none vk) (pk : IsPart vk (some (-1)))
    (h : Q (.ref s.heap.objs.size) { s with heap := s.heap.push { cls := .type "tuple", data := .seq items.toList.reverse.toArray } }) (hsz : items.size ≤ sizeLine) : wpAny (model prog w) A (getItem (.ref t) (.ref sl)) Q E s := by
  have hok : sizeOk (.seq items.toList.reverse.toArray) := by
    show items.toList.reverse.toArray.size ≤ sizeLine
    rw [List.size_toArray, List.length_reverse, Array.length_toList]
    exact hsz
  obtain ⟨os, hos, hcs, hds⟩ := id hs
  have hTs : s.TypeIs (.ref sl) "slice" := ⟨os, hos, hcs⟩
  unfold getItem
  try with_reducible refine wpAny_holding ?_
  first | refine wpAny_bind (wpAny_pure ?_) | skip
  refine wpAny_bind (wpAny_sequenceKey ht.typeIs (by decide) ?_)
  refine wpAny_bind (wpAny_callSpecial?_slot (name := Str.ofString "__getitem__") ht.typeIs PyProof.Rows.slot_tuple_getitem
    (wpAny_call_entry PyProof.Rows.slot_tuple_getitem ht.typeIs entry_tuple_getitem ?_ (args_tuple_getitem _ _)))
  show wpAny _ _ (Builtin.Tuple.tupleItemsOf (.ref t) >>= _) _ _ s
  refine wpAny_bind (tupleItemsOf_ ht ?_)
  refine wpAny_bind (wpAny_typeOf hTs ?_)
  rw [if_pos (by decide)]
  refine wpAny_bind (applied_back hs pk ?_)
  have hno : ¬ ((((items.size : Int) - 1) == 0 && (-1 : Int) == 1 && items.size == items.size) = true) := by
    have : ((-1 : Int) == 1) = false := by decide
    rw [this]; simp
  show wpAny _ _ (if (((items.size : Int) - 1) == 0 && (-1 : Int) == 1 && items.size == items.size) = true then _ else _) _ _ s
  rw [if_neg hno, pick_back]
  first
    | exact wpAny_bind (m := Builtin.Tuple.tupleExact _) (wpAny_newObj_type (wpAny_pure ⟨_, rfl, wpAny_pure h⟩) hok)
    | exact wpAny_bind (m := Builtin.Tuple.tupleExact _) (wpAny_newObj_type (wpAny_bind (wpAny_pure (wpAny_pure ⟨_, rfl, wpAny_pure h⟩))) hok)
    | exact wpAny_bind (wpAny_bind (m := Builtin.Tuple.tupleExact _) (wpAny_newObj_type (wpAny_pure (wpAny_pure ⟨_, rfl, wpAny_pure h⟩)) hok))
    | exact wpAny_bind (wpAny_bind (m := Builtin.Tuple.tupleExact _) (wpAny_newObj_type (wpAny_pure ⟨_, rfl, wpAny_pure h⟩) hok))
end
section
variable {G : Gb} {C : CallF} {X : Cx} {pos p2 p3 p4 : Pos} {e : Expr} {m : ME} {j}
def tRev (K : PySem.W.Frag) (te : TE) : TE := fun σ H Q => te σ H fun x H1 => ∃ a xs, x = .ref a ∧ SqT K H1 a xs ∧ ∀ p, H1 p = none → Q (.ref p) (upd H1 p (.tup xs.reverse))
theorem pe_rev {te : TE} (he : PE X e te) : PE X (.Subscript e (.Slice none none (some (.UnaryOp .USub (.Constant (.int 1) j p3) p4)) p2) pos) (tRev X.K te) := by
  refine ⟨fun pins s σ H Q I h => ?_⟩
  refine Subscript_ (thn (he.run pins s σ H _ I h) fun v s1 ⟨x, H1, I1, r1, q1⟩ => ?_)
  obtain ⟨a, xs, rfl, hx, q⟩ := q1
  cases r1
  refine wpAny_Slice ?_
  rw [evalPart_none]
  refine wpAny_pure (wpAny_pure ?_)
  refine thn ((po_some (pe_un un_neg (pe_int (i := 1)))).run pins s1 σ H1 (fun k H2 => k = some (-1) ∧ H2 = H1) I1 ⟨1, rfl, -1, rfl, rfl, rfl⟩) fun vk s3 ⟨k, H3, I3, pk, ek, eH⟩ => ?_
  subst ek eH
  have I4 : Inv X pins σ H3 { s3 with heap := s3.heap.push { cls := .type "slice", data := .fields #[.none, .none, vk] } } := I3.kept (t' := s3.toks) fun b ob q => Heap.get?_push_of_some _ q
  obtain ⟨its, r, ht, hz⟩ := I4.tuple hx
  have hlen : its.toArray.size = xs.length := by rw [List.size_toArray]; exact r.length.symm
  show wpAny (model X.prog X.w) X.A (subscriptTail e (.Slice none none _ p2) (.ref a) (.ref s3.heap.objs.size)) (EP X pins σ Q) X.xe { s3 with heap := s3.heap.push { cls := .type "slice", data := .fields #[.none, .none, vk] } }
  refine tail_any (ops := [.ref a, .ref s3.heap.objs.size]) ht.typeIs PyProof.Rows.slot_tuple_getitem.lookup ?_ (by with_unfolding_all rfl)
  refine getItem_back ht (Heap.IsSliceOf.new ..) pk ?_ (by rw [hlen]; exact hz)
  refine ⟨V.ref _, _, I4.laid (t' := s3.toks) (o := .tup xs.reverse) (fun b ob q => Heap.get?_push_of_some _ q) (Nat.le_refl _) ?_, rfl, q _ (I4.hok.fresh (Nat.le_refl _))⟩
  exact ⟨by rw [List.length_reverse]; exact hz, _, r.reverse, IsTup.new _ _⟩
theorem Reps.reverse {W : Wd} {xs : List MV} {vs : List V} (h : Reps G W xs vs) : Reps G W xs.reverse vs.reverse := by
  refine Reps.of (by rw [List.length_reverse, List.length_reverse, h.len]) fun i x v e1 e2 => ?_
  have l1 : i < xs.length := by
    have := (List.getElem?_eq_some_iff.mp e1).1
    simpa using this
  have l2 : i < vs.length := by rw [← h.len]; exact l1
  rw [List.getElem?_reverse l1] at e1
  rw [List.getElem?_reverse l2, ← h.len] at e2
  exact h.at e1 e2
theorem se_rev (hK : X.K = G.K) (he : PE X e (tE G C m)) : PE X (.Subscript e (.Slice none none (some (.UnaryOp .USub (.Constant (.int 1) j p3) p4)) p2) pos) (tE G C (.rev m)) := by
  refine (pe_rev he).mono fun σ H Q h => ?_
  obtain ⟨A, ρ, v, mh', rfl, S, N, e, q⟩ := h
  simp only [ev] at e
  split at e
  · rename_i xs mh1 e1
    cases e
    refine tE.go S N e1 fun B x k em SB _ r => ?_
    obtain ⟨a, vs, rfl, h1, h2⟩ := r.tup_
    rw [hK]
    refine ⟨a, vs, rfl, h1, fun p hp => ?_⟩
    have q' := Post.step q k
    rw [← em] at q'
    exact q'.newTup SB h2.reverse hp
  · cases e
end
end L2.Mi

set_option Elab.async false
set_option linter.all false
set_option maxRecDepth 100000
set_option maxHeartbeats 4000000
/-! Mini14: the law itself. -/
namespace L2.Mi
open PySem PySem.Spec PyProof.Rows
theorem fnOk_of {P : Program} {w : World} {K : PySem.W.Frag} {mg : Str → Option Value} {base : Heap} {G : Gb} {T : List Df} {k f : Nat} {a : Addr} {d : Df} {x qual : Str} {st : Stmt} {fd : FuncData} {N ps : List Str}
    (ih : ∀ f a, G.fa f = some a → FnC P w K mg base G (callM T k) k f a) (hd : T[f]? = some d) (F : FunD K x qual (defArgs st) (defBody st) (defScope st) [] [] a fd) (S : FnScope N ps (defScope st)) (hN : N.length = d.ns)
    (hbody : ∀ (k : Nat) (C : CallF) (cdv : Value) (A : Around) (outer : List PySem.Env) (s : Shared) (H : Hp) (E : XK), (∀ f a, G.fa f = some a → FnC P w K mg base G C k f a) → Room k (A.deeper (envOfC qual (defScope st) s.heap.objs.size a cdv)) →
      PSs (cxOf CX0 P w K mg base N qual (defScope st) a cdv A outer s H E).nox (defBody st) (tSs G C d.body)) : FnOk P w K mg base CX0 (k + 1) a fd ps (spC G (callM T (k + 1)) f ps.length) := by
  refine F.ok S (fun vs H Q E q => q.1) (fun cdv A outer s H vs Q E hr q => ⟨_, (hbody k (callM T k) cdv A outer s H E ih hr).nox, ?_⟩)
  obtain ⟨hl, W, args, r, mh', rfl, SW, ra, e, q⟩ := q
  unfold callM at e
  rw [hd] at e
  exact (run_ok hN SW ra e q).2
theorem scr_noH {K : PySem.W.Frag} {H : Hp} {a : Addr} {xs : List V} (h : SqL K H a xs) : Rd H a (.lst xs) ∨ SqL K noH a xs := by
  rcases h with h | h
  · exact .inl h
  · exact .inr (.inr h)
/-- the law's promise -/
theorem sp_law {G : Gb} {C : CallF} {f : Nat} {mh' : MHp} {H : Hp} {a : Addr} {ns : List Int} (e : C f [.scr ns] [] = some (.bl true, mh')) (h : SqL G.K H a (ns.map V.int)) {E : XK} : spC G C f 1 [.ref a] H (fun v _ => v = .bl true) E := by
  refine ⟨rfl, ⟨H, [], [], [], []⟩, [.scr ns], .bl true, mh', rfl, ?_, ?_, e, fun B x _ _ _ r => r.bl_⟩
  · exact ⟨rfl, fun b hb => by simp at hb, fun b hb => by simp at hb, fun l o e => by simp at e, fun l l' a o o' e => by simp at e, fun a ha => by simp at ha, fun a ha => by simp at ha, fun b hb => by simp at hb⟩
  · refine Reps.one ?_
    unfold Rep
    refine ⟨a, rfl, ?_⟩
    rcases scr_noH h with h | h
    · refine .inl ⟨h, fun z => ?_, fun z => by simp at z⟩
      obtain ⟨l, o, e, _⟩ := z
      simp at e
    · exact .inr h
end L2.Mi

set_option Elab.async false
set_option linter.all false
set_option maxRecDepth 100000
set_option maxHeartbeats 4000000
/-! Mini15: sorted of whole numbers. -/
namespace L2.Mi
open PySem PySem.Spec PyProof.Rows
theorem sort_uniq {l m : List Int} (h1 : l.Pairwise (· ≤ ·)) (h2 : m.Pairwise (· ≤ ·)) (p : l.Perm m) : l = m := List.Perm.eq_of_pairwise (fun a b _ _ x y => Int.le_antisymm x y) h1 h2 p
theorem bt_sorted : bootBuiltins "sorted" = some (.builtin "sorted") := by decide +kernel
section
variable {G : Gb} {C : CallF} {X : Cx} {pos p : Pos} {e : Expr}
theorem sb_max (hm : X.mg "max" = none) (hK : X.K = G.K) {es : List Expr} {ms : List ME} (ha : PA X (e :: es) (tEs G C ms)) (hc : X.calm = true := by rfl) (hg : Gl X "max" := by rfl) (he : starEach (e :: es) X.env = (false, eval e X.env) :: starEach es X.env := by rfl) (hpl : (backTo pos (starEach es X.env)).any (·.1) = false := by rfl) : PE X (.Call (.Name "max" p) (e :: es) [] pos) (tE G C (.bi .max ms)) := se_biB bi_max (cr_max hc) hK hg hm bt_max ha (by decide) (by decide) he hpl
theorem sb_min (hm : X.mg "min" = none) (hK : X.K = G.K) {es : List Expr} {ms : List ME} (ha : PA X (e :: es) (tEs G C ms)) (hc : X.calm = true := by rfl) (hg : Gl X "min" := by rfl) (he : starEach (e :: es) X.env = (false, eval e X.env) :: starEach es X.env := by rfl) (hpl : (backTo pos (starEach es X.env)).any (·.1) = false := by rfl) : PE X (.Call (.Name "min" p) (e :: es) [] pos) (tE G C (.bi .min ms)) := se_biB bi_min (cr_min hc) hK hg hm bt_min ha (by decide) (by decide) he hpl
end
end L2.Mi

set_option Elab.async false
set_option linter.all false
set_option maxRecDepth 100000
set_option maxHeartbeats 4000000
/-! Mini16: sorted of tuples of whole numbers, the first of them empty. -/
namespace L2.Mi
open PySem PySem.Spec PyProof.Rows
section
variable {M : Model} {A : Around} {E : Value → Shared → Prop} {s : Shared}
theorem mapM_to {α β : Type} {f : α → Sem β} {g : α → β} : ∀ (l : List α) {Q : List β → Shared → Prop}, (∀ v ∈ l, ∀ (Q' : β → Shared → Prop), Q' (g v) s → wpAny M A (f v) Q' E s) → Q (l.map g) s → wpAny M A (l.mapM f) Q E s
  | [], _, _, h => by rw [List.mapM_nil]; exact wpAny_pure h
  | x :: l, Q, hf, h => by
    rw [List.mapM_cons]
    exact wpAny_bind (hf x (.head _) _ (wpAny_bind (mapM_to l (g := g) (Q := fun bs s' => wpAny M A (pure (g x :: bs)) Q E s') (fun v hv => hf v (.tail _ hv)) (wpAny_pure h))))
/-- the first item of the tuple at v -/
def fst0 (h : Heap) (v : Value) : Option Value := match v with
  | .ref a => match h.get? a with
    | some o => match o.data with
      | .seq its _ => its[0]?
      | _ => none
    | none => none
  | _ => none
/-- v is a tuple with these numbers -/
def IsTI (h : Heap) (v : Value) (ns : List Int) : Prop := ∃ (a : Addr) (its : Array Value), v = .ref a ∧ IsTup h a its ∧ IntsAre its.toList ns
theorem IsTI.type {h : Heap} {v : Value} {ns : List Int} (x : IsTI h v ns) : PySem.W.Looks M h (typeOf v) (.type "tuple") := by
  obtain ⟨a, its, rfl, ⟨o, ho, hc, n, hd⟩, _⟩ := x
  have z : PySem.W.Looks M h (typeOf (.ref a)) o.cls := (PySem.W.Looks.ld ho).andThen .now
  rw [hc] at z
  exact z
theorem kind_t0 {prog : Program} {w : World} {vs : List Value} {k : Value → List Int} {Q : SortKind → Shared → Prop} (h2 : 2 ≤ vs.length) (hv : ∀ v ∈ vs, IsTI s.heap v (k v)) (h0 : ∀ v, vs.head? = some v → k v = []) (h : Q oneType' s) : wpAny (model prog w) A (keyKind' vs.toArray) Q E s := by
  obtain ⟨v₁, v₂, rest, rfl⟩ : ∃ v₁ v₂ rest, vs = v₁ :: v₂ :: rest := by
    match vs, h2 with
    | [], h2 => simp at h2
    | [_], h2 => simp at h2
    | v₁ :: v₂ :: rest, _ => exact ⟨v₁, v₂, rest, rfl⟩
  have hf : fst0 s.heap v₁ = none := by
    obtain ⟨a, its, rfl, ⟨o, ho, hc, n, hd⟩, hi⟩ := hv v₁ (by simp)
    rw [h0 _ rfl] at hi
    have : its.toList = [] := by cases hq : its.toList with
      | nil => rfl
      | cons => rw [hq] at hi; cases hi
    unfold fst0
    simp only [ho, hd]
    have hz : its.size = 0 := by rw [← Array.length_toList, this]; rfl
    exact Array.getElem?_eq_none (by omega)
  rw [keyKind'_eq, List.mapM_toArray, map_eq_pure_bind]
  refine wpAny_bind (wpAny_bind (mapM_to (g := fst0 s.heap) _ (fun v hm Q' hq => ?_) (wpAny_pure ?_)))
  · have ty := (hv v hm).type (M := model prog w)
    obtain ⟨a, its, rfl, ⟨o, ho, hc, n, hd⟩, hi⟩ := hv v hm
    rw [PySem.W.kas_first_eq]
    refine wpAny_bind (ty.here ?_)
    rw [if_neg (by decide)]
    refine wpAny_bind (wpAny_listItems ho hd (wpAny_pure ?_))
    unfold fst0 at hq
    simp only [ho, hd] at hq
    exact hq
  · have e1 : (List.map (fst0 s.heap) (v₁ :: v₂ :: rest)).toArray.all (fun x => x.isSome) = false := by simp [hf]
    have e2 : ((List.map (fst0 s.heap) (v₁ :: v₂ :: rest)).toArray[0]?.bind id).isSome = false := by simp [hf]
    rw [if_neg (by rw [e1]; exact Bool.false_ne_true), if_neg (by rw [e2]; exact Bool.false_ne_true)]
    rw [oneTypeOnly'_eq, List.mapM_toArray, map_eq_pure_bind]
    refine wpAny_bind (wpAny_bind (wpAny_bind (PySem.W.kas_mapM (r := Value.type "tuple") _ (fun v hm Q' hq => ((hv v hm).type (M := model prog w)).here hq) (wpAny_pure ?_))))
    have hall : ((List.map (fun _ => Value.type "tuple") (v₁ :: v₂ :: rest)).toArray.all fun x => x == Value.type "tuple") = true := by
      simp only [List.all_toArray, List.all_map, List.all_eq_true]
      intro _ _
      rfl
    have h0' : (List.map (fun _ => Value.type "tuple") (v₁ :: v₂ :: rest)).toArray[0]? = some (Value.type "tuple") := by simp
    rw [h0']
    simp only [hall, if_true]
    exact wpAny_pure (wpAny_pure h)
end
section
variable {prog : Program} {w : World} {A : Around} {E : Value → Shared → Prop} {s : Shared}
theorem lt_ti {v u : Value} {ns ms : List Int} {Q : Bool → Shared → Prop} (hu : A.units < cLine) (hv : IsTI s.heap v ns) (hw : IsTI s.heap u ms) (h : Q (HT.lexLt ns ms) s) : wpAny (model prog w) A (keyLt' oneType' v u) Q E s := by
  have tv := hv.type (M := model prog w)
  have sp : PySem.W.Looks (model prog w) s.heap (specialOf v "__lt__") (some (.builtin "tuple.__lt__")) := tv.andThen (PySem.W.Looks.of_pure PySem.F.slot_tuple_lt.lookup)
  obtain ⟨a, its, rfl, ta, ia⟩ := hv
  obtain ⟨b, its2, rfl, tb, ib⟩ := hw
  obtain ⟨⟨cls, dd, data, sl⟩, ho, hc, n, hd⟩ := id ta
  obtain ⟨⟨cls2, dd2, data2, sl2⟩, ho2, hc2, n2, hd2⟩ := id tb
  simp only at hc hd hc2 hd2
  subst hc hd hc2 hd2
  rw [keyLt'_oneType, oneLt'_eq]
  simp only [if_true]
  refine wpAny_bind (wpAny_cRoomFor hu ?_)
  refine wpAny_bind (NtL.csib (E := E) sp (PySem.F.slot_tuple_lt.bind _) ?_)
  exact call_meets PySem.F.slot_tuple_lt ⟨_, ho, rfl⟩ PySem.F.entry_tuple_lt (PySem.F.args_tuple_lt_2 _ _) (HT.tuple_lt_ints a b its its2 n n2 dd dd2 sl sl2 ns ms ia ib) ⟨ho, ho2, wpAny_truthy_bool h⟩
end
/-- sorted(xs), tuples of ints in order already, the first of them empty: a new list of the same -/
def rSortedT0 (K : PySem.W.Frag) : List V → Hp → VK → Prop := fun vs H Q => ∃ (a : Addr) (xs : List V) (k : V → List Int), vs = [V.ref a] ∧ SqL K H a xs ∧ (∀ x ∈ xs, ∃ t, x = V.ref t ∧ SqT K H t ((k x).map V.int)) ∧
  (∀ x, xs.head? = some x → k x = []) ∧ xs.Pairwise (fun x y => HT.lexLt (k y) (k x) = false) ∧ ∀ p, H p = none → Q (.ref p) (upd H p (.lst xs))
theorem cr_sortedT0 {X : Cx} (hu : X.A.units + 64 < cLine) : CallR X (.builtin "sorted") (rSortedT0 X.K) := by
  intro pins s σ H vs us Q I r h
  obtain ⟨a, xs, k, rfl, hs, hx, h0, hp, q⟩ := h
  obtain ⟨its, rv, hl, hz⟩ := I.list hs
  obtain ⟨u, rfl, ru⟩ := vals1 r
  obtain rfl : u = Value.ref a := ru
  obtain ⟨e1, e2⟩ := refs_back rv fun x m => by
    obtain ⟨t, e, _⟩ := hx x m
    exact ⟨t, e⟩
  have hti : ∀ v ∈ its, IsTI s.heap v (k (backV v)) := fun v hv => by
    obtain ⟨t, rfl⟩ := e2 v hv
    have hm : V.ref t ∈ xs := by rw [e1]; exact List.mem_map.mpr ⟨_, hv, rfl⟩
    obtain ⟨t', e, ht⟩ := hx _ hm
    cases e
    obtain ⟨its2, r2, ht2, _⟩ := I.tuple ht
    exact ⟨t, its2.toArray, rfl, ht2, by show IntsAre its2.toArray.toList (k (V.ref t)); simpa using intsAre_of r2⟩
  have keeps : ∀ {h' : Heap} {v : Value} {ns : List Int}, (∀ b o, s.heap.get? b = some o → h'.get? b = some o) → IsTI s.heap v ns → IsTI h' v ns := fun {h' v ns} kk x => by
    obtain ⟨b, it, rfl, ⟨o, ho, hc, n, hd⟩, hi⟩ := x
    exact ⟨b, it, rfl, ⟨o, kk _ _ ho, hc, n, hd⟩, hi⟩
  refine SrtO.sorted_ord (NtL.swo_lexL fun u => k (backV u)) hl.isList (by rw [← rv.length]; exact hz) (fun h2 h₁ a' ha kk h' keep => ?_) fun out h1 h2 => ?_
  · have hti' : ∀ v ∈ its, IsTI h' v (k (backV v)) := fun v hv => keeps (fun b o e => by
      obtain ⟨hne, e'⟩ := kk b o e
      exact keep b o hne e') (hti v hv)
    refine ⟨oneType', fun Q' E' hq => kind_t0 (s := { s with heap := h' }) (k := fun v => k (backV v)) h2 hti' (fun v hv => ?_) hq, fun p q' hp' hq' => ?_⟩
    · refine h0 _ ?_
      rw [e1, List.head?_map, hv]
      rfl
    · exact lt_ti (s := { s with heap := h' }) (Q := fun r s' => s' = { s with heap := h' } ∧ r = HT.lexLt (k (backV p.1)) (k (backV q'.1))) (E := fun _ _ => False) (by show X.A.in1.in1.units < cLine; simp only [Around.in1]; omega) (hti' p.1 hp') (hti' q'.1 hq') ⟨rfl, rfl⟩
  · have hin : SrtO.Srtd (fun v u => HT.lexLt (k (backV v)) (k (backV u))) its := by
      have : (its.map backV).Pairwise (fun x y => HT.lexLt (k y) (k x) = false) := by rw [← e1]; exact hp
      exact (List.pairwise_map.mp this)
    have eo : out = its := SrtO.stb_uniq (NtL.swo_lexL fun u => k (backV u)) h1 hin h2
    subst eo
    obtain ⟨ep, he'⟩ := PyProof.Rows.sortedAll_at s.heap out out.toArray
    exact ⟨.ref _, upd H (s.heap.objs.size + 1) (.lst xs), I.laid (t' := s.toks) (fun _ _ => PyProof.Rows.sortedAll_old) (Nat.le_succ _) ⟨hz, out, ep, rv, he'⟩, rfl, q _ (I.hok.fresh (Nat.le_succ _))⟩
/-- the same, the numbers told place by place -/
def rSortedT1 (K : PySem.W.Frag) : List V → Hp → VK → Prop := fun vs H Q => ∃ (a : Addr) (xs : List V) (nss : List (List Int)), vs = [V.ref a] ∧ SqL K H a xs ∧ xs.length = nss.length ∧ (∀ (i : Nat) (x : V) (ns : List Int), xs[i]? = some x → nss[i]? = some ns → ∃ t, x = V.ref t ∧ SqT K H t (ns.map V.int)) ∧
  nss.head? = some [] ∧ nss.Pairwise (fun x y => HT.lexLt y x = false) ∧ ∀ p, H p = none → Q (.ref p) (upd H p (.lst xs))
theorem map_int_inj : ∀ {a b : List Int}, a.map V.int = b.map V.int → a = b
  | [], [], _ => rfl
  | [], _ :: _, h => by simp at h
  | _ :: _, [], h => by simp at h
  | x :: a, y :: b, h => by
    simp only [List.map_cons, List.cons.injEq] at h
    obtain ⟨h1, h2⟩ := h
    cases h1
    rw [map_int_inj h2]
open Classical in
theorem cr_sortedT1 {X : Cx} (hu : X.A.units + 64 < cLine) : CallR X (.builtin "sorted") (rSortedT1 X.K) := by
  intro pins s σ H vs us Q I r h
  obtain ⟨a, xs, nss, rfl, hs, hl, hx, h0, hp, q⟩ := h
  let k : V → List Int := fun x => if h : ∃ ns : List Int, ∃ t, x = V.ref t ∧ SqT X.K H t (ns.map V.int) then Classical.choose h else []
  have hk : ∀ (x : V) (ns : List Int), (∃ t, x = V.ref t ∧ SqT X.K H t (ns.map V.int)) → k x = ns := fun x ns hh => by
    have ex : ∃ ns : List Int, ∃ t, x = V.ref t ∧ SqT X.K H t (ns.map V.int) := ⟨ns, hh⟩
    obtain ⟨t, rfl, ht⟩ := hh
    obtain ⟨t', e, ht'⟩ := Classical.choose_spec ex
    cases e
    have : k (V.ref t) = Classical.choose ex := dif_pos ex
    rw [this]
    exact map_int_inj (I.tuple_inj ht' ht)
  have hm : xs.map k = nss := by
    apply List.ext_getElem?
    intro i
    rw [List.getElem?_map]
    by_cases hi : i < xs.length
    · have e1 : xs[i]? = some xs[i] := List.getElem?_eq_getElem hi
      have hi2 : i < nss.length := by rw [← hl]; exact hi
      have e2 : nss[i]? = some nss[i] := List.getElem?_eq_getElem hi2
      rw [e1, e2, Option.map_some, hk _ _ (hx i _ _ e1 e2)]
    · rw [List.getElem?_eq_none (by omega), List.getElem?_eq_none (by omega)]; rfl
  refine cr_sortedT0 hu pins s σ H [V.ref a] us Q I r ⟨a, xs, k, rfl, hs, fun x hxm => ?_, fun x hh => ?_, ?_, q⟩
  · obtain ⟨i, hi⟩ := List.mem_iff_getElem?.mp hxm
    have hi1 := (List.getElem?_eq_some_iff.mp hi).1
    have e2 : nss[i]? = some nss[i] := List.getElem?_eq_getElem (by rw [← hl]; exact hi1)
    obtain ⟨t, e, ht⟩ := hx i _ _ hi e2
    exact ⟨t, e, by rw [hk _ _ ⟨t, e, ht⟩]; exact ht⟩
  · rw [← hm, List.head?_map, hh] at h0
    exact Option.some.inj h0
  · rw [← hm] at hp
    exact List.pairwise_map.mp hp
def rSortedDS : List V → Hp → VK → Prop := fun xs H Q => ∃ (a : Addr) (kvs : List (Key × V)) (ks : List Str), xs = [.ref a] ∧ Rd H a (.dK kvs) ∧ kvs.map (·.1) = ks.map Sum.inr ∧ ks.length < 64 ∧
    ∀ ys p, ys.Perm ks → sortedS ys = true → H p = none → Q (.ref p) (upd H p (.lst (ys.map V.str)))
def rSortedB (K : PySem.W.Frag) : List V → Hp → VK → Prop := fun vs H Q => L2.rSortedI K vs H Q ∨ rSortedT1 K vs H Q ∨ rSortedS K vs H Q ∨ rSortedDS vs H Q
/-! the order of texts -/
theorem sx_le_trans {a b c : Sx} (h : a ≤ b) (h' : b ≤ c) : a ≤ c := List.le_trans h h'
theorem sx_le_anti {a b : Sx} (h : a ≤ b) (h' : b ≤ a) : a = b := List.le_antisymm h h'
theorem sx_le_total (a b : Sx) : a ≤ b ∨ b ≤ a := List.le_total a b
theorem sortS_pair (xs : List Sx) : (sortS xs).Pairwise (· ≤ ·) := by
  have := List.pairwise_mergeSort (le := fun a b : Sx => decide (a ≤ b)) (fun a b c x y => by simp only [decide_eq_true_eq] at x y ⊢; exact sx_le_trans x y) (fun a b => by simp only [Bool.or_eq_true, decide_eq_true_eq]; exact sx_le_total a b) xs
  exact this.imp fun {a b} z => of_decide_eq_true z
theorem risingS_pair : ∀ (p : Str) (l : List Str), risingS p l = true → (∀ x ∈ l, p.cps.toList ≤ x.cps.toList) ∧ l.Pairwise fun a b => a.cps.toList ≤ b.cps.toList
  | p, [], _ => ⟨fun x h => by simp at h, .nil⟩
  | p, x :: r, h => by
    have h' : (!ltCps x.cps.toList p.cps.toList && risingS x r) = true := h
    rw [Bool.and_eq_true, PyProof.Rows.ltCps_eq] at h'
    obtain ⟨h1, h2⟩ := risingS_pair x r h'.2
    have h3 : p.cps.toList ≤ x.cps.toList := by
      have := h'.1
      simp only [Bool.not_eq_true', decide_eq_false_iff_not] at this
      exact this
    refine ⟨fun y hy => ?_, List.pairwise_cons.mpr ⟨h1, h2⟩⟩
    rcases List.mem_cons.mp hy with rfl | hy
    · exact h3
    · exact sx_le_trans h3 (h1 y hy)
theorem sortedS_pair : ∀ (l : List Str), sortedS l = true → l.Pairwise fun a b => a.cps.toList ≤ b.cps.toList
  | [], _ => .nil
  | x :: r, h => List.pairwise_cons.mpr (risingS_pair x r h)
theorem sortS_of {ys : List Str} {ss : List Sx} (hp : ys.Perm (ss.map fun s => (⟨s.toArray⟩ : Str))) (hs : sortedS ys = true) : ys = (sortS ss).map fun s => (⟨s.toArray⟩ : Str) := by
  have h1 : (ys.map fun y => y.cps.toList).Perm ss := by
    have := hp.map fun y : Str => y.cps.toList
    rw [List.map_map] at this
    have e : (ss.map ((fun y : Str => y.cps.toList) ∘ fun s => (⟨s.toArray⟩ : Str))) = ss := by
      have : ((fun y : Str => y.cps.toList) ∘ fun s : Sx => (⟨s.toArray⟩ : Str)) = id := by funext s; simp
      rw [this, List.map_id]
    rw [e] at this
    exact this
  have h2 : (ys.map fun y => y.cps.toList) = sortS ss := by
    refine List.Perm.eq_of_pairwise (le := (· ≤ ·)) (fun a b _ _ x y => sx_le_anti x y) ?_ (sortS_pair ss) (h1.trans (List.mergeSort_perm ss _).symm)
    exact List.pairwise_map.mpr (sortedS_pair ys hs)
  rw [← h2, List.map_map]
  have : ((fun s : Sx => (⟨s.toArray⟩ : Str)) ∘ fun y : Str => y.cps.toList) = id := by
    funext y
    exact str_toList_eq (by simp)
  rw [this, List.map_id]
theorem Reps.strOf {G : Gb} {A : Wd} : ∀ {xs : List MV} {vs : List V} {ss : List Sx}, Reps G A xs vs → xs.mapM strOf = some ss → vs = ss.map fun s => V.str ⟨s.toArray⟩
  | [], vs, ss, h, e => by
    unfold Reps at h
    simp at e
    subst e h
    rfl
  | x :: xs, vs, ss, h, e => by
    unfold Reps at h
    obtain ⟨v, r, rfl, h1, h2⟩ := h
    simp only [List.mapM_cons, Option.bind_eq_bind, Option.bind_eq_some_iff] at e
    obtain ⟨b, e1, cs, e2, e3⟩ := e
    cases x with
    | str s =>
      cases e1
      cases e3
      rw [h1.str_, Reps.strOf h2 e2]
      rfl
    | _ => exact absurd e1 (by simp [Mi.strOf])
theorem Reps.strs {G : Gb} {A : Wd} : ∀ ss : List Sx, Reps G A (ss.map .str) (ss.map fun s => V.str ⟨s.toArray⟩)
  | [] => by unfold Reps; rfl
  | s :: ss => by rw [List.map_cons, List.map_cons]; unfold Reps; exact ⟨_, _, rfl, rep_str s, Reps.strs ss⟩
theorem keys_str : ∀ {ks : List MKey} {ss : List Sx}, (ks.map kM).mapM strOf = some ss → ks.map kOf = (ss.map fun s => (⟨s.toArray⟩ : Str)).map Sum.inr
  | [], ss, e => by simp at e; subst e; rfl
  | k :: ks, ss, e => by
    rw [List.map_cons] at e
    simp only [List.mapM_cons, Option.bind_eq_bind, Option.bind_eq_some_iff] at e
    obtain ⟨b, e1, cs, e2, e3⟩ := e
    cases e3
    cases k with
    | inl i => cases e1
    | inr s =>
      cases e1
      rw [List.map_cons, keys_str e2]
      rfl
theorem cr_sortedB {X : Cx} (hc : X.calm = true) (hu : X.A.units + 65 < cLine) : CallR X (.builtin "sorted") (rSortedB X.K) := CallR.or L2.cr_sortedI (CallR.or (cr_sortedT1 (by omega)) (CallR.or cr_sortedS (call_sortedD hc)))
theorem mapM_at {α β : Type} {f : α → Option β} : ∀ {xs : List α} {ys : List β}, xs.mapM f = some ys → xs.length = ys.length ∧ ∀ (i : Nat) x y, xs[i]? = some x → ys[i]? = some y → f x = some y
  | [], ys, h => by
    simp at h
    subst h
    exact ⟨rfl, fun i x y e => by simp at e⟩
  | a :: xs, ys, h => by
    simp only [List.mapM_cons, Option.bind_eq_bind, Option.bind_eq_some_iff] at h
    obtain ⟨b, e1, bs, e2, e3⟩ := h
    cases e3
    obtain ⟨l, r⟩ := mapM_at e2
    refine ⟨by simp [l], fun i x y h1 h2 => ?_⟩
    cases i with
    | zero => simp at h1 h2; subst h1 h2; exact e1
    | succ i => simp only [List.getElem?_cons_succ] at h1 h2; exact r i x y h1 h2
theorem bi_sorted : BiS .sorted rSortedB := by
  intro G A xs v vs Q S e r h
  obtain ⟨x, hx, e'⟩ := one1_some e
  subst hx
  replace e := e'
  clear e'
  obtain ⟨w, rfl, rx⟩ := r.one_
  unfold sortedV at e
  split at e
  · split at e
    · cases e
    rename_i d hd
    split at e
    · rename_i ss hss
      split at e
      · rename_i h64
        cases e
        obtain ⟨ks, ms⟩ := d
        obtain ⟨a, ws, rfl, hH, hl, rr⟩ := getD_rep S hd rx
        refine .inr (.inr (.inr ⟨a, _, ss.map fun s => (⟨s.toArray⟩ : Str), rfl, hH, ?_, by rw [List.length_map]; exact h64, fun zs p hp hs hq => ?_⟩))
        · rw [← keys_str hss]
          exact List.map_fst_zip (by rw [List.length_map, hl, rr.len]; exact Nat.le_refl _)
        · rw [sortS_of hp hs, List.map_map]
          exact h.newLst S (Reps.strs _) hq
      · cases e
    · cases e
  rename_i ys hy
  obtain ⟨a, ws, rfl, hH, rr⟩ := getL_rep S hy rx
  split at e
  · rename_i ns hn
    cases e
    have hv := rr.intOf hn
    subst hv
    refine .inl ⟨a, ns, rfl, SqL.of hH, fun ns' p perm rising hp => ?_⟩
    have e2 : ns' = ns.mergeSort fun a b => decide (a ≤ b) := by
      refine sort_uniq rising ?_ (perm.trans (List.mergeSort_perm ns _).symm)
      have := List.pairwise_mergeSort (le := fun a b : Int => decide (a ≤ b)) (fun a b c x y => by simp at x y ⊢; omega) (fun a b => by simp; omega) ns
      exact this.imp fun {a b} z => of_decide_eq_true z
    rw [e2]
    exact h.newLst S Reps.map_int hp
  · split at e
    · rename_i nss hn
      split at e
      · rename_i hc
        cases e
        obtain ⟨ml, ma⟩ := mapM_at hn
        refine .inr (.inl ⟨a, ws, nss, rfl, SqL.of hH, by rw [← rr.len]; exact ml, fun i u ns h1 h2 => ?_, hc.1, hc.2, fun p hp => h.newLst S rr hp⟩)
        have hi : i < ys.length := by rw [rr.len]; exact (List.getElem?_eq_some_iff.mp h1).1
        have h3 : ys[i]? = some ys[i] := List.getElem?_eq_getElem hi
        have ht := ma i _ _ h3 h2
        have ru := rr.at h3 h1
        cases hq : ys[i] with
        | tup zs =>
          rw [hq] at ht ru
          obtain ⟨t, us, e, h5, h6⟩ := ru.tup_
          have := h6.intOf (show zs.mapM intOf = some ns from ht)
          exact ⟨t, e, by rw [← this]; exact h5⟩
        | _ => rw [hq] at ht; cases ht
      · cases e
    · split at e
      · rename_i ss hss
        split at e
        · rename_i h64
          cases e
          have := rr.strOf hss
          subst this
          refine .inr (.inr (.inl ⟨a, ss.map fun s => (⟨s.toArray⟩ : Str), rfl, ?_, by rw [List.length_map]; exact h64, fun zs p hp hs hq => ?_⟩))
          · rw [List.map_map]; exact SqL.of hH
          · rw [sortS_of hp hs, List.map_map]
            exact h.newLst S (Reps.strs _) hq
        · cases e
      · cases e
section
variable {G : Gb} {C : CallF} {X : Cx} {pos p : Pos} {e : Expr}
theorem sb_sorted (hm : X.mg "sorted" = none) (hK : X.K = G.K) {es : List Expr} {ms : List ME} (hu : X.A.units + 65 < cLine) (ha : PA X (e :: es) (tEs G C ms)) (hc : X.calm = true := by rfl) (hg : Gl X "sorted" := by rfl) (he : starEach (e :: es) X.env = (false, eval e X.env) :: starEach es X.env := by rfl) (hpl : (backTo pos (starEach es X.env)).any (·.1) = false := by rfl) : PE X (.Call (.Name "sorted" p) (e :: es) [] pos) (tE G C (.bi .sorted ms)) := se_biB bi_sorted (cr_sortedB hc hu) hK hg hm bt_sorted ha (by decide) (by decide) he hpl
end
end L2.Mi

set_option Elab.async false
set_option linter.all false
set_option maxRecDepth 100000
set_option maxHeartbeats 4000000
/-! Mini17: dicts made: {}, {k: v}, comprehensions, dict(pairs). -/
namespace L2.Mi
open PySem PySem.Spec PyProof.Rows
section
variable {G : Gb} {C : CallF} {X : Cx} {pos p : Pos} {e a b c : Expr} {ma mb mc m mk me mi : ME}
theorem Post.alDct {A : Wd} {ks : List MKey} {ms : List MV} {vs : List V} {Q : VK} {p : Addr} (h : Post G A (A.mh ++ [some (.dct ks ms)]) (.loc A.mh.length) Q) (S : Sim G A) (hl : ks.length = ms.length) (r : Reps G A ms vs) (hp : A.H p = none) : Q (.ref p) (upd A.H p (.dK ((ks.map kOf).zip vs))) := by
  have k : Keep A (A.al p (.dK ((ks.map kOf).zip vs)) (.dct ks ms)) := keep_al S hp
  refine h (A.al p (.dK ((ks.map kOf).zip vs)) (.dct ks ms)) (.ref p) k rfl (S.al hp ⟨vs, upd_same, hl, Reps.keep S k _ _ r⟩ ⟨(fun _ z => nomatch z), (fun _ _ z => nomatch z)⟩) ?_
  unfold Rep
  refine ⟨p, rfl, ?_⟩
  show (A.β ++ [p])[A.mh.length]? = some p
  rw [← S.len, List.getElem?_append_right (Nat.le_refl _)]
  simp
theorem se_dnew : PE X (.Dict [] [] pos) (tE G C .dnew) := pe_dnewK.mono fun σ H Q h => by
  obtain ⟨A, ρ, v, mh', rfl, S, N, e, q⟩ := h
  simp only [ev] at e
  cases e
  exact fun p hp => Post.newDct (ks := []) (ms := []) (vs := []) q S rfl (by unfold Reps; rfl) hp
theorem sal_dnew : PE X (.Dict [] [] pos) (tE G C (.al .dnew)) := pe_dnewK.mono fun σ H Q h => by
  obtain ⟨A, ρ, v, mh', rfl, S, N, e, q⟩ := h
  simp only [ev] at e
  cases e
  exact fun p hp => Post.alDct (ks := []) (ms := []) (vs := []) q S rfl (by unfold Reps; rfl) hp
theorem noTup_dK {kvs : List (Key × V)} : NoTup (.dK kvs) := ⟨(fun _ z => nomatch z), (fun _ _ z => nomatch z)⟩
theorem se_disp1 {k v : Expr} {mv : ME} (hk : PE X k (tE G C mk)) (hv : PE X v (tE G C mv)) : PE X (.Dict [some k] [v] pos) (tE G C (.disp1 mk mv)) := by
  refine (pe_disp (pps_cons hk hv pps_nil) rfl rfl (by simp) (by simp)).mono fun σ H Q h => ?_
  obtain ⟨A, ρ, r, mh', rfl, S, N, e, q⟩ := h
  simp only [ev] at e
  split at e
  · cases e
  rename_i x mh1 e1
  split at e
  · cases e
  rename_i y mh2 e2
  simp only [Option.map_eq_some_iff] at e
  obtain ⟨ky, e3, e4⟩ := e
  cases e4
  intro p hp
  have SA := S.hid (o := .dK []) hp noTup_dK
  have kA : Keep A (A.hid p (.dK [])) := keep_hid hp
  refine tE.go SA (N.keep S kA) (by rw [kA.base]; exact e1) fun B vx kB em SB NB rx => tE.go SB NB (ev.at (kA.trans kB) em e2) fun D vy kD em2 SD ND ry => ?_
  have pA : p ∈ (A.hid p (.dK [])).ex := List.mem_cons_self
  have pB : p ∈ B.ex := kB.ex p pA
  have pD : p ∈ D.ex := kD.ex p pB
  have eB := kB.exk p pA _ upd_same (SA.exl p pA)
  have eD := kD.exk p pB _ eB (SB.exl p pB)
  have rx' := Rep.keep SB kD _ _ rx
  refine ⟨eD, [(kOf ky, vy)], ?_, by simp, ?_⟩
  · rw [kyV_rep e3 rx']; rfl
  · have nx : p ∉ A.ex := (off_new S hp).2
    have S1 := SD.put pD (o := .dK [(kOf ky, vy)]) noTup_dK
    have hx : ∀ a ∈ A.ex, a ∈ (D.up p (.dK [(kOf ky, vy)])).ex := fun a ha => kD.ex a (kB.ex a (List.mem_cons_of_mem _ ha))
    have kF : Keep A ((D.up p (.dK [(kOf ky, vy)])).out A.ex) := keep_out (keep_put ((kA.trans kB).trans kD) hp)
    refine q ((D.up p (.dK [(kOf ky, vy)])).out A.ex) (.ref p) kF em2 (S1.out hx) ?_
    unfold Rep
    refine ⟨p, [vy], rfl, .inl upd_same, ⟨SD.exl p pD, nx⟩, rfl, Reps.one (Rep.out hx _ _ (Rep.put SD pD _ _ ry))⟩
/-! ### {k: v for x in it if c} -/
noncomputable def dcompF (C : CallF) (base : Nat) (t : Tg) (own : List Nat) (mc mk me : ME) (ρ : Env) : MV → MHp → Option (Option MV × MHp) := fun x mh2 => match asg mh2 t x (wipeE ρ own) with
  | none => none
  | some ρ' => match ev C base mc ρ' mh2 with
    | some (.bl true, mh3) => match ev C base mk ρ' mh3 with
      | none => none
      | some (z, mh4) => match ev C base me ρ' mh4 with
        | none => none
        | some (y, mh5) => some (some (.tup [z, y]), mh5)
    | some (.bl false, mh3) => some (none, mh3)
    | _ => none
variable {t : Tg} {own : List Nat}
theorem ev_dcomp {base : Nat} {ρ : Env} {mh mh' : MHp} {v : MV} (e : ev C base (.dcomp t own mi mc mk me) ρ mh = some (v, mh')) : ∃ J mh1 ys ps, evI C base mi ρ mh = some (J, mh1) ∧ J.items.length ≤ line ∧ compGo J (dcompF C base t own mc mk me ρ) J.items mh1 = some (ys, mh') ∧ ys.mapM pairK = some ps ∧ v = .dct (dFold ps [] []).1 (dFold ps [] []).2 := by
  simp only [ev] at e
  split at e
  · cases e
  rename_i J mh1 e1
  split at e
  · rename_i hl
    split at e
    · cases e
    rename_i ys mh5 e2
    split at e
    · rename_i ps e3
      cases e
      exact ⟨J, mh1, ys, ps, e1, hl, e2, e3, rfl⟩
    · cases e
  · cases e
theorem dcompF_of {base : Nat} {ρ : Env} {mh mh' : MHp} {x : MV} {r : Option MV} (e : dcompF C base t own mc mk me ρ x mh = some (r, mh')) : ∃ ρ' c mh3, asg mh t x (wipeE ρ own) = some ρ' ∧ ev C base mc ρ' mh = some (.bl c, mh3) ∧
    ((c = true ∧ ∃ z mh4 y, ev C base mk ρ' mh3 = some (z, mh4) ∧ ev C base me ρ' mh4 = some (y, mh') ∧ r = some (.tup [z, y])) ∨ (c = false ∧ mh' = mh3 ∧ r = none)) := by
  unfold dcompF at e
  split at e
  · cases e
  rename_i ρ' e1
  split at e
  · rename_i mh3 e2
    split at e
    · cases e
    rename_i z mh4 e3
    split at e
    · cases e
    rename_i y mh5 e4
    cases e
    exact ⟨ρ', true, mh3, e1, e2, .inl ⟨rfl, z, mh4, y, e3, e4, rfl⟩⟩
  · rename_i mh3 e2
    cases e
    exact ⟨ρ', false, _, e1, e2, .inr ⟨rfl, rfl, rfl⟩⟩
  · cases e
theorem dPutK_len (ks : List MKey) (k : MKey) : (dPutK ks k).length ≤ ks.length + 1 := by
  unfold dPutK
  split <;> simp
theorem dc_loop {B : Wd} {ρ : Env} {σ : L2.St} {J : Its} {I : L2.It} {ys : List MV} {ps : List (MKey × MV)} {mh5 : MHp} {Q : Hp → Prop} (hown : ∀ i ∈ tgN t, i ∈ own) (SB : Sim G B) (NB : Envs G B ρ σ) (wk : Wk G B J I) (hl : J.items.length ≤ line)
    (hc : compGo J (dcompF C B.base t own mc mk me ρ) J.items B.mh = some (ys, mh5)) (hps : ys.mapM pairK = some ps) {p : Addr} (hp : B.H p = none)
    (fin : ∀ D vs, Keep B D → Sim G D → p ∈ D.ex → D.mh = mh5 → D.H p = some (.dK (((dFold ps [] []).1.map kOf).zip vs)) → Reps G D (dFold ps [] []).2 vs → Q D.H) :
    ∃ W : Nat → Nat → Hp → Prop, (∃ m, W 0 m (upd B.H p (.dK []))) ∧ ∀ i m H, W i m H →
  (I.stop i H ∧ Q H) ∨ (I.go i H ∧ ∃ Nx : Hp → Prop, (∀ H', Nx H' → ∃ m', m' < m ∧ W (i + 1) m' H') ∧ ∀ x H', I.yld i H x H' → tG G t x (L2.wipe σ own) H' fun σ2 H2 => L2.wipe σ2 own = L2.wipe σ own ∧ tT G C mc σ2 H2 fun b H3 =>
    if b = true then tE G C mk σ2 H3 fun y H4 => tE G C me σ2 H4 fun z H5 => ∃ kvs k, y = kV k ∧ H5 p = some (.dK kvs) ∧ kvs.length < sizeLine ∧ Nx (upd H5 p (.dK (putK kvs k z))) else Nx H3) := by
  let W : Nat → Nat → Hp → Prop := fun i m H => m = J.items.length - i ∧ i ≤ J.items.length ∧ ∃ (D : Wd) (ks : List MKey) (ms rs : List MV) (qs : List (MKey × MV)) (vs : List V), Keep B D ∧ Sim G D ∧ p ∈ D.ex ∧ D.H = H ∧ H p = some (.dK ((ks.map kOf).zip vs)) ∧ ks.length = ms.length ∧ Reps G D ms vs ∧ ks.length ≤ i ∧
    compGo J (dcompF C B.base t own mc mk me ρ) (J.items.drop i) D.mh = some (rs, mh5) ∧ rs.mapM pairK = some qs ∧ dFold ps [] [] = dFold qs ks ms
  refine ⟨W, ⟨J.items.length, by simp, Nat.zero_le _, B.hid p (.dK []), [], [], ys, ps, [], keep_hid hp, SB.hid hp noTup_dK, by simp, rfl, upd_same, rfl, by unfold Reps; rfl, Nat.le_refl _, hc, hps, rfl⟩, ?_⟩
  rintro i m H ⟨rfl, hi, D, ks, ms, rs, qs, vs, kD, SD, pD, rfl, eD, hkl, rD, lD, cD, hq, yD⟩
  by_cases hlt : i < J.items.length
  · have hd : J.items.drop i = J.items[i] :: J.items.drop (i + 1) := List.drop_eq_getElem_cons hlt
    rw [hd] at cD
    obtain ⟨oD, r, mh1, rs', f1, c1, rfl⟩ := compGo_cons cD
    refine .inr ⟨wk.go D kD SD oD i hlt, fun H' => W (i + 1) (J.items.length - (i + 1)) H', fun H' w => ⟨_, by omega, w⟩, fun x H' y => ?_⟩
    obtain ⟨E, z, kE, mE, rfl, SE, hz, rz⟩ := wk.yld D kD SD oD i x H' hlt y
    have hz' : J.items[i] = z := by
      rw [List.getElem?_eq_getElem hlt] at hz
      exact Option.some.inj hz
    rw [hz', ← mE] at f1
    obtain ⟨ρ', c, mh3, g1, g2, g3⟩ := dcompF_of f1
    have kBE := kD.trans kE
    refine ⟨E, wipeE ρ own, ρ', z, rfl, SE, (NB.keep SB kBE).wipe own, rz, g1, fun σ' N' off => ⟨?_, ?_⟩⟩
    · rw [off.wipe hown, wipe_wipe]
    have pE : p ∈ E.ex := kE.ex p pD
    have eE := kE.exk p pD _ eD (SD.exl p pD)
    have rE : Reps G E ms vs := Reps.keep SD kE _ _ rD
    refine tT.go SE N' (by rw [kBE.base]; exact g2) fun F kF mF SF NF => ?_
    have pF : p ∈ F.ex := kF.ex p pE
    have eF := kF.exk p pE _ eE (SE.exl p pE)
    have rF : Reps G F ms vs := Reps.keep SE kF _ _ rE
    have kBF := kBE.trans kF
    rcases g3 with ⟨rfl, z', mh4, y', g4, g6, rfl⟩ | ⟨rfl, g5, rfl⟩
    · rw [if_pos rfl]
      rw [Option.toList_some, List.singleton_append] at hq
      simp only [List.mapM_cons, Option.bind_eq_bind, Option.bind_eq_some_iff] at hq
      obtain ⟨q0, hq0, qs', hqs, hq1⟩ := hq
      cases hq1
      simp only [pairK, Option.map_eq_some_iff] at hq0
      obtain ⟨k, hk, rfl⟩ := hq0
      refine tE.go SF NF (by rw [kBF.base, mF]; exact g4) fun K vz kK mK SK NK rz' => ?_
      have pK : p ∈ K.ex := kK.ex p pF
      have eK := kK.exk p pF _ eF (SF.exl p pF)
      have rK : Reps G K ms vs := Reps.keep SF kK _ _ rF
      have kBK := kBF.trans kK
      refine tE.go SK NK (ev.at kBK mK g6) fun L vy kL mL SL NL ry => ?_
      have pL : p ∈ L.ex := kL.ex p pK
      have eL := kL.exk p pK _ eK (SK.exl p pK)
      have rL : Reps G L ms vs := Reps.keep SK kL _ _ rK
      have kBL := kBK.trans kL
      obtain ⟨ws, e1, r1⟩ := dput_rep (k := k) hkl rL ry
      refine ⟨_, kOf k, kyV_rep hk (Rep.keep SK kL _ _ rz'), eL, ?_, rfl, hlt, L.up p (.dK (putK ((ks.map kOf).zip vs) (kOf k) vy)), dPutK ks k, dPutV ks ms k y', rs', qs', ws, keep_put kBL hp, SL.put pL noTup_dK, pL, rfl, ?_, dput_len k y' hkl, Reps.put SL pL _ _ r1, ?_, ?_, hqs, ?_⟩
      · have : ((ks.map kOf).zip vs).length ≤ ks.length := by rw [List.length_zip, List.length_map]; omega
        exact Nat.lt_of_le_of_lt (Nat.le_trans this lD) (Nat.lt_of_lt_of_le hlt hl)
      · rw [← e1]; exact upd_same
      · have := dPutK_len ks k
        omega
      · show compGo J _ _ L.mh = _
        rw [mL]; exact c1
      · rw [yD]; rfl
    · rw [if_neg Bool.false_ne_true]
      refine ⟨rfl, hlt, F, ks, ms, rs', qs, vs, kBF, SF, pF, rfl, eF, hkl, rF, Nat.le_succ_of_le lD, ?_, ?_, yD⟩
      · rw [mF, ← g5]; exact c1
      · exact hq
  · have e : i = J.items.length := by omega
    subst e
    rw [List.drop_length] at cD
    obtain ⟨oD, rfl, e5⟩ := compGo_nil cD
    simp at hq
    subst hq
    refine .inl ⟨wk.stop D kD SD oD, fin D vs kD SD pD e5.symm ?_ ?_⟩
    · rw [yD]; exact eD
    · rw [yD]; exact rD
theorem dc_frozen {A : Wd} {ρ : Env} {σ : L2.St} {v : MV} {mh' : MHp} {Q : VK} (hown : ∀ i ∈ tgN t, i ∈ own) (S : Sim G A) (N : Envs G A ρ σ) (e : ev C A.base (.dcomp t own mi mc mk me) ρ A.mh = some (v, mh')) (q : Post G A mh' v Q) :
    tDc (tI G C mi) (tG G t) (tT G C mc) (tE G C mk) (tE G C me) own σ A.H Q := by
  obtain ⟨J, mh1, ys, ps, e1, hl, e2, e3, rfl⟩ := ev_dcomp e
  refine ⟨A, ρ, J, mh1, rfl, S, N, e1, fun B I k em SB wk p hp => ?_⟩
  refine dc_loop hown SB (N.keep S k) wk hl (by rw [k.base, em]; exact e2) e3 hp fun D vs kD SD pD mD eD rD => ?_
  have hx : ∀ a ∈ B.ex, a ∈ D.ex := kD.ex
  refine q (D.out B.ex) (.ref p) (k.trans (keep_out kD)) mD (SD.out hx) ?_
  unfold Rep
  refine ⟨p, vs, rfl, .inl eD, ⟨SD.exl p pD, fun z => ?_⟩, dfold_len ps [] [] rfl, Reps.out hx _ _ rD⟩
  obtain ⟨u, e9, _⟩ := SB.exo p z
  rw [hp] at e9; cases e9
end
section
variable {G : Gb} {C : CallF} {X : Cx} {mc mk me mi : ME} {t : Tg} {kx vx tg iter : Expr} {ifs : List Expr} {scope : Scope} {own : List (Str × Nat)} {pos : Pos}
theorem se_dcomp (hown : ∀ i ∈ tgN t, i ∈ own.map (·.2)) (hc : X.calm = true) (hN : X.N.Nodup) (hi : PI X tg iter (tI G C mi)) (ok : BlkOk X.N X.env.scope scope own)
    (hg : ∀ (s : Shared) (H : Hp) (D : Addr) (cl : List (Str × Addr)) (fp : List Addr), PG (X.blk s H scope (compEnvC scope cl D X.env) fp) tg (tG G t)) (ht : ∀ (s : Shared) (H : Hp) (D : Addr) (cl : List (Str × Addr)) (fp : List Addr), PTs (X.blk s H scope (compEnvC scope cl D X.env) fp) ifs (tT G C mc))
    (hk : ∀ (s : Shared) (H : Hp) (D : Addr) (cl : List (Str × Addr)) (fp : List Addr), PE (X.blk s H scope (compEnvC scope cl D X.env) fp) kx (tE G C mk))
    (he : ∀ (s : Shared) (H : Hp) (D : Addr) (cl : List (Str × Addr)) (fp : List Addr), PE (X.blk s H scope (compEnvC scope cl D X.env) fp) vx (tE G C me)) (hs : ∀ x, foldedSetIterable iter X.env x = pure x := by intro _; rfl) :
    PE X (.DictComp kx vx [⟨tg, iter, ifs, 0⟩] scope pos) (tE G C (.dcomp t (own.map (·.2)) mi mc mk me)) := by
  refine (pe_dc hc hN hi ok hg ht hk he hs).mono fun σ H Q h => ?_
  obtain ⟨A, ρ, v, mh', rfl, S, N, e, q⟩ := h
  exact dc_frozen hown S N e q
end
section
variable {G : Gb} {C : CallF} {X : Cx} {pos p : Pos} {e : Expr}
theorem sb_dict (hm : X.mg "dict" = none) (hK : X.K = G.K) {es : List Expr} {ms : List ME} (ha : PA X (e :: es) (tEs G C ms)) (hc : X.calm = true := by rfl) (hg : Gl X "dict" := by rfl) (he : starEach (e :: es) X.env = (false, eval e X.env) :: starEach es X.env := by rfl) (hpl : (backTo pos (starEach es X.env)).any (·.1) = false := by rfl) : PE X (.Call (.Name "dict" p) (e :: es) [] pos) (tE G C (.bi .dict ms)) := se_biT bi_dict (call_dictP hc) hK hg hm bt_dict ha (by decide) (by decide) he hpl
end
end L2.Mi

set_option Elab.async false
set_option linter.all false
set_option maxRecDepth 100000
set_option maxHeartbeats 4000000
/-! Mini18: list(zip(a, b)) of two tuples. -/
namespace L2.Mi.Lz
open PySem PySem.W PyProof.Rows
open PySem.Sem (wp)
section
variable {prog : Program} {w : World} {A : Around} {E : Value → Shared → Prop} {s : Shared}
/-- the zip's next pair, the last one being held elsewhere -/
theorem held_item {z TI TO T i1 i2 l1 l2 : Addr} {f : Bool} {oT : Obj} {m n : Nat} {us vs : Array Value} {x y : Value} {Q : Value → Shared → Prop} (D : ZipApart z TI TO i1 i2 l1 l2)
    (hz : IsZipHeld s.heap z TI TO T f) (hT : s.heap.get? T = some oT) (hI : IsPair s.heap TI (.ref i1) (.ref i2))
    (p1 : s.heap.IsTupleIter i1 l1 m) (p2 : s.heap.IsTupleIter i2 l2 n) (q1 : s.heap.IsTuple l1 us) (q2 : s.heap.IsTuple l2 vs) (hx : us[m]? = some x) (hy : vs[n]? = some y)
    (k : ∀ h', IsZipHeld h' z TI TO T true → h'.IsTupleIter i1 l1 (m + 1) → h'.IsTupleIter i2 l2 (n + 1) → IsPair h' s.heap.objs.size x y → h'.objs.size = s.heap.objs.size + 1 →
      (∀ c o, c ≠ z → c ≠ i1 → c ≠ i2 → s.heap.get? c = some o → h'.get? c = some o) → Q (.ref s.heap.objs.size) { s with heap := h' }) :
    wpAny (model prog w) A (Builtin.«zip.__next__» ⟨[.ref z], []⟩) (fun fin s' => ∃ v, fin = .done (.ret v) ∧ Q v s') E s := by
  show wpAny _ _ (field (.ref z) 2 >>= _) _ _ _
  refine wpAny_bind (wpAny_field hz rfl (x := .bool false) rfl ?_)
  show wpAny _ _ (field (.ref z) 3 >>= _) _ _ _
  refine wpAny_bind (wpAny_field hz rfl (x := .ref TI) rfl (wpAny_bind (wpAny_seqItems hI rfl ?_)))
  show wpAny _ _ (Builtin.SmallTypes.ownedTupleIsFree (.ref z) >>= _) _ _ _
  refine wpAny_bind (wpAny_tupleHeld_zip hz hT fun a za sa => ?_)
  simp only [Bool.false_eq_true, if_false]
  refine wpAny_bind ?_
  rw [← Array.forIn_toList]
  simp only [List.forIn_cons, List.forIn_nil]
  refine wpAny_bind (wpAny_bind (wpAny_holding ?_))
  show wpAny _ _ (Builtin.SmallTypes.nextOf (.ref i1) >>= _) _ _ _
  refine wpAny_bind (RZ.nextOf_tuple_item (s := { s with heap := a }) (p1.extBut sa.extBut D.i1z) (q1.extBut sa.extBut D.l1z) hx fun b pb sb => wpAny_pure (wpAny_pure ?_))
  refine wpAny_bind (wpAny_bind (wpAny_holding ?_))
  show wpAny _ _ (Builtin.SmallTypes.nextOf (.ref i2) >>= _) _ _ _
  refine wpAny_bind (RZ.nextOf_tuple_item (s := { s with heap := b }) ((p2.extBut sa.extBut D.i2z).extBut sb.extBut D.i12.symm) ((q2.extBut sa.extBut D.l2z).extBut sb.extBut D.l2i1) hy fun c pc sc => wpAny_pure (wpAny_pure (wpAny_pure ?_)))
  show wpAny _ _ (newTuple [x, y] >>= _) _ _ _
  refine wpAny_bind (wpAny_newTuple ?_)
  have size : c.objs.size = s.heap.objs.size := by rw [sc.1, sb.1, sa.1]
  have zc : IsZipHeld c z TI TO T true := sc.extBut _ _ D.i2z.symm (sb.extBut _ _ D.i1z.symm za)
  have keep : ∀ d o, d ≠ z → d ≠ i1 → d ≠ i2 → s.heap.get? d = some o → c.get? d = some o := fun d o d1 d2 d3 e => sc.extBut _ _ d3 (sb.extBut _ _ d2 (sa.extBut _ _ d1 e))
  have pb' : c.IsTupleIter i1 l1 (m + 1) := pb.extBut sc.extBut D.i12
  refine wpAny_pure ⟨_, rfl, ?_⟩
  show Q (.ref c.objs.size) _
  have pr : IsPair (c.push { cls := .type "tuple", data := .seq #[x, y] }) c.objs.size x y := Heap.get?_push_size _ rfl
  have big : (c.push { cls := .type "tuple", data := .seq #[x, y] }).objs.size = c.objs.size + 1 := Heap.size_push ..
  rw [size] at pr big ⊢
  have up : ∀ d o, c.get? d = some o → (c.push { cls := .type "tuple", data := .seq #[x, y] }).get? d = some o := fun d o e => Heap.get?_push_of_some _ e
  have it : ∀ {i l : Addr} {j : Nat}, c.IsTupleIter i l j → (c.push { cls := .type "tuple", data := .seq #[x, y] }).IsTupleIter i l j := fun ⟨o, e, r⟩ => ⟨o, up _ _ e, r⟩
  exact k _ (up _ _ zc) (it pb') (it pc) pr big fun d o d1 d2 d3 e => up _ _ (keep d o d1 d2 d3 e)
theorem held_end {z TI TO T i1 i2 l1 l2 : Addr} {f : Bool} {oT : Obj} {m n : Nat} {us vs : Array Value} {Q : Fin → Shared → Prop} (hh : A.handled = none) (D : ZipApart z TI TO i1 i2 l1 l2)
    (hz : IsZipHeld s.heap z TI TO T f) (hT : s.heap.get? T = some oT) (hI : IsPair s.heap TI (.ref i1) (.ref i2))
    (p1 : s.heap.IsTupleIter i1 l1 m) (p2 : s.heap.IsTupleIter i2 l2 n) (q1 : s.heap.IsTuple l1 us) (q2 : s.heap.IsTuple l2 vs) (he : us[m]? = none ∨ vs[n]? = none)
    (k : ∀ h' e, (∀ c o, c ≠ z → c ≠ i1 → c ≠ i2 → s.heap.get? c = some o → h'.get? c = some o) → (∃ o, h'.get? e = some o ∧ o.cls = .type "StopIteration") → E (.ref e) { s with heap := h' }) :
    wpAny (model prog w) A (Builtin.«zip.__next__» ⟨[.ref z], []⟩) Q E s := by
  show wpAny _ _ (field (.ref z) 2 >>= _) _ _ _
  refine wpAny_bind (wpAny_field hz rfl (x := .bool false) rfl ?_)
  show wpAny _ _ (field (.ref z) 3 >>= _) _ _ _
  refine wpAny_bind (wpAny_field hz rfl (x := .ref TI) rfl (wpAny_bind (wpAny_seqItems hI rfl ?_)))
  show wpAny _ _ (Builtin.SmallTypes.ownedTupleIsFree (.ref z) >>= _) _ _ _
  refine wpAny_bind (wpAny_tupleHeld_zip hz hT fun a za sa => ?_)
  simp only [Bool.false_eq_true, if_false]
  refine wpAny_bind ?_
  rw [← Array.forIn_toList]
  simp only [List.forIn_cons, List.forIn_nil]
  refine wpAny_bind (wpAny_bind (wpAny_holding ?_))
  show wpAny _ _ (Builtin.SmallTypes.nextOf (.ref i1) >>= _) _ _ _
  cases hx : us[m]? with
  | none =>
    refine wpAny_bind (RZ.nextOf_tuple_end (s := { s with heap := a }) hh (p1.extBut sa.extBut D.i1z) (q1.extBut sa.extBut D.l1z) hx fun b e sb be => ?_)
    exact k b e (fun c o c1 c2 _ x => sb _ _ c2 (sa.extBut _ _ c1 x)) be
  | some x =>
    have hy : vs[n]? = none := he.elim (fun h => by rw [hx] at h; cases h) id
    refine wpAny_bind (RZ.nextOf_tuple_item (s := { s with heap := a }) (p1.extBut sa.extBut D.i1z) (q1.extBut sa.extBut D.l1z) hx fun b pb sb => wpAny_pure (wpAny_pure ?_))
    refine wpAny_bind (wpAny_bind (wpAny_holding ?_))
    show wpAny _ _ (Builtin.SmallTypes.nextOf (.ref i2) >>= _) _ _ _
    refine wpAny_bind (RZ.nextOf_tuple_end (s := { s with heap := b }) hh ((p2.extBut sa.extBut D.i2z).extBut sb.extBut D.i12.symm) ((q2.extBut sa.extBut D.l2z).extBut sb.extBut D.l2i1) hy fun c e sc ce => ?_)
    exact k c e (fun d o d1 d2 d3 x => sc _ _ d3 (sb.extBut _ _ d2 (sa.extBut _ _ d1 x))) ce
/-- where the zip stands at turn i; S: the list that is being made -/
structure Zs (h : Heap) (z TI TO i1 i2 l1 l2 S : Addr) (us vs : Array Value) (i : Nat) : Prop where
  zip : (IsZip h z TI TO .none ∧ ∃ a b, IsPair h TO a b) ∨ ∃ T f oT, IsZipHeld h z TI TO T f ∧ h.get? T = some oT ∧ S < T
  ti : IsPair h TI (.ref i1) (.ref i2)
  p1 : h.IsTupleIter i1 l1 i
  p2 : h.IsTupleIter i2 l2 i
  q1 : h.IsTuple l1 us
  q2 : h.IsTuple l2 vs
structure Low (z TI TO i1 i2 l1 l2 S : Addr) : Prop where
  z : z < S
  ti : TI < S
  to : TO < S
  i1 : i1 < S
  i2 : i2 < S
  l1 : l1 < S
  l2 : l2 < S
variable {z TI TO i1 i2 l1 l2 S : Addr} {us vs : Array Value} {i : Nat}
theorem zs_next {x y : Value} {Q : Option Value → Shared → Prop} (D : ZipApart z TI TO i1 i2 l1 l2) (L : Low z TI TO i1 i2 l1 l2 S) (hS : S < s.heap.objs.size) (Z : Zs s.heap z TI TO i1 i2 l1 l2 S us vs i) (hx : us[i]? = some x) (hy : vs[i]? = some y)
    (k : ∀ h', Zs h' z TI TO i1 i2 l1 l2 S us vs (i + 1) → IsPair h' s.heap.objs.size x y → h'.objs.size = s.heap.objs.size + 1 →
      (∀ c o, c ≠ z → c ≠ TO → c ≠ i1 → c ≠ i2 → s.heap.get? c = some o → h'.get? c = some o) → Q (some (.ref s.heap.objs.size)) { s with heap := h' }) : wpAny (model prog w) A (pyNext (.ref z)) Q E s := by
  have tup : ∀ {h h' : Heap} {l : Addr} {ws : Array Value}, (∀ o, h.get? l = some o → h'.get? l = some o) → h.IsTuple l ws → h'.IsTuple l ws := fun kp ⟨o, e, r⟩ => ⟨o, kp o e, r⟩
  rcases Z.zip with ⟨z1, a, b, z2⟩ | ⟨T, f, oT, z1, z2, z3⟩
  · refine RZ.pyNext_zipT_item D z1 Z.ti z2 Z.p1 Z.p2 Z.q1 Z.q2 hx hy fun h' a1 a2 a3 a4 a5 a6 a7 => k h' ⟨.inr ⟨_, false, _, a1, a5, hS⟩, ?_, a3, a4, ?_, ?_⟩ a5 a6 a7
    · exact a7 _ _ D.TIz D.TITO D.TIi1 D.TIi2 Z.ti
    · exact tup (fun o => a7 _ o D.l1z D.l1TO D.l1i1 D.l1i2) Z.q1
    · exact tup (fun o => a7 _ o D.l2z D.l2TO D.l2i1 D.l2i2) Z.q2
  · have ty : s.TypeIs (.ref z) "zip" := ⟨_, z1, rfl⟩
    unfold pyNext
    refine wpAny_bind (wpAny_attempt (wpAny_callSpecial?_slot (name := Str.ofString "__next__") ty F.slot_zip_next ?_))
    refine wpAny_call_entry F.slot_zip_next ty F.entry_zip_next (held_item D z1 z2 Z.ti Z.p1 Z.p2 Z.q1 Z.q2 hx hy fun h' a1 a3 a4 a5 a6 a7 => wpAny_pure ?_) (F.args_zip_next_1 _)
    have ne : ∀ {c : Addr}, c < S → T ≠ c := fun hc e => by rw [e] at z3; exact absurd (Nat.lt_trans z3 hc) (Nat.lt_irrefl _)
    refine k h' ⟨.inr ⟨T, true, oT, a1, a7 _ _ (ne L.z) (ne L.i1) (ne L.i2) z2, z3⟩, a7 _ _ D.TIz D.TIi1 D.TIi2 Z.ti, a3, a4, ?_, ?_⟩ a5 a6 fun c o c1 _ c3 c4 e => a7 c o c1 c3 c4 e
    · exact tup (fun o => a7 _ o D.l1z D.l1i1 D.l1i2) Z.q1
    · exact tup (fun o => a7 _ o D.l2z D.l2i1 D.l2i2) Z.q2
theorem zs_end {Q : Option Value → Shared → Prop} (hh : A.handled = none) (D : ZipApart z TI TO i1 i2 l1 l2) (Z : Zs s.heap z TI TO i1 i2 l1 l2 S us vs i) (he : us[i]? = none ∨ vs[i]? = none)
    (k : ∀ h', (∀ c o, c ≠ z → c ≠ TO → c ≠ i1 → c ≠ i2 → s.heap.get? c = some o → h'.get? c = some o) → Q none { s with heap := h' }) : wpAny (model prog w) A (pyNext (.ref z)) Q E s := by
  rcases Z.zip with ⟨z1, a, b, z2⟩ | ⟨T, f, oT, z1, z2, z3⟩
  · exact RZ.pyNext_zipT_end hh D z1 Z.ti z2 Z.p1 Z.p2 Z.q1 Z.q2 he k
  · have ty : s.TypeIs (.ref z) "zip" := ⟨_, z1, rfl⟩
    unfold pyNext
    refine wpAny_bind (wpAny_attempt (wpAny_callSpecial?_slot (name := Str.ofString "__next__") ty F.slot_zip_next ?_))
    refine wpAny_call_entry F.slot_zip_next ty F.entry_zip_next (held_end hh D z1 z2 Z.ti Z.p1 Z.p2 Z.q1 Z.q2 he fun h' e kp ⟨o, ho, hc⟩ => ?_) (F.args_zip_next_1 _)
    refine wpAny_bind (wpAny_isInstance (T := "StopIteration") (b := true) ⟨o, ho, hc⟩ isSubtype_stop ?_)
    exact wpAny_pure (k _ fun c o c1 _ c3 c4 x => kp c o c1 c3 c4 x)
abbrev lstO (acc : Array Value) (c : Nat) : Obj := { cls := .type "list", dict := none, data := .seq acc c, slots := #[] }
/-- the pairs that were made -/
def Prs (h : Heap) (S : Addr) (us vs : Array Value) (as : List Addr) : Prop := as.Pairwise (· < ·) ∧ ∀ (j : Nat) (a : Addr), as[j]? = some a → S < a ∧ ∃ x y, us[j]? = some x ∧ vs[j]? = some y ∧ IsPair h a x y
theorem zl_loop {R : Result → Shared → Prop} {h₁ : Heap} {n : Nat} (hh : A.handled = none) (D : ZipApart z TI TO i1 i2 l1 l2) (L : Low z TI TO i1 i2 l1 l2 S) (hn : n = min us.size vs.size) (hz : n ≤ sizeLine) (res : Value)
    (hR : ∀ h' tk acc c as, (∀ b o, b < z → b ≠ TO → b ≠ i1 → b ≠ i2 → h₁.get? b = some o → h'.get? b = some o) → h'.get? S = some (lstO acc c) → as.length = n → Prs h' S us vs as → acc.toList = as.map Value.ref → R (.ok (.ret res)) { s with heap := h', toks := tk }) :
    ∀ (k i : Nat) (h : Heap) (tk c : Nat) (acc : Array Value) (as : List Addr), n - i = k → i ≤ n → Zs h z TI TO i1 i2 l1 l2 S us vs i → (∀ b o, b < z → b ≠ TO → b ≠ i1 → b ≠ i2 → h₁.get? b = some o → h.get? b = some o) →
      h.get? S = some (lstO acc c) → acc.toList = as.map Value.ref → as.length = i → Prs h S us vs as →
      codeAny (model prog w) A (.builtin "list.extend.loop" ⟨[.ref S, .ref z, res], []⟩) R { s with heap := h, toks := tk } := by
  intro k
  induction k with
  | zero =>
    intro i h tk c acc as hk hi Z keep hS hacc hal hP
    refine codeAny_builtin PySem.F.entry_extend_loop ?_
    rw [Around.under_plainId PySem.F.plain_extend_loop _]
    show wpAny _ A.in1 (pyNext (.ref z) >>= _) _ _ _
    have he : us[i]? = none ∨ vs[i]? = none := by
      rcases Nat.le_total us.size vs.size with l | l
      · exact .inl (Array.getElem?_eq_none (by omega))
      · exact .inr (Array.getElem?_eq_none (by omega))
    refine wpAny_bind (zs_end (s := { s with heap := h, toks := tk }) (A := A.in1) hh D Z he fun h' kp => wpAny_pure ?_)
    have ne : ∀ {c : Addr}, c < S → ∀ {a : Addr}, S ≤ a → a ≠ c := fun hc a ha e => by rw [e] at ha; exact absurd (Nat.lt_of_lt_of_le hc ha) (Nat.lt_irrefl _)
    have kS : ∀ a o, S ≤ a → h.get? a = some o → h'.get? a = some o := fun a o ha => kp a o (ne L.z ha) (ne L.to ha) (ne L.i1 ha) (ne L.i2 ha)
    refine hR h' tk acc c as (fun b o b1 b2 b3 b4 e => kp b o (Nat.ne_of_lt b1) b2 b3 b4 (keep b o b1 b2 b3 b4 e)) (kS S _ (Nat.le_refl _) hS) (by omega) ⟨hP.1, fun j a hj => ?_⟩ hacc
    obtain ⟨ha, x, y, e1, e2, e3⟩ := hP.2 j a hj
    exact ⟨ha, x, y, e1, e2, kS a _ (Nat.le_of_lt ha) e3⟩
  | succ k ih =>
    intro i h tk c acc as hk hi Z keep hS hacc hal hP
    have lt1 : i < us.size := by omega
    have lt2 : i < vs.size := by omega
    have hsz : acc.size = i := by rw [← Array.length_toList, hacc, List.length_map, hal]
    have hSl : S < h.objs.size := Heap.lt_size hS
    refine codeAny_builtin PySem.F.entry_extend_loop ?_
    rw [Around.under_plainId PySem.F.plain_extend_loop _]
    show wpAny _ A.in1 (pyNext (.ref z) >>= _) _ _ _
    refine wpAny_bind (zs_next (s := { s with heap := h, toks := tk }) D L hSl Z (Array.getElem?_eq_getElem lt1) (Array.getElem?_eq_getElem lt2) fun h' Z' pr big kp => ?_)
    dsimp only at pr big kp ⊢
    have ne : ∀ {c : Addr}, c < S → ∀ {a : Addr}, S ≤ a → a ≠ c := fun hc a ha e => by rw [e] at ha; exact absurd (Nat.lt_of_lt_of_le hc ha) (Nat.lt_irrefl _)
    have kS : ∀ a o, S ≤ a → h.get? a = some o → h'.get? a = some o := fun a o ha => kp a o (ne L.z ha) (ne L.to ha) (ne L.i1 ha) (ne L.i2 ha)
    have hS' := kS S _ (Nat.le_refl _) hS
    have up : ∀ b o, b ≠ S → h'.get? b = some o → (h'.update S (Obj.mapSeq (·.push (Value.ref h.objs.size)))).get? b = some o := fun b o hb e => (Heap.get?_update_other _ _ (Ne.symm hb)).trans e
    have upl : ∀ {b : Addr} {o}, b < S → h'.get? b = some o → (h'.update S (Obj.mapSeq (·.push (Value.ref h.objs.size)))).get? b = some o := fun hb e => up _ _ (Nat.ne_of_lt hb) e
    have Z2 : Zs (h'.update S (Obj.mapSeq (·.push (Value.ref h.objs.size)))) z TI TO i1 i2 l1 l2 S us vs (i + 1) := by
      refine ⟨?_, upl L.ti Z'.ti, ?_, ?_, ?_, ?_⟩
      · rcases Z'.zip with ⟨z1, a, b, z2⟩ | ⟨T, f, oT, z1, z2, z3⟩
        · exact .inl ⟨upl L.z z1, a, b, upl L.to z2⟩
        · exact .inr ⟨T, f, oT, upl L.z z1, up _ _ (Nat.ne_of_gt z3) z2, z3⟩
      · obtain ⟨o, e, r⟩ := Z'.p1; exact ⟨o, upl L.i1 e, r⟩
      · obtain ⟨o, e, r⟩ := Z'.p2; exact ⟨o, upl L.i2 e, r⟩
      · obtain ⟨o, e, r⟩ := Z'.q1; exact ⟨o, upl L.l1 e, r⟩
      · obtain ⟨o, e, r⟩ := Z'.q2; exact ⟨o, upl L.l2 e, r⟩
    show wpAny _ A.in1 (updateSeq S (·.push (Value.ref h.objs.size)) >>= _) _ _ _
    refine wpAny_bind (wpAny_updateSeq hS' rfl (wpAny_pure ⟨plainId_quiet PySem.F.plain_extend_loop _, ih (i + 1) _ tk _ (acc.push (Value.ref h.objs.size)) (as ++ [h.objs.size]) (by omega) (by omega) Z2 ?_ (Heap.get?_update_self _ hS' rfl) (by rw [Array.toList_push, hacc, List.map_append]; rfl) (by rw [List.length_append, hal]; rfl) ?_⟩) (by rw [hsz]; omega) (by rw [Array.size_push, hsz]; omega))
    · exact fun b o b1 b2 b3 b4 e => upl (Nat.lt_trans b1 L.z) (kp b o (Nat.ne_of_lt b1) b2 b3 b4 (keep b o b1 b2 b3 b4 e))
    · refine ⟨List.pairwise_append.mpr ⟨hP.1, List.pairwise_singleton _ _, fun a ha b hb => ?_⟩, fun j b hj => ?_⟩
      · rw [List.mem_singleton.mp hb]
        obtain ⟨j, hj⟩ := List.mem_iff_getElem?.mp ha
        obtain ⟨_, x, y, _, _, e3⟩ := hP.2 j a hj
        exact Heap.lt_size e3
      rcases Nat.lt_trichotomy j as.length with g | g | g
      · rw [List.getElem?_append_left g] at hj
        obtain ⟨ha, x, y, e1, e2, e3⟩ := hP.2 j b hj
        exact ⟨ha, x, y, e1, e2, up b _ (Nat.ne_of_gt ha) (kS b _ (Nat.le_of_lt ha) e3)⟩
      · subst g
        have hb : h.objs.size = b := by simpa using hj
        subst hb
        refine ⟨hSl, us[i], vs[i], ?_, ?_, up _ _ (Nat.ne_of_gt hSl) pr⟩
        · rw [hal]; exact Array.getElem?_eq_getElem lt1
        · rw [hal]; exact Array.getElem?_eq_getElem lt2
      · rw [List.getElem?_eq_none (by rw [List.length_append, List.length_singleton]; omega)] at hj
        cases hj
theorem no_len : typeLookup (.type "zip") "__len__" = pure none := am_miss_of_fast (by first | decide +kernel | rfl)
theorem no_hint : typeLookup (.type "zip") "__length_hint__" = pure none := am_miss_of_fast (by first | decide +kernel | rfl)
theorem zip_hint {Q : Bool → Shared → Prop} (ty : s.TypeIs (.ref z) "zip") (h : Q true s) : wpAny (model prog w) A (Builtin.List.listLengthHint (.ref z)) Q E s := by
  unfold Builtin.List.listLengthHint
  refine wpAny_bind (wpAny_specialOf ty no_len ?_)
  refine wpAny_ite_split (fun c => absurd c (by decide)) (fun _ => ?_)
  refine wpAny_ite_split (fun c => absurd c (by decide)) (fun _ => ?_)
  exact wpAny_bind (wpAny_specialOf ty no_hint (wpAny_pure h))
theorem Zs.other {h h' : Heap} (L : Low z TI TO i1 i2 l1 l2 S) (Z : Zs h z TI TO i1 i2 l1 l2 S us vs i) (k : ∀ b o, b ≠ S → h.get? b = some o → h'.get? b = some o) : Zs h' z TI TO i1 i2 l1 l2 S us vs i := by
  have kl : ∀ {b : Addr} {o}, b < S → h.get? b = some o → h'.get? b = some o := fun hb e => k _ _ (Nat.ne_of_lt hb) e
  refine ⟨?_, kl L.ti Z.ti, ?_, ?_, ?_, ?_⟩
  · rcases Z.zip with ⟨z1, a, b, z2⟩ | ⟨T, f, oT, z1, z2, z3⟩
    · exact .inl ⟨kl L.z z1, a, b, kl L.to z2⟩
    · exact .inr ⟨T, f, oT, kl L.z z1, k _ _ (Nat.ne_of_gt z3) z2, z3⟩
  · obtain ⟨o, e, r⟩ := Z.p1; exact ⟨o, kl L.i1 e, r⟩
  · obtain ⟨o, e, r⟩ := Z.p2; exact ⟨o, kl L.i2 e, r⟩
  · obtain ⟨o, e, r⟩ := Z.q1; exact ⟨o, kl L.l1 e, r⟩
  · obtain ⟨o, e, r⟩ := Z.q2; exact ⟨o, kl L.l2 e, r⟩
theorem zl_call {Q : Value → Shared → Prop} (hh : A.handled = none) (D : ZipApart z TI TO i1 i2 l1 l2) (L : Low z TI TO i1 i2 l1 l2 s.heap.objs.size) (hz0 : IsZip s.heap z TI TO .none) (Z : Zs s.heap z TI TO i1 i2 l1 l2 s.heap.objs.size us vs 0) (hn : min us.size vs.size ≤ sizeLine)
    (hQ : ∀ h' tk acc c as, (∀ b o, b < z → b ≠ TO → b ≠ i1 → b ≠ i2 → s.heap.get? b = some o → h'.get? b = some o) → h'.get? s.heap.objs.size = some (lstO acc c) → as.length = min us.size vs.size → Prs h' s.heap.objs.size us vs as → acc.toList = as.map Value.ref →
      Q (.ref s.heap.objs.size) { s with heap := h', toks := tk }) : wpAny (model prog w) A (call (.type "list") [.ref z]) Q E s := by
  have hS : (s.heap.push { cls := .type "list", data := .seq #[] }).get? s.heap.objs.size = some { cls := .type "list", data := .seq #[] } := Heap.get?_push_size _ rfl
  have zne : z ≠ s.heap.objs.size := Nat.ne_of_lt L.z
  refine callType_codes (Q₁ := fun obj s₁ => obj = .ref s.heap.objs.size ∧ s₁ = { s with heap := s.heap.push { cls := .type "list", data := .seq #[] } }) PySem.F.called_list (PySem.F.typeCall_list_1 _) PySem.F.entry_list_init (code_list_new _ ⟨rfl, rfl⟩) fun obj s₁ h₁ => ?_
  obtain ⟨rfl, rfl⟩ := h₁
  refine ⟨⟨_, hS, rfl⟩, PySem.F.args_list_init_2 _ _, ?_⟩
  have key : ∀ (h : Heap) (c tk : Nat), (∀ b o, b ≠ s.heap.objs.size → s.heap.get? b = some o → h.get? b = some o) → h.get? s.heap.objs.size = some { cls := .type "list", data := .seq #[] c } →
      codeAny (model prog w) A.in1 (.builtin "list.extend.loop" ⟨[.ref s.heap.objs.size, .ref z, .none], []⟩) (fun r s' => r = .ok (.ret .none) ∧ Q (.ref s.heap.objs.size) s') { s with heap := h, toks := tk } := by
    intro h c tk k hS₁
    refine zl_loop (s := s) (h₁ := s.heap) (A := A.in1) (S := s.heap.objs.size) (us := us) (vs := vs) hh D L rfl hn .none (fun h' tk' acc c' as k1 k2 k3 k4 k5 => ⟨rfl, hQ h' tk' acc c' as k1 k2 k3 k4 k5⟩) _ 0 h tk c #[] [] (Nat.sub_zero _) (Nat.zero_le _) (Z.other L k) ?_ hS₁ rfl rfl ⟨List.Pairwise.nil, fun j a hj => by simp at hj⟩
    exact fun b o b1 _ _ _ e => k b o (Nat.ne_of_lt (Nat.lt_trans b1 L.z)) e
  show wpAny _ _ (do let old ← Builtin.List.listItems (.ref s.heap.objs.size); Builtin.List.listUpdate (.ref s.heap.objs.size) (fun _ => #[]); letGo old.toList.reverse; Builtin.List.listExtendWith (.ref s.heap.objs.size) (.ref z) .none) _ _ _
  refine wpAny_bind ?_
  unfold Builtin.List.listItems
  refine wpAny_bind (wpAny_seqItems hS rfl (wpAny_pure ?_))
  show wpAny _ _ (updateSeq s.heap.objs.size (fun _ => #[]) >>= fun _ => letGo (#[] : Array Value).toList.reverse >>= fun _ => Builtin.List.listExtendWith (.ref s.heap.objs.size) (.ref z) .none) _ _ _
  refine wpAny_bind (wpAny_updateSeq hS rfl ?_)
  have hS₂ := Heap.get?_update_self (Obj.mapSeq (fun _ => (#[] : Array Value))) hS rfl
  have k2 : ∀ b o, b ≠ s.heap.objs.size → s.heap.get? b = some o → ((s.heap.push { cls := .type "list", data := .seq #[] }).update s.heap.objs.size (Obj.mapSeq (fun _ => (#[] : Array Value)))).get? b = some o := fun b o hb e => (Heap.get?_update_other _ _ (Ne.symm hb)).trans (Heap.get?_push_of_some _ e)
  refine wpAny_bind (wpAny_letGo ?_)
  have Z2 := Z.other L k2
  have ty : ∀ {hp : Heap} {tk : Nat}, Zs hp z TI TO i1 i2 l1 l2 s.heap.objs.size us vs 0 → ({ s with heap := hp, toks := tk } : Shared).TypeIs (.ref z) "zip" := fun Z => by
    rcases Z.zip with ⟨z1, _⟩ | ⟨T, f, oT, z1, _⟩
    · exact ⟨_, z1, rfl⟩
    · exact ⟨_, z1, rfl⟩
  unfold Builtin.List.listExtendWith
  refine wpAny_bind (wpAny_typeOf (T := "zip") (ty Z2) ?_)
  have h1 : Builtin.List.listSameRef (.ref s.heap.objs.size) (.ref z) = false := by simp [Builtin.List.listSameRef, Ne.symm zne]
  have h2 : (Value.type "zip" == Value.type "list") = false := by decide
  have h3 : (Value.type "zip" == Value.type "tuple") = false := by decide
  simp only [h1, h2, h3, Bool.or_false, Bool.false_eq_true, if_false]
  have hz2 := k2 z _ zne hz0
  refine wpAny_bind (wpAny_pyIter_zip hz2 ?_)
  refine wpAny_bind (wpAny_holding (zip_hint (ty Z2) ?_))
  refine wpAny_ite_split (fun _ => ?_) (fun c => absurd rfl c)
  refine wpAny_bind (wpAny_rule (wpAny_bind ?_))
  show wpAny _ _ (updateSeq s.heap.objs.size (·.push .none) >>= fun _ => updateSeq s.heap.objs.size (·.pop)) _ _ _
  refine wpAny_bind (wpAny_updateSeq hS₂ rfl ?_)
  have hS₃ := Heap.get?_update_self (Obj.mapSeq (·.push Value.none)) hS₂ rfl
  refine wpAny_updateSeq (hz := by seq_fits) hS₃ rfl ?_
  have hS₄ := Heap.get?_update_self (Obj.mapSeq (·.pop)) hS₃ rfl
  refine wpAny_pure ⟨plainId_quiet PySem.F.plain_extend_loop _, ?_⟩
  refine codeAny_mono (key _ _ _ (fun b o hb e => ?_) hS₄) fun r s' x => ?_
  · exact (Heap.get?_update_other _ _ (Ne.symm hb)).trans ((Heap.get?_update_other _ _ (Ne.symm hb)).trans (k2 b o hb e))
  · obtain ⟨rfl, q⟩ := x
    exact ⟨rfl, q⟩
end
end L2.Mi.Lz

set_option Elab.async false
set_option linter.all false
set_option maxRecDepth 100000
set_option maxHeartbeats 4000000
/-! Mini19: list(zip(a, b)) in the evaluator. -/
namespace L2.Mi
open PySem PySem.Spec PyProof.Rows
/-- list(zip(a, b)) of two tuples -/
def tLz (K : PySem.W.Frag) (ta : TA) : TE := fun σ H Q => ta σ H fun vs H1 => ∃ a b xs ys, vs = [.ref a, .ref b] ∧ SqT K H1 a xs ∧ SqT K H1 b ys ∧ min xs.length ys.length ≤ sizeLine ∧
  ∀ (H' : Hp) (p : Addr) (as : List Addr), (∀ c o, H1 c = some o → H' c = some o) → H1 p = none → (∀ c ∈ as, H1 c = none) → H' p = some (.lst (as.map V.ref)) → as.length = min xs.length ys.length →
    (∀ (j : Nat) c x y, as[j]? = some c → xs[j]? = some x → ys[j]? = some y → H' c = some (.tup [x, y])) → Q (.ref p) H'
section
variable {X : Cx} {a b : Expr} {ta : TA} {p p2 pos pos2 : Pos}
theorem pe_lzip (hc : X.calm = true) (hg : Gl X "list") (hm : X.mg "list" = none) (hg2 : Gl X "zip") (hm2 : X.mg "zip" = none) (ha : PA X [a, b] ta)
    (hs : starEach [a, b] X.env = (false, eval a X.env) :: starEach [b] X.env := by rfl) (hpl : (backTo pos2 (starEach [b] X.env)).any (·.1) = false := by rfl)
    (na : starEach [.Call (.Name "zip" p2) [a, b] [] pos2] X.env = (false, eval (.Call (.Name "zip" p2) [a, b] [] pos2) X.env) :: starEach [] X.env := by rfl) :
    PE X (.Call (.Name "list" p) [.Call (.Name "zip" p2) [a, b] [] pos2] [] pos) (tLz X.K ta) := by
  refine ⟨fun pins s σ H Q I h => ?_⟩
  refine Call_ (ld_blt I hg hm boot_list (PyProof.Rows.callWith_type1 (args_cons ?_ na) na))
  refine Call_ (ld_blt I hg2 hm2 PyProof.Rows.boot_zip (PyProof.Rows.callWith_type1 (thn (ha.run pos2 pins s σ H _ I h) fun us s1 ⟨vs, H1, I1, r1, q1⟩ => ?_) hs hpl))
  obtain ⟨l1, l2, xs, ys, rfl, hx, hy, hz, q⟩ := q1
  cases r1 with
  | cons r rr =>
    cases rr with
    | cons r' rr =>
      cases rr
      cases r
      cases r'
      obtain ⟨it1, rv1, p1, _⟩ := I1.tuple hx
      obtain ⟨it2, rv2, p2', _⟩ := I1.tuple hy
      obtain ⟨o1, ho1, _⟩ := id p1
      obtain ⟨o2, ho2, _⟩ := id p2'
      have b1 := Heap.lt_size ho1
      have b2 := Heap.lt_size ho2
      refine RZ.call_zipT (show s1.heap.IsTuple l1 it1.toArray from p1) (show s1.heap.IsTuple l2 it2.toArray from p2') fun h' z1 z2 z3 z4 z5 hsz hk => args_nil ?_
      have D := PySem.W.ktu_apart s1.heap.objs.size l1 l2 b1 b2
      have len1 := rv1.length
      have len2 := rv2.length
      have e1 : it1.toArray.size = xs.length := by rw [List.size_toArray, len1]
      have e2 : it2.toArray.size = ys.length := by rw [List.size_toArray, len2]
      have I2 : Inv X pins σ H1 { s1 with heap := h' } := I1.kept (t' := s1.toks) hk
      have tup : ∀ {l : Addr} {ws : Array Value}, s1.heap.IsTuple l ws → h'.IsTuple l ws := fun ⟨o, e, r⟩ => ⟨o, hk _ _ e, r⟩
      refine Lz.zl_call (s := { s1 with heap := h' }) (us := it1.toArray) (vs := it2.toArray) (I1.ok.hd hc) D ⟨?_, ?_, ?_, ?_, ?_, ?_, ?_⟩ z1 ⟨.inl ⟨z1, _, _, z3⟩, z2, z4, z5, tup p1, tup p2'⟩ (by rw [e1, e2]; exact hz) fun h2 tk acc c as k1 k2 k3 k4 k5 => ?_
      · show _ < h'.objs.size; omega
      · show _ < h'.objs.size; omega
      · show _ < h'.objs.size; omega
      · show _ < h'.objs.size; omega
      · show _ < h'.objs.size; omega
      · show _ < h'.objs.size
        rw [hsz]; exact Nat.lt_of_lt_of_le b1 (Nat.le_add_right _ _)
      · show _ < h'.objs.size
        rw [hsz]; exact Nat.lt_of_lt_of_le b2 (Nat.le_add_right _ _)
      have keep : ∀ d o, s1.heap.get? d = some o → h2.get? d = some o := fun d o e => by
        have hd := Heap.lt_size e
        have far : ∀ n, d < s1.heap.objs.size + n := fun n => Nat.lt_of_lt_of_le hd (Nat.le_add_right _ _)
        exact k1 d o (far 4) (Nat.ne_of_lt (far 3)) (Nat.ne_of_lt hd) (Nat.ne_of_lt (far 1)) (hk d o e)
      have I3 : Inv X pins σ H1 { s1 with heap := h2, toks := tk } := I1.kept keep
      have big : s1.heap.objs.size ≤ h'.objs.size := by omega
      have nd : as.Nodup := k4.1.imp fun h => Nat.ne_of_lt h
      have pair : ∀ (j : Nat) (d : Addr), as[j]? = some d → ∃ x y, xs[j]? = some x ∧ ys[j]? = some y ∧ ∀ H2, ObjOk X.prog X.w H2 h2 d (.tup [x, y]) := fun j d hj => by
        obtain ⟨_, u, v, g1, g2, g3⟩ := k4.2 j d hj
        rw [List.getElem?_toArray] at g1 g2
        have j1 := (List.getElem?_eq_some_iff.mp g1).1
        have j2 := (List.getElem?_eq_some_iff.mp g2).1
        obtain ⟨u', f1, f2⟩ := rv1.get (List.getElem?_eq_getElem (l := xs) (i := j) (by omega))
        obtain ⟨v', f3, f4⟩ := rv2.get (List.getElem?_eq_getElem (l := ys) (i := j) (by omega))
        rw [g1] at f1
        rw [g2] at f3
        cases f1
        cases f3
        exact ⟨_, _, List.getElem?_eq_getElem (by omega), List.getElem?_eq_getElem (by omega), fun H2 => ⟨by show 2 ≤ sizeLine; decide, [u, v], .cons f2 (.cons f4 .nil), ⟨_, g3, rfl, _, rfl⟩⟩⟩
      have fresh : ∀ d, s1.heap.objs.size ≤ d → H1 d = none := fun d hd => I1.hok.fresh hd
      have hS0 : H1 h'.objs.size = none := fresh _ big
      have vals : Vals (as.map V.ref) acc.toList := by
        rw [k5]
        clear k5 k4 k3 pair nd
        induction as with
        | nil => exact .nil
        | cons d ds ih => rw [List.map_cons, List.map_cons]; exact .cons rfl ih
      have newL : ObjOk X.prog X.w (upd H1 h'.objs.size (.lst (as.map V.ref))) h2 h'.objs.size (.lst (as.map V.ref)) := ⟨by rw [List.length_map, k3, e1, e2]; exact hz, acc.toList, c, vals, by rw [Array.toArray_toList]; exact k2⟩
      have I4 : Inv X pins σ (upd H1 h'.objs.size (.lst (as.map V.ref))) { s1 with heap := h2, toks := tk } := I3.take (h' := h2) (t' := tk) (fun _ _ _ e => e) (I1.fpOk big hS0) newL
      obtain ⟨H2, I5, g, tps⟩ := L2.DX.takeT (P := fun d vs => ∀ (j : Nat) x y, as[j]? = some d → xs[j]? = some x → ys[j]? = some y → vs = [x, y]) (s := s1) (h' := h2) (tk := tk) I1 as _ I4 nd fun d hd => by
        obtain ⟨j, hj⟩ := List.mem_iff_getElem?.mp hd
        have hgt := (k4.2 j d hj).1
        obtain ⟨x, y, f1, f2, f3⟩ := pair j d hj
        refine ⟨Nat.le_trans big (Nat.le_of_lt hgt), by rw [upd_ne (Nat.ne_of_gt hgt)]; exact fresh d (Nat.le_trans big (Nat.le_of_lt hgt)), [x, y], fun j' x' y' hj' hx' hy' => ?_, f3⟩
        have : j' = j := by
          have i1 := (List.getElem?_eq_some_iff.mp hj).1
          have i2 := (List.getElem?_eq_some_iff.mp hj').1
          have q1 : as[j] = d := (List.getElem?_eq_some_iff.mp hj).2
          have q2 : as[j'] = d := (List.getElem?_eq_some_iff.mp hj').2
          have pw := List.pairwise_iff_getElem.mp nd
          rcases Nat.lt_trichotomy j' j with g | g | g
          · exact absurd (q2.trans q1.symm) (pw j' j i2 i1 g)
          · exact g
          · exact absurd (q1.trans q2.symm) (pw j j' i1 i2 g)
        subst this
        rw [f1] at hx'
        rw [f2] at hy'
        cases hx'
        cases hy'
        rfl
      refine ⟨.ref h'.objs.size, H2, I5, rfl, q H2 h'.objs.size as (fun d o e => g d o (by rw [upd_ne fun z => by rw [z, hS0] at e; cases e]; exact e)) hS0 (fun d hd => ?_) (g _ _ upd_same) (by rw [k3, e1, e2]) fun j d x y hj hx hy => ?_⟩
      · obtain ⟨j, hj⟩ := List.mem_iff_getElem?.mp hd
        exact fresh d (Nat.le_trans big (Nat.le_of_lt (k4.2 j d hj).1))
      · obtain ⟨ws, f1, f2⟩ := tps d (List.mem_of_getElem? hj)
        rw [f1 j x y hj hx hy] at f2
        exact f2
end
section
variable {G : Gb} {C : CallF} {X : Cx} {a b : Expr} {ma mb : ME} {p p2 pos pos2 : Pos}
theorem se_lzip (hm : X.mg "list" = none) (hm2 : X.mg "zip" = none) (hK : X.K = G.K) (ha : PA X [a, b] (tEs G C [ma, mb])) (hc : X.calm = true := by rfl) (hg : Gl X "list" := by rfl) (hg2 : Gl X "zip" := by rfl)
    (hs : starEach [a, b] X.env = (false, eval a X.env) :: starEach [b] X.env := by rfl) (hpl : (backTo pos2 (starEach [b] X.env)).any (·.1) = false := by rfl)
    (na : starEach [.Call (.Name "zip" p2) [a, b] [] pos2] X.env = (false, eval (.Call (.Name "zip" p2) [a, b] [] pos2) X.env) :: starEach [] X.env := by rfl) :
    PE X (.Call (.Name "list" p) [.Call (.Name "zip" p2) [a, b] [] pos2] [] pos) (tE G C (.lzip ma mb)) := by
  refine (pe_lzip hc hg hm hg2 hm2 ha hs hpl na).mono fun σ H Q h => ?_
  obtain ⟨A, ρ, v, mh', rfl, S, N, e, q⟩ := h
  simp only [ev] at e
  split at e
  · rename_i xs mh1 e1
    split at e
    · rename_i ys mh2 e2
      split at e
      · rename_i hl
        cases e
        refine tEs.go (vs := [.tup xs, .tup ys]) (mh1 := mh') S N (by simp only [evs, e1, e2]) fun B vs k em SB NB r => ?_
        unfold Reps at r
        obtain ⟨v1, r', rfl, r1, r2⟩ := r
        obtain ⟨v2, rfl, r3⟩ := r2.one_
        obtain ⟨l1, us, rfl, h1, s1⟩ := r1.tup_
        obtain ⟨l2, ws, rfl, h2, s2⟩ := r3.tup_
        refine ⟨l1, l2, us, ws, rfl, by rw [hK]; exact h1, by rw [hK]; exact h2, ?_, fun H' p as g hp hf hL hlen htp => ?_⟩
        · rw [← s1.len, sizeLine_eq]; omega
        -- the new world
        have kB : Keep B { B with H := H' } := ⟨fun _ h => h, fun _ h => .inl h, fun c h z => h (by cases e : B.H c with | none => rfl | some o => exact absurd ((g c o e).symm.trans z) (fun z => nomatch z)), rfl, ⟨[], by simp⟩, fun c o e _ => ⟨o, g c o e, .inl rfl⟩, fun _ h => .inl h, fun c _ o e _ => g c o e⟩
        have SB' : Sim G { B with H := H' } := by
          refine ⟨SB.len, SB.ble, SB.top, fun l o e c q => ?_, SB.inj, fun c hc => ?_, SB.exl, SB.bnd⟩
          · have r := SB.obj l o e c q
            obtain ⟨u, e', _⟩ := r.at
            exact r.keep SB kB (by rw [e']; exact g c u e')
          · obtain ⟨u, e, n⟩ := SB.exo c hc
            exact ⟨u, g c u e, n⟩
        refine q _ (.ref p) (k.trans kB) em SB' ?_
        unfold Rep
        refine ⟨p, as.map V.ref, rfl, hL, off_new SB hp, ?_⟩
        have l1' := s1.len
        have l2' := s2.len
        refine Reps.of (by rw [List.length_map, List.length_zipWith, hlen]; omega) fun i m w e3 e4 => ?_
        rw [List.getElem?_map, Option.map_eq_some_iff] at e4
        obtain ⟨c, e5, rfl⟩ := e4
        have hi := (List.getElem?_eq_some_iff.mp e5).1
        have i1 : i < xs.length := by omega
        have i2 : i < ys.length := by omega
        have e6 : (List.zipWith (fun x y => MV.tup [x, y]) xs ys)[i]? = some (.tup [xs[i], ys[i]]) := by
          rw [List.getElem?_eq_getElem (by rw [List.length_zipWith]; omega)]; simp
        rw [e6] at e3
        cases e3
        have g1 := s1.at (List.getElem?_eq_getElem i1) (List.getElem?_eq_getElem (l := us) (i := i) (by omega))
        have g2 := s2.at (List.getElem?_eq_getElem i2) (List.getElem?_eq_getElem (l := ws) (i := i) (by omega))
        unfold Rep
        refine ⟨c, _, rfl, .inl (.inl (htp i c _ _ e5 (List.getElem?_eq_getElem (by omega)) (List.getElem?_eq_getElem (by omega)))), ?_⟩
        unfold Reps
        exact ⟨_, _, rfl, Rep.keep SB kB _ _ g1, Reps.one (Rep.keep SB kB _ _ g2)⟩
      · cases e
    · cases e
  · cases e
end
end L2.Mi

set_option Elab.async false
set_option linter.all false
set_option maxRecDepth 100000
set_option maxHeartbeats 4000000

namespace L2.Mi.k08
open PySem PySem.Spec PyProof.Rows L2.Mi
/-! the text by places -/
def top (i : Nat) : Stmt := PySem.Challenge.pw_termwright_k08_rules_and_steps.main.body.getD i (.Pass ⟨0, 0, 0, 0⟩)
abbrev s_is_whole : Stmt := top 3
abbrev s_are_signs_of_text : Stmt := top 4
abbrev s_is_sign : Stmt := top 5
abbrev s_is_variable : Stmt := top 6
abbrev s_places_of : Stmt := top 7
abbrev s_is_var : Stmt := top 8
abbrev s_nodes : Stmt := top 9
abbrev s_is_term : Stmt := top 10
abbrev s_variables : Stmt := top 11
abbrev s_positions : Stmt := top 12
abbrev s_has_position : Stmt := top 13
abbrev s_at : Stmt := top 14
abbrev s_put : Stmt := top 15
abbrev s_put_for : Stmt := top 17
abbrev s_matched : Stmt := top 19
abbrev s_is_rule : Stmt := top 22
abbrev s_is_system : Stmt := top 23
abbrev s_is_linear : Stmt := top 24
abbrev s_turned : Stmt := top 25
abbrev s_is_step : Stmt := top 26
abbrev s_steps : Stmt := top 27
abbrev s_is_normal : Stmt := top 28
abbrev s_behind_row : Stmt := top 29
abbrev s_l_state : Stmt := top 31
abbrev s_l_take : Stmt := top 32
abbrev s_l_pick : Stmt := top 33
abbrev s_l_tongue : Stmt := top 34
abbrev s_l_term : Stmt := top 35
abbrev s_l_put : Stmt := top 36
abbrev s_l_names : Stmt := top 37
abbrev s_l_places : Stmt := top 38
abbrev s_l_at : Stmt := top 39
abbrev s_l_with : Stmt := top 40
abbrev s_l_match : Stmt := top 41
abbrev s_l_step : Stmt := top 42
abbrev s_l_steps : Stmt := top 43
abbrev s_l_behind : Stmt := top 44
abbrev s_l_rule : Stmt := top 45
abbrev s_l_rows : Stmt := top 46
abbrev s_law : Stmt := top 47
/-! the defs -/
def d_is_whole : Df := ⟨3, 3, false, [(.ret (.and (.isi (.var 0) .int) (.and (.not (.isi (.var 0) .bool)) (.chn .le .le (.var 1) (.var 0) (.var 2)))))]⟩
abbrev N_is_whole : List Str := ["value", "low", "high"]
abbrev P_is_whole : List Str := ["value", "low", "high"]
def d_are_signs_of_text : Df := ⟨2, 3, false, [(.ite (.or (.not (.isi (.var 0) .str)) (.or (.not (.chn .le .le (.c (.int (1))) (.bi .len [(.var 0)]) (.c (.int (8))))) (.cmp .nmem (.sub (.var 0) (.c (.int (0)))) (.var 1)))) [(.ret (.c (.bl false)))] []), (.ret (.bi .all [(.comp (.nm 2) [2] (.slcL (.var 0) (.c (.int (1)))) (.c (.bl true)) (.or (.chn .le .le (.c (.str [97])) (.var 2) (.c (.str [122]))) (.chn .le .le (.c (.str [48])) (.var 2) (.c (.str [57])))))]))]⟩
abbrev N_are_signs_of_text : List Str := ["value", "first", "sign"]
abbrev P_are_signs_of_text : List Str := ["value", "first"]
def d_is_sign : Df := ⟨1, 1, false, [(.ret (.call 1 [(.var 0), (.c (.str [97, 98, 99, 100, 101, 102, 103, 104, 105, 106, 107, 108, 109, 110, 111, 112, 113, 114, 115, 116, 117, 118, 119, 120, 121, 122]))]))]⟩
abbrev N_is_sign : List Str := ["value"]
abbrev P_is_sign : List Str := ["value"]
def d_is_variable : Df := ⟨1, 1, false, [(.ret (.call 1 [(.var 0), (.c (.str [65, 66, 67, 68, 69, 70, 71, 72, 73, 74, 75, 76, 77, 78, 79, 80, 81, 82, 83, 84, 85, 86, 87, 88, 89, 90]))]))]⟩
abbrev N_is_variable : List Str := ["value"]
abbrev P_is_variable : List Str := ["value"]
def d_places_of : Df := ⟨2, 4, false, [(.for (.tp [(.nm 2), (.nm 3)]) (.var 0) [(.ite (.cmp .eq (.var 2) (.var 1)) [(.ret (.var 3))] [])]), (.ret (.c .non))]⟩
abbrev N_places_of : List Str := ["tongue", "sign", "name", "many"]
abbrev P_places_of : List Str := ["tongue", "sign"]
def d_is_var : Df := ⟨1, 1, false, [(.ret (.isi (.var 0) .str))]⟩
abbrev N_is_var : List Str := ["term"]
abbrev P_is_var : List Str := ["term"]
def d_nodes : Df := ⟨1, 4, false, [(.par 1 2 (.al (.lst [(.var 0)])) (.c (.int (0)))), (.while (.cmp .gt (.bi .len [(.var 1)]) (.c (.int (0)))) [(.set (.nm 3) (.meth .pop (.var 1) [])), (.aug 2 .add (.c (.int (1)))), (.ite (.and (.isi (.var 3) .tuple) (.cmp .gt (.bi .len [(.var 3)]) (.c (.int (0))))) [(.ex (.meth .extend (.var 1) [(.slcL (.var 3) (.c (.int (1))))]))] [(.ite (.not (.isi (.var 3) .str)) [(.ret (.c .non))] [])]), (.ite (.cmp .gt (.var 2) (.c (.int (400)))) [(.ret (.var 2))] [])]), (.ret (.var 2))]⟩
abbrev N_nodes : List Str := ["value", "waiting", "found", "now"]
abbrev P_nodes : List Str := ["value"]
def d_is_term : Df := ⟨2, 5, false, [(.set (.nm 2) (.call 6 [(.var 0)])), (.ite (.or (.cmp .is (.var 2) (.c .non)) (.cmp .gt (.var 2) (.c (.int (400))))) [(.ret (.c (.bl false)))] []), (.set (.nm 3) (.al (.lst [(.var 0)]))), (.while (.cmp .gt (.bi .len [(.var 3)]) (.c (.int (0)))) [(.set (.nm 4) (.meth .pop (.var 3) [])), (.ite (.isi (.var 4) .tuple) [(.ite (.or (.not (.call 2 [(.sub (.var 4) (.c (.int (0))))])) (.cmp .ne (.call 4 [(.var 1), (.sub (.var 4) (.c (.int (0))))]) (.bin .sub (.bi .len [(.var 4)]) (.c (.int (1)))))) [(.ret (.c (.bl false)))] []), (.ex (.meth .extend (.var 3) [(.slcL (.var 4) (.c (.int (1))))]))] [(.ite (.not (.call 3 [(.var 4)])) [(.ret (.c (.bl false)))] [])])]), (.ret (.c (.bl true)))]⟩
abbrev N_is_term : List Str := ["value", "tongue", "many", "waiting", "now"]
abbrev P_is_term : List Str := ["value", "tongue"]
def d_variables : Df := ⟨1, 4, false, [(.ite (.call 5 [(.var 0)]) [(.ret (.lst [(.var 0)]))] []), (.set (.nm 1) (.al (.lst []))), (.for (.nm 2) (.slcL (.var 0) (.c (.int (1)))) [(.ex (.meth .extend (.var 1) [(.comp (.nm 3) [3] (.call 8 [(.var 2)]) (.cmp .nmem (.var 3) (.var 1)) (.var 3))]))]), (.ret (.var 1))]⟩
abbrev N_variables : List Str := ["term", "found", "part", "name"]
abbrev P_variables : List Str := ["term"]
def d_positions : Df := ⟨1, 4, false, [(.ite (.call 5 [(.var 0)]) [(.ret (.lst [(.tup [])]))] []), (.set (.nm 1) (.al (.lst [(.tup [])]))), (.for (.nm 2) (.rng2 (.c (.int (1))) (.bi .len [(.var 0)])) [(.ex (.meth .extend (.var 1) [(.comp (.nm 3) [3] (.call 9 [(.sub (.var 0) (.var 2))]) (.c (.bl true)) (.bin .add (.tup [(.var 2)]) (.var 3)))]))]), (.ret (.var 1))]⟩
abbrev N_positions : List Str := ["term", "found", "k", "rest"]
abbrev P_positions : List Str := ["term"]
def d_has_position : Df := ⟨2, 3, false, [(.ite (.not (.isi (.var 1) .tuple)) [(.ret (.c (.bl false)))] []), (.for (.nm 2) (.var 1) [(.ite (.or (.call 5 [(.var 0)]) (.not (.call 0 [(.var 2), (.c (.int (1))), (.bin .sub (.bi .len [(.var 0)]) (.c (.int (1))))]))) [(.ret (.c (.bl false)))] []), (.set (.nm 0) (.sub (.var 0) (.var 2)))]), (.ret (.c (.bl true)))]⟩
abbrev N_has_position : List Str := ["term", "position", "k"]
abbrev P_has_position : List Str := ["term", "position"]
def d_at : Df := ⟨2, 3, false, [(.for (.nm 2) (.var 1) [(.set (.nm 0) (.sub (.var 0) (.var 2)))]), (.ret (.var 0))]⟩
abbrev N_at : List Str := ["term", "position", "k"]
abbrev P_at : List Str := ["term", "position"]
def d_put : Df := ⟨3, 4, false, [(.ite (.cmp .eq (.bi .len [(.var 1)]) (.c (.int (0)))) [(.ret (.var 2))] []), (.set (.nm 3) (.sub (.var 1) (.c (.int (0))))), (.ret (.bin .add (.bin .add (.slcH (.var 0) (.var 3)) (.tup [(.call 12 [(.sub (.var 0) (.var 3)), (.slcL (.var 1) (.c (.int (1)))), (.var 2)])])) (.slcL (.var 0) (.bin .add (.var 3) (.c (.int (1)))))))]⟩
abbrev N_put : List Str := ["term", "position", "part", "k"]
abbrev P_put : List Str := ["term", "position", "part"]
def d_put_for : Df := ⟨2, 3, false, [(.ite (.call 5 [(.var 0)]) [(.ret (.meth .get2 (.var 1) [(.var 0), (.var 0)]))] []), (.ret (.bin .add (.tup [(.sub (.var 0) (.c (.int (0))))]) (.bi .tuple [(.comp (.nm 2) [2] (.slcL (.var 0) (.c (.int (1)))) (.c (.bl true)) (.call 13 [(.var 2), (.var 1)]))])))]⟩
abbrev N_put_for : List Str := ["term", "putting", "part"]
abbrev P_put_for : List Str := ["term", "putting"]
def d_matched : Df := ⟨2, 7, false, [(.set (.nm 2) (.al .dnew)), (.set (.nm 3) (.al (.lst [(.tup [(.var 0), (.var 1)])]))), (.while (.cmp .gt (.bi .len [(.var 3)]) (.c (.int (0)))) [(.set (.tp [(.nm 4), (.nm 5)]) (.meth .pop (.var 3) [])), (.ite (.call 5 [(.var 4)]) [(.ite (.and (.cmp .mem (.var 4) (.var 2)) (.cmp .ne (.sub (.var 2) (.var 4)) (.var 5))) [(.ret (.c .non))] []), (.sti (.var 2) (.var 4) (.var 5))] [(.ite (.or (.call 5 [(.var 5)]) (.or (.cmp .ne (.sub (.var 4) (.c (.int (0)))) (.sub (.var 5) (.c (.int (0))))) (.cmp .ne (.bi .len [(.var 4)]) (.bi .len [(.var 5)])))) [(.ret (.c .non))] [(.ex (.meth .extend (.var 3) [(.lzip (.slcL (.var 4) (.c (.int (1)))) (.slcL (.var 5) (.c (.int (1)))))]))])])]), (.ret (.dcomp (.nm 6) [6] (.bi .sorted [(.var 2)]) (.c (.bl true)) (.var 6) (.sub (.var 2) (.var 6))))]⟩
abbrev N_matched : List Str := ["pattern", "term", "found", "waiting", "one", "other", "name"]
abbrev P_matched : List Str := ["pattern", "term"]
def d_is_rule : Df := ⟨2, 5, false, [(.ite (.or (.not (.isi (.var 0) .tuple)) (.or (.cmp .ne (.bi .len [(.var 0)]) (.c (.int (2)))) (.not (.bi .all [(.comp (.nm 4) [4] (.var 0) (.c (.bl true)) (.call 7 [(.var 4), (.var 1)]))])))) [(.ret (.c (.bl false)))] []), (.ite (.call 5 [(.sub (.var 0) (.c (.int (0))))]) [(.ret (.c (.bl false)))] []), (.set (.nm 2) (.call 8 [(.sub (.var 0) (.c (.int (0))))])), (.ret (.bi .all [(.comp (.nm 3) [3] (.call 8 [(.sub (.var 0) (.c (.int (1))))]) (.c (.bl true)) (.cmp .mem (.var 3) (.var 2)))]))]⟩
abbrev N_is_rule : List Str := ["value", "tongue", "names", "name", "term"]
abbrev P_is_rule : List Str := ["value", "tongue"]
def d_is_system : Df := ⟨2, 3, false, [(.ite (.or (.not (.isi (.var 0) .tuple)) (.cmp .gt (.bi .len [(.var 0)]) (.c (.int (20))))) [(.ret (.c (.bl false)))] []), (.ret (.bi .all [(.comp (.nm 2) [2] (.var 0) (.c (.bl true)) (.call 15 [(.var 2), (.var 1)]))]))]⟩
abbrev N_is_system : List Str := ["value", "tongue", "rule"]
abbrev P_is_system : List Str := ["value", "tongue"]
def d_is_linear : Df := ⟨1, 4, false, [(.set (.nm 1) (.al (.lst []))), (.for (.nm 2) (.call 9 [(.var 0)]) [(.set (.nm 3) (.call 11 [(.var 0), (.var 2)])), (.ite (.call 5 [(.var 3)]) [(.ite (.cmp .mem (.var 3) (.var 1)) [(.ret (.c (.bl false)))] []), (.ex (.meth .append (.var 1) [(.var 3)]))] [])]), (.ret (.c (.bl true)))]⟩
abbrev N_is_linear : List Str := ["term", "names", "place", "part"]
abbrev P_is_linear : List Str := ["term"]
def d_turned : Df := ⟨3, 6, false, [(.set (.tp [(.nm 4), (.nm 5)]) (.var 2)), (.set (.nm 3) (.call 14 [(.sub (.sub (.var 0) (.var 4)) (.c (.int (0)))), (.call 11 [(.var 1), (.var 5)])])), (.ite (.cmp .is (.var 3) (.c .non)) [(.ret (.c .non))] []), (.ret (.call 12 [(.var 1), (.var 5), (.call 13 [(.sub (.sub (.var 0) (.var 4)) (.c (.int (1)))), (.var 3)])]))]⟩
abbrev N_turned : List Str := ["system", "term", "step", "putting", "k", "place"]
abbrev P_turned : List Str := ["system", "term", "step"]
def d_is_step : Df := ⟨3, 3, false, [(.ite (.or (.not (.isi (.var 0) .tuple)) (.or (.cmp .ne (.bi .len [(.var 0)]) (.c (.int (2)))) (.not (.call 0 [(.sub (.var 0) (.c (.int (0)))), (.c (.int (0))), (.bin .sub (.bi .len [(.var 1)]) (.c (.int (1))))])))) [(.ret (.c (.bl false)))] []), (.ret (.and (.call 10 [(.var 2), (.sub (.var 0) (.c (.int (1))))]) (.cmp .isn (.call 18 [(.var 1), (.var 2), (.var 0)]) (.c .non))))]⟩
abbrev N_is_step : List Str := ["value", "system", "term"]
abbrev P_is_step : List Str := ["value", "system", "term"]
def d_steps : Df := ⟨2, 6, false, [(.set (.nm 2) (.al (.lst []))), (.for (.nm 3) (.call 9 [(.var 1)]) [(.set (.nm 4) (.call 11 [(.var 1), (.var 3)])), (.ite (.not (.call 5 [(.var 4)])) [(.ex (.meth .extend (.var 2) [(.comp (.nm 5) [5] (.rng1 (.bi .len [(.var 0)])) (.cmp .isn (.call 14 [(.sub (.sub (.var 0) (.var 5)) (.c (.int (0)))), (.var 4)]) (.c .non)) (.tup [(.var 5), (.var 3)]))]))] [])]), (.ret (.var 2))]⟩
abbrev N_steps : List Str := ["system", "term", "found", "place", "part", "k"]
abbrev P_steps : List Str := ["system", "term"]
def d_is_normal : Df := ⟨2, 2, false, [(.ret (.cmp .eq (.bi .len [(.call 20 [(.var 0), (.var 1)])]) (.c (.int (0)))))]⟩
abbrev N_is_normal : List Str := ["system", "term"]
abbrev P_is_normal : List Str := ["system", "term"]
def d_behind_row : Df := ⟨3, 4, false, [(.ite (.not (.isi (.var 2) .tuple)) [(.ret (.c .non))] []), (.for (.nm 3) (.var 2) [(.ite (.not (.call 19 [(.var 3), (.var 0), (.var 1)])) [(.ret (.c .non))] []), (.set (.nm 1) (.call 18 [(.var 0), (.var 1), (.var 3)]))]), (.ret (.var 1))]⟩
abbrev N_behind_row : List Str := ["system", "term", "row", "step"]
abbrev P_behind_row : List Str := ["system", "term", "row"]
def d_l_state : Df := ⟨1, 3, true, [(.set (.nm 1) (.al (.comp (.nm 2) [2] (.slcH (.var 0) (.c (.int (63)))) (.c (.bl true)) (.bi .abs [(.var 2)])))), (.ite (.cmp .eq (.bi .len [(.var 1)]) (.c (.int (0)))) [(.set (.nm 1) (.al (.lst [(.c (.int (0)))])))] []), (.ret (.al (.lst [(.c (.int (0))), (.var 1)])))]⟩
abbrev N_l_state : List Str := ["script", "cells", "cell"]
abbrev P_l_state : List Str := ["script"]
def d_l_take : Df := ⟨2, 6, false, [(.ite (.cmp .lt (.var 1) (.c (.int (2)))) [(.ret (.c (.int (0))))] []), (.set (.nm 2) (.sub (.var 0) (.c (.int (1))))), (.set (.nm 3) (.bin .mod (.bi .int [(.sub (.var 0) (.c (.int (0))))]) (.bi .len [(.var 2)]))), (.set (.nm 4) (.sub (.var 2) (.var 3))), (.ite (.cmp .ge (.var 4) (.c (.int (1000000000000000000)))) [(.sti (.var 2) (.var 3) (.bin .fdiv (.var 4) (.var 1))), (.ret (.bin .mod (.bi .int [(.var 4)]) (.var 1)))] []), (.sti (.var 0) (.c (.int (0))) (.bin .add (.sub (.var 0) (.c (.int (0)))) (.c (.int (1))))), (.set (.nm 5) (.bin .mod (.bi .int [(.bin .add (.bin .mul (.var 4) (.c (.int (48271)))) (.bin .mul (.sub (.var 0) (.c (.int (0)))) (.c (.int (69621)))))]) (.c (.int (2147483647))))), (.set (.nm 5) (.bin .mod (.bi .int [(.bin .add (.bin .mul (.var 5) (.c (.int (16807)))) (.bin .mul (.sub (.var 0) (.c (.int (0)))) (.c (.int (7919)))))]) (.c (.int (1000000007))))), (.ret (.bin .mod (.bi .int [(.bin .fdiv (.var 5) (.c (.int (7))))]) (.var 1)))]⟩
abbrev N_l_take : List Str := ["state", "most", "cells", "at_v", "cell", "mixed"]
abbrev P_l_take : List Str := ["state", "most"]
def d_l_pick : Df := ⟨2, 2, false, [(.ret (.sub (.var 1) (.call 24 [(.var 0), (.bi .len [(.var 1)])])))]⟩
abbrev N_l_pick : List Str := ["state", "row"]
abbrev P_l_pick : List Str := ["state", "row"]
def d_l_tongue : Df := ⟨1, 1, false, [(.ret (.call 25 [(.var 0), (.lst [(.tup [(.tup [(.c (.str [97])), (.c (.int (0)))]), (.tup [(.c (.str [102])), (.c (.int (2)))])]), (.tup [(.tup [(.c (.str [97])), (.c (.int (0)))]), (.tup [(.c (.str [98])), (.c (.int (0)))]), (.tup [(.c (.str [102])), (.c (.int (2)))]), (.tup [(.c (.str [103])), (.c (.int (1)))])]), (.tup [(.tup [(.c (.str [97])), (.c (.int (0)))]), (.tup [(.c (.str [98, 49])), (.c (.int (0)))]), (.tup [(.c (.str [103])), (.c (.int (1)))]), (.tup [(.c (.str [104])), (.c (.int (3)))])]), (.tup [(.tup [(.c (.str [99])), (.c (.int (0)))]), (.tup [(.c (.str [102])), (.c (.int (2)))]), (.tup [(.c (.str [103])), (.c (.int (1)))])])])]))]⟩
abbrev N_l_tongue : List Str := ["state"]
abbrev P_l_tongue : List Str := ["state"]
def d_l_term : Df := ⟨4, 9, false, [(.ite (.and (.cmp .gt (.bi .len [(.var 2)]) (.c (.int (0)))) (.cmp .eq (.call 24 [(.var 0), (.ite (.cmp .gt (.var 3) (.c (.int (1)))) (.c (.int (3))) (.c (.int (2))))]) (.c (.int (0))))) [(.ret (.call 25 [(.var 0), (.var 2)]))] []), (.set (.nm 4) (.comp (.nm 7) [7] (.var 1) (.or (.cmp .gt (.var 3) (.c (.int (1)))) (.cmp .eq (.sub (.var 7) (.c (.int (1)))) (.c (.int (0))))) (.var 7))), (.set (.tp [(.nm 5), (.nm 6)]) (.call 25 [(.var 0), (.var 4)])), (.ret (.bin .add (.tup [(.var 5)]) (.bi .tuple [(.comp (.nm 8) [8] (.rng1 (.var 6)) (.c (.bl true)) (.call 27 [(.var 0), (.var 1), (.var 2), (.bin .sub (.var 3) (.c (.int (1))))]))])))]⟩
abbrev N_l_term : List Str := ["state", "tongue", "names", "most", "pairs", "sign", "many", "pair", "k"]
abbrev P_l_term : List Str := ["state", "tongue", "names", "most"]
def d_l_put : Df := ⟨2, 3, false, [(.ite (.isi (.var 0) .str) [(.ret (.meth .get2 (.var 1) [(.var 0), (.var 0)]))] []), (.ret (.bin .add (.tup [(.sub (.var 0) (.c (.int (0))))]) (.bi .tuple [(.comp (.nm 2) [2] (.slcL (.var 0) (.c (.int (1)))) (.c (.bl true)) (.call 28 [(.var 2), (.var 1)]))])))]⟩
abbrev N_l_put : List Str := ["term", "putting", "part"]
abbrev P_l_put : List Str := ["term", "putting"]
def d_l_names : Df := ⟨1, 4, false, [(.ite (.isi (.var 0) .str) [(.ret (.lst [(.var 0)]))] []), (.set (.nm 1) (.lst [])), (.for (.nm 2) (.slcL (.var 0) (.c (.int (1)))) [(.set (.nm 1) (.bin .add (.var 1) (.comp (.nm 3) [3] (.call 29 [(.var 2)]) (.cmp .nmem (.var 3) (.var 1)) (.var 3))))]), (.ret (.var 1))]⟩
abbrev N_l_names : List Str := ["term", "found", "part", "name"]
abbrev P_l_names : List Str := ["term"]
def d_l_places : Df := ⟨1, 4, false, [(.ite (.isi (.var 0) .str) [(.ret (.lst [(.tup [])]))] []), (.set (.nm 1) (.lst [(.tup [])])), (.for (.nm 2) (.rng2 (.c (.int (1))) (.bi .len [(.var 0)])) [(.set (.nm 1) (.bin .add (.var 1) (.comp (.nm 3) [3] (.call 30 [(.sub (.var 0) (.var 2))]) (.c (.bl true)) (.bin .add (.tup [(.var 2)]) (.var 3)))))]), (.ret (.var 1))]⟩
abbrev N_l_places : List Str := ["term", "found", "k", "rest"]
abbrev P_l_places : List Str := ["term"]
def d_l_at : Df := ⟨2, 3, false, [(.for (.nm 2) (.var 1) [(.set (.nm 0) (.sub (.var 0) (.var 2)))]), (.ret (.var 0))]⟩
abbrev N_l_at : List Str := ["term", "place", "k"]
abbrev P_l_at : List Str := ["term", "place"]
def d_l_with : Df := ⟨3, 4, false, [(.ite (.cmp .eq (.bi .len [(.var 1)]) (.c (.int (0)))) [(.ret (.var 2))] []), (.set (.nm 3) (.sub (.var 1) (.c (.int (0))))), (.ret (.bin .add (.bin .add (.slcH (.var 0) (.var 3)) (.tup [(.call 32 [(.sub (.var 0) (.var 3)), (.slcL (.var 1) (.c (.int (1)))), (.var 2)])])) (.slcL (.var 0) (.bin .add (.var 3) (.c (.int (1)))))))]⟩
abbrev N_l_with : List Str := ["term", "place", "part", "k"]
abbrev P_l_with : List Str := ["term", "place", "part"]
def d_l_match : Df := ⟨2, 6, false, [(.ite (.isi (.var 0) .str) [(.ret (.disp1 (.var 0) (.var 1)))] []), (.ite (.or (.isi (.var 1) .str) (.cmp .ne (.sub (.var 0) (.c (.int (0)))) (.sub (.var 1) (.c (.int (0)))))) [(.ret (.c .non))] []), (.set (.nm 2) (.al .dnew)), (.for (.nm 3) (.rng2 (.c (.int (1))) (.bi .len [(.var 0)])) [(.set (.nm 4) (.call 33 [(.sub (.var 0) (.var 3)), (.sub (.var 1) (.var 3))])), (.ite (.cmp .is (.var 4) (.c .non)) [(.ret (.c .non))] []), (.for (.nm 5) (.var 4) [(.ite (.and (.cmp .mem (.var 5) (.var 2)) (.cmp .ne (.sub (.var 2) (.var 5)) (.sub (.var 4) (.var 5)))) [(.ret (.c .non))] []), (.sti (.var 2) (.var 5) (.sub (.var 4) (.var 5)))])]), (.ret (.var 2))]⟩
abbrev N_l_match : List Str := ["pattern", "term", "found", "k", "told", "name"]
abbrev P_l_match : List Str := ["pattern", "term"]
def d_l_step : Df := ⟨3, 6, false, [(.set (.tp [(.nm 4), (.nm 5)]) (.var 2)), (.set (.nm 3) (.call 33 [(.sub (.sub (.var 0) (.var 4)) (.c (.int (0)))), (.call 31 [(.var 1), (.var 5)])])), (.ret (.ite (.cmp .is (.var 3) (.c .non)) (.c .non) (.call 32 [(.var 1), (.var 5), (.call 28 [(.sub (.sub (.var 0) (.var 4)) (.c (.int (1)))), (.var 3)])])))]⟩
abbrev N_l_step : List Str := ["system", "term", "step", "putting", "k", "place"]
abbrev P_l_step : List Str := ["system", "term", "step"]
def d_l_steps : Df := ⟨2, 5, false, [(.set (.nm 2) (.lst [])), (.for (.nm 3) (.call 30 [(.var 1)]) [(.ite (.not (.isi (.call 31 [(.var 1), (.var 3)]) .str)) [(.set (.nm 2) (.bin .add (.var 2) (.comp (.nm 4) [4] (.rng1 (.bi .len [(.var 0)])) (.cmp .isn (.call 34 [(.var 0), (.var 1), (.tup [(.var 4), (.var 3)])]) (.c .non)) (.tup [(.var 4), (.var 3)]))))] [])]), (.ret (.var 2))]⟩
abbrev N_l_steps : List Str := ["system", "term", "found", "place", "k"]
abbrev P_l_steps : List Str := ["system", "term"]
def d_l_behind : Df := ⟨3, 5, false, [(.ite (.not (.isi (.var 2) .tuple)) [(.ret (.c .non))] []), (.for (.nm 3) (.var 2) [(.ite (.or (.not (.isi (.var 3) .tuple)) (.or (.cmp .ne (.bi .len [(.var 3)]) (.c (.int (2)))) (.or (.not (.isi (.sub (.var 3) (.c (.int (0)))) .int)) (.isi (.sub (.var 3) (.c (.int (0)))) .bool)))) [(.ret (.c .non))] []), (.ite (.or (.cmp .lt (.sub (.var 3) (.c (.int (0)))) (.c (.int (0)))) (.or (.cmp .ge (.sub (.var 3) (.c (.int (0)))) (.bi .len [(.var 0)])) (.or (.not (.isi (.sub (.var 3) (.c (.int (1)))) .tuple)) (.cmp .nmem (.sub (.var 3) (.c (.int (1)))) (.call 30 [(.var 1)]))))) [(.ret (.c .non))] []), (.ite (.cmp .gt (.bi .len [(.comp (.nm 4) [4] (.sub (.var 3) (.c (.int (1)))) (.isi (.var 4) .bool) (.var 4))]) (.c (.int (0)))) [(.ret (.c .non))] []), (.set (.nm 1) (.call 34 [(.var 0), (.var 1), (.var 3)])), (.ite (.cmp .is (.var 1) (.c .non)) [(.ret (.c .non))] [])]), (.ret (.var 1))]⟩
abbrev N_l_behind : List Str := ["system", "term", "row", "step", "k"]
abbrev P_l_behind : List Str := ["system", "term", "row"]
def d_l_rule : Df := ⟨2, 5, false, [(.set (.nm 2) (.call 27 [(.var 0), (.var 1), (.lst [(.c (.str [88])), (.c (.str [89]))]), (.c (.int (3)))])), (.ite (.isi (.var 2) .str) [(.set (.nm 2) (.call 25 [(.var 0), (.comp (.nm 4) [4] (.var 1) (.c (.bl true)) (.bin .add (.tup [(.sub (.var 4) (.c (.int (0))))]) (.slcH (.tup [(.c (.str [88])), (.c (.str [89])), (.c (.str [88]))]) (.sub (.var 4) (.c (.int (1)))))))]))] []), (.set (.nm 3) (.call 29 [(.var 2)])), (.ret (.tup [(.var 2), (.call 27 [(.var 0), (.var 1), (.var 3), (.call 25 [(.var 0), (.lst [(.c (.int (1))), (.c (.int (2))), (.c (.int (3)))])])])]))]⟩
abbrev N_l_rule : List Str := ["state", "tongue", "left", "names", "pair"]
abbrev P_l_rule : List Str := ["state", "tongue"]
def d_l_rows : Df := ⟨3, 7, false, [(.par 4 5 (.tup []) (.var 2)), (.for (.nm 3) (.rng1 (.call 24 [(.var 0), (.c (.int (5)))])) [(.set (.nm 6) (.call 35 [(.var 1), (.var 5)])), (.ite (.cmp .gt (.bi .len [(.var 6)]) (.c (.int (0)))) [(.set (.nm 4) (.bin .add (.var 4) (.tup [(.call 25 [(.var 0), (.var 6)])]))), (.set (.nm 5) (.call 34 [(.var 1), (.var 5), (.sub (.var 4) (.neg (.c (.int (1)))))]))] [])]), (.ret (.tup [(.var 4), (.var 5)]))]⟩
abbrev N_l_rows : List Str := ["state", "system", "term", "turn", "row", "now", "found"]
abbrev P_l_rows : List Str := ["state", "system", "term"]
def d_law : Df := ⟨1, 21, false, [(.set (.nm 1) (.call 23 [(.var 0)])), (.set (.nm 2) (.call 26 [(.var 1)])), (.set (.nm 3) (.bi .tuple [(.comp (.nm 17) [17] (.rng1 (.call 24 [(.var 1), (.c (.int (6)))])) (.c (.bl true)) (.call 37 [(.var 1), (.var 2)]))])), (.ite (.or (.cmp .isn (.call 16 [(.var 3), (.var 2)]) (.c (.bl true))) (.or (.cmp .isn (.call 16 [(.bi .list [(.var 3)]), (.var 2)]) (.c (.bl false))) (.cmp .ne (.c (.int (20))) (.c (.int (20)))))) [(.ret (.c (.bl false)))] []), (.set (.tp [(.nm 6), (.nm 7)]) (.call 37 [(.var 1), (.var 2)])), (.for (.nm 4) (.lst [(.tup [(.var 6), (.var 7)]), (.lst [(.var 6), (.var 7)]), (.tup [(.var 6)]), (.tup [(.c (.str [88])), (.var 7)]), (.tup [(.var 6), (.tup [(.c (.str [102])), (.c (.str [81]))])]), (.tup [(.var 6), (.c (.str [81]))]), (.tup [(.var 6), (.tup [(.c (.str [122, 122, 122]))])]), (.c .non), (.tup [(.var 7), (.var 6)])]) [(.set (.nm 8) (.and (.isi (.var 4) .tuple) (.and (.cmp .eq (.bi .len [(.var 4)]) (.c (.int (2)))) (.and (.cmp .mem (.var 4) (.lst [(.tup [(.var 6), (.var 7)]), (.tup [(.var 7), (.var 6)])])) (.not (.isi (.sub (.var 4) (.c (.int (0)))) .str)))))), (.set (.nm 8) (.and (.var 8) (.cmp .eq (.bi .len [(.comp (.nm 20) [20] (.call 29 [(.sub (.var 4) (.c (.int (1))))]) (.cmp .nmem (.var 20) (.call 29 [(.sub (.var 4) (.c (.int (0))))])) (.var 20))]) (.c (.int (0)))))), (.ite (.or (.cmp .ne (.call 15 [(.var 4), (.var 2)]) (.var 8)) (.cmp .ne (.call 16 [(.tup [(.var 4)]), (.var 2)]) (.var 8))) [(.ret (.c (.bl false)))] [])]), (.ite (.or (.cmp .isn (.call 16 [(.bin .mul (.tup [(.tup [(.var 6), (.var 7)])]) (.c (.int (20)))), (.var 2)]) (.c (.bl true))) (.cmp .isn (.call 16 [(.bin .mul (.tup [(.tup [(.var 6), (.var 7)])]) (.c (.int (21)))), (.var 2)]) (.c (.bl false)))) [(.ret (.c (.bl false)))] []), (.for (.nm 5) (.rng1 (.c (.int (3)))) [(.set (.nm 9) (.call 27 [(.var 1), (.var 2), (.lst [(.c (.str [88])), (.c (.str [90]))]), (.c (.int (4)))])), (.set (.nm 10) (.call 35 [(.var 3), (.var 9)])), (.ite (.or (.cmp .ne (.call 20 [(.var 3), (.var 9)]) (.var 10)) (.cmp .ne (.call 21 [(.var 3), (.var 9)]) (.cmp .eq (.bi .len [(.var 10)]) (.c (.int (0)))))) [(.ret (.c (.bl false)))] []), (.for (.nm 11) (.var 10) [(.ite (.cmp .ne (.call 18 [(.var 3), (.var 9), (.var 11)]) (.call 34 [(.var 3), (.var 9), (.var 11)])) [(.ret (.c (.bl false)))] [])]), (.set (.nm 12) (.comp (.nm 18) [18] (.call 30 [(.var 9)]) (.c (.bl true)) (.call 31 [(.var 9), (.var 18)]))), (.set (.nm 13) (.comp (.nm 19) [19] (.var 12) (.isi (.var 19) .str) (.var 19))), (.ite (.cmp .ne (.call 17 [(.var 9)]) (.cmp .eq (.bi .len [(.comp (.nm 17) [17] (.rng1 (.bi .len [(.var 13)])) (.cmp .mem (.sub (.var 13) (.var 17)) (.slcH (.var 13) (.var 17))) (.var 17))]) (.c (.int (0))))) [(.ret (.c (.bl false)))] []), (.set (.tp [(.nm 15), (.nm 16)]) (.call 38 [(.var 1), (.var 3), (.var 9)])), (.ite (.cmp .ne (.call 22 [(.var 3), (.var 9), (.var 15)]) (.var 16)) [(.ret (.c (.bl false)))] []), (.set (.nm 14) (.call 25 [(.var 1), (.lst [(.tup [(.c (.int (0))), (.tup [])]), (.tup [(.c (.int (5))), (.tup [])]), (.tup [(.c (.int (0))), (.tup [(.c (.int (1)))])]), (.tup [(.c (.int (0))), (.tup [(.c (.int (9)))])]), (.tup [(.c (.bl true)), (.tup [])]), (.tup [(.c (.int (0))), (.lst [(.c (.int (1)))])]), (.c .non), (.tup [(.c (.int (0)))]), (.tup [(.c (.int (0))), (.tup []), (.c (.int (1)))]), (.tup [(.neg (.c (.int (1)))), (.tup [])])])])), (.for (.nm 4) (.lst [(.rev (.var 15)), (.slcL (.var 15) (.c (.int (1)))), (.bin .add (.var 15) (.tup [(.var 14)])), (.bi .list [(.var 15)]), (.c .non), (.tup [(.var 14)])]) [(.ite (.cmp .ne (.call 22 [(.var 3), (.var 9), (.var 4)]) (.call 36 [(.var 3), (.var 9), (.var 4)])) [(.ret (.c (.bl false)))] [])]), (.ite (.cmp .ne (.call 19 [(.var 14), (.var 3), (.var 9)]) (.cmp .isn (.call 36 [(.var 3), (.var 9), (.tup [(.var 14)])]) (.c .non))) [(.ret (.c (.bl false)))] [])]), (.ret (.c (.bl true)))]⟩
abbrev N_law : List Str := ["script", "state", "tongue", "system", "value", "turn", "left", "right", "good", "term", "due", "step", "stands", "names", "odd", "row", "now", "k", "place", "each", "name"]
abbrev P_law : List Str := ["script"]
def T : List Df := [d_is_whole, d_are_signs_of_text, d_is_sign, d_is_variable, d_places_of, d_is_var, d_nodes, d_is_term, d_variables, d_positions, d_has_position, d_at, d_put, d_put_for, d_matched, d_is_rule, d_is_system, d_is_linear, d_turned, d_is_step, d_steps, d_is_normal, d_behind_row, d_l_state, d_l_take, d_l_pick, d_l_tongue, d_l_term, d_l_put, d_l_names, d_l_places, d_l_at, d_l_with, d_l_match, d_l_step, d_l_steps, d_l_behind, d_l_rule, d_l_rows, d_law]
end L2.Mi.k08

set_option Elab.async false
set_option linter.all false
set_option maxRecDepth 100000
set_option maxHeartbeats 4000000

namespace L2.Mi.k08
open PySem PySem.Spec PyProof.Rows L2.Mi
theorem sc_is_whole : FnScope N_is_whole P_is_whole (defScope s_is_whole) := ⟨rfl, rfl, rfl, by decide +kernel, rfl, by decide +kernel, by decide +kernel⟩
theorem sc_are_signs_of_text : FnScope N_are_signs_of_text P_are_signs_of_text (defScope s_are_signs_of_text) := ⟨rfl, rfl, rfl, by decide +kernel, rfl, by decide +kernel, by decide +kernel⟩
theorem sc_is_sign : FnScope N_is_sign P_is_sign (defScope s_is_sign) := ⟨rfl, rfl, rfl, by decide +kernel, rfl, by decide +kernel, by decide +kernel⟩
theorem sc_is_variable : FnScope N_is_variable P_is_variable (defScope s_is_variable) := ⟨rfl, rfl, rfl, by decide +kernel, rfl, by decide +kernel, by decide +kernel⟩
theorem sc_places_of : FnScope N_places_of P_places_of (defScope s_places_of) := ⟨rfl, rfl, rfl, by decide +kernel, rfl, by decide +kernel, by decide +kernel⟩
theorem sc_is_var : FnScope N_is_var P_is_var (defScope s_is_var) := ⟨rfl, rfl, rfl, by decide +kernel, rfl, by decide +kernel, by decide +kernel⟩
theorem sc_nodes : FnScope N_nodes P_nodes (defScope s_nodes) := ⟨rfl, rfl, rfl, by decide +kernel, rfl, by decide +kernel, by decide +kernel⟩
theorem sc_is_term : FnScope N_is_term P_is_term (defScope s_is_term) := ⟨rfl, rfl, rfl, by decide +kernel, rfl, by decide +kernel, by decide +kernel⟩
theorem sc_variables : FnScope N_variables P_variables (defScope s_variables) := ⟨rfl, rfl, rfl, by decide +kernel, rfl, by decide +kernel, by decide +kernel⟩
theorem sc_positions : FnScope N_positions P_positions (defScope s_positions) := ⟨rfl, rfl, rfl, by decide +kernel, rfl, by decide +kernel, by decide +kernel⟩
theorem sc_has_position : FnScope N_has_position P_has_position (defScope s_has_position) := ⟨rfl, rfl, rfl, by decide +kernel, rfl, by decide +kernel, by decide +kernel⟩
theorem sc_at : FnScope N_at P_at (defScope s_at) := ⟨rfl, rfl, rfl, by decide +kernel, rfl, by decide +kernel, by decide +kernel⟩
theorem sc_put : FnScope N_put P_put (defScope s_put) := ⟨rfl, rfl, rfl, by decide +kernel, rfl, by decide +kernel, by decide +kernel⟩
theorem sc_put_for : FnScope N_put_for P_put_for (defScope s_put_for) := ⟨rfl, rfl, rfl, by decide +kernel, rfl, by decide +kernel, by decide +kernel⟩
theorem sc_matched : FnScope N_matched P_matched (defScope s_matched) := ⟨rfl, rfl, rfl, by decide +kernel, rfl, by decide +kernel, by decide +kernel⟩
theorem sc_is_rule : FnScope N_is_rule P_is_rule (defScope s_is_rule) := ⟨rfl, rfl, rfl, by decide +kernel, rfl, by decide +kernel, by decide +kernel⟩
theorem sc_is_system : FnScope N_is_system P_is_system (defScope s_is_system) := ⟨rfl, rfl, rfl, by decide +kernel, rfl, by decide +kernel, by decide +kernel⟩
theorem sc_is_linear : FnScope N_is_linear P_is_linear (defScope s_is_linear) := ⟨rfl, rfl, rfl, by decide +kernel, rfl, by decide +kernel, by decide +kernel⟩
theorem sc_turned : FnScope N_turned P_turned (defScope s_turned) := ⟨rfl, rfl, rfl, by decide +kernel, rfl, by decide +kernel, by decide +kernel⟩
theorem sc_is_step : FnScope N_is_step P_is_step (defScope s_is_step) := ⟨rfl, rfl, rfl, by decide +kernel, rfl, by decide +kernel, by decide +kernel⟩
theorem sc_steps : FnScope N_steps P_steps (defScope s_steps) := ⟨rfl, rfl, rfl, by decide +kernel, rfl, by decide +kernel, by decide +kernel⟩
theorem sc_is_normal : FnScope N_is_normal P_is_normal (defScope s_is_normal) := ⟨rfl, rfl, rfl, by decide +kernel, rfl, by decide +kernel, by decide +kernel⟩
theorem sc_behind_row : FnScope N_behind_row P_behind_row (defScope s_behind_row) := ⟨rfl, rfl, rfl, by decide +kernel, rfl, by decide +kernel, by decide +kernel⟩
theorem sc_l_state : FnScope N_l_state P_l_state (defScope s_l_state) := ⟨rfl, rfl, rfl, by decide +kernel, rfl, by decide +kernel, by decide +kernel⟩
theorem sc_l_take : FnScope N_l_take P_l_take (defScope s_l_take) := ⟨rfl, rfl, rfl, by decide +kernel, rfl, by decide +kernel, by decide +kernel⟩
theorem sc_l_pick : FnScope N_l_pick P_l_pick (defScope s_l_pick) := ⟨rfl, rfl, rfl, by decide +kernel, rfl, by decide +kernel, by decide +kernel⟩
theorem sc_l_tongue : FnScope N_l_tongue P_l_tongue (defScope s_l_tongue) := ⟨rfl, rfl, rfl, by decide +kernel, rfl, by decide +kernel, by decide +kernel⟩
theorem sc_l_term : FnScope N_l_term P_l_term (defScope s_l_term) := ⟨rfl, rfl, rfl, by decide +kernel, rfl, by decide +kernel, by decide +kernel⟩
theorem sc_l_put : FnScope N_l_put P_l_put (defScope s_l_put) := ⟨rfl, rfl, rfl, by decide +kernel, rfl, by decide +kernel, by decide +kernel⟩
theorem sc_l_names : FnScope N_l_names P_l_names (defScope s_l_names) := ⟨rfl, rfl, rfl, by decide +kernel, rfl, by decide +kernel, by decide +kernel⟩
theorem sc_l_places : FnScope N_l_places P_l_places (defScope s_l_places) := ⟨rfl, rfl, rfl, by decide +kernel, rfl, by decide +kernel, by decide +kernel⟩
theorem sc_l_at : FnScope N_l_at P_l_at (defScope s_l_at) := ⟨rfl, rfl, rfl, by decide +kernel, rfl, by decide +kernel, by decide +kernel⟩
theorem sc_l_with : FnScope N_l_with P_l_with (defScope s_l_with) := ⟨rfl, rfl, rfl, by decide +kernel, rfl, by decide +kernel, by decide +kernel⟩
theorem sc_l_match : FnScope N_l_match P_l_match (defScope s_l_match) := ⟨rfl, rfl, rfl, by decide +kernel, rfl, by decide +kernel, by decide +kernel⟩
theorem sc_l_step : FnScope N_l_step P_l_step (defScope s_l_step) := ⟨rfl, rfl, rfl, by decide +kernel, rfl, by decide +kernel, by decide +kernel⟩
theorem sc_l_steps : FnScope N_l_steps P_l_steps (defScope s_l_steps) := ⟨rfl, rfl, rfl, by decide +kernel, rfl, by decide +kernel, by decide +kernel⟩
theorem sc_l_behind : FnScope N_l_behind P_l_behind (defScope s_l_behind) := ⟨rfl, rfl, rfl, by decide +kernel, rfl, by decide +kernel, by decide +kernel⟩
theorem sc_l_rule : FnScope N_l_rule P_l_rule (defScope s_l_rule) := ⟨rfl, rfl, rfl, by decide +kernel, rfl, by decide +kernel, by decide +kernel⟩
theorem sc_l_rows : FnScope N_l_rows P_l_rows (defScope s_l_rows) := ⟨rfl, rfl, rfl, by decide +kernel, rfl, by decide +kernel, by decide +kernel⟩
theorem sc_law : FnScope N_law P_law (defScope s_law) := ⟨rfl, rfl, rfl, by decide +kernel, rfl, by decide +kernel, by decide +kernel⟩
def faO (K : PySem.W.Frag) : Nat → Option Addr
  | 0 => some (He.ga K "is_whole")
  | 1 => some (He.ga K "are_signs_of_text")
  | 2 => some (He.ga K "is_sign")
  | 3 => some (He.ga K "is_variable")
  | 4 => some (He.ga K "places_of")
  | 5 => some (He.ga K "is_var")
  | 6 => some (He.ga K "nodes")
  | 7 => some (He.ga K "is_term")
  | 8 => some (He.ga K "variables")
  | 9 => some (He.ga K "positions")
  | 10 => some (He.ga K "has_position")
  | 11 => some (He.ga K "at")
  | 12 => some (He.ga K "put")
  | 13 => some (He.ga K "put_for")
  | 14 => some (He.ga K "matched")
  | 15 => some (He.ga K "is_rule")
  | 16 => some (He.ga K "is_system")
  | 17 => some (He.ga K "is_linear")
  | 18 => some (He.ga K "turned")
  | 19 => some (He.ga K "is_step")
  | 20 => some (He.ga K "steps")
  | 21 => some (He.ga K "is_normal")
  | 22 => some (He.ga K "behind_row")
  | 23 => some (He.ga K "_law_state")
  | 24 => some (He.ga K "_law_take")
  | 25 => some (He.ga K "_law_pick")
  | 26 => some (He.ga K "_law_tongue")
  | 27 => some (He.ga K "_law_term")
  | 28 => some (He.ga K "_law_put")
  | 29 => some (He.ga K "_law_names")
  | 30 => some (He.ga K "_law_places")
  | 31 => some (He.ga K "_law_at")
  | 32 => some (He.ga K "_law_with")
  | 33 => some (He.ga K "_law_match")
  | 34 => some (He.ga K "_law_step")
  | 35 => some (He.ga K "_law_steps")
  | 36 => some (He.ga K "_law_behind")
  | 37 => some (He.ga K "_law_rule")
  | 38 => some (He.ga K "_law_rows")
  | 39 => some (He.ga K "law")
  | _ => none
abbrev gb (K : PySem.W.Frag) : Gb := ⟨K, faO K⟩
structure GF (K : PySem.W.Frag) (mg : Str → Option Value) : Prop where
  f_abs : mg "abs" = none
  f_all : mg "all" = none
  f_bool : mg "bool" = none
  f_int : mg "int" = none
  f_isinstance : mg "isinstance" = none
  f_len : mg "len" = none
  f_list : mg "list" = none
  f_range : mg "range" = none
  f_sorted : mg "sorted" = none
  f_str : mg "str" = none
  f_tuple : mg "tuple" = none
  f_zip : mg "zip" = none
  g_u_law_at : mg "_law_at" = some (.ref (He.ga K "_law_at"))
  g_u_law_behind : mg "_law_behind" = some (.ref (He.ga K "_law_behind"))
  g_u_law_match : mg "_law_match" = some (.ref (He.ga K "_law_match"))
  g_u_law_names : mg "_law_names" = some (.ref (He.ga K "_law_names"))
  g_u_law_pick : mg "_law_pick" = some (.ref (He.ga K "_law_pick"))
  g_u_law_places : mg "_law_places" = some (.ref (He.ga K "_law_places"))
  g_u_law_put : mg "_law_put" = some (.ref (He.ga K "_law_put"))
  g_u_law_rows : mg "_law_rows" = some (.ref (He.ga K "_law_rows"))
  g_u_law_rule : mg "_law_rule" = some (.ref (He.ga K "_law_rule"))
  g_u_law_state : mg "_law_state" = some (.ref (He.ga K "_law_state"))
  g_u_law_step : mg "_law_step" = some (.ref (He.ga K "_law_step"))
  g_u_law_steps : mg "_law_steps" = some (.ref (He.ga K "_law_steps"))
  g_u_law_take : mg "_law_take" = some (.ref (He.ga K "_law_take"))
  g_u_law_term : mg "_law_term" = some (.ref (He.ga K "_law_term"))
  g_u_law_tongue : mg "_law_tongue" = some (.ref (He.ga K "_law_tongue"))
  g_u_law_with : mg "_law_with" = some (.ref (He.ga K "_law_with"))
  g_are_signs_of_text : mg "are_signs_of_text" = some (.ref (He.ga K "are_signs_of_text"))
  g_at : mg "at" = some (.ref (He.ga K "at"))
  g_behind_row : mg "behind_row" = some (.ref (He.ga K "behind_row"))
  g_has_position : mg "has_position" = some (.ref (He.ga K "has_position"))
  g_is_linear : mg "is_linear" = some (.ref (He.ga K "is_linear"))
  g_is_normal : mg "is_normal" = some (.ref (He.ga K "is_normal"))
  g_is_rule : mg "is_rule" = some (.ref (He.ga K "is_rule"))
  g_is_sign : mg "is_sign" = some (.ref (He.ga K "is_sign"))
  g_is_step : mg "is_step" = some (.ref (He.ga K "is_step"))
  g_is_system : mg "is_system" = some (.ref (He.ga K "is_system"))
  g_is_term : mg "is_term" = some (.ref (He.ga K "is_term"))
  g_is_var : mg "is_var" = some (.ref (He.ga K "is_var"))
  g_is_variable : mg "is_variable" = some (.ref (He.ga K "is_variable"))
  g_is_whole : mg "is_whole" = some (.ref (He.ga K "is_whole"))
  g_matched : mg "matched" = some (.ref (He.ga K "matched"))
  g_nodes : mg "nodes" = some (.ref (He.ga K "nodes"))
  g_places_of : mg "places_of" = some (.ref (He.ga K "places_of"))
  g_positions : mg "positions" = some (.ref (He.ga K "positions"))
  g_put : mg "put" = some (.ref (He.ga K "put"))
  g_put_for : mg "put_for" = some (.ref (He.ga K "put_for"))
  g_steps : mg "steps" = some (.ref (He.ga K "steps"))
  g_turned : mg "turned" = some (.ref (He.ga K "turned"))
  g_variables : mg "variables" = some (.ref (He.ga K "variables"))
  i_MOST_LETTERS : ∃ t, mg "MOST_LETTERS" = some (.int (8) t)
  i_MOST_NODES : ∃ t, mg "MOST_NODES" = some (.int (400) t)
  i_MOST_RULES : ∃ t, mg "MOST_RULES" = some (.int (20) t)
theorem b_is_whole {P : Program} {w : World} {K : PySem.W.Frag} {mg : Str → Option Value} {base : Heap} {k : Nat} {C : CallF} (g : GF K mg) (a : Addr) (cdv : Value) (A : Around) (outer : List PySem.Env) (s : Shared) (H : Hp) (E : XK) (F : ∀ f a, (gb K).fa f = some a → FnC P w K mg base (gb K) C k f a)
    (hr : Room k (A.deeper (envOfC "is_whole" (defScope s_is_whole) s.heap.objs.size a cdv))) : PSs (cxOf CX0 P w K mg base N_is_whole "is_whole" (defScope s_is_whole) a cdv A outer s H E).nox (defBody s_is_whole) (tSs (gb K) C d_is_whole.body) := by
  have hu : (A.deeper (envOfC "is_whole" (defScope s_is_whole) s.heap.objs.size a cdv)).units + 65 < cLine := by have := hr.un; omega
  exact (sss_cons (ss_ret (se_and (sisi .int g.f_isinstance g.f_int bt_int rfl (sv 0)) (se_and (se_not (sisi .bool g.f_isinstance g.f_bool bt_bool rfl (sv 0))) (se_one (se_chn (o := .le) (o' := .le) rfl hu (sv 1) (sv 0) (sv 2))))))
    sss_nil)
theorem b_are_signs_of_text {P : Program} {w : World} {K : PySem.W.Frag} {mg : Str → Option Value} {base : Heap} {k : Nat} {C : CallF} (g : GF K mg) (a : Addr) (cdv : Value) (A : Around) (outer : List PySem.Env) (s : Shared) (H : Hp) (E : XK) (F : ∀ f a, (gb K).fa f = some a → FnC P w K mg base (gb K) C k f a)
    (hr : Room k (A.deeper (envOfC "are_signs_of_text" (defScope s_are_signs_of_text) s.heap.objs.size a cdv))) : PSs (cxOf CX0 P w K mg base N_are_signs_of_text "are_signs_of_text" (defScope s_are_signs_of_text) a cdv A outer s H E).nox (defBody s_are_signs_of_text) (tSs (gb K) C d_are_signs_of_text.body) := by
  have hu : (A.deeper (envOfC "are_signs_of_text" (defScope s_are_signs_of_text) s.heap.objs.size a cdv)).units + 65 < cLine := by have := hr.un; omega
  exact (sss_cons (ss_if (PW.pt (sw_or (st_not (st_val (sisi .str g.f_isinstance g.f_str bt_str rfl (sv 0)))) (sw_or (st_not (st_chn (o := .le) (o' := .le) rfl hu se_int (sb_len g.f_len rfl (sa_cons (sv 0) sa_nil)) (sgl g.i_MOST_LETTERS))) (sw_or1 (st_cmp (o := .nmem) rfl hu (by rfl) (se_sub rfl hu (sv 0) se_int) (sv 1)))))) (sss_cons (ss_ret se_bl)
    sss_nil) sss_nil)
    (sss_cons (ss_ret (sb_all g.f_all rfl (sa_cons (se_comp (own := [("sign", 2)]) (by decide) rfl sc_are_signs_of_text.nd (si_any rfl (se_slcL rfl (sv 0) se_int)) (blkOk_by (by kernel_rfl)) (fun _ _ _ _ _ => (sgn 2 sc_are_signs_of_text.nd)) (fun _ _ _ _ _ => sts_nil) (fun _ _ _ _ _ => (se_or (se_chn (o := .le) (o' := .le) rfl hu (se_str (by decide +kernel)) (sv 2) (se_str (by decide +kernel))) (se_one (se_chn (o := .le) (o' := .le) rfl hu (se_str (by decide +kernel)) (sv 2) (se_str (by decide +kernel))))))) sa_nil)))
    sss_nil))
theorem b_is_sign {P : Program} {w : World} {K : PySem.W.Frag} {mg : Str → Option Value} {base : Heap} {k : Nat} {C : CallF} (g : GF K mg) (a : Addr) (cdv : Value) (A : Around) (outer : List PySem.Env) (s : Shared) (H : Hp) (E : XK) (F : ∀ f a, (gb K).fa f = some a → FnC P w K mg base (gb K) C k f a)
    (hr : Room k (A.deeper (envOfC "is_sign" (defScope s_is_sign) s.heap.objs.size a cdv))) : PSs (cxOf CX0 P w K mg base N_is_sign "is_sign" (defScope s_is_sign) a cdv A outer s H E).nox (defBody s_is_sign) (tSs (gb K) C d_is_sign.body) := by
  have hu : (A.deeper (envOfC "is_sign" (defScope s_is_sign) s.heap.objs.size a cdv)).units + 65 < cLine := by have := hr.un; omega
  exact (sss_cons (ss_ret (scall 1 F hr g.g_are_signs_of_text (sa_cons (sv 0) (sa_cons (se_str (by decide +kernel)) sa_nil))))
    sss_nil)
theorem b_is_variable {P : Program} {w : World} {K : PySem.W.Frag} {mg : Str → Option Value} {base : Heap} {k : Nat} {C : CallF} (g : GF K mg) (a : Addr) (cdv : Value) (A : Around) (outer : List PySem.Env) (s : Shared) (H : Hp) (E : XK) (F : ∀ f a, (gb K).fa f = some a → FnC P w K mg base (gb K) C k f a)
    (hr : Room k (A.deeper (envOfC "is_variable" (defScope s_is_variable) s.heap.objs.size a cdv))) : PSs (cxOf CX0 P w K mg base N_is_variable "is_variable" (defScope s_is_variable) a cdv A outer s H E).nox (defBody s_is_variable) (tSs (gb K) C d_is_variable.body) := by
  have hu : (A.deeper (envOfC "is_variable" (defScope s_is_variable) s.heap.objs.size a cdv)).units + 65 < cLine := by have := hr.un; omega
  exact (sss_cons (ss_ret (scall 1 F hr g.g_are_signs_of_text (sa_cons (sv 0) (sa_cons (se_str (by decide +kernel)) sa_nil))))
    sss_nil)
theorem b_places_of {P : Program} {w : World} {K : PySem.W.Frag} {mg : Str → Option Value} {base : Heap} {k : Nat} {C : CallF} (g : GF K mg) (a : Addr) (cdv : Value) (A : Around) (outer : List PySem.Env) (s : Shared) (H : Hp) (E : XK) (F : ∀ f a, (gb K).fa f = some a → FnC P w K mg base (gb K) C k f a)
    (hr : Room k (A.deeper (envOfC "places_of" (defScope s_places_of) s.heap.objs.size a cdv))) : PSs (cxOf CX0 P w K mg base N_places_of "places_of" (defScope s_places_of) a cdv A outer s H E).nox (defBody s_places_of) (tSs (gb K) C d_places_of.body) := by
  have hu : (A.deeper (envOfC "places_of" (defScope s_places_of) s.heap.objs.size a cdv)).units + 65 < cLine := by have := hr.un; omega
  exact (sss_cons (ss_for PassesOwn.never rfl (si_any rfl (sv 0)) (sg_tup rfl rfl (sgs_cons (sgn 2 sc_places_of.nd) (sgs_cons (sgn 3 sc_places_of.nd) sgs_nil))) (sss_cons (ss_if (st_cmp (o := .eq) rfl hu (by rfl) (sv 2) (sv 1)) (sss_cons (ss_ret (sv 3))
    sss_nil) sss_nil)
    sss_nil))
    (sss_cons (ss_ret se_non)
    sss_nil))
theorem b_is_var {P : Program} {w : World} {K : PySem.W.Frag} {mg : Str → Option Value} {base : Heap} {k : Nat} {C : CallF} (g : GF K mg) (a : Addr) (cdv : Value) (A : Around) (outer : List PySem.Env) (s : Shared) (H : Hp) (E : XK) (F : ∀ f a, (gb K).fa f = some a → FnC P w K mg base (gb K) C k f a)
    (hr : Room k (A.deeper (envOfC "is_var" (defScope s_is_var) s.heap.objs.size a cdv))) : PSs (cxOf CX0 P w K mg base N_is_var "is_var" (defScope s_is_var) a cdv A outer s H E).nox (defBody s_is_var) (tSs (gb K) C d_is_var.body) := by
  have hu : (A.deeper (envOfC "is_var" (defScope s_is_var) s.heap.objs.size a cdv)).units + 65 < cLine := by have := hr.un; omega
  exact (sss_cons (ss_ret (sisi .str g.f_isinstance g.f_str bt_str rfl (sv 0)))
    sss_nil)
theorem b_nodes {P : Program} {w : World} {K : PySem.W.Frag} {mg : Str → Option Value} {base : Heap} {k : Nat} {C : CallF} (g : GF K mg) (a : Addr) (cdv : Value) (A : Around) (outer : List PySem.Env) (s : Shared) (H : Hp) (E : XK) (F : ∀ f a, (gb K).fa f = some a → FnC P w K mg base (gb K) C k f a)
    (hr : Room k (A.deeper (envOfC "nodes" (defScope s_nodes) s.heap.objs.size a cdv))) : PSs (cxOf CX0 P w K mg base N_nodes "nodes" (defScope s_nodes) a cdv A outer s H E).nox (defBody s_nodes) (tSs (gb K) C d_nodes.body) := by
  have hu : (A.deeper (envOfC "nodes" (defScope s_nodes) s.heap.objs.size a cdv)).units + 65 < cLine := by have := hr.un; omega
  exact (sss_cons (spar 1 2 sc_nodes.nd (sal_lst (sa_cons (sv 0) sa_nil)) se_int (by rfl))
    (sss_cons (ss_while PassesOwn.never (st_cmp (o := .gt) rfl hu (by rfl) (sb_len g.f_len rfl (sa_cons (sv 1) sa_nil)) se_int) (sss_cons (sset 3 sc_nodes.nd (sm_pop0 rfl (sv 1)))
    (sss_cons (saug 2 (o := .add) (by first | exact .inl rfl | exact .inr rfl) sc_nodes.nd se_int)
    (sss_cons (ss_if (PW.pt (sw_and (st_val (sisi .tuple g.f_isinstance g.f_tuple bt_tuple rfl (sv 3))) (sw_and1 (st_cmp (o := .gt) rfl hu (by rfl) (sb_len g.f_len rfl (sa_cons (sv 3) sa_nil)) se_int)))) (sss_cons (ss_expr (sm_extend rfl (sv 1) (sa_cons (se_slcL rfl (sv 3) se_int) sa_nil)))
    sss_nil) (sss_cons (ss_if (st_not (st_val (sisi .str g.f_isinstance g.f_str bt_str rfl (sv 3)))) (sss_cons (ss_ret se_non)
    sss_nil) sss_nil)
    sss_nil))
    (sss_cons (ss_if (st_cmp (o := .gt) rfl hu (by rfl) (sv 2) (sgl g.i_MOST_NODES)) (sss_cons (ss_ret (sv 2))
    sss_nil) sss_nil)
    sss_nil)))))
    (sss_cons (ss_ret (sv 2))
    sss_nil)))
theorem b_is_term {P : Program} {w : World} {K : PySem.W.Frag} {mg : Str → Option Value} {base : Heap} {k : Nat} {C : CallF} (g : GF K mg) (a : Addr) (cdv : Value) (A : Around) (outer : List PySem.Env) (s : Shared) (H : Hp) (E : XK) (F : ∀ f a, (gb K).fa f = some a → FnC P w K mg base (gb K) C k f a)
    (hr : Room k (A.deeper (envOfC "is_term" (defScope s_is_term) s.heap.objs.size a cdv))) : PSs (cxOf CX0 P w K mg base N_is_term "is_term" (defScope s_is_term) a cdv A outer s H E).nox (defBody s_is_term) (tSs (gb K) C d_is_term.body) := by
  have hu : (A.deeper (envOfC "is_term" (defScope s_is_term) s.heap.objs.size a cdv)).units + 65 < cLine := by have := hr.un; omega
  exact (sss_cons (sset 2 sc_is_term.nd (scall 6 F hr g.g_nodes (sa_cons (sv 0) sa_nil)))
    (sss_cons (ss_if (PW.pt (sw_or (st_cmp (o := .is) rfl hu (by rfl) (sv 2) se_non) (sw_or1 (st_cmp (o := .gt) rfl hu (by rfl) (sv 2) (sgl g.i_MOST_NODES))))) (sss_cons (ss_ret se_bl)
    sss_nil) sss_nil)
    (sss_cons (sset 3 sc_is_term.nd (sal_lst (sa_cons (sv 0) sa_nil)))
    (sss_cons (ss_while PassesOwn.never (st_cmp (o := .gt) rfl hu (by rfl) (sb_len g.f_len rfl (sa_cons (sv 3) sa_nil)) se_int) (sss_cons (sset 4 sc_is_term.nd (sm_pop0 rfl (sv 3)))
    (sss_cons (ss_if (st_val (sisi .tuple g.f_isinstance g.f_tuple bt_tuple rfl (sv 4))) (sss_cons (ss_if (PW.pt (sw_or (st_not (st_val (scall 2 F hr g.g_is_sign (sa_cons (se_sub rfl hu (sv 4) se_int) sa_nil)))) (sw_or1 (st_cmp (o := .ne) rfl hu (by rfl) (scall 4 F hr g.g_places_of (sa_cons (sv 1) (sa_cons (se_sub rfl hu (sv 4) se_int) sa_nil))) (se_bin (o := .sub) rfl (sb_len g.f_len rfl (sa_cons (sv 4) sa_nil)) se_int))))) (sss_cons (ss_ret se_bl)
    sss_nil) sss_nil)
    (sss_cons (ss_expr (sm_extend rfl (sv 3) (sa_cons (se_slcL rfl (sv 4) se_int) sa_nil)))
    sss_nil)) (sss_cons (ss_if (st_not (st_val (scall 3 F hr g.g_is_variable (sa_cons (sv 4) sa_nil)))) (sss_cons (ss_ret se_bl)
    sss_nil) sss_nil)
    sss_nil))
    sss_nil)))
    (sss_cons (ss_ret se_bl)
    sss_nil)))))
theorem b_variables {P : Program} {w : World} {K : PySem.W.Frag} {mg : Str → Option Value} {base : Heap} {k : Nat} {C : CallF} (g : GF K mg) (a : Addr) (cdv : Value) (A : Around) (outer : List PySem.Env) (s : Shared) (H : Hp) (E : XK) (F : ∀ f a, (gb K).fa f = some a → FnC P w K mg base (gb K) C k f a)
    (hr : Room k (A.deeper (envOfC "variables" (defScope s_variables) s.heap.objs.size a cdv))) : PSs (cxOf CX0 P w K mg base N_variables "variables" (defScope s_variables) a cdv A outer s H E).nox (defBody s_variables) (tSs (gb K) C d_variables.body) := by
  have hu : (A.deeper (envOfC "variables" (defScope s_variables) s.heap.objs.size a cdv)).units + 65 < cLine := by have := hr.un; omega
  exact (sss_cons (ss_if (st_val (scall 5 F hr g.g_is_var (sa_cons (sv 0) sa_nil))) (sss_cons (ss_ret (se_lst (sa_cons (sv 0) sa_nil)))
    sss_nil) sss_nil)
    (sss_cons (sset 1 sc_variables.nd (sal_lst sa_nil))
    (sss_cons (ss_for PassesOwn.never rfl (si_any rfl (se_slcL rfl (sv 0) se_int)) (sgn 2 sc_variables.nd) (sss_cons (ss_expr (sm_extend rfl (sv 1) (sa_cons (se_comp (own := [("name", 3)]) (by decide) rfl sc_variables.nd (si_any rfl (scall 8 F hr g.g_variables (sa_cons (sv 2) sa_nil))) (blkOk_by (by kernel_rfl)) (fun _ _ _ _ _ => (sgn 3 sc_variables.nd)) (fun _ _ _ _ _ => (pts_one (st_cmp (o := .nmem) rfl hu (by rfl) (sv 3) (sv 1)))) (fun _ _ _ _ _ => (sv 3))) sa_nil)))
    sss_nil))
    (sss_cons (ss_ret (sv 1))
    sss_nil))))
theorem b_positions {P : Program} {w : World} {K : PySem.W.Frag} {mg : Str → Option Value} {base : Heap} {k : Nat} {C : CallF} (g : GF K mg) (a : Addr) (cdv : Value) (A : Around) (outer : List PySem.Env) (s : Shared) (H : Hp) (E : XK) (F : ∀ f a, (gb K).fa f = some a → FnC P w K mg base (gb K) C k f a)
    (hr : Room k (A.deeper (envOfC "positions" (defScope s_positions) s.heap.objs.size a cdv))) : PSs (cxOf CX0 P w K mg base N_positions "positions" (defScope s_positions) a cdv A outer s H E).nox (defBody s_positions) (tSs (gb K) C d_positions.body) := by
  have hu : (A.deeper (envOfC "positions" (defScope s_positions) s.heap.objs.size a cdv)).units + 65 < cLine := by have := hr.un; omega
  exact (sss_cons (ss_if (st_val (scall 5 F hr g.g_is_var (sa_cons (sv 0) sa_nil))) (sss_cons (ss_ret (se_lst (sa_cons (se_tup sa_nil) sa_nil)))
    sss_nil) sss_nil)
    (sss_cons (sset 1 sc_positions.nd (sal_lst (sa_cons (se_tup sa_nil) sa_nil)))
    (sss_cons (ss_for PassesOwn.never rfl (si_range2 rfl g.f_range se_int (sb_len g.f_len rfl (sa_cons (sv 0) sa_nil))) (sgn 2 sc_positions.nd) (sss_cons (ss_expr (sm_extend rfl (sv 1) (sa_cons (se_comp (own := [("rest", 3)]) (by decide) rfl sc_positions.nd (si_any rfl (scall 9 F hr g.g_positions (sa_cons (se_sub rfl hu (sv 0) (sv 2)) sa_nil))) (blkOk_by (by kernel_rfl)) (fun _ _ _ _ _ => (sgn 3 sc_positions.nd)) (fun _ _ _ _ _ => sts_nil) (fun _ _ _ _ _ => (se_bin (o := .add) rfl (se_tup (sa_cons (sv 2) sa_nil)) (sv 3)))) sa_nil)))
    sss_nil))
    (sss_cons (ss_ret (sv 1))
    sss_nil))))
theorem b_has_position {P : Program} {w : World} {K : PySem.W.Frag} {mg : Str → Option Value} {base : Heap} {k : Nat} {C : CallF} (g : GF K mg) (a : Addr) (cdv : Value) (A : Around) (outer : List PySem.Env) (s : Shared) (H : Hp) (E : XK) (F : ∀ f a, (gb K).fa f = some a → FnC P w K mg base (gb K) C k f a)
    (hr : Room k (A.deeper (envOfC "has_position" (defScope s_has_position) s.heap.objs.size a cdv))) : PSs (cxOf CX0 P w K mg base N_has_position "has_position" (defScope s_has_position) a cdv A outer s H E).nox (defBody s_has_position) (tSs (gb K) C d_has_position.body) := by
  have hu : (A.deeper (envOfC "has_position" (defScope s_has_position) s.heap.objs.size a cdv)).units + 65 < cLine := by have := hr.un; omega
  exact (sss_cons (ss_if (st_not (st_val (sisi .tuple g.f_isinstance g.f_tuple bt_tuple rfl (sv 1)))) (sss_cons (ss_ret se_bl)
    sss_nil) sss_nil)
    (sss_cons (ss_for PassesOwn.never rfl (si_any rfl (sv 1)) (sgn 2 sc_has_position.nd) (sss_cons (ss_if (PW.pt (sw_or (st_val (scall 5 F hr g.g_is_var (sa_cons (sv 0) sa_nil))) (sw_or1 (st_not (st_val (scall 0 F hr g.g_is_whole (sa_cons (sv 2) (sa_cons se_int (sa_cons (se_bin (o := .sub) rfl (sb_len g.f_len rfl (sa_cons (sv 0) sa_nil)) se_int) sa_nil))))))))) (sss_cons (ss_ret se_bl)
    sss_nil) sss_nil)
    (sss_cons (sset 0 sc_has_position.nd (se_sub rfl hu (sv 0) (sv 2)))
    sss_nil)))
    (sss_cons (ss_ret se_bl)
    sss_nil)))
theorem b_at {P : Program} {w : World} {K : PySem.W.Frag} {mg : Str → Option Value} {base : Heap} {k : Nat} {C : CallF} (g : GF K mg) (a : Addr) (cdv : Value) (A : Around) (outer : List PySem.Env) (s : Shared) (H : Hp) (E : XK) (F : ∀ f a, (gb K).fa f = some a → FnC P w K mg base (gb K) C k f a)
    (hr : Room k (A.deeper (envOfC "at" (defScope s_at) s.heap.objs.size a cdv))) : PSs (cxOf CX0 P w K mg base N_at "at" (defScope s_at) a cdv A outer s H E).nox (defBody s_at) (tSs (gb K) C d_at.body) := by
  have hu : (A.deeper (envOfC "at" (defScope s_at) s.heap.objs.size a cdv)).units + 65 < cLine := by have := hr.un; omega
  exact (sss_cons (ss_for PassesOwn.never rfl (si_any rfl (sv 1)) (sgn 2 sc_at.nd) (sss_cons (sset 0 sc_at.nd (se_sub rfl hu (sv 0) (sv 2)))
    sss_nil))
    (sss_cons (ss_ret (sv 0))
    sss_nil))
theorem b_put {P : Program} {w : World} {K : PySem.W.Frag} {mg : Str → Option Value} {base : Heap} {k : Nat} {C : CallF} (g : GF K mg) (a : Addr) (cdv : Value) (A : Around) (outer : List PySem.Env) (s : Shared) (H : Hp) (E : XK) (F : ∀ f a, (gb K).fa f = some a → FnC P w K mg base (gb K) C k f a)
    (hr : Room k (A.deeper (envOfC "put" (defScope s_put) s.heap.objs.size a cdv))) : PSs (cxOf CX0 P w K mg base N_put "put" (defScope s_put) a cdv A outer s H E).nox (defBody s_put) (tSs (gb K) C d_put.body) := by
  have hu : (A.deeper (envOfC "put" (defScope s_put) s.heap.objs.size a cdv)).units + 65 < cLine := by have := hr.un; omega
  exact (sss_cons (ss_if (st_cmp (o := .eq) rfl hu (by rfl) (sb_len g.f_len rfl (sa_cons (sv 1) sa_nil)) se_int) (sss_cons (ss_ret (sv 2))
    sss_nil) sss_nil)
    (sss_cons (sset 3 sc_put.nd (se_sub rfl hu (sv 1) se_int))
    (sss_cons (ss_ret (se_bin (o := .add) rfl (se_bin (o := .add) rfl (se_slcH rfl (sv 0) (sv 3)) (se_tup (sa_cons (scall 12 F hr g.g_put (sa_cons (se_sub rfl hu (sv 0) (sv 3)) (sa_cons (se_slcL rfl (sv 1) se_int) (sa_cons (sv 2) sa_nil)))) sa_nil))) (se_slcL rfl (sv 0) (se_bin (o := .add) rfl (sv 3) se_int))))
    sss_nil)))
theorem b_put_for {P : Program} {w : World} {K : PySem.W.Frag} {mg : Str → Option Value} {base : Heap} {k : Nat} {C : CallF} (g : GF K mg) (a : Addr) (cdv : Value) (A : Around) (outer : List PySem.Env) (s : Shared) (H : Hp) (E : XK) (F : ∀ f a, (gb K).fa f = some a → FnC P w K mg base (gb K) C k f a)
    (hr : Room k (A.deeper (envOfC "put_for" (defScope s_put_for) s.heap.objs.size a cdv))) : PSs (cxOf CX0 P w K mg base N_put_for "put_for" (defScope s_put_for) a cdv A outer s H E).nox (defBody s_put_for) (tSs (gb K) C d_put_for.body) := by
  have hu : (A.deeper (envOfC "put_for" (defScope s_put_for) s.heap.objs.size a cdv)).units + 65 < cLine := by have := hr.un; omega
  exact (sss_cons (ss_if (st_val (scall 5 F hr g.g_is_var (sa_cons (sv 0) sa_nil))) (sss_cons (ss_ret (se_get2 hu (sv 1) (sv 0) (sv 0)))
    sss_nil) sss_nil)
    (sss_cons (ss_ret (se_bin (o := .add) rfl (se_tup (sa_cons (se_sub rfl hu (sv 0) se_int) sa_nil)) (sb_tuple g.f_tuple rfl (sa_cons (se_comp (own := [("part", 2)]) (by decide) rfl sc_put_for.nd (si_any rfl (se_slcL rfl (sv 0) se_int)) (blkOk_by (by kernel_rfl)) (fun _ _ _ _ _ => (sgn 2 sc_put_for.nd)) (fun _ _ _ _ _ => sts_nil) (fun _ _ _ _ _ => (scall 13 F hr g.g_put_for (sa_cons (sv 2) (sa_cons (sv 1) sa_nil))))) sa_nil))))
    sss_nil))
theorem b_matched {P : Program} {w : World} {K : PySem.W.Frag} {mg : Str → Option Value} {base : Heap} {k : Nat} {C : CallF} (g : GF K mg) (a : Addr) (cdv : Value) (A : Around) (outer : List PySem.Env) (s : Shared) (H : Hp) (E : XK) (F : ∀ f a, (gb K).fa f = some a → FnC P w K mg base (gb K) C k f a)
    (hr : Room k (A.deeper (envOfC "matched" (defScope s_matched) s.heap.objs.size a cdv))) : PSs (cxOf CX0 P w K mg base N_matched "matched" (defScope s_matched) a cdv A outer s H E).nox (defBody s_matched) (tSs (gb K) C d_matched.body) := by
  have hu : (A.deeper (envOfC "matched" (defScope s_matched) s.heap.objs.size a cdv)).units + 65 < cLine := by have := hr.un; omega
  exact (sss_cons (sset 2 sc_matched.nd sal_dnew)
    (sss_cons (sset 3 sc_matched.nd (sal_lst (sa_cons (se_tup (sa_cons (sv 0) (sa_cons (sv 1) sa_nil))) sa_nil)))
    (sss_cons (ss_while PassesOwn.never (st_cmp (o := .gt) rfl hu (by rfl) (sb_len g.f_len rfl (sa_cons (sv 3) sa_nil)) se_int) (sss_cons (ss_asg (sm_pop0 rfl (sv 3)) (sg_tup rfl rfl (sgs_cons (sgn 4 sc_matched.nd) (sgs_cons (sgn 5 sc_matched.nd) sgs_nil))))
    (sss_cons (ss_if (st_val (scall 5 F hr g.g_is_var (sa_cons (sv 4) sa_nil))) (sss_cons (ss_if (PW.pt (sw_and (st_cmp (o := .mem) rfl hu (by rfl) (sv 4) (sv 2)) (sw_and1 (st_cmp (o := .ne) rfl hu (by rfl) (se_sub rfl hu (sv 2) (sv 4)) (sv 5))))) (sss_cons (ss_ret se_non)
    sss_nil) sss_nil)
    (sss_cons (ss_sti hu (sv 5) (sv 2) (sv 4))
    sss_nil)) (sss_cons (ss_if (PW.pt (sw_or (st_val (scall 5 F hr g.g_is_var (sa_cons (sv 5) sa_nil))) (sw_or (st_cmp (o := .ne) rfl hu (by rfl) (se_sub rfl hu (sv 4) se_int) (se_sub rfl hu (sv 5) se_int)) (sw_or1 (st_cmp (o := .ne) rfl hu (by rfl) (sb_len g.f_len rfl (sa_cons (sv 4) sa_nil)) (sb_len g.f_len rfl (sa_cons (sv 5) sa_nil))))))) (sss_cons (ss_ret se_non)
    sss_nil) (sss_cons (ss_expr (sm_extend rfl (sv 3) (sa_cons (se_lzip g.f_list g.f_zip rfl (sa_cons (se_slcL rfl (sv 4) se_int) (sa_cons (se_slcL rfl (sv 5) se_int) sa_nil))) sa_nil)))
    sss_nil))
    sss_nil))
    sss_nil)))
    (sss_cons (ss_ret (se_dcomp (own := [("name", 6)]) (by decide) rfl sc_matched.nd (si_any rfl (sb_sorted g.f_sorted rfl hu (sa_cons (sv 2) sa_nil))) (blkOk_by (by kernel_rfl)) (fun _ _ _ _ _ => (sgn 6 sc_matched.nd)) (fun _ _ _ _ _ => sts_nil) (fun _ _ _ _ _ => (sv 6)) (fun _ _ _ _ _ => (se_sub rfl hu (sv 2) (sv 6)))))
    sss_nil))))
theorem b_is_rule {P : Program} {w : World} {K : PySem.W.Frag} {mg : Str → Option Value} {base : Heap} {k : Nat} {C : CallF} (g : GF K mg) (a : Addr) (cdv : Value) (A : Around) (outer : List PySem.Env) (s : Shared) (H : Hp) (E : XK) (F : ∀ f a, (gb K).fa f = some a → FnC P w K mg base (gb K) C k f a)
    (hr : Room k (A.deeper (envOfC "is_rule" (defScope s_is_rule) s.heap.objs.size a cdv))) : PSs (cxOf CX0 P w K mg base N_is_rule "is_rule" (defScope s_is_rule) a cdv A outer s H E).nox (defBody s_is_rule) (tSs (gb K) C d_is_rule.body) := by
  have hu : (A.deeper (envOfC "is_rule" (defScope s_is_rule) s.heap.objs.size a cdv)).units + 65 < cLine := by have := hr.un; omega
  exact (sss_cons (ss_if (PW.pt (sw_or (st_not (st_val (sisi .tuple g.f_isinstance g.f_tuple bt_tuple rfl (sv 0)))) (sw_or (st_cmp (o := .ne) rfl hu (by rfl) (sb_len g.f_len rfl (sa_cons (sv 0) sa_nil)) se_int) (sw_or1 (st_not (st_val (sb_all g.f_all rfl (sa_cons (se_comp (own := [("term", 4)]) (by decide) rfl sc_is_rule.nd (si_any rfl (sv 0)) (blkOk_by (by kernel_rfl)) (fun _ _ _ _ _ => (sgn 4 sc_is_rule.nd)) (fun _ _ _ _ _ => sts_nil) (fun _ _ _ _ _ => (scall 7 F hr g.g_is_term (sa_cons (sv 4) (sa_cons (sv 1) sa_nil))))) sa_nil)))))))) (sss_cons (ss_ret se_bl)
    sss_nil) sss_nil)
    (sss_cons (ss_if (st_val (scall 5 F hr g.g_is_var (sa_cons (se_sub rfl hu (sv 0) se_int) sa_nil))) (sss_cons (ss_ret se_bl)
    sss_nil) sss_nil)
    (sss_cons (sset 2 sc_is_rule.nd (scall 8 F hr g.g_variables (sa_cons (se_sub rfl hu (sv 0) se_int) sa_nil)))
    (sss_cons (ss_ret (sb_all g.f_all rfl (sa_cons (se_comp (own := [("name", 3)]) (by decide) rfl sc_is_rule.nd (si_any rfl (scall 8 F hr g.g_variables (sa_cons (se_sub rfl hu (sv 0) se_int) sa_nil))) (blkOk_by (by kernel_rfl)) (fun _ _ _ _ _ => (sgn 3 sc_is_rule.nd)) (fun _ _ _ _ _ => sts_nil) (fun _ _ _ _ _ => (se_cmp (o := .mem) rfl hu (by rfl) (sv 3) (sv 2)))) sa_nil)))
    sss_nil))))
theorem b_is_system {P : Program} {w : World} {K : PySem.W.Frag} {mg : Str → Option Value} {base : Heap} {k : Nat} {C : CallF} (g : GF K mg) (a : Addr) (cdv : Value) (A : Around) (outer : List PySem.Env) (s : Shared) (H : Hp) (E : XK) (F : ∀ f a, (gb K).fa f = some a → FnC P w K mg base (gb K) C k f a)
    (hr : Room k (A.deeper (envOfC "is_system" (defScope s_is_system) s.heap.objs.size a cdv))) : PSs (cxOf CX0 P w K mg base N_is_system "is_system" (defScope s_is_system) a cdv A outer s H E).nox (defBody s_is_system) (tSs (gb K) C d_is_system.body) := by
  have hu : (A.deeper (envOfC "is_system" (defScope s_is_system) s.heap.objs.size a cdv)).units + 65 < cLine := by have := hr.un; omega
  exact (sss_cons (ss_if (PW.pt (sw_or (st_not (st_val (sisi .tuple g.f_isinstance g.f_tuple bt_tuple rfl (sv 0)))) (sw_or1 (st_cmp (o := .gt) rfl hu (by rfl) (sb_len g.f_len rfl (sa_cons (sv 0) sa_nil)) (sgl g.i_MOST_RULES))))) (sss_cons (ss_ret se_bl)
    sss_nil) sss_nil)
    (sss_cons (ss_ret (sb_all g.f_all rfl (sa_cons (se_comp (own := [("rule", 2)]) (by decide) rfl sc_is_system.nd (si_any rfl (sv 0)) (blkOk_by (by kernel_rfl)) (fun _ _ _ _ _ => (sgn 2 sc_is_system.nd)) (fun _ _ _ _ _ => sts_nil) (fun _ _ _ _ _ => (scall 15 F hr g.g_is_rule (sa_cons (sv 2) (sa_cons (sv 1) sa_nil))))) sa_nil)))
    sss_nil))
theorem b_is_linear {P : Program} {w : World} {K : PySem.W.Frag} {mg : Str → Option Value} {base : Heap} {k : Nat} {C : CallF} (g : GF K mg) (a : Addr) (cdv : Value) (A : Around) (outer : List PySem.Env) (s : Shared) (H : Hp) (E : XK) (F : ∀ f a, (gb K).fa f = some a → FnC P w K mg base (gb K) C k f a)
    (hr : Room k (A.deeper (envOfC "is_linear" (defScope s_is_linear) s.heap.objs.size a cdv))) : PSs (cxOf CX0 P w K mg base N_is_linear "is_linear" (defScope s_is_linear) a cdv A outer s H E).nox (defBody s_is_linear) (tSs (gb K) C d_is_linear.body) := by
  have hu : (A.deeper (envOfC "is_linear" (defScope s_is_linear) s.heap.objs.size a cdv)).units + 65 < cLine := by have := hr.un; omega
  exact (sss_cons (sset 1 sc_is_linear.nd (sal_lst sa_nil))
    (sss_cons (ss_for PassesOwn.never rfl (si_any rfl (scall 9 F hr g.g_positions (sa_cons (sv 0) sa_nil))) (sgn 2 sc_is_linear.nd) (sss_cons (sset 3 sc_is_linear.nd (scall 11 F hr g.g_at (sa_cons (sv 0) (sa_cons (sv 2) sa_nil))))
    (sss_cons (ss_if (st_val (scall 5 F hr g.g_is_var (sa_cons (sv 3) sa_nil))) (sss_cons (ss_if (st_cmp (o := .mem) rfl hu (by rfl) (sv 3) (sv 1)) (sss_cons (ss_ret se_bl)
    sss_nil) sss_nil)
    (sss_cons (ss_expr (sm_append rfl (sv 1) (sa_cons (sv 3) sa_nil)))
    sss_nil)) sss_nil)
    sss_nil)))
    (sss_cons (ss_ret se_bl)
    sss_nil)))
theorem b_turned {P : Program} {w : World} {K : PySem.W.Frag} {mg : Str → Option Value} {base : Heap} {k : Nat} {C : CallF} (g : GF K mg) (a : Addr) (cdv : Value) (A : Around) (outer : List PySem.Env) (s : Shared) (H : Hp) (E : XK) (F : ∀ f a, (gb K).fa f = some a → FnC P w K mg base (gb K) C k f a)
    (hr : Room k (A.deeper (envOfC "turned" (defScope s_turned) s.heap.objs.size a cdv))) : PSs (cxOf CX0 P w K mg base N_turned "turned" (defScope s_turned) a cdv A outer s H E).nox (defBody s_turned) (tSs (gb K) C d_turned.body) := by
  have hu : (A.deeper (envOfC "turned" (defScope s_turned) s.heap.objs.size a cdv)).units + 65 < cLine := by have := hr.un; omega
  exact (sss_cons (ss_asg (sv 2) (sg_tup rfl rfl (sgs_cons (sgn 4 sc_turned.nd) (sgs_cons (sgn 5 sc_turned.nd) sgs_nil))))
    (sss_cons (sset 3 sc_turned.nd (scall 14 F hr g.g_matched (sa_cons (se_sub rfl hu (se_sub rfl hu (sv 0) (sv 4)) se_int) (sa_cons (scall 11 F hr g.g_at (sa_cons (sv 1) (sa_cons (sv 5) sa_nil))) sa_nil))))
    (sss_cons (ss_if (st_cmp (o := .is) rfl hu (by rfl) (sv 3) se_non) (sss_cons (ss_ret se_non)
    sss_nil) sss_nil)
    (sss_cons (ss_ret (scall 12 F hr g.g_put (sa_cons (sv 1) (sa_cons (sv 5) (sa_cons (scall 13 F hr g.g_put_for (sa_cons (se_sub rfl hu (se_sub rfl hu (sv 0) (sv 4)) se_int) (sa_cons (sv 3) sa_nil))) sa_nil)))))
    sss_nil))))
theorem b_is_step {P : Program} {w : World} {K : PySem.W.Frag} {mg : Str → Option Value} {base : Heap} {k : Nat} {C : CallF} (g : GF K mg) (a : Addr) (cdv : Value) (A : Around) (outer : List PySem.Env) (s : Shared) (H : Hp) (E : XK) (F : ∀ f a, (gb K).fa f = some a → FnC P w K mg base (gb K) C k f a)
    (hr : Room k (A.deeper (envOfC "is_step" (defScope s_is_step) s.heap.objs.size a cdv))) : PSs (cxOf CX0 P w K mg base N_is_step "is_step" (defScope s_is_step) a cdv A outer s H E).nox (defBody s_is_step) (tSs (gb K) C d_is_step.body) := by
  have hu : (A.deeper (envOfC "is_step" (defScope s_is_step) s.heap.objs.size a cdv)).units + 65 < cLine := by have := hr.un; omega
  exact (sss_cons (ss_if (PW.pt (sw_or (st_not (st_val (sisi .tuple g.f_isinstance g.f_tuple bt_tuple rfl (sv 0)))) (sw_or (st_cmp (o := .ne) rfl hu (by rfl) (sb_len g.f_len rfl (sa_cons (sv 0) sa_nil)) se_int) (sw_or1 (st_not (st_val (scall 0 F hr g.g_is_whole (sa_cons (se_sub rfl hu (sv 0) se_int) (sa_cons se_int (sa_cons (se_bin (o := .sub) rfl (sb_len g.f_len rfl (sa_cons (sv 1) sa_nil)) se_int) sa_nil)))))))))) (sss_cons (ss_ret se_bl)
    sss_nil) sss_nil)
    (sss_cons (ss_ret (se_and (scall 10 F hr g.g_has_position (sa_cons (sv 2) (sa_cons (se_sub rfl hu (sv 0) se_int) sa_nil))) (se_one (se_cmp (o := .isn) rfl hu (by rfl) (scall 18 F hr g.g_turned (sa_cons (sv 1) (sa_cons (sv 2) (sa_cons (sv 0) sa_nil)))) se_non))))
    sss_nil))
theorem b_steps {P : Program} {w : World} {K : PySem.W.Frag} {mg : Str → Option Value} {base : Heap} {k : Nat} {C : CallF} (g : GF K mg) (a : Addr) (cdv : Value) (A : Around) (outer : List PySem.Env) (s : Shared) (H : Hp) (E : XK) (F : ∀ f a, (gb K).fa f = some a → FnC P w K mg base (gb K) C k f a)
    (hr : Room k (A.deeper (envOfC "steps" (defScope s_steps) s.heap.objs.size a cdv))) : PSs (cxOf CX0 P w K mg base N_steps "steps" (defScope s_steps) a cdv A outer s H E).nox (defBody s_steps) (tSs (gb K) C d_steps.body) := by
  have hu : (A.deeper (envOfC "steps" (defScope s_steps) s.heap.objs.size a cdv)).units + 65 < cLine := by have := hr.un; omega
  exact (sss_cons (sset 2 sc_steps.nd (sal_lst sa_nil))
    (sss_cons (ss_for PassesOwn.never rfl (si_any rfl (scall 9 F hr g.g_positions (sa_cons (sv 1) sa_nil))) (sgn 3 sc_steps.nd) (sss_cons (sset 4 sc_steps.nd (scall 11 F hr g.g_at (sa_cons (sv 1) (sa_cons (sv 3) sa_nil))))
    (sss_cons (ss_if (st_not (st_val (scall 5 F hr g.g_is_var (sa_cons (sv 4) sa_nil)))) (sss_cons (ss_expr (sm_extend rfl (sv 2) (sa_cons (se_comp (own := [("k", 5)]) (by decide) rfl sc_steps.nd (si_range1 rfl g.f_range (sb_len g.f_len rfl (sa_cons (sv 0) sa_nil))) (blkOk_by (by kernel_rfl)) (fun _ _ _ _ _ => (sgn 5 sc_steps.nd)) (fun _ _ _ _ _ => (pts_one (st_cmp (o := .isn) rfl hu (by rfl) (scall 14 F hr g.g_matched (sa_cons (se_sub rfl hu (se_sub rfl hu (sv 0) (sv 5)) se_int) (sa_cons (sv 4) sa_nil))) se_non))) (fun _ _ _ _ _ => (se_tup (sa_cons (sv 5) (sa_cons (sv 3) sa_nil))))) sa_nil)))
    sss_nil) sss_nil)
    sss_nil)))
    (sss_cons (ss_ret (sv 2))
    sss_nil)))
theorem b_is_normal {P : Program} {w : World} {K : PySem.W.Frag} {mg : Str → Option Value} {base : Heap} {k : Nat} {C : CallF} (g : GF K mg) (a : Addr) (cdv : Value) (A : Around) (outer : List PySem.Env) (s : Shared) (H : Hp) (E : XK) (F : ∀ f a, (gb K).fa f = some a → FnC P w K mg base (gb K) C k f a)
    (hr : Room k (A.deeper (envOfC "is_normal" (defScope s_is_normal) s.heap.objs.size a cdv))) : PSs (cxOf CX0 P w K mg base N_is_normal "is_normal" (defScope s_is_normal) a cdv A outer s H E).nox (defBody s_is_normal) (tSs (gb K) C d_is_normal.body) := by
  have hu : (A.deeper (envOfC "is_normal" (defScope s_is_normal) s.heap.objs.size a cdv)).units + 65 < cLine := by have := hr.un; omega
  exact (sss_cons (ss_ret (se_cmp (o := .eq) rfl hu (by rfl) (sb_len g.f_len rfl (sa_cons (scall 20 F hr g.g_steps (sa_cons (sv 0) (sa_cons (sv 1) sa_nil))) sa_nil)) se_int))
    sss_nil)
theorem b_behind_row {P : Program} {w : World} {K : PySem.W.Frag} {mg : Str → Option Value} {base : Heap} {k : Nat} {C : CallF} (g : GF K mg) (a : Addr) (cdv : Value) (A : Around) (outer : List PySem.Env) (s : Shared) (H : Hp) (E : XK) (F : ∀ f a, (gb K).fa f = some a → FnC P w K mg base (gb K) C k f a)
    (hr : Room k (A.deeper (envOfC "behind_row" (defScope s_behind_row) s.heap.objs.size a cdv))) : PSs (cxOf CX0 P w K mg base N_behind_row "behind_row" (defScope s_behind_row) a cdv A outer s H E).nox (defBody s_behind_row) (tSs (gb K) C d_behind_row.body) := by
  have hu : (A.deeper (envOfC "behind_row" (defScope s_behind_row) s.heap.objs.size a cdv)).units + 65 < cLine := by have := hr.un; omega
  exact (sss_cons (ss_if (st_not (st_val (sisi .tuple g.f_isinstance g.f_tuple bt_tuple rfl (sv 2)))) (sss_cons (ss_ret se_non)
    sss_nil) sss_nil)
    (sss_cons (ss_for PassesOwn.never rfl (si_any rfl (sv 2)) (sgn 3 sc_behind_row.nd) (sss_cons (ss_if (st_not (st_val (scall 19 F hr g.g_is_step (sa_cons (sv 3) (sa_cons (sv 0) (sa_cons (sv 1) sa_nil)))))) (sss_cons (ss_ret se_non)
    sss_nil) sss_nil)
    (sss_cons (sset 1 sc_behind_row.nd (scall 18 F hr g.g_turned (sa_cons (sv 0) (sa_cons (sv 1) (sa_cons (sv 3) sa_nil)))))
    sss_nil)))
    (sss_cons (ss_ret (sv 1))
    sss_nil)))
theorem b_l_state {P : Program} {w : World} {K : PySem.W.Frag} {mg : Str → Option Value} {base : Heap} {k : Nat} {C : CallF} (g : GF K mg) (a : Addr) (cdv : Value) (A : Around) (outer : List PySem.Env) (s : Shared) (H : Hp) (E : XK) (F : ∀ f a, (gb K).fa f = some a → FnC P w K mg base (gb K) C k f a)
    (hr : Room k (A.deeper (envOfC "_law_state" (defScope s_l_state) s.heap.objs.size a cdv))) : PSs (cxOf CX0 P w K mg base N_l_state "_law_state" (defScope s_l_state) a cdv A outer s H E).nox (defBody s_l_state) (tSs (gb K) C d_l_state.body) := by
  have hu : (A.deeper (envOfC "_law_state" (defScope s_l_state) s.heap.objs.size a cdv)).units + 65 < cLine := by have := hr.un; omega
  exact (sss_cons (ss_setLcA (i := 1) (own := [("cell", 2)]) (by decide) rfl sc_l_state.nd rfl rfl (sw_true rfl rfl rfl (by rfl)) (si_any rfl (se_slcH rfl (sv 0) se_int)) (blkOk_by (by kernel_rfl)) (fun _ _ _ _ _ => (sgn 2 sc_l_state.nd)) (fun _ _ _ _ _ => sts_nil) (fun _ _ _ _ _ => (sb_abs g.f_abs rfl (sa_cons (sv 2) sa_nil))))
    (sss_cons (ss_if (st_cmp (o := .eq) rfl hu (by rfl) (sb_len g.f_len rfl (sa_cons (sv 1) sa_nil)) se_int) (sss_cons (sset 1 sc_l_state.nd (sal_lst (sa_cons se_int sa_nil)))
    sss_nil) sss_nil)
    (sss_cons (ss_ret (sal_lst (sa_cons se_int (sa_cons (sv 1) sa_nil))))
    sss_nil)))
theorem b_l_take {P : Program} {w : World} {K : PySem.W.Frag} {mg : Str → Option Value} {base : Heap} {k : Nat} {C : CallF} (g : GF K mg) (a : Addr) (cdv : Value) (A : Around) (outer : List PySem.Env) (s : Shared) (H : Hp) (E : XK) (F : ∀ f a, (gb K).fa f = some a → FnC P w K mg base (gb K) C k f a)
    (hr : Room k (A.deeper (envOfC "_law_take" (defScope s_l_take) s.heap.objs.size a cdv))) : PSs (cxOf CX0 P w K mg base N_l_take "_law_take" (defScope s_l_take) a cdv A outer s H E).nox (defBody s_l_take) (tSs (gb K) C d_l_take.body) := by
  have hu : (A.deeper (envOfC "_law_take" (defScope s_l_take) s.heap.objs.size a cdv)).units + 65 < cLine := by have := hr.un; omega
  exact (sss_cons (ss_if (st_cmp (o := .lt) rfl hu (by rfl) (sv 1) se_int) (sss_cons (ss_ret se_int)
    sss_nil) sss_nil)
    (sss_cons (sset 2 sc_l_take.nd (se_sub rfl hu (sv 0) se_int))
    (sss_cons (sset 3 sc_l_take.nd (se_bin (o := .mod) rfl (sb_int g.f_int rfl (sa_cons (se_sub rfl hu (sv 0) se_int) sa_nil)) (sb_len g.f_len rfl (sa_cons (sv 2) sa_nil))))
    (sss_cons (sset 4 sc_l_take.nd (se_sub rfl hu (sv 2) (sv 3)))
    (sss_cons (ss_if (st_cmp (o := .ge) rfl hu (by rfl) (sv 4) se_int) (sss_cons (ss_sti hu (se_bin (o := .fdiv) rfl (sv 4) (sv 1)) (sv 2) (sv 3))
    (sss_cons (ss_ret (se_bin (o := .mod) rfl (sb_int g.f_int rfl (sa_cons (sv 4) sa_nil)) (sv 1)))
    sss_nil)) sss_nil)
    (sss_cons (ss_sti hu (se_bin (o := .add) rfl (se_sub rfl hu (sv 0) se_int) se_int) (sv 0) se_int)
    (sss_cons (sset 5 sc_l_take.nd (se_bin (o := .mod) rfl (sb_int g.f_int rfl (sa_cons (se_bin (o := .add) rfl (se_bin (o := .mul) rfl (sv 4) se_int) (se_bin (o := .mul) rfl (se_sub rfl hu (sv 0) se_int) se_int)) sa_nil)) se_int))
    (sss_cons (sset 5 sc_l_take.nd (se_bin (o := .mod) rfl (sb_int g.f_int rfl (sa_cons (se_bin (o := .add) rfl (se_bin (o := .mul) rfl (sv 5) se_int) (se_bin (o := .mul) rfl (se_sub rfl hu (sv 0) se_int) se_int)) sa_nil)) se_int))
    (sss_cons (ss_ret (se_bin (o := .mod) rfl (sb_int g.f_int rfl (sa_cons (se_bin (o := .fdiv) rfl (sv 5) se_int) sa_nil)) (sv 1)))
    sss_nil)))))))))
theorem b_l_pick {P : Program} {w : World} {K : PySem.W.Frag} {mg : Str → Option Value} {base : Heap} {k : Nat} {C : CallF} (g : GF K mg) (a : Addr) (cdv : Value) (A : Around) (outer : List PySem.Env) (s : Shared) (H : Hp) (E : XK) (F : ∀ f a, (gb K).fa f = some a → FnC P w K mg base (gb K) C k f a)
    (hr : Room k (A.deeper (envOfC "_law_pick" (defScope s_l_pick) s.heap.objs.size a cdv))) : PSs (cxOf CX0 P w K mg base N_l_pick "_law_pick" (defScope s_l_pick) a cdv A outer s H E).nox (defBody s_l_pick) (tSs (gb K) C d_l_pick.body) := by
  have hu : (A.deeper (envOfC "_law_pick" (defScope s_l_pick) s.heap.objs.size a cdv)).units + 65 < cLine := by have := hr.un; omega
  exact (sss_cons (ss_ret (se_sub rfl hu (sv 1) (scall 24 F hr g.g_u_law_take (sa_cons (sv 0) (sa_cons (sb_len g.f_len rfl (sa_cons (sv 1) sa_nil)) sa_nil)))))
    sss_nil)
theorem b_l_tongue {P : Program} {w : World} {K : PySem.W.Frag} {mg : Str → Option Value} {base : Heap} {k : Nat} {C : CallF} (g : GF K mg) (a : Addr) (cdv : Value) (A : Around) (outer : List PySem.Env) (s : Shared) (H : Hp) (E : XK) (F : ∀ f a, (gb K).fa f = some a → FnC P w K mg base (gb K) C k f a)
    (hr : Room k (A.deeper (envOfC "_law_tongue" (defScope s_l_tongue) s.heap.objs.size a cdv))) : PSs (cxOf CX0 P w K mg base N_l_tongue "_law_tongue" (defScope s_l_tongue) a cdv A outer s H E).nox (defBody s_l_tongue) (tSs (gb K) C d_l_tongue.body) := by
  have hu : (A.deeper (envOfC "_law_tongue" (defScope s_l_tongue) s.heap.objs.size a cdv)).units + 65 < cLine := by have := hr.un; omega
  exact (sss_cons (ss_ret (scall 25 F hr g.g_u_law_pick (sa_cons (sv 0) (sa_cons (se_lst (sa_cons (se_tup (sa_cons (se_tup (sa_cons (se_str (by decide +kernel)) (sa_cons se_int sa_nil))) (sa_cons (se_tup (sa_cons (se_str (by decide +kernel)) (sa_cons se_int sa_nil))) sa_nil))) (sa_cons (se_tup (sa_cons (se_tup (sa_cons (se_str (by decide +kernel)) (sa_cons se_int sa_nil))) (sa_cons (se_tup (sa_cons (se_str (by decide +kernel)) (sa_cons se_int sa_nil))) (sa_cons (se_tup (sa_cons (se_str (by decide +kernel)) (sa_cons se_int sa_nil))) (sa_cons (se_tup (sa_cons (se_str (by decide +kernel)) (sa_cons se_int sa_nil))) sa_nil))))) (sa_cons (se_tup (sa_cons (se_tup (sa_cons (se_str (by decide +kernel)) (sa_cons se_int sa_nil))) (sa_cons (se_tup (sa_cons (se_str (by decide +kernel)) (sa_cons se_int sa_nil))) (sa_cons (se_tup (sa_cons (se_str (by decide +kernel)) (sa_cons se_int sa_nil))) (sa_cons (se_tup (sa_cons (se_str (by decide +kernel)) (sa_cons se_int sa_nil))) sa_nil))))) (sa_cons (se_tup (sa_cons (se_tup (sa_cons (se_str (by decide +kernel)) (sa_cons se_int sa_nil))) (sa_cons (se_tup (sa_cons (se_str (by decide +kernel)) (sa_cons se_int sa_nil))) (sa_cons (se_tup (sa_cons (se_str (by decide +kernel)) (sa_cons se_int sa_nil))) sa_nil)))) sa_nil))))) sa_nil))))
    sss_nil)
theorem b_l_term {P : Program} {w : World} {K : PySem.W.Frag} {mg : Str → Option Value} {base : Heap} {k : Nat} {C : CallF} (g : GF K mg) (a : Addr) (cdv : Value) (A : Around) (outer : List PySem.Env) (s : Shared) (H : Hp) (E : XK) (F : ∀ f a, (gb K).fa f = some a → FnC P w K mg base (gb K) C k f a)
    (hr : Room k (A.deeper (envOfC "_law_term" (defScope s_l_term) s.heap.objs.size a cdv))) : PSs (cxOf CX0 P w K mg base N_l_term "_law_term" (defScope s_l_term) a cdv A outer s H E).nox (defBody s_l_term) (tSs (gb K) C d_l_term.body) := by
  have hu : (A.deeper (envOfC "_law_term" (defScope s_l_term) s.heap.objs.size a cdv)).units + 65 < cLine := by have := hr.un; omega
  exact (sss_cons (ss_if (PW.pt (sw_and (st_cmp (o := .gt) rfl hu (by rfl) (sb_len g.f_len rfl (sa_cons (sv 2) sa_nil)) se_int) (sw_and1 (st_cmp (o := .eq) rfl hu (by rfl) (scall 24 F hr g.g_u_law_take (sa_cons (sv 0) (sa_cons (se_ite (st_cmp (o := .gt) rfl hu (by rfl) (sv 3) se_int) se_int se_int) sa_nil))) se_int)))) (sss_cons (ss_ret (scall 25 F hr g.g_u_law_pick (sa_cons (sv 0) (sa_cons (sv 2) sa_nil))))
    sss_nil) sss_nil)
    (sss_cons (ss_setLc (i := 4) (own := [("pair", 7)]) (by decide) rfl sc_l_term.nd rfl rfl (sw_true rfl rfl rfl (by rfl)) (si_any rfl (sv 1)) (blkOk_by (by kernel_rfl)) (fun _ _ _ _ _ => (sgn 7 sc_l_term.nd)) (fun _ _ _ _ _ => (pts_one (PW.pt (sw_or (st_cmp (o := .gt) rfl hu (by rfl) (sv 3) se_int) (sw_or1 (st_cmp (o := .eq) rfl hu (by rfl) (se_sub rfl hu (sv 7) se_int) se_int)))))) (fun _ _ _ _ _ => (sv 7)))
    (sss_cons (ss_asg (scall 25 F hr g.g_u_law_pick (sa_cons (sv 0) (sa_cons (sv 4) sa_nil))) (sg_tup rfl rfl (sgs_cons (sgn 5 sc_l_term.nd) (sgs_cons (sgn 6 sc_l_term.nd) sgs_nil))))
    (sss_cons (ss_ret (se_bin (o := .add) rfl (se_tup (sa_cons (sv 5) sa_nil)) (sb_tuple g.f_tuple rfl (sa_cons (se_comp (own := [("k", 8)]) (by decide) rfl sc_l_term.nd (si_range1 rfl g.f_range (sv 6)) (blkOk_by (by kernel_rfl)) (fun _ _ _ _ _ => (sgn 8 sc_l_term.nd)) (fun _ _ _ _ _ => sts_nil) (fun _ _ _ _ _ => (scall 27 F hr g.g_u_law_term (sa_cons (sv 0) (sa_cons (sv 1) (sa_cons (sv 2) (sa_cons (se_bin (o := .sub) rfl (sv 3) se_int) sa_nil))))))) sa_nil))))
    sss_nil))))
theorem b_l_put {P : Program} {w : World} {K : PySem.W.Frag} {mg : Str → Option Value} {base : Heap} {k : Nat} {C : CallF} (g : GF K mg) (a : Addr) (cdv : Value) (A : Around) (outer : List PySem.Env) (s : Shared) (H : Hp) (E : XK) (F : ∀ f a, (gb K).fa f = some a → FnC P w K mg base (gb K) C k f a)
    (hr : Room k (A.deeper (envOfC "_law_put" (defScope s_l_put) s.heap.objs.size a cdv))) : PSs (cxOf CX0 P w K mg base N_l_put "_law_put" (defScope s_l_put) a cdv A outer s H E).nox (defBody s_l_put) (tSs (gb K) C d_l_put.body) := by
  have hu : (A.deeper (envOfC "_law_put" (defScope s_l_put) s.heap.objs.size a cdv)).units + 65 < cLine := by have := hr.un; omega
  exact (sss_cons (ss_if (st_val (sisi .str g.f_isinstance g.f_str bt_str rfl (sv 0))) (sss_cons (ss_ret (se_get2 hu (sv 1) (sv 0) (sv 0)))
    sss_nil) sss_nil)
    (sss_cons (ss_ret (se_bin (o := .add) rfl (se_tup (sa_cons (se_sub rfl hu (sv 0) se_int) sa_nil)) (sb_tuple g.f_tuple rfl (sa_cons (se_comp (own := [("part", 2)]) (by decide) rfl sc_l_put.nd (si_any rfl (se_slcL rfl (sv 0) se_int)) (blkOk_by (by kernel_rfl)) (fun _ _ _ _ _ => (sgn 2 sc_l_put.nd)) (fun _ _ _ _ _ => sts_nil) (fun _ _ _ _ _ => (scall 28 F hr g.g_u_law_put (sa_cons (sv 2) (sa_cons (sv 1) sa_nil))))) sa_nil))))
    sss_nil))
theorem b_l_names {P : Program} {w : World} {K : PySem.W.Frag} {mg : Str → Option Value} {base : Heap} {k : Nat} {C : CallF} (g : GF K mg) (a : Addr) (cdv : Value) (A : Around) (outer : List PySem.Env) (s : Shared) (H : Hp) (E : XK) (F : ∀ f a, (gb K).fa f = some a → FnC P w K mg base (gb K) C k f a)
    (hr : Room k (A.deeper (envOfC "_law_names" (defScope s_l_names) s.heap.objs.size a cdv))) : PSs (cxOf CX0 P w K mg base N_l_names "_law_names" (defScope s_l_names) a cdv A outer s H E).nox (defBody s_l_names) (tSs (gb K) C d_l_names.body) := by
  have hu : (A.deeper (envOfC "_law_names" (defScope s_l_names) s.heap.objs.size a cdv)).units + 65 < cLine := by have := hr.un; omega
  exact (sss_cons (ss_if (st_val (sisi .str g.f_isinstance g.f_str bt_str rfl (sv 0))) (sss_cons (ss_ret (se_lst (sa_cons (sv 0) sa_nil)))
    sss_nil) sss_nil)
    (sss_cons (sset 1 sc_l_names.nd (se_lst sa_nil))
    (sss_cons (ss_for PassesOwn.never rfl (si_any rfl (se_slcL rfl (sv 0) se_int)) (sgn 2 sc_l_names.nd) (sss_cons (sset 1 sc_l_names.nd (se_bin (o := .add) rfl (sv 1) (se_comp (own := [("name", 3)]) (by decide) rfl sc_l_names.nd (si_any rfl (scall 29 F hr g.g_u_law_names (sa_cons (sv 2) sa_nil))) (blkOk_by (by kernel_rfl)) (fun _ _ _ _ _ => (sgn 3 sc_l_names.nd)) (fun _ _ _ _ _ => (pts_one (st_cmp (o := .nmem) rfl hu (by rfl) (sv 3) (sv 1)))) (fun _ _ _ _ _ => (sv 3)))))
    sss_nil))
    (sss_cons (ss_ret (sv 1))
    sss_nil))))
theorem b_l_places {P : Program} {w : World} {K : PySem.W.Frag} {mg : Str → Option Value} {base : Heap} {k : Nat} {C : CallF} (g : GF K mg) (a : Addr) (cdv : Value) (A : Around) (outer : List PySem.Env) (s : Shared) (H : Hp) (E : XK) (F : ∀ f a, (gb K).fa f = some a → FnC P w K mg base (gb K) C k f a)
    (hr : Room k (A.deeper (envOfC "_law_places" (defScope s_l_places) s.heap.objs.size a cdv))) : PSs (cxOf CX0 P w K mg base N_l_places "_law_places" (defScope s_l_places) a cdv A outer s H E).nox (defBody s_l_places) (tSs (gb K) C d_l_places.body) := by
  have hu : (A.deeper (envOfC "_law_places" (defScope s_l_places) s.heap.objs.size a cdv)).units + 65 < cLine := by have := hr.un; omega
  exact (sss_cons (ss_if (st_val (sisi .str g.f_isinstance g.f_str bt_str rfl (sv 0))) (sss_cons (ss_ret (se_lst (sa_cons (se_tup sa_nil) sa_nil)))
    sss_nil) sss_nil)
    (sss_cons (sset 1 sc_l_places.nd (se_lst (sa_cons (se_tup sa_nil) sa_nil)))
    (sss_cons (ss_for PassesOwn.never rfl (si_range2 rfl g.f_range se_int (sb_len g.f_len rfl (sa_cons (sv 0) sa_nil))) (sgn 2 sc_l_places.nd) (sss_cons (sset 1 sc_l_places.nd (se_bin (o := .add) rfl (sv 1) (se_comp (own := [("rest", 3)]) (by decide) rfl sc_l_places.nd (si_any rfl (scall 30 F hr g.g_u_law_places (sa_cons (se_sub rfl hu (sv 0) (sv 2)) sa_nil))) (blkOk_by (by kernel_rfl)) (fun _ _ _ _ _ => (sgn 3 sc_l_places.nd)) (fun _ _ _ _ _ => sts_nil) (fun _ _ _ _ _ => (se_bin (o := .add) rfl (se_tup (sa_cons (sv 2) sa_nil)) (sv 3))))))
    sss_nil))
    (sss_cons (ss_ret (sv 1))
    sss_nil))))
theorem b_l_at {P : Program} {w : World} {K : PySem.W.Frag} {mg : Str → Option Value} {base : Heap} {k : Nat} {C : CallF} (g : GF K mg) (a : Addr) (cdv : Value) (A : Around) (outer : List PySem.Env) (s : Shared) (H : Hp) (E : XK) (F : ∀ f a, (gb K).fa f = some a → FnC P w K mg base (gb K) C k f a)
    (hr : Room k (A.deeper (envOfC "_law_at" (defScope s_l_at) s.heap.objs.size a cdv))) : PSs (cxOf CX0 P w K mg base N_l_at "_law_at" (defScope s_l_at) a cdv A outer s H E).nox (defBody s_l_at) (tSs (gb K) C d_l_at.body) := by
  have hu : (A.deeper (envOfC "_law_at" (defScope s_l_at) s.heap.objs.size a cdv)).units + 65 < cLine := by have := hr.un; omega
  exact (sss_cons (ss_for PassesOwn.never rfl (si_any rfl (sv 1)) (sgn 2 sc_l_at.nd) (sss_cons (sset 0 sc_l_at.nd (se_sub rfl hu (sv 0) (sv 2)))
    sss_nil))
    (sss_cons (ss_ret (sv 0))
    sss_nil))
theorem b_l_with {P : Program} {w : World} {K : PySem.W.Frag} {mg : Str → Option Value} {base : Heap} {k : Nat} {C : CallF} (g : GF K mg) (a : Addr) (cdv : Value) (A : Around) (outer : List PySem.Env) (s : Shared) (H : Hp) (E : XK) (F : ∀ f a, (gb K).fa f = some a → FnC P w K mg base (gb K) C k f a)
    (hr : Room k (A.deeper (envOfC "_law_with" (defScope s_l_with) s.heap.objs.size a cdv))) : PSs (cxOf CX0 P w K mg base N_l_with "_law_with" (defScope s_l_with) a cdv A outer s H E).nox (defBody s_l_with) (tSs (gb K) C d_l_with.body) := by
  have hu : (A.deeper (envOfC "_law_with" (defScope s_l_with) s.heap.objs.size a cdv)).units + 65 < cLine := by have := hr.un; omega
  exact (sss_cons (ss_if (st_cmp (o := .eq) rfl hu (by rfl) (sb_len g.f_len rfl (sa_cons (sv 1) sa_nil)) se_int) (sss_cons (ss_ret (sv 2))
    sss_nil) sss_nil)
    (sss_cons (sset 3 sc_l_with.nd (se_sub rfl hu (sv 1) se_int))
    (sss_cons (ss_ret (se_bin (o := .add) rfl (se_bin (o := .add) rfl (se_slcH rfl (sv 0) (sv 3)) (se_tup (sa_cons (scall 32 F hr g.g_u_law_with (sa_cons (se_sub rfl hu (sv 0) (sv 3)) (sa_cons (se_slcL rfl (sv 1) se_int) (sa_cons (sv 2) sa_nil)))) sa_nil))) (se_slcL rfl (sv 0) (se_bin (o := .add) rfl (sv 3) se_int))))
    sss_nil)))
theorem b_l_match {P : Program} {w : World} {K : PySem.W.Frag} {mg : Str → Option Value} {base : Heap} {k : Nat} {C : CallF} (g : GF K mg) (a : Addr) (cdv : Value) (A : Around) (outer : List PySem.Env) (s : Shared) (H : Hp) (E : XK) (F : ∀ f a, (gb K).fa f = some a → FnC P w K mg base (gb K) C k f a)
    (hr : Room k (A.deeper (envOfC "_law_match" (defScope s_l_match) s.heap.objs.size a cdv))) : PSs (cxOf CX0 P w K mg base N_l_match "_law_match" (defScope s_l_match) a cdv A outer s H E).nox (defBody s_l_match) (tSs (gb K) C d_l_match.body) := by
  have hu : (A.deeper (envOfC "_law_match" (defScope s_l_match) s.heap.objs.size a cdv)).units + 65 < cLine := by have := hr.un; omega
  exact (sss_cons (ss_if (st_val (sisi .str g.f_isinstance g.f_str bt_str rfl (sv 0))) (sss_cons (ss_ret (se_disp1 (sv 0) (sv 1)))
    sss_nil) sss_nil)
    (sss_cons (ss_if (PW.pt (sw_or (st_val (sisi .str g.f_isinstance g.f_str bt_str rfl (sv 1))) (sw_or1 (st_cmp (o := .ne) rfl hu (by rfl) (se_sub rfl hu (sv 0) se_int) (se_sub rfl hu (sv 1) se_int))))) (sss_cons (ss_ret se_non)
    sss_nil) sss_nil)
    (sss_cons (sset 2 sc_l_match.nd sal_dnew)
    (sss_cons (ss_for PassesOwn.never rfl (si_range2 rfl g.f_range se_int (sb_len g.f_len rfl (sa_cons (sv 0) sa_nil))) (sgn 3 sc_l_match.nd) (sss_cons (sset 4 sc_l_match.nd (scall 33 F hr g.g_u_law_match (sa_cons (se_sub rfl hu (sv 0) (sv 3)) (sa_cons (se_sub rfl hu (sv 1) (sv 3)) sa_nil))))
    (sss_cons (ss_if (st_cmp (o := .is) rfl hu (by rfl) (sv 4) se_non) (sss_cons (ss_ret se_non)
    sss_nil) sss_nil)
    (sss_cons (ss_for PassesOwn.never rfl (si_any rfl (sv 4)) (sgn 5 sc_l_match.nd) (sss_cons (ss_if (PW.pt (sw_and (st_cmp (o := .mem) rfl hu (by rfl) (sv 5) (sv 2)) (sw_and1 (st_cmp (o := .ne) rfl hu (by rfl) (se_sub rfl hu (sv 2) (sv 5)) (se_sub rfl hu (sv 4) (sv 5)))))) (sss_cons (ss_ret se_non)
    sss_nil) sss_nil)
    (sss_cons (ss_sti hu (se_sub rfl hu (sv 4) (sv 5)) (sv 2) (sv 5))
    sss_nil)))
    sss_nil))))
    (sss_cons (ss_ret (sv 2))
    sss_nil)))))
theorem b_l_step {P : Program} {w : World} {K : PySem.W.Frag} {mg : Str → Option Value} {base : Heap} {k : Nat} {C : CallF} (g : GF K mg) (a : Addr) (cdv : Value) (A : Around) (outer : List PySem.Env) (s : Shared) (H : Hp) (E : XK) (F : ∀ f a, (gb K).fa f = some a → FnC P w K mg base (gb K) C k f a)
    (hr : Room k (A.deeper (envOfC "_law_step" (defScope s_l_step) s.heap.objs.size a cdv))) : PSs (cxOf CX0 P w K mg base N_l_step "_law_step" (defScope s_l_step) a cdv A outer s H E).nox (defBody s_l_step) (tSs (gb K) C d_l_step.body) := by
  have hu : (A.deeper (envOfC "_law_step" (defScope s_l_step) s.heap.objs.size a cdv)).units + 65 < cLine := by have := hr.un; omega
  exact (sss_cons (ss_asg (sv 2) (sg_tup rfl rfl (sgs_cons (sgn 4 sc_l_step.nd) (sgs_cons (sgn 5 sc_l_step.nd) sgs_nil))))
    (sss_cons (sset 3 sc_l_step.nd (scall 33 F hr g.g_u_law_match (sa_cons (se_sub rfl hu (se_sub rfl hu (sv 0) (sv 4)) se_int) (sa_cons (scall 31 F hr g.g_u_law_at (sa_cons (sv 1) (sa_cons (sv 5) sa_nil))) sa_nil))))
    (sss_cons (ss_ret (se_ite (st_cmp (o := .is) rfl hu (by rfl) (sv 3) se_non) se_non (scall 32 F hr g.g_u_law_with (sa_cons (sv 1) (sa_cons (sv 5) (sa_cons (scall 28 F hr g.g_u_law_put (sa_cons (se_sub rfl hu (se_sub rfl hu (sv 0) (sv 4)) se_int) (sa_cons (sv 3) sa_nil))) sa_nil))))))
    sss_nil)))
theorem b_l_steps {P : Program} {w : World} {K : PySem.W.Frag} {mg : Str → Option Value} {base : Heap} {k : Nat} {C : CallF} (g : GF K mg) (a : Addr) (cdv : Value) (A : Around) (outer : List PySem.Env) (s : Shared) (H : Hp) (E : XK) (F : ∀ f a, (gb K).fa f = some a → FnC P w K mg base (gb K) C k f a)
    (hr : Room k (A.deeper (envOfC "_law_steps" (defScope s_l_steps) s.heap.objs.size a cdv))) : PSs (cxOf CX0 P w K mg base N_l_steps "_law_steps" (defScope s_l_steps) a cdv A outer s H E).nox (defBody s_l_steps) (tSs (gb K) C d_l_steps.body) := by
  have hu : (A.deeper (envOfC "_law_steps" (defScope s_l_steps) s.heap.objs.size a cdv)).units + 65 < cLine := by have := hr.un; omega
  exact (sss_cons (sset 2 sc_l_steps.nd (se_lst sa_nil))
    (sss_cons (ss_for PassesOwn.never rfl (si_any rfl (scall 30 F hr g.g_u_law_places (sa_cons (sv 1) sa_nil))) (sgn 3 sc_l_steps.nd) (sss_cons (ss_if (st_not (st_val (sisi .str g.f_isinstance g.f_str bt_str rfl (scall 31 F hr g.g_u_law_at (sa_cons (sv 1) (sa_cons (sv 3) sa_nil)))))) (sss_cons (sset 2 sc_l_steps.nd (se_bin (o := .add) rfl (sv 2) (se_comp (own := [("k", 4)]) (by decide) rfl sc_l_steps.nd (si_range1 rfl g.f_range (sb_len g.f_len rfl (sa_cons (sv 0) sa_nil))) (blkOk_by (by kernel_rfl)) (fun _ _ _ _ _ => (sgn 4 sc_l_steps.nd)) (fun _ _ _ _ _ => (pts_one (st_cmp (o := .isn) rfl hu (by rfl) (scall 34 F hr g.g_u_law_step (sa_cons (sv 0) (sa_cons (sv 1) (sa_cons (se_tup (sa_cons (sv 4) (sa_cons (sv 3) sa_nil))) sa_nil)))) se_non))) (fun _ _ _ _ _ => (se_tup (sa_cons (sv 4) (sa_cons (sv 3) sa_nil)))))))
    sss_nil) sss_nil)
    sss_nil))
    (sss_cons (ss_ret (sv 2))
    sss_nil)))
theorem b_l_behind {P : Program} {w : World} {K : PySem.W.Frag} {mg : Str → Option Value} {base : Heap} {k : Nat} {C : CallF} (g : GF K mg) (a : Addr) (cdv : Value) (A : Around) (outer : List PySem.Env) (s : Shared) (H : Hp) (E : XK) (F : ∀ f a, (gb K).fa f = some a → FnC P w K mg base (gb K) C k f a)
    (hr : Room k (A.deeper (envOfC "_law_behind" (defScope s_l_behind) s.heap.objs.size a cdv))) : PSs (cxOf CX0 P w K mg base N_l_behind "_law_behind" (defScope s_l_behind) a cdv A outer s H E).nox (defBody s_l_behind) (tSs (gb K) C d_l_behind.body) := by
  have hu : (A.deeper (envOfC "_law_behind" (defScope s_l_behind) s.heap.objs.size a cdv)).units + 65 < cLine := by have := hr.un; omega
  exact (sss_cons (ss_if (st_not (st_val (sisi .tuple g.f_isinstance g.f_tuple bt_tuple rfl (sv 2)))) (sss_cons (ss_ret se_non)
    sss_nil) sss_nil)
    (sss_cons (ss_for PassesOwn.never rfl (si_any rfl (sv 2)) (sgn 3 sc_l_behind.nd) (sss_cons (ss_if (PW.pt (sw_or (st_not (st_val (sisi .tuple g.f_isinstance g.f_tuple bt_tuple rfl (sv 3)))) (sw_or (st_cmp (o := .ne) rfl hu (by rfl) (sb_len g.f_len rfl (sa_cons (sv 3) sa_nil)) se_int) (sw_or (st_not (st_val (sisi .int g.f_isinstance g.f_int bt_int rfl (se_sub rfl hu (sv 3) se_int)))) (sw_or1 (st_val (sisi .bool g.f_isinstance g.f_bool bt_bool rfl (se_sub rfl hu (sv 3) se_int)))))))) (sss_cons (ss_ret se_non)
    sss_nil) sss_nil)
    (sss_cons (ss_if (PW.pt (sw_or (st_cmp (o := .lt) rfl hu (by rfl) (se_sub rfl hu (sv 3) se_int) se_int) (sw_or (st_cmp (o := .ge) rfl hu (by rfl) (se_sub rfl hu (sv 3) se_int) (sb_len g.f_len rfl (sa_cons (sv 0) sa_nil))) (sw_or (st_not (st_val (sisi .tuple g.f_isinstance g.f_tuple bt_tuple rfl (se_sub rfl hu (sv 3) se_int)))) (sw_or1 (st_cmp (o := .nmem) rfl hu (by rfl) (se_sub rfl hu (sv 3) se_int) (scall 30 F hr g.g_u_law_places (sa_cons (sv 1) sa_nil)))))))) (sss_cons (ss_ret se_non)
    sss_nil) sss_nil)
    (sss_cons (ss_if (st_cmp (o := .gt) rfl hu (by rfl) (sb_len g.f_len rfl (sa_cons (se_comp (own := [("k", 4)]) (by decide) rfl sc_l_behind.nd (si_any rfl (se_sub rfl hu (sv 3) se_int)) (blkOk_by (by kernel_rfl)) (fun _ _ _ _ _ => (sgn 4 sc_l_behind.nd)) (fun _ _ _ _ _ => (pts_one (st_val (sisi .bool g.f_isinstance g.f_bool bt_bool rfl (sv 4))))) (fun _ _ _ _ _ => (sv 4))) sa_nil)) se_int) (sss_cons (ss_ret se_non)
    sss_nil) sss_nil)
    (sss_cons (sset 1 sc_l_behind.nd (scall 34 F hr g.g_u_law_step (sa_cons (sv 0) (sa_cons (sv 1) (sa_cons (sv 3) sa_nil)))))
    (sss_cons (ss_if (st_cmp (o := .is) rfl hu (by rfl) (sv 1) se_non) (sss_cons (ss_ret se_non)
    sss_nil) sss_nil)
    sss_nil))))))
    (sss_cons (ss_ret (sv 1))
    sss_nil)))
theorem b_l_rule {P : Program} {w : World} {K : PySem.W.Frag} {mg : Str → Option Value} {base : Heap} {k : Nat} {C : CallF} (g : GF K mg) (a : Addr) (cdv : Value) (A : Around) (outer : List PySem.Env) (s : Shared) (H : Hp) (E : XK) (F : ∀ f a, (gb K).fa f = some a → FnC P w K mg base (gb K) C k f a)
    (hr : Room k (A.deeper (envOfC "_law_rule" (defScope s_l_rule) s.heap.objs.size a cdv))) : PSs (cxOf CX0 P w K mg base N_l_rule "_law_rule" (defScope s_l_rule) a cdv A outer s H E).nox (defBody s_l_rule) (tSs (gb K) C d_l_rule.body) := by
  have hu : (A.deeper (envOfC "_law_rule" (defScope s_l_rule) s.heap.objs.size a cdv)).units + 65 < cLine := by have := hr.un; omega
  exact (sss_cons (sset 2 sc_l_rule.nd (scall 27 F hr g.g_u_law_term (sa_cons (sv 0) (sa_cons (sv 1) (sa_cons (se_lst (sa_cons (se_str (by decide +kernel)) (sa_cons (se_str (by decide +kernel)) sa_nil))) (sa_cons se_int sa_nil))))))
    (sss_cons (ss_if (st_val (sisi .str g.f_isinstance g.f_str bt_str rfl (sv 2))) (sss_cons (sset 2 sc_l_rule.nd (scall 25 F hr g.g_u_law_pick (sa_cons (sv 0) (sa_cons (se_comp (own := [("pair", 4)]) (by decide) rfl sc_l_rule.nd (si_any rfl (sv 1)) (blkOk_by (by kernel_rfl)) (fun _ _ _ _ _ => (sgn 4 sc_l_rule.nd)) (fun _ _ _ _ _ => sts_nil) (fun _ _ _ _ _ => (se_bin (o := .add) rfl (se_tup (sa_cons (se_sub rfl hu (sv 4) se_int) sa_nil)) (se_slcH rfl (se_tup (sa_cons (se_str (by decide +kernel)) (sa_cons (se_str (by decide +kernel)) (sa_cons (se_str (by decide +kernel)) sa_nil)))) (se_sub rfl hu (sv 4) se_int))))) sa_nil))))
    sss_nil) sss_nil)
    (sss_cons (sset 3 sc_l_rule.nd (scall 29 F hr g.g_u_law_names (sa_cons (sv 2) sa_nil)))
    (sss_cons (ss_ret (se_tup (sa_cons (sv 2) (sa_cons (scall 27 F hr g.g_u_law_term (sa_cons (sv 0) (sa_cons (sv 1) (sa_cons (sv 3) (sa_cons (scall 25 F hr g.g_u_law_pick (sa_cons (sv 0) (sa_cons (se_lst (sa_cons se_int (sa_cons se_int (sa_cons se_int sa_nil)))) sa_nil))) sa_nil))))) sa_nil))))
    sss_nil))))
theorem b_l_rows {P : Program} {w : World} {K : PySem.W.Frag} {mg : Str → Option Value} {base : Heap} {k : Nat} {C : CallF} (g : GF K mg) (a : Addr) (cdv : Value) (A : Around) (outer : List PySem.Env) (s : Shared) (H : Hp) (E : XK) (F : ∀ f a, (gb K).fa f = some a → FnC P w K mg base (gb K) C k f a)
    (hr : Room k (A.deeper (envOfC "_law_rows" (defScope s_l_rows) s.heap.objs.size a cdv))) : PSs (cxOf CX0 P w K mg base N_l_rows "_law_rows" (defScope s_l_rows) a cdv A outer s H E).nox (defBody s_l_rows) (tSs (gb K) C d_l_rows.body) := by
  have hu : (A.deeper (envOfC "_law_rows" (defScope s_l_rows) s.heap.objs.size a cdv)).units + 65 < cLine := by have := hr.un; omega
  exact (sss_cons (spar 4 5 sc_l_rows.nd (se_tup sa_nil) (sv 2) (by rfl))
    (sss_cons (ss_for PassesOwn.never rfl (si_range1 rfl g.f_range (scall 24 F hr g.g_u_law_take (sa_cons (sv 0) (sa_cons se_int sa_nil)))) (sgn 3 sc_l_rows.nd) (sss_cons (sset 6 sc_l_rows.nd (scall 35 F hr g.g_u_law_steps (sa_cons (sv 1) (sa_cons (sv 5) sa_nil))))
    (sss_cons (ss_if (st_cmp (o := .gt) rfl hu (by rfl) (sb_len g.f_len rfl (sa_cons (sv 6) sa_nil)) se_int) (sss_cons (sset 4 sc_l_rows.nd (se_bin (o := .add) rfl (sv 4) (se_tup (sa_cons (scall 25 F hr g.g_u_law_pick (sa_cons (sv 0) (sa_cons (sv 6) sa_nil))) sa_nil))))
    (sss_cons (sset 5 sc_l_rows.nd (scall 34 F hr g.g_u_law_step (sa_cons (sv 1) (sa_cons (sv 5) (sa_cons (se_sub rfl hu (sv 4) (se_neg se_int)) sa_nil)))))
    sss_nil)) sss_nil)
    sss_nil)))
    (sss_cons (ss_ret (se_tup (sa_cons (sv 4) (sa_cons (sv 5) sa_nil))))
    sss_nil)))
theorem b_law {P : Program} {w : World} {K : PySem.W.Frag} {mg : Str → Option Value} {base : Heap} {k : Nat} {C : CallF} (g : GF K mg) (a : Addr) (cdv : Value) (A : Around) (outer : List PySem.Env) (s : Shared) (H : Hp) (E : XK) (F : ∀ f a, (gb K).fa f = some a → FnC P w K mg base (gb K) C k f a)
    (hr : Room k (A.deeper (envOfC "law" (defScope s_law) s.heap.objs.size a cdv))) : PSs (cxOf CX0 P w K mg base N_law "law" (defScope s_law) a cdv A outer s H E).nox (defBody s_law) (tSs (gb K) C d_law.body) := by
  have hu : (A.deeper (envOfC "law" (defScope s_law) s.heap.objs.size a cdv)).units + 65 < cLine := by have := hr.un; omega
  exact (sss_cons (sset 1 sc_law.nd (scall 23 F hr g.g_u_law_state (sa_cons (sv 0) sa_nil)))
    (sss_cons (sset 2 sc_law.nd (scall 26 F hr g.g_u_law_tongue (sa_cons (sv 1) sa_nil)))
    (sss_cons (sset 3 sc_law.nd (sb_tuple g.f_tuple rfl (sa_cons (se_comp (own := [("k", 17)]) (by decide) rfl sc_law.nd (si_range1 rfl g.f_range (scall 24 F hr g.g_u_law_take (sa_cons (sv 1) (sa_cons se_int sa_nil)))) (blkOk_by (by kernel_rfl)) (fun _ _ _ _ _ => (sgn 17 sc_law.nd)) (fun _ _ _ _ _ => sts_nil) (fun _ _ _ _ _ => (scall 37 F hr g.g_u_law_rule (sa_cons (sv 1) (sa_cons (sv 2) sa_nil))))) sa_nil)))
    (sss_cons (ss_if (PW.pt (sw_or (st_cmp (o := .isn) rfl hu (by rfl) (scall 16 F hr g.g_is_system (sa_cons (sv 3) (sa_cons (sv 2) sa_nil))) se_bl) (sw_or (st_cmp (o := .isn) rfl hu (by rfl) (scall 16 F hr g.g_is_system (sa_cons (sb_list g.f_list rfl (sa_cons (sv 3) sa_nil)) (sa_cons (sv 2) sa_nil))) se_bl) (sw_or1 (st_cmp (o := .ne) rfl hu (by rfl) (sgl g.i_MOST_RULES) se_int))))) (sss_cons (ss_ret se_bl)
    sss_nil) sss_nil)
    (sss_cons (ss_asg (scall 37 F hr g.g_u_law_rule (sa_cons (sv 1) (sa_cons (sv 2) sa_nil))) (sg_tup rfl rfl (sgs_cons (sgn 6 sc_law.nd) (sgs_cons (sgn 7 sc_law.nd) sgs_nil))))
    (sss_cons (ss_for PassesOwn.never rfl (si_any rfl (se_lst (sa_cons (se_tup (sa_cons (sv 6) (sa_cons (sv 7) sa_nil))) (sa_cons (se_lst (sa_cons (sv 6) (sa_cons (sv 7) sa_nil))) (sa_cons (se_tup (sa_cons (sv 6) sa_nil)) (sa_cons (se_tup (sa_cons (se_str (by decide +kernel)) (sa_cons (sv 7) sa_nil))) (sa_cons (se_tup (sa_cons (sv 6) (sa_cons (se_tup (sa_cons (se_str (by decide +kernel)) (sa_cons (se_str (by decide +kernel)) sa_nil))) sa_nil))) (sa_cons (se_tup (sa_cons (sv 6) (sa_cons (se_str (by decide +kernel)) sa_nil))) (sa_cons (se_tup (sa_cons (sv 6) (sa_cons (se_tup (sa_cons (se_str (by decide +kernel)) sa_nil)) sa_nil))) (sa_cons se_non (sa_cons (se_tup (sa_cons (sv 7) (sa_cons (sv 6) sa_nil))) sa_nil))))))))))) (sgn 4 sc_law.nd) (sss_cons (sset 8 sc_law.nd (se_and (sisi .tuple g.f_isinstance g.f_tuple bt_tuple rfl (sv 4)) (se_and (se_cmp (o := .eq) rfl hu (by rfl) (sb_len g.f_len rfl (sa_cons (sv 4) sa_nil)) se_int) (se_and (se_cmp (o := .mem) rfl hu (by rfl) (sv 4) (se_lst (sa_cons (se_tup (sa_cons (sv 6) (sa_cons (sv 7) sa_nil))) (sa_cons (se_tup (sa_cons (sv 7) (sa_cons (sv 6) sa_nil))) sa_nil)))) (se_one (se_not (sisi .str g.f_isinstance g.f_str bt_str rfl (se_sub rfl hu (sv 4) se_int))))))))
    (sss_cons (sset 8 sc_law.nd (se_and (sv 8) (se_one (se_cmp (o := .eq) rfl hu (by rfl) (sb_len g.f_len rfl (sa_cons (se_comp (own := [("name", 20)]) (by decide) rfl sc_law.nd (si_any rfl (scall 29 F hr g.g_u_law_names (sa_cons (se_sub rfl hu (sv 4) se_int) sa_nil))) (blkOk_by (by kernel_rfl)) (fun _ _ _ _ _ => (sgn 20 sc_law.nd)) (fun _ _ _ _ _ => (pts_one (st_cmp (o := .nmem) rfl hu (by rfl) (sv 20) (scall 29 F hr g.g_u_law_names (sa_cons (se_sub rfl hu (sv 4) se_int) sa_nil))))) (fun _ _ _ _ _ => (sv 20))) sa_nil)) se_int))))
    (sss_cons (ss_if (PW.pt (sw_or (st_cmp (o := .ne) rfl hu (by rfl) (scall 15 F hr g.g_is_rule (sa_cons (sv 4) (sa_cons (sv 2) sa_nil))) (sv 8)) (sw_or1 (st_cmp (o := .ne) rfl hu (by rfl) (scall 16 F hr g.g_is_system (sa_cons (se_tup (sa_cons (sv 4) sa_nil)) (sa_cons (sv 2) sa_nil))) (sv 8))))) (sss_cons (ss_ret se_bl)
    sss_nil) sss_nil)
    sss_nil))))
    (sss_cons (ss_if (PW.pt (sw_or (st_cmp (o := .isn) rfl hu (by rfl) (scall 16 F hr g.g_is_system (sa_cons (se_bin (o := .mul) rfl (se_tup (sa_cons (se_tup (sa_cons (sv 6) (sa_cons (sv 7) sa_nil))) sa_nil)) se_int) (sa_cons (sv 2) sa_nil))) se_bl) (sw_or1 (st_cmp (o := .isn) rfl hu (by rfl) (scall 16 F hr g.g_is_system (sa_cons (se_bin (o := .mul) rfl (se_tup (sa_cons (se_tup (sa_cons (sv 6) (sa_cons (sv 7) sa_nil))) sa_nil)) se_int) (sa_cons (sv 2) sa_nil))) se_bl)))) (sss_cons (ss_ret se_bl)
    sss_nil) sss_nil)
    (sss_cons (ss_for PassesOwn.never rfl (si_range1 rfl g.f_range se_int) (sgn 5 sc_law.nd) (sss_cons (sset 9 sc_law.nd (scall 27 F hr g.g_u_law_term (sa_cons (sv 1) (sa_cons (sv 2) (sa_cons (se_lst (sa_cons (se_str (by decide +kernel)) (sa_cons (se_str (by decide +kernel)) sa_nil))) (sa_cons se_int sa_nil))))))
    (sss_cons (sset 10 sc_law.nd (scall 35 F hr g.g_u_law_steps (sa_cons (sv 3) (sa_cons (sv 9) sa_nil))))
    (sss_cons (ss_if (PW.pt (sw_or (st_cmp (o := .ne) rfl hu (by rfl) (scall 20 F hr g.g_steps (sa_cons (sv 3) (sa_cons (sv 9) sa_nil))) (sv 10)) (sw_or1 (st_cmp (o := .ne) rfl hu (by rfl) (scall 21 F hr g.g_is_normal (sa_cons (sv 3) (sa_cons (sv 9) sa_nil))) (se_cmp (o := .eq) rfl hu (by rfl) (sb_len g.f_len rfl (sa_cons (sv 10) sa_nil)) se_int))))) (sss_cons (ss_ret se_bl)
    sss_nil) sss_nil)
    (sss_cons (ss_for PassesOwn.never rfl (si_any rfl (sv 10)) (sgn 11 sc_law.nd) (sss_cons (ss_if (st_cmp (o := .ne) rfl hu (by rfl) (scall 18 F hr g.g_turned (sa_cons (sv 3) (sa_cons (sv 9) (sa_cons (sv 11) sa_nil)))) (scall 34 F hr g.g_u_law_step (sa_cons (sv 3) (sa_cons (sv 9) (sa_cons (sv 11) sa_nil))))) (sss_cons (ss_ret se_bl)
    sss_nil) sss_nil)
    sss_nil))
    (sss_cons (ss_setLc (i := 12) (own := [("place", 18)]) (by decide) rfl sc_law.nd rfl rfl (sw_true rfl rfl rfl (by rfl)) (si_any rfl (scall 30 F hr g.g_u_law_places (sa_cons (sv 9) sa_nil))) (blkOk_by (by kernel_rfl)) (fun _ _ _ _ _ => (sgn 18 sc_law.nd)) (fun _ _ _ _ _ => sts_nil) (fun _ _ _ _ _ => (scall 31 F hr g.g_u_law_at (sa_cons (sv 9) (sa_cons (sv 18) sa_nil)))))
    (sss_cons (sset 13 sc_law.nd (se_comp (own := [("each", 19)]) (by decide) rfl sc_law.nd (si_any rfl (sv 12)) (blkOk_by (by kernel_rfl)) (fun _ _ _ _ _ => (sgn 19 sc_law.nd)) (fun _ _ _ _ _ => (pts_one (st_val (sisi .str g.f_isinstance g.f_str bt_str rfl (sv 19))))) (fun _ _ _ _ _ => (sv 19))))
    (sss_cons (ss_if (st_cmp (o := .ne) rfl hu (by rfl) (scall 17 F hr g.g_is_linear (sa_cons (sv 9) sa_nil)) (se_cmp (o := .eq) rfl hu (by rfl) (sb_len g.f_len rfl (sa_cons (se_comp (own := [("k", 17)]) (by decide) rfl sc_law.nd (si_range1 rfl g.f_range (sb_len g.f_len rfl (sa_cons (sv 13) sa_nil))) (blkOk_by (by kernel_rfl)) (fun _ _ _ _ _ => (sgn 17 sc_law.nd)) (fun _ _ _ _ _ => (pts_one (st_cmp (o := .mem) rfl hu (by rfl) (se_sub rfl hu (sv 13) (sv 17)) (se_slcH rfl (sv 13) (sv 17))))) (fun _ _ _ _ _ => (sv 17))) sa_nil)) se_int)) (sss_cons (ss_ret se_bl)
    sss_nil) sss_nil)
    (sss_cons (ss_asg (scall 38 F hr g.g_u_law_rows (sa_cons (sv 1) (sa_cons (sv 3) (sa_cons (sv 9) sa_nil)))) (sg_tup rfl rfl (sgs_cons (sgn 15 sc_law.nd) (sgs_cons (sgn 16 sc_law.nd) sgs_nil))))
    (sss_cons (ss_if (st_cmp (o := .ne) rfl hu (by rfl) (scall 22 F hr g.g_behind_row (sa_cons (sv 3) (sa_cons (sv 9) (sa_cons (sv 15) sa_nil)))) (sv 16)) (sss_cons (ss_ret se_bl)
    sss_nil) sss_nil)
    (sss_cons (sset 14 sc_law.nd (scall 25 F hr g.g_u_law_pick (sa_cons (sv 1) (sa_cons (se_lst (sa_cons (se_tup (sa_cons se_int (sa_cons (se_tup sa_nil) sa_nil))) (sa_cons (se_tup (sa_cons se_int (sa_cons (se_tup sa_nil) sa_nil))) (sa_cons (se_tup (sa_cons se_int (sa_cons (se_tup (sa_cons se_int sa_nil)) sa_nil))) (sa_cons (se_tup (sa_cons se_int (sa_cons (se_tup (sa_cons se_int sa_nil)) sa_nil))) (sa_cons (se_tup (sa_cons se_bl (sa_cons (se_tup sa_nil) sa_nil))) (sa_cons (se_tup (sa_cons se_int (sa_cons (se_lst (sa_cons se_int sa_nil)) sa_nil))) (sa_cons se_non (sa_cons (se_tup (sa_cons se_int sa_nil)) (sa_cons (se_tup (sa_cons se_int (sa_cons (se_tup sa_nil) (sa_cons se_int sa_nil)))) (sa_cons (se_tup (sa_cons (se_neg se_int) (sa_cons (se_tup sa_nil) sa_nil))) sa_nil))))))))))) sa_nil))))
    (sss_cons (ss_for PassesOwn.never rfl (si_any rfl (se_lst (sa_cons (se_rev rfl (sv 15)) (sa_cons (se_slcL rfl (sv 15) se_int) (sa_cons (se_bin (o := .add) rfl (sv 15) (se_tup (sa_cons (sv 14) sa_nil))) (sa_cons (sb_list g.f_list rfl (sa_cons (sv 15) sa_nil)) (sa_cons se_non (sa_cons (se_tup (sa_cons (sv 14) sa_nil)) sa_nil)))))))) (sgn 4 sc_law.nd) (sss_cons (ss_if (st_cmp (o := .ne) rfl hu (by rfl) (scall 22 F hr g.g_behind_row (sa_cons (sv 3) (sa_cons (sv 9) (sa_cons (sv 4) sa_nil)))) (scall 36 F hr g.g_u_law_behind (sa_cons (sv 3) (sa_cons (sv 9) (sa_cons (sv 4) sa_nil))))) (sss_cons (ss_ret se_bl)
    sss_nil) sss_nil)
    sss_nil))
    (sss_cons (ss_if (st_cmp (o := .ne) rfl hu (by rfl) (scall 19 F hr g.g_is_step (sa_cons (sv 14) (sa_cons (sv 3) (sa_cons (sv 9) sa_nil)))) (se_cmp (o := .isn) rfl hu (by rfl) (scall 36 F hr g.g_u_law_behind (sa_cons (sv 3) (sa_cons (sv 9) (sa_cons (se_tup (sa_cons (sv 14) sa_nil)) sa_nil)))) se_non)) (sss_cons (ss_ret se_bl)
    sss_nil) sss_nil)
    sss_nil)))))))))))))
    (sss_cons (ss_ret se_bl)
    sss_nil)))))))))
end L2.Mi.k08

set_option Elab.async false
set_option linter.all false
set_option maxRecDepth 100000
set_option maxHeartbeats 4000000
/-! Ev1: reckoning with the evaluator. -/
namespace L2.Mi
open PySem PySem.Spec PyProof.Rows

theorem callM_eq {T : List Df} {k f : Nat} {args : List MV} {mh : MHp} {d : Df} (h : T[f]? = some d) : callM T (k + 1) f args mh = runD (callM T k) d args mh := by
  show (match T[f]? with
    | none => none
    | some d => runD (callM T k) d args mh) = _
  rw [h]
mutual
/-- plain data: no live object, short texts -/
def dat : MV → Bool
  | .non => true
  | .bl _ => true
  | .int _ => true
  | .str s => decide (s.length ≤ 1000) && s.all fun c => decide (c < 1114112)
  | .tup xs => dats xs
  | .lst xs => dats xs
  | .fn _ => false
  | .loc _ => false
  | .dct _ _ => false
  | .scr _ => false
def dats : List MV → Bool
  | [] => true
  | x :: xs => dat x && dats xs
end
mutual
theorem frz_dat {n : Nat} {mh : MHp} {k : Nat} : ∀ x : MV, dat x = true → frz n mh k x = some x
  | .non, _ => by unfold frz; rfl
  | .bl _, _ => by unfold frz; rfl
  | .int _, _ => by unfold frz; rfl
  | .str _, _ => by unfold frz; rfl
  | .fn _, h => by unfold dat at h; cases h
  | .scr _, h => by unfold dat at h; cases h
  | .loc _, h => by unfold dat at h; cases h
  | .dct _ _, h => by unfold dat at h; cases h
  | .tup xs, h => by
    unfold dat at h
    unfold frz
    rw [frzs_dat xs h]; rfl
  | .lst xs, h => by
    unfold dat at h
    unfold frz
    rw [frzs_dat xs h]; rfl
theorem frzs_dat {n : Nat} {mh : MHp} {k : Nat} : ∀ xs : List MV, dats xs = true → frzs n mh k xs = some xs
  | [], _ => by unfold frzs; rfl
  | x :: xs, h => by
    unfold dats at h
    rw [Bool.and_eq_true] at h
    unfold frzs
    rw [frz_dat x h.1, frzs_dat xs h.2]; rfl
end
theorem dats_iff : ∀ {xs : List MV}, dats xs = true ↔ ∀ x ∈ xs, dat x = true
  | [] => by simp [dats]
  | x :: xs => by simp [dats, dats_iff (xs := xs)]
/-- a call whose body was reckoned -/
theorem run_of {C : CallF} {d : Df} {args : List MV} {mh mh1 : MHp} {fl : Fl} {ρ : Env} {v : MV} (hl : args.length = d.np) (hv : d.live = false) (e : exs C mh.length d.body (args.map some ++ List.replicate (d.ns - d.np) none) mh = some (fl, ρ, mh1))
    (he : endV fl = some v) (hd : dat v = true) : runD C d args mh = some (v, mh1.take mh.length) := by
  unfold runD
  rw [if_pos hl, e]
  simp only [he, hv]
  rw [frz_dat v hd]
  rfl
theorem run_of' {C : CallF} {d : Df} {args : List MV} {mh mh1 : MHp} {fl : Fl} {ρ : Env} {v : MV} (hl : args.length = d.np) (hv : d.live = false) (e : exs C mh.length d.body (args.map some ++ List.replicate (d.ns - d.np) none) mh = some (fl, ρ, mh1))
    (he : endV fl = some v) (hd : dat v = true) (hm : mh1.length = mh.length) : runD C d args mh = some (v, mh1) := by
  rw [run_of hl hv e he hd, ← hm, List.take_length]
/-! ### loops -/
theorem compGo_pure {J : Its} (hJ : J.src = none) {f : MV → MHp → Option (Option MV × MHp)} {g : MV → Option MV} {mh : MHp} : ∀ {xs : List MV}, (∀ x ∈ xs, f x mh = some (g x, mh)) → compGo J f xs mh = some (xs.filterMap g, mh)
  | [], h => by
    have ok : J.ok mh := by unfold Its.ok; rw [hJ]; trivial
    unfold compGo
    rw [if_pos ok]; rfl
  | x :: xs, h => by
    have ok : J.ok mh := by unfold Its.ok; rw [hJ]; trivial
    unfold compGo
    rw [if_pos ok, h x (by simp)]
    simp only
    rw [compGo_pure hJ fun y hy => h y (List.mem_cons_of_mem _ hy)]
    simp only [List.filterMap_cons]
    cases g x <;> rfl
/-- each turn gives an item; P of the heap stays -/
theorem compGo_st {J : Its} (hJ : J.src = none) {f : MV → MHp → Option (Option MV × MHp)} {P : MHp → Prop} {R : MV → Prop} : ∀ {xs : List MV} {mh : MHp}, P mh → (∀ x ∈ xs, ∀ mh, P mh → ∃ y mh', f x mh = some (some y, mh') ∧ P mh' ∧ R y) →
    ∃ ys mh', compGo J f xs mh = some (ys, mh') ∧ P mh' ∧ ys.length = xs.length ∧ ∀ y ∈ ys, R y
  | [], mh, p, h => by
    have ok : J.ok mh := by unfold Its.ok; rw [hJ]; trivial
    refine ⟨[], mh, ?_, p, rfl, fun y hy => by simp at hy⟩
    unfold compGo
    rw [if_pos ok]
  | x :: xs, mh, p, h => by
    have ok : J.ok mh := by unfold Its.ok; rw [hJ]; trivial
    obtain ⟨y, mh1, e1, p1, r1⟩ := h x (by simp) mh p
    obtain ⟨ys, mh2, e2, p2, l2, r2⟩ := compGo_st hJ p1 fun z hz => h z (List.mem_cons_of_mem _ hz)
    refine ⟨y :: ys, mh2, ?_, p2, by simp [l2], fun z hz => ?_⟩
    · unfold compGo
      rw [if_pos ok, e1]
      simp only [e2]
      rfl
    · rcases List.mem_cons.mp hz with rfl | hz
      · exact r1
      · exact r2 z hz
/-- a for that goes through -/
theorem forGo_st {J : Its} (hJ : J.src = none) {f : MV → Env → MHp → Option (Fl × Env × MHp)} {P : Env → MHp → Prop} : ∀ {xs : List MV} {ρ : Env} {mh : MHp}, P ρ mh → (∀ x ∈ xs, ∀ ρ mh, P ρ mh → ∃ ρ' mh', f x ρ mh = some (.nx, ρ', mh') ∧ P ρ' mh') →
    ∃ ρ' mh', forGo J f xs ρ mh = some (.nx, ρ', mh') ∧ P ρ' mh'
  | [], ρ, mh, p, h => by
    have ok : J.ok mh := by unfold Its.ok; rw [hJ]; trivial
    refine ⟨ρ, mh, ?_, p⟩
    unfold forGo
    rw [if_pos ok]
  | x :: xs, ρ, mh, p, h => by
    have ok : J.ok mh := by unfold Its.ok; rw [hJ]; trivial
    obtain ⟨ρ1, mh1, e1, p1⟩ := h x (by simp) ρ mh p
    obtain ⟨ρ2, mh2, e2, p2⟩ := forGo_st hJ p1 fun z hz => h z (List.mem_cons_of_mem _ hz)
    refine ⟨ρ2, mh2, ?_, p2⟩
    unfold forGo
    rw [if_pos ok, e1]
    exact e2
theorem forGo_cons_of {J : Its} (hJ : J.src = none) {f : MV → Env → MHp → Option (Fl × Env × MHp)} {x : MV} {xs : List MV} {ρ : Env} {mh : MHp} : forGo J f (x :: xs) ρ mh = match f x ρ mh with
    | none => none
    | some (.nx, ρ1, mh1) => forGo J f xs ρ1 mh1
    | some (.ct, ρ1, mh1) => forGo J f xs ρ1 mh1
    | some (.bk, ρ1, mh1) => some (.nx, ρ1, mh1)
    | some (.rt v, ρ1, mh1) => some (.rt v, ρ1, mh1) := by
  have ok : J.ok mh := by unfold Its.ok; rw [hJ]; trivial
  rw [forGo, if_pos ok] <;> rfl
theorem forGo_nil_of {J : Its} (hJ : J.src = none) {f : MV → Env → MHp → Option (Fl × Env × MHp)} {ρ : Env} {mh : MHp} : forGo J f [] ρ mh = some (.nx, ρ, mh) := by
  have ok : J.ok mh := by unfold Its.ok; rw [hJ]; trivial
  rw [forGo, if_pos ok]
theorem whileN_mono {c : Env → MHp → Option (Bool × MHp)} {f : Env → MHp → Option (Fl × Env × MHp)} {r : Fl × Env × MHp} : ∀ {n : Nat} {ρ : Env} {mh : MHp}, whileN c f n ρ mh = some r → ∀ m, n ≤ m → whileN c f m ρ mh = some r
  | 0, ρ, mh, h, m, hm => by unfold whileN at h; cases h
  | n + 1, ρ, mh, h, 0, hm => by omega
  | n + 1, ρ, mh, h, m + 1, hm => by
    rw [whileN] at h ⊢
    revert h
    cases e1 : c ρ mh with
    | none => exact fun h => nomatch h
    | some p =>
      obtain ⟨b, mh1⟩ := p
      cases b with
      | false => exact fun h => h
      | true =>
        show (match f ρ mh1 with
          | none => none
          | some (.nx, ρ1, mh2) => whileN c f n ρ1 mh2
          | some (.ct, ρ1, mh2) => whileN c f n ρ1 mh2
          | some (.bk, ρ1, mh2) => some (.nx, ρ1, mh2)
          | some (.rt v, ρ1, mh2) => some (.rt v, ρ1, mh2)) = some r → (match f ρ mh1 with
          | none => none
          | some (.nx, ρ1, mh2) => whileN c f m ρ1 mh2
          | some (.ct, ρ1, mh2) => whileN c f m ρ1 mh2
          | some (.bk, ρ1, mh2) => some (.nx, ρ1, mh2)
          | some (.rt v, ρ1, mh2) => some (.rt v, ρ1, mh2)) = some r
        cases e2 : f ρ mh1 with
        | none => exact fun h => nomatch h
        | some q =>
          obtain ⟨fl, ρ1, mh2⟩ := q
          cases fl with
          | nx => exact fun h => whileN_mono h m (by omega)
          | ct => exact fun h => whileN_mono h m (by omega)
          | bk => exact fun h => h
          | rt v => exact fun h => h
theorem whileM_eq {c : Env → MHp → Option (Bool × MHp)} {f : Env → MHp → Option (Fl × Env × MHp)} {r : Fl × Env × MHp} {n : Nat} {ρ : Env} {mh : MHp} (h : whileN c f n ρ mh = some r) : whileM c f ρ mh = some r := by
  have ex : ∃ n, whileN c f n ρ mh ≠ none := ⟨n, by rw [h]; exact fun z => nomatch z⟩
  unfold whileM
  rw [dif_pos ex]
  have hc := Classical.choose_spec ex
  cases e : whileN c f (Classical.choose ex) ρ mh with
  | none => exact absurd e hc
  | some r' =>
    rcases Nat.le_total n (Classical.choose ex) with l | l
    · rw [whileN_mono h _ l] at e; exact e.symm
    · rw [whileN_mono e _ l] at h; exact h
/-! the bodies of loops, kept whole -/
section
variable (C : CallF) (base : Nat)
noncomputable def forF (t : Tg) (body : List MS) : MV → Env → MHp → Option (Fl × Env × MHp) := fun x ρ1 mh2 => match asg mh2 t x ρ1 with
  | none => none
  | some ρ2 => exs C base body ρ2 mh2
noncomputable def whC (c : ME) : Env → MHp → Option (Bool × MHp) := fun ρ1 mh1 => match ev C base c ρ1 mh1 with
  | some (.bl b, mh2) => some (b, mh2)
  | _ => none
end
section
variable {C : CallF} {base : Nat} {ρ : Env} {mh : MHp}
theorem ex_for {t : Tg} {it : ME} {body : List MS} : ex C base (.for t it body) ρ mh = match evI C base it ρ mh with
  | none => none
  | some (J, mh1) => forGo J (forF C base t body) J.items ρ mh1 := by
  simp only [ex]
  rfl
theorem ex_while {c : ME} {body : List MS} : ex C base (.while c body) ρ mh = whileM (whC C base c) (exs C base body) ρ mh := by
  simp only [ex]
  rfl
theorem ev_compq {tg : Tg} {own : List Nat} {it cond e : ME} : ev C base (.comp tg own it cond e) ρ mh = match evI C base it ρ mh with
  | none => none
  | some (J, mh1) => if J.items.length ≤ line then (match compGo J (compF C base tg own cond e ρ) J.items mh1 with
    | none => none
    | some (ys, mh5) => some (.lst ys, mh5)) else none := by
  simp only [ev]
  rfl
end
theorem bls_map {mh : MHp} (bs : List Bool) : bls mh (.lst (bs.map .bl)) = some bs := by
  unfold bls
  show (bs.map MV.bl).mapM blOf = some bs
  induction bs with
  | nil => rfl
  | cons b bs ih => rw [List.map_cons, List.mapM_cons, ih]; rfl
theorem atI0 {α : Type} {x : α} {xs : List α} : idx (x :: xs) 0 = some x := by
  unfold idx L2.atI L2.ixN
  simp
theorem cut_drop {α : Type} {xs : List α} {k : Nat} : cut xs (some (k : Int)) none = xs.drop k := by
  unfold cut
  rw [HT.sIx_nat, HT.sIx_none]
  by_cases h : k ≤ xs.length
  · rw [Nat.min_eq_left h, List.take_of_length_le (by rw [List.length_drop]; omega)]
  · rw [Nat.min_eq_right (by omega), List.drop_eq_nil_of_le (Nat.le_refl _), List.drop_eq_nil_of_le (by omega)]
    simp
theorem cut_take {α : Type} {xs : List α} {k : Nat} : cut xs none (some (k : Int)) = xs.take k := by
  unfold cut
  rw [HT.sIx_nat, HT.sIx_none]
  by_cases h : k ≤ xs.length
  · rw [Nat.min_eq_left h]; simp
  · rw [Nat.min_eq_right (by omega)]; simp [List.take_of_length_le (show xs.length ≤ k by omega)]
end L2.Mi

set_option Elab.async false
set_option linter.all false
set_option maxRecDepth 100000
set_option maxHeartbeats 4000000
/-! Ev2: small facts for every law; the law's state, take, pick (their numbers in T are told). -/
namespace L2.Mi
open PySem PySem.Spec PyProof.Rows
theorem lt1 {a b : Nat} : (([a] : List Nat) < [b]) = (a < b) := by
  apply propext
  constructor
  · intro h
    cases h with
    | rel h => exact h
    | cons h => cases h
  · exact fun h => .rel h
theorem eqV_int (mh : MHp) (a b : Int) : eqV mh (.int a) (.int b) = some (decide (a = b)) := by
  unfold eqV
  rw [frz_dat _ rfl, frz_dat _ rfl]
  have h1 : okD (.int a) = true := rfl
  have h2 : okD (.int b) = true := rfl
  simp only [h1, h2, and_self, if_true]
  congr 1
theorem eqV_bl (mh : MHp) (a b : Bool) : eqV mh (.bl a) (.bl b) = some (decide (a = b)) := by
  unfold eqV
  rw [frz_dat _ rfl, frz_dat _ rfl]
  have h1 : okD (.bl a) = true := rfl
  have h2 : okD (.bl b) = true := rfl
  simp only [h1, h2, and_self, if_true]
  cases a <;> cases b <;> rfl
theorem eqV_nonint (mh : MHp) (b : Int) : eqV mh .non (.int b) = some false := by
  unfold eqV
  rw [frz_dat _ rfl, frz_dat _ rfl]
  rfl
theorem okD_str {a : Sx} (h : dat (.str a) = true) : okD (.str a) = true := by
  unfold dat at h
  rw [Bool.and_eq_true] at h
  have h2 := h.2
  show (PyData.canLay0 (.str ⟨a.toArray⟩) && decide (PyData.depth (.str ⟨a.toArray⟩) ≤ 64)) = true
  have e1 : PyData.depth (.str ⟨a.toArray⟩) = 0 := by unfold PyData.depth; rfl
  rw [e1]
  unfold PyData.canLay0 PySem.PyData.strOk
  simp at h2 ⊢
  intro i hi
  exact h2 i hi
theorem eqV_str (mh : MHp) (a b : Sx) (ha : dat (.str a) = true) (hb : dat (.str b) = true) : eqV mh (.str a) (.str b) = some (decide (a = b)) := by
  unfold eqV
  rw [frz_dat _ ha, frz_dat _ hb]
  simp only [okD_str ha, okD_str hb, and_self, if_true]
  congr 1
  show PyData.eqv (.str ⟨a.toArray⟩) (.str ⟨b.toArray⟩) = _
  unfold PyData.eqv
  apply Bool.eq_iff_iff.mpr
  simp
theorem idx_nat {α : Type} {xs : List α} {j : Nat} {v : α} (h : xs[j]? = some v) : idx xs (j : Int) = some v := L2.atI_nat h
theorem idx_nat1 {α : Type} {xs : List α} {j : Nat} {v : α} (h : xs[j + 1]? = some v) : idx xs ((j : Int) + 1) = some v := by
  have := L2.atI_nat h
  simpa [idx] using this
theorem atI1 {α : Type} {x y : α} {xs : List α} : idx (x :: y :: xs) 1 = some y := by
  have := idx_nat (xs := x :: y :: xs) (j := 1) (v := y) rfl
  simpa using this
theorem bls_map' {mh : MHp} {α : Type} (xs : List α) (g : α → Bool) : bls mh (.lst (xs.map fun x => .bl (g x))) = some (xs.map g) := by
  have := bls_map (mh := mh) (xs.map g)
  rw [List.map_map] at this
  exact this
/-- the law's state at l, n objects in all -/
def St (l n : Nat) (mh : MHp) : Prop := mh.length = n ∧ ∃ (c : Nat) (i : Int) (cs : List Int), mh[l]? = some (some (.lst [.int i, .loc c])) ∧ mh[c]? = some (some (.lst (cs.map .int))) ∧ cs ≠ [] ∧ c ≠ l
theorem idx_int {cs : List Int} {a : Int} (h0 : 0 ≤ a) (h1 : a < cs.length) : ∃ x, cs[a.toNat]? = some x ∧ idx (cs.map MV.int) a = some (.int x) := by
  have hl : a.toNat < cs.length := by omega
  refine ⟨cs[a.toNat], List.getElem?_eq_getElem hl, ?_⟩
  have : (cs.map MV.int)[a.toNat]? = some (.int cs[a.toNat]) := by
    rw [List.getElem?_map, List.getElem?_eq_getElem hl]; rfl
  have e := L2.atI_nat this
  have : ((a.toNat : Nat) : Int) = a := by omega
  rw [this] at e
  exact e
theorem ixN_in {n : Nat} {a : Int} (h0 : 0 ≤ a) (h1 : a < n) : L2.ixN n a = some a.toNat := by
  unfold L2.ixN
  rw [if_pos h0, if_pos h1]
theorem get_set_ne {mh : MHp} {a b : Nat} {o : Option MO} (h : a ≠ b) : (mh.set a o)[b]? = mh[b]? := List.getElem?_set_ne h
theorem get_set_eq {mh : MHp} {a : Nat} {o o' : Option MO} (h : mh[a]? = some o') : (mh.set a o)[a]? = some o := List.getElem?_set_self (List.getElem?_eq_some_iff.mp h).1
def takeD : Df := ⟨2, 6, false, [(.ite (.cmp .lt (.var 1) (.c (.int (2)))) [(.ret (.c (.int (0))))] []), (.set (.nm 2) (.sub (.var 0) (.c (.int (1))))), (.set (.nm 3) (.bin .mod (.bi .int [(.sub (.var 0) (.c (.int (0))))]) (.bi .len [(.var 2)]))), (.set (.nm 4) (.sub (.var 2) (.var 3))), (.ite (.cmp .ge (.var 4) (.c (.int (1000000000000000000)))) [(.sti (.var 2) (.var 3) (.bin .fdiv (.var 4) (.var 1))), (.ret (.bin .mod (.bi .int [(.var 4)]) (.var 1)))] []), (.sti (.var 0) (.c (.int (0))) (.bin .add (.sub (.var 0) (.c (.int (0)))) (.c (.int (1))))), (.set (.nm 5) (.bin .mod (.bi .int [(.bin .add (.bin .mul (.var 4) (.c (.int (48271)))) (.bin .mul (.sub (.var 0) (.c (.int (0)))) (.c (.int (69621)))))]) (.c (.int (2147483647))))), (.set (.nm 5) (.bin .mod (.bi .int [(.bin .add (.bin .mul (.var 5) (.c (.int (16807)))) (.bin .mul (.sub (.var 0) (.c (.int (0)))) (.c (.int (7919)))))]) (.c (.int (1000000007))))), (.ret (.bin .mod (.bi .int [(.bin .fdiv (.var 5) (.c (.int (7))))]) (.var 1)))]⟩
theorem take_ok {T : List Df} {it : Nat} (hT : T[it]? = some takeD) (k : Nat) {l n : Nat} {mh : MHp} (S : St l n mh) (most : Int) (hm : most ≤ 1000000) : ∃ r mh', callM T (k + 1) it [.loc l, .int most] mh = some (.int r, mh') ∧ St l n mh' ∧ 0 ≤ r ∧ (2 ≤ most → r < most) ∧ (most < 2 → r = 0) := by
  obtain ⟨hn, c, i, cs, h1, h2, h3, h4⟩ := S
  by_cases hlt : most < 2
  · refine ⟨0, mh, ?_, ⟨hn, c, i, cs, h1, h2, h3, h4⟩, by omega, by omega, fun _ => rfl⟩
    rw [callM_eq hT]
    refine run_of' rfl rfl (ρ := [some (.loc l), some (.int most), none, none, none, none]) (fl := .rt (.int 0)) ?_ rfl rfl rfl
    simp [takeD, exs, ex, ev, cmpV, ordV, hlt]
  · have hlen : 0 < (cs.length : Int) := by
      have : 0 < cs.length := List.length_pos_iff.mpr h3
      omega
    have a0 : 0 ≤ i.fmod cs.length := Int.fmod_nonneg_of_pos i hlen
    have a1 : i.fmod cs.length < cs.length := Int.fmod_lt_of_pos i hlen
    obtain ⟨x, hx, ex1⟩ := idx_int (cs := cs) a0 a1
    have hne : ¬ ((cs.length : Int) = 0) := by omega
    have hne' : ¬ (cs.length = 0) := by omega
    have b0 : idx [MV.int i, MV.loc c] 0 = some (.int i) := atI0
    have b1 : idx [MV.int i, MV.loc c] 1 = some (.loc c) := atI1
    have e1 : exs (callM T k) mh.length [(.ite (.cmp .lt (.var 1) (.c (.int (2)))) [(.ret (.c (.int (0))))] []), (.set (.nm 2) (.sub (.var 0) (.c (.int (1))))), (.set (.nm 3) (.bin .mod (.bi .int [(.sub (.var 0) (.c (.int (0))))]) (.bi .len [(.var 2)]))), (.set (.nm 4) (.sub (.var 2) (.var 3)))] [some (.loc l), some (.int most), none, none, none, none] mh = some (.nx, [some (.loc l), some (.int most), some (.loc c), some (.int (i.fmod cs.length)), some (.int x), none], mh) := by
      simp [exs, ex, ev, evs, cmpV, ordV, hlt, subV, getL, h1, h2, b0, b1, asg, biV, one1, intV1, lenV, binV, intV, hne', ex1]
    have mp : 0 < most := by omega
    have mne : ¬ most = 0 := by omega
    have mab : most.natAbs < 1073741824 := by omega
    have spl : ∀ {ss ss' : List MS} {ρ ρ' : Env} {m : MHp} {C : CallF}, exs C mh.length ss ρ mh = some (.nx, ρ', m) → exs C mh.length (ss ++ ss') ρ mh = exs C mh.length ss' ρ' m := fun {ss ss' ρ ρ' m C} h => by
      clear e1
      have gen : ∀ (ss : List MS) (ρ : Env) (m0 : MHp), exs C mh.length ss ρ m0 = some (.nx, ρ', m) → exs C mh.length (ss ++ ss') ρ m0 = exs C mh.length ss' ρ' m := by
        intro ss
        induction ss with
        | nil => intro ρ m0 h; simp only [exs] at h; cases h; rfl
        | cons s ss ih =>
          intro ρ m0 h
          rcases exs_cons h with ⟨ρ1, m1, e, h'⟩ | ⟨_, hn⟩
          · rw [List.cons_append, exs, e]; exact ih ρ1 m1 h'
          · exact absurd rfl hn
      exact gen ss ρ mh h
    rw [callM_eq hT]
    by_cases hbig : x < 1000000000000000000
    · -- the mixed way
      have key : ∀ r : Int, r = (((((x * 48271 + (i + 1) * 69621).fmod 2147483647) * 16807 + (i + 1) * 7919).fmod 1000000007).fdiv 7).fmod most → ∃ ρ, exs (callM T k) mh.length takeD.body [some (.loc l), some (.int most), none, none, none, none] mh = some (.rt (.int r), ρ, mh.set l (some (.lst [.int (i + 1), .loc c]))) := fun r hr => by
        have g1 : (mh.set l (some (.lst [.int (i + 1), .loc c])))[l]? = some (some (.lst [.int (i + 1), .loc c])) := get_set_eq h1
        have g2 : (mh.set l (some (.lst [.int (i + 1), .loc c])))[c]? = some (some (.lst (cs.map .int))) := by rw [get_set_ne (Ne.symm h4)]; exact h2
        have b0' : idx [MV.int (i + 1), MV.loc c] 0 = some (.int (i + 1)) := atI0
        have ix : L2.ixN 2 0 = some 0 := rfl
        have w1 : wr mh.length l (.int (i + 1)) = true := by simp [wr, bd]
        have := spl (ss' := [(.ite (.cmp .ge (.var 4) (.c (.int (1000000000000000000)))) [(.sti (.var 2) (.var 3) (.bin .fdiv (.var 4) (.var 1))), (.ret (.bin .mod (.bi .int [(.var 4)]) (.var 1)))] []), (.sti (.var 0) (.c (.int (0))) (.bin .add (.sub (.var 0) (.c (.int (0)))) (.c (.int (1))))), (.set (.nm 5) (.bin .mod (.bi .int [(.bin .add (.bin .mul (.var 4) (.c (.int (48271)))) (.bin .mul (.sub (.var 0) (.c (.int (0)))) (.c (.int (69621)))))]) (.c (.int (2147483647))))), (.set (.nm 5) (.bin .mod (.bi .int [(.bin .add (.bin .mul (.var 5) (.c (.int (16807)))) (.bin .mul (.sub (.var 0) (.c (.int (0)))) (.c (.int (7919)))))]) (.c (.int (1000000007))))), (.ret (.bin .mod (.bi .int [(.bin .fdiv (.var 5) (.c (.int (7))))]) (.var 1)))]) e1
        refine ⟨[some (.loc l), some (.int most), some (.loc c), some (.int (i.fmod cs.length)), some (.int x), some (.int ((((x * 48271 + (i + 1) * 69621).fmod 2147483647) * 16807 + (i + 1) * 7919).fmod 1000000007))], ?_⟩
        rw [hr]
        show exs (callM T k) mh.length ([(.ite (.cmp .lt (.var 1) (.c (.int (2)))) [(.ret (.c (.int (0))))] []), (.set (.nm 2) (.sub (.var 0) (.c (.int (1))))), (.set (.nm 3) (.bin .mod (.bi .int [(.sub (.var 0) (.c (.int (0))))]) (.bi .len [(.var 2)]))), (.set (.nm 4) (.sub (.var 2) (.var 3)))] ++ _) _ mh = _
        rw [this]
        simp [exs, ex, ev, evs, cmpV, ordV, hbig, subV, getL, h1, g1, b0, b0', asg, biV, one1, intV1, binV, intV, addV, mulV, mne, ix, w1]
      obtain ⟨ρ, e⟩ := key _ rfl
      refine ⟨_, _, run_of' rfl rfl e rfl rfl (by simp), ⟨by simp [hn], c, i + 1, cs, get_set_eq h1, by rw [get_set_ne (Ne.symm h4)]; exact h2, h3, h4⟩, Int.fmod_nonneg_of_pos _ mp, fun _ => Int.fmod_lt_of_pos _ mp, fun z => absurd z hlt⟩
    · have key : ∃ ρ, exs (callM T k) mh.length takeD.body [some (.loc l), some (.int most), none, none, none, none] mh = some (.rt (.int (x.fmod most)), ρ, mh.set c (some (.lst ((cs.set (i.fmod cs.length).toNat (x.fdiv most)).map .int)))) := by
        have ix : L2.ixN cs.length (i.fmod cs.length) = some (i.fmod cs.length).toNat := ixN_in a0 a1
        have w1 : wr mh.length c (.int (x.fdiv most)) = true := by simp [wr, bd]
        have := spl (ss' := [(.ite (.cmp .ge (.var 4) (.c (.int (1000000000000000000)))) [(.sti (.var 2) (.var 3) (.bin .fdiv (.var 4) (.var 1))), (.ret (.bin .mod (.bi .int [(.var 4)]) (.var 1)))] []), (.sti (.var 0) (.c (.int (0))) (.bin .add (.sub (.var 0) (.c (.int (0)))) (.c (.int (1))))), (.set (.nm 5) (.bin .mod (.bi .int [(.bin .add (.bin .mul (.var 4) (.c (.int (48271)))) (.bin .mul (.sub (.var 0) (.c (.int (0)))) (.c (.int (69621)))))]) (.c (.int (2147483647))))), (.set (.nm 5) (.bin .mod (.bi .int [(.bin .add (.bin .mul (.var 5) (.c (.int (16807)))) (.bin .mul (.sub (.var 0) (.c (.int (0)))) (.c (.int (7919)))))]) (.c (.int (1000000007))))), (.ret (.bin .mod (.bi .int [(.bin .fdiv (.var 5) (.c (.int (7))))]) (.var 1)))]) e1
        refine ⟨[some (.loc l), some (.int most), some (.loc c), some (.int (i.fmod cs.length)), some (.int x), none], ?_⟩
        show exs (callM T k) mh.length ([(.ite (.cmp .lt (.var 1) (.c (.int (2)))) [(.ret (.c (.int (0))))] []), (.set (.nm 2) (.sub (.var 0) (.c (.int (1))))), (.set (.nm 3) (.bin .mod (.bi .int [(.sub (.var 0) (.c (.int (0))))]) (.bi .len [(.var 2)]))), (.set (.nm 4) (.sub (.var 2) (.var 3)))] ++ _) _ mh = _
        rw [this]
        simp [exs, ex, ev, evs, cmpV, ordV, hbig, h2, asg, biV, one1, intV1, binV, intV, mne, mab, ix, w1, List.map_set]
      obtain ⟨ρ, e⟩ := key
      refine ⟨_, _, run_of' rfl rfl e rfl rfl (by simp), ⟨by simp [hn], c, i, cs.set (i.fmod cs.length).toNat (x.fdiv most), by rw [get_set_ne h4]; exact h1, get_set_eq h2, by simp [h3], h4⟩, Int.fmod_nonneg_of_pos _ mp, fun _ => Int.fmod_lt_of_pos _ mp, fun z => absurd z hlt⟩
def pickD (it : Nat) : Df := ⟨2, 2, false, [(.ret (.sub (.var 1) (.call it [(.var 0), (.bi .len [(.var 1)])])))]⟩
theorem St.len {l n : Nat} {mh : MHp} (h : St l n mh) : mh.length = n := h.1
theorem pick_ok {T : List Df} {it ip : Nat} (hT : T[it]? = some takeD) (hP : T[ip]? = some (pickD it)) (k : Nat) {l n : Nat} {mh : MHp} (S : St l n mh) (row : List MV) (h0 : row ≠ []) (hr : row.length ≤ 1000000) (hd : dats row = true) : ∃ y mh', y ∈ row ∧ callM T (k + 2) ip [.loc l, .lst row] mh = some (y, mh') ∧ St l n mh' := by
  have hp : 0 < row.length := List.length_pos_iff.mpr h0
  obtain ⟨r, mh', e, S', r0, r1, r2⟩ := take_ok hT k S (row.length : Int) (by omega)
  have hlt : r < (row.length : Int) := by
    by_cases h : 2 ≤ (row.length : Int)
    · exact r1 h
    · have := r2 (by omega); omega
  have hl : r.toNat < row.length := by omega
  have hi : idx row r = some row[r.toNat] := by
    have := L2.atI_nat (List.getElem?_eq_getElem hl)
    have e2 : ((r.toNat : Nat) : Int) = r := by omega
    rw [e2] at this
    exact this
  refine ⟨row[r.toNat], mh', List.getElem_mem hl, ?_, S'⟩
  rw [callM_eq hP]
  refine run_of' rfl rfl (ρ := [some (.loc l), some (.lst row)]) (fl := .rt row[r.toNat]) ?_ rfl (dats_iff.mp hd _ (List.getElem_mem hl)) (by rw [S'.1, S.1])
  simp [pickD, exs, ex, ev, evs, biV, one1, lenV, getL, e, subV, hi]
end L2.Mi

set_option Elab.async false
set_option linter.all false
set_option maxRecDepth 100000
set_option maxHeartbeats 4000000
/-! Ev3: the law's state for any table; == of a value with itself; terms as trees. -/
namespace L2.Mi
open PySem PySem.Spec PyProof.Rows
def stateD : Df := ⟨1, 3, true, [(.set (.nm 1) (.al (.comp (.nm 2) [2] (.slcH (.var 0) (.c (.int (63)))) (.c (.bl true)) (.bi .abs [(.var 2)])))), (.ite (.cmp .eq (.bi .len [(.var 1)]) (.c (.int (0)))) [(.set (.nm 1) (.al (.lst [(.c (.int (0)))])))] []), (.ret (.al (.lst [(.c (.int (0))), (.var 1)])))]⟩
theorem state_ok {T : List Df} {is : Nat} (hT : T[is]? = some stateD) (k : Nat) (ns : List Int) : ∃ l n mh, callM T (k + 1) is [.scr ns] [] = some (.loc l, mh) ∧ St l n mh := by
  let g : Int → Int := fun i => if i < 0 then -i else i
  have hc : ∀ (C : CallF), ev C 0 (.comp (.nm 2) [2] (.slcH (.var 0) (.c (.int (63)))) (.c (.bl true)) (.bi .abs [(.var 2)])) [some (.scr ns), none, none] [] = some (.lst (((ns.take 63).map g).map .int), []) := fun C => by
    have hcut : cut (ns.map MV.int) none (some 63) = (ns.take 63).map .int := by
      have := cut_take (xs := ns.map MV.int) (k := 63)
      rw [show ((63 : Nat) : Int) = 63 from rfl] at this
      rw [this, List.map_take]
    have ei : evI C 0 (.slcH (.var 0) (.c (.int (63)))) [some (.scr ns), none, none] [] = some (⟨(ns.take 63).map .int, none⟩, []) := by
      simp [evI, ev, slcV, hcut, itsOf]
    have hz : ((ns.take 63).map MV.int).length ≤ line := by simp; unfold line; omega
    rw [ev_compq, ei]
    simp only [hz, if_true]
    rw [compGo_pure rfl (g := fun x => match x with | .int i => some (.int (g i)) | _ => none)]
    · simp only
      congr 3
      rw [List.filterMap_map, ← List.filterMap_eq_map, ← List.filterMap_eq_map, List.filterMap_filterMap]
      rfl
    · intro x hx
      obtain ⟨i, _, rfl⟩ := List.mem_map.mp hx
      simp [compF, asg, wipeE, ev, evs, biV, one1, absV, g]
  rw [callM_eq hT]
  have z1 : 1 ≤ line := by unfold line; omega
  have z2 : 2 ≤ line := by unfold line; omega
  unfold runD
  rw [if_pos (show [MV.scr ns].length = stateD.np from rfl)]
  by_cases he : (ns.take 63).map g = []
  · refine ⟨2, 3, [some (.lst []), some (.lst [.int 0]), some (.lst [.int 0, .loc 1])], ?_, rfl, 1, 0, [0], rfl, rfl, by simp, by decide⟩
    have e : exs (callM T k) 0 stateD.body [some (.scr ns), none, none] [] = some (.rt (.loc 2), [some (.scr ns), some (.loc 1), none], [some (.lst []), some (.lst [.int 0]), some (.lst [.int 0, .loc 1])]) := by
      have hc' := hc (callM T k)
      rw [he] at hc'
      have c1 : ex (callM T k) 0 (.set (.nm 1) (.al (.comp (.nm 2) [2] (.slcH (.var 0) (.c (.int (63)))) (.c (.bl true)) (.bi .abs [(.var 2)])))) [some (.scr ns), none, none] [] = some (.nx, [some (.scr ns), some (.loc 0), none], [some (.lst [])]) := by
        rw [ex, ev, hc']
        simp [asg]
      rw [stateD, exs, c1]
      simp [exs, ex, ev, evs, biV, one1, lenV, getL, cmpV, eqV_int, z1, z2, asg]
    show (match exs (callM T k) 0 stateD.body [some (.scr ns), none, none] [] with
      | none => none
      | some (fl, _, mh1) => match endV fl with
        | none => none
        | some v => if stateD.live = true then some (v, mh1) else (frz 0 mh1 8 v).map (·, mh1.take 0)) = _
    rw [e]
    rfl
  · refine ⟨1, 2, [some (.lst (((ns.take 63).map g).map .int)), some (.lst [.int 0, .loc 0])], ?_, rfl, 0, 0, (ns.take 63).map g, rfl, rfl, he, by decide⟩
    have e : exs (callM T k) 0 stateD.body [some (.scr ns), none, none] [] = some (.rt (.loc 1), [some (.scr ns), some (.loc 0), none], [some (.lst (((ns.take 63).map g).map .int)), some (.lst [.int 0, .loc 0])]) := by
      have hc' := hc (callM T k)
      have c1 : ex (callM T k) 0 (.set (.nm 1) (.al (.comp (.nm 2) [2] (.slcH (.var 0) (.c (.int (63)))) (.c (.bl true)) (.bi .abs [(.var 2)])))) [some (.scr ns), none, none] [] = some (.nx, [some (.scr ns), some (.loc 0), none], [some (.lst (((ns.take 63).map g).map .int))]) := by
        rw [ex, ev, hc']
        simp [asg]
      generalize hcs : (ns.take 63).map g = cs at he c1 ⊢
      have hne : ¬ (cs.length = 0) := fun z => he (List.length_eq_zero_iff.mp z)
      rw [stateD, exs, c1]
      simp [exs, ex, ev, evs, biV, one1, lenV, getL, cmpV, eqV_int, he, z2, asg]
    show (match exs (callM T k) 0 stateD.body [some (.scr ns), none, none] [] with
      | none => none
      | some (fl, _, mh1) => match endV fl with
        | none => none
        | some v => if stateD.live = true then some (v, mh1) else (frz 0 mh1 8 v).map (·, mh1.take 0)) = _
    rw [e]
    rfl
/-! ### == of a value with itself -/
mutual
theorem eqD_refl : ∀ x : MV, dat x = true → eqD x x = true
  | .non, _ => by unfold eqD toD PyData.eqv; rfl
  | .bl b, _ => by unfold eqD toD PyData.eqv; simp
  | .int i, _ => by unfold eqD toD PyData.eqv; simp
  | .str s, _ => by unfold eqD toD PyData.eqv; simp
  | .tup xs, h => by
    unfold dat at h
    have := eqDs_refl xs h
    unfold eqD toD PyData.eqv
    exact this
  | .lst xs, h => by
    unfold dat at h
    have := eqDs_refl xs h
    unfold eqD toD PyData.eqv
    exact this
  | .fn _, h => by unfold dat at h; cases h
  | .loc _, h => by unfold dat at h; cases h
  | .dct _ _, h => by unfold dat at h; cases h
  | .scr _, h => by unfold dat at h; cases h
theorem eqDs_refl : ∀ xs : List MV, dats xs = true → PyData.eqvAll (toDs xs) (toDs xs) = true
  | [], _ => by unfold toDs PyData.eqvAll; rfl
  | x :: xs, h => by
    unfold dats at h
    rw [Bool.and_eq_true] at h
    have h1 := eqD_refl x h.1
    have h2 := eqDs_refl xs h.2
    unfold eqD at h1
    unfold toDs PyData.eqvAll
    rw [h1, h2]; rfl
end
mutual
/-- how deep lists and tuples stand in one another -/
def dep : MV → Nat
  | .tup xs => deps xs + 1
  | .lst xs => deps xs + 1
  | _ => 0
def deps : List MV → Nat
  | [] => 0
  | x :: xs => max (dep x) (deps xs)
end
mutual
theorem dat_can : ∀ x : MV, dat x = true → PyData.canLay0 (toD x) = true ∧ PyData.depth (toD x) ≤ dep x
  | .non, _ => ⟨rfl, by unfold toD PyData.depth; omega⟩
  | .bl b, _ => ⟨rfl, by unfold toD PyData.depth; omega⟩
  | .int i, _ => ⟨rfl, by unfold toD PyData.depth; omega⟩
  | .str s, h => by
    have := okD_str h
    unfold okD SeqAt.shaped at this
    rw [Bool.and_eq_true] at this
    exact ⟨this.1, by unfold toD PyData.depth; omega⟩
  | .tup xs, h => by
    unfold dat at h
    obtain ⟨h1, h2⟩ := dats_can xs h
    unfold toD
    refine ⟨by unfold PyData.canLay0; exact h1, ?_⟩
    unfold PyData.depth dep
    omega
  | .lst xs, h => by
    unfold dat at h
    obtain ⟨h1, h2⟩ := dats_can xs h
    unfold toD
    refine ⟨by unfold PyData.canLay0; exact h1, ?_⟩
    unfold PyData.depth dep
    omega
  | .fn _, h => by unfold dat at h; cases h
  | .loc _, h => by unfold dat at h; cases h
  | .dct _ _, h => by unfold dat at h; cases h
  | .scr _, h => by unfold dat at h; cases h
theorem dats_can : ∀ xs : List MV, dats xs = true → PyData.canLayAll0 (toDs xs) = true ∧ PyData.depthAll (toDs xs) ≤ deps xs
  | [], _ => ⟨rfl, by unfold toDs PyData.depthAll; omega⟩
  | x :: xs, h => by
    unfold dats at h
    rw [Bool.and_eq_true] at h
    obtain ⟨a1, a2⟩ := dat_can x h.1
    obtain ⟨b1, b2⟩ := dats_can xs h.2
    unfold toDs
    refine ⟨by unfold PyData.canLayAll0; rw [a1, b1]; rfl, ?_⟩
    unfold PyData.depthAll deps
    omega
end
theorem okD_dat {x : MV} (h : dat x = true) (hd : dep x ≤ 64) : okD x = true := by
  obtain ⟨h1, h2⟩ := dat_can x h
  unfold okD SeqAt.shaped
  rw [h1, Bool.true_and]
  exact decide_eq_true (by omega)
theorem eqV_refl (mh : MHp) {x : MV} (h : dat x = true) (hd : dep x ≤ 64) : eqV mh x x = some true := by
  unfold eqV
  rw [frz_dat x h]
  simp only [okD_dat h hd, and_self, if_true, eqD_refl x h]
end L2.Mi

set_option Elab.async false
set_option linter.all false
set_option maxRecDepth 100000
set_option maxHeartbeats 4000000
/-! Ev4: the law's tongues and drawn terms, for any table. -/
namespace L2.Mi
open PySem PySem.Spec PyProof.Rows
mutual
def cnt : MV → Nat
  | .tup xs => 1 + cntT xs
  | _ => 1
def cntT : List MV → Nat
  | [] => 0
  | _ :: xs => cnts xs
def cnts : List MV → Nat
  | [] => 0
  | x :: xs => cnt x + cnts xs
end
theorem cnts_app (xs ys : List MV) : cnts (xs ++ ys) = cnts xs + cnts ys := by
  induction xs with
  | nil => simp [cnts]
  | cons x xs ih => simp only [List.cons_append, cnts, ih]; omega
theorem dats_app (xs ys : List MV) : dats (xs ++ ys) = (dats xs && dats ys) := by
  induction xs with
  | nil => simp [dats]
  | cons x xs ih => simp only [List.cons_append, dats, ih, Bool.and_assoc]
theorem cnt_pos (x : MV) : 1 ≤ cnt x := by
  cases x <;> simp [cnt]
theorem len_cnts : ∀ w : List MV, w.length ≤ cnts w
  | [] => by simp
  | x :: w => by have := len_cnts w; have := cnt_pos x; simp only [cnts, List.length_cons]; omega
abbrev pr (s : Sx) (i : Int) : MV := .tup [.str s, .int i]
def tongues : List (List MV) := [[pr [97] 0, pr [102] 2], [pr [97] 0, pr [98] 0, pr [102] 2, pr [103] 1], [pr [97] 0, pr [98, 49] 0, pr [103] 1, pr [104] 3], [pr [99] 0, pr [102] 2, pr [103] 1]]
def isZ (p : MV) : Bool := match p with | .tup [_, .int i] => decide (i = 0) | _ => false
def tokPG : MV → Bool
  | .tup [.str s, .int i] => decide (0 ≤ i) && decide (i ≤ 3) && dat (.str s)
  | _ => false
def tokG (ps : List MV) : Bool := ps.all tokPG && dats ps && decide (2 ≤ ps.length) && decide (ps.length ≤ 4) && (ps.filter isZ).length != 0
theorem tongues_okG : tongues.all tokG = true := by decide +kernel
structure TokG (ps : List MV) : Prop where
  each : ∀ p ∈ ps, ∃ (s : Sx) (i : Nat), p = pr s i ∧ i ≤ 3 ∧ dat (.str s) = true
  dat : dats ps = true
  l2 : 2 ≤ ps.length
  l4 : ps.length ≤ 4
  zero : ps.filter isZ ≠ []
theorem tokG_of {ps : List MV} (h : ps ∈ tongues) : TokG ps := by
  have := List.all_eq_true.mp tongues_okG ps h
  unfold tokG at this
  simp only [Bool.and_eq_true, decide_eq_true_eq] at this
  obtain ⟨⟨⟨⟨h1, h3⟩, h4⟩, h5⟩, h7⟩ := this
  refine ⟨fun p hp => ?_, h3, h4, h5, fun z => by rw [z] at h7; simp at h7⟩
  have := List.all_eq_true.mp h1 p hp
  unfold tokPG at this
  split at this
  · rename_i s i
    simp only [Bool.and_eq_true, decide_eq_true_eq] at this
    obtain ⟨⟨a, b⟩, d⟩ := this
    refine ⟨s, i.toNat, ?_, by omega, d⟩
    have : ((i.toNat : Nat) : Int) = i := by omega
    rw [this]
  · cases this
def tongueD (ip : Nat) : Df := ⟨1, 1, false, [(.ret (.call ip [(.var 0), (.lst [(.tup [(.tup [(.c (.str [97])), (.c (.int (0)))]), (.tup [(.c (.str [102])), (.c (.int (2)))])]), (.tup [(.tup [(.c (.str [97])), (.c (.int (0)))]), (.tup [(.c (.str [98])), (.c (.int (0)))]), (.tup [(.c (.str [102])), (.c (.int (2)))]), (.tup [(.c (.str [103])), (.c (.int (1)))])]), (.tup [(.tup [(.c (.str [97])), (.c (.int (0)))]), (.tup [(.c (.str [98, 49])), (.c (.int (0)))]), (.tup [(.c (.str [103])), (.c (.int (1)))]), (.tup [(.c (.str [104])), (.c (.int (3)))])]), (.tup [(.tup [(.c (.str [99])), (.c (.int (0)))]), (.tup [(.c (.str [102])), (.c (.int (2)))]), (.tup [(.c (.str [103])), (.c (.int (1)))])])])]))]⟩
theorem tongue_ok {T : List Df} {it ip ig : Nat} (hT : T[it]? = some takeD) (hP : T[ip]? = some (pickD it)) (hG : T[ig]? = some (tongueD ip)) (k : Nat) {l n : Nat} {mh : MHp} (S : St l n mh) : ∃ ps mh', ps ∈ tongues ∧ callM T (k + 3) ig [.loc l] mh = some (.tup ps, mh') ∧ St l n mh' := by
  obtain ⟨y, mh', hy, e, S'⟩ := pick_ok hT hP k S (tongues.map .tup) (by simp [tongues]) (by simp [tongues]) (by decide +kernel)
  obtain ⟨ps, hps, rfl⟩ := List.mem_map.mp hy
  refine ⟨ps, mh', hps, ?_, S'⟩
  rw [callM_eq hG]
  have hd : dat (.tup ps) = true := by unfold dat; exact (tokG_of hps).dat
  refine run_of' rfl rfl (ρ := [some (.loc l)]) (fl := .rt (.tup ps)) ?_ rfl hd (by rw [S'.1, S.1])
  have h1 : 2 ≤ line := by unfold line; omega
  have h2 : 3 ≤ line := by unfold line; omega
  have h3 : 4 ≤ line := by unfold line; omega
  simp only [tongues, pr, List.map] at e
  simp [tongueD, exs, ex, ev, evs, e, h1, h2, h3]
def bnd : Nat → Nat
  | 0 => 1
  | m + 1 => 1 + 3 * bnd m
theorem bnd_pos (m : Nat) : 1 ≤ bnd m := by cases m <;> simp [bnd] <;> omega
theorem cnts_le {b : Nat} : ∀ {xs : List MV}, (∀ x ∈ xs, cnt x ≤ b) → cnts xs ≤ xs.length * b
  | [], _ => by simp [cnts]
  | x :: xs, h => by
    have h1 := h x (by simp)
    have h2 := cnts_le (xs := xs) fun y hy => h y (List.mem_cons_of_mem _ hy)
    simp only [cnts, List.length_cons, Nat.succ_mul]
    omega
structure DrawnG (P : MV → Prop) (b e : Nat) (t : MV) : Prop where
  good : P t
  cnt : cnt t ≤ b
  dep : dep t ≤ e
  dat : dat t = true
theorem deps_le {b : Nat} : ∀ {xs : List MV}, (∀ x ∈ xs, dep x ≤ b) → deps xs ≤ b
  | [], _ => by simp [deps]
  | x :: xs, h => by
    have h1 := h x (by simp)
    have h2 := deps_le (xs := xs) fun y hy => h y (List.mem_cons_of_mem _ hy)
    simp only [deps]
    omega
def termD (it ip im : Nat) : Df := ⟨4, 9, false, [(.ite (.and (.cmp .gt (.bi .len [(.var 2)]) (.c (.int (0)))) (.cmp .eq (.call it [(.var 0), (.ite (.cmp .gt (.var 3) (.c (.int (1)))) (.c (.int (3))) (.c (.int (2))))]) (.c (.int (0))))) [(.ret (.call ip [(.var 0), (.var 2)]))] []), (.set (.nm 4) (.comp (.nm 7) [7] (.var 1) (.or (.cmp .gt (.var 3) (.c (.int (1)))) (.cmp .eq (.sub (.var 7) (.c (.int (1)))) (.c (.int (0))))) (.var 7))), (.set (.tp [(.nm 5), (.nm 6)]) (.call ip [(.var 0), (.var 4)])), (.ret (.bin .add (.tup [(.var 5)]) (.bi .tuple [(.comp (.nm 8) [8] (.rng1 (.var 6)) (.c (.bl true)) (.call im [(.var 0), (.var 1), (.var 2), (.bin .sub (.var 3) (.c (.int (1))))]))])))]⟩
abbrev mEnv (l : Nat) (ps names : List MV) (M : Int) (a b c : Option MV) : Env := [some (.loc l), some (.tup ps), some (.lst names), some (.int M), a, b, c, none, none]
theorem fm_filter (P : MV → Bool) : ∀ xs : List MV, xs.filterMap (fun p => if P p = true then some p else none) = xs.filter P
  | [] => rfl
  | x :: xs => by
    rw [List.filterMap_cons, List.filter_cons, fm_filter P xs]
    cases P x <;> rfl
theorem term_bodyG {T : List Df} {it ip im : Nat} (hT : T[it]? = some takeD) (hPk : T[ip]? = some (pickD it)) {P0 : MV → Prop} {l n : Nat} {ps : List MV} (hps : TokG ps) (hP0 : ∀ s (i : Nat) ys, pr s i ∈ ps → ys.length = i → (∀ y ∈ ys, P0 y) → P0 (.tup (.str s :: ys))) {names : List MV} (hnl : names.length ≤ 1000) (hnd : dats names = true) (hng : ∀ x ∈ names, ∃ s, x = .str s ∧ P0 (.str s))
    {k : Nat} {M : Int} {b e : Nat} {mh : MHp} (hM : 1 ≤ M) (S : St l n mh)
    (rec : 1 < M → ∀ mh, St l n mh → ∃ t mh', callM T (k + 2) im [.loc l, .tup ps, .lst names, .int (M - 1)] mh = some (t, mh') ∧ St l n mh' ∧ DrawnG P0 b e t) :
    ∃ t ρ mh', exs (callM T (k + 2)) mh.length (termD it ip im).body (mEnv l ps names M none none none) mh = some (.rt t, ρ, mh') ∧ St l n mh' ∧ DrawnG P0 (1 + 3 * b) (e + 1) t := by
  have z2 : 2 ≤ line := by unfold line; omega
  have hc1 : ∃ b mh1, ev (callM T (k + 2)) mh.length (.and (.cmp .gt (.bi .len [(.var 2)]) (.c (.int (0)))) (.cmp .eq (.call it [(.var 0), (.ite (.cmp .gt (.var 3) (.c (.int (1)))) (.c (.int (3))) (.c (.int (2))))]) (.c (.int (0))))) (mEnv l ps names M none none none) mh = some (.bl b, mh1) ∧ St l n mh1 ∧ (b = true → names ≠ []) := by
    by_cases hn0 : names = []
    · refine ⟨false, mh, ?_, S, fun h => by cases h⟩
      subst hn0
      simp [mEnv, ev, evs, biV, one1, lenV, getL, cmpV, ordV]
    · have hnl0 : 0 < names.length := List.length_pos_iff.mpr hn0
      obtain ⟨r, mh1, e1, S1, r0, _, _⟩ := take_ok hT (k + 1) S (if 1 < M then 3 else 2) (by split <;> omega)
      refine ⟨decide (r = 0), mh1, ?_, S1, fun _ => hn0⟩
      by_cases h : 1 < M
      · rw [if_pos h] at e1
        have e1 : callM T (k + 2) it [.loc l, .int 3] mh = _ := e1
        simp [mEnv, ev, evs, biV, one1, lenV, getL, cmpV, ordV, hnl0, h, e1, eqV_int]
      · rw [if_neg h] at e1
        have e1 : callM T (k + 2) it [.loc l, .int 2] mh = _ := e1
        simp [mEnv, ev, evs, biV, one1, lenV, getL, cmpV, ordV, hnl0, h, e1, eqV_int]
  obtain ⟨bb, mh1, c1, S1, hbn⟩ := hc1
  cases bb with
  | true =>
    obtain ⟨y, mh2, hy, e2, S2⟩ := pick_ok hT hPk k S1 names (hbn rfl) (by omega) hnd
    obtain ⟨s, rfl, hs⟩ := hng y hy
    refine ⟨.str s, mEnv l ps names M none none none, mh2, ?_, S2, ⟨hs, by simp only [cnt]; omega, by simp only [dep]; omega, dats_iff.mp hnd _ hy⟩⟩
    rw [termD, exs]
    simp only [ex, c1]
    simp [exs, ex, ev, evs, mEnv, e2]
  | false =>
    -- a pair is drawn
    let P : MV → Bool := fun p => decide (1 < M) || isZ p
    have hg : ev (callM T (k + 2)) mh.length (.comp (.nm 7) [7] (.var 1) (.or (.cmp .gt (.var 3) (.c (.int (1)))) (.cmp .eq (.sub (.var 7) (.c (.int (1)))) (.c (.int (0))))) (.var 7)) (mEnv l ps names M none none none) mh1 = some (.lst (ps.filter P), mh1) := by
      have ei : evI (callM T (k + 2)) mh.length (.var 1) (mEnv l ps names M none none none) mh1 = some (⟨ps, none⟩, mh1) := by simp [evI, ev, itsOf, mEnv]
      have hz : ps.length ≤ line := by have := hps.l4; unfold line; omega
      rw [ev_compq, ei]
      simp only [hz, if_true]
      rw [compGo_pure rfl (g := fun p => if P p = true then some p else none)]
      · simp only
        rw [fm_filter]
      · intro p hp
        obtain ⟨s, i, rfl, hi, _⟩ := hps.each p hp
        by_cases h : 1 < M
        · simp [compF, asg, wipeE, ev, mEnv, cmpV, ordV, h, P]
        · by_cases hi0 : (i : Int) = 0
          · simp [compF, asg, wipeE, ev, mEnv, cmpV, ordV, h, P, subV, atI1, eqV_int, isZ, hi0]
          · have hi0' : ¬ (i = 0) := by omega
            simp [compF, asg, wipeE, ev, mEnv, cmpV, ordV, h, P, subV, atI1, eqV_int, isZ, hi0, hi0']
    have hne : ps.filter P ≠ [] := by
      have hz := hps.zero
      intro z
      apply hz
      rw [List.filter_eq_nil_iff] at z ⊢
      intro p hp q
      exact z p hp (by
        have : isZ p = true := q
        simp [P, this])
    have hfl : (ps.filter P).length ≤ 1000 := Nat.le_trans (List.length_filter_le _ _) (by have := hps.l4; omega)
    have hfd : dats (ps.filter P) = true := dats_iff.mpr fun x hx => dats_iff.mp hps.dat x ((List.mem_filter.mp hx).1)
    obtain ⟨y, mh2, hy, e2, S2⟩ := pick_ok hT hPk k S1 (ps.filter P) hne (by omega) hfd
    have hyp := (List.mem_filter.mp hy).1
    obtain ⟨s, i, rfl, hi, hds⟩ := hps.each y hyp
    have hi1 : ¬ 1 < M → i = 0 := fun h => by
      have := (List.mem_filter.mp hy).2
      simp [P, h, isZ] at this
      exact this
    -- the parts
    have hpart : ∃ ys mh3, ev (callM T (k + 2)) mh.length (.comp (.nm 8) [8] (.rng1 (.var 6)) (.c (.bl true)) (.call im [(.var 0), (.var 1), (.var 2), (.bin .sub (.var 3) (.c (.int (1))))])) (mEnv l ps names M (some (.lst (ps.filter P))) (some (.str s)) (some (.int i))) mh2 = some (.lst ys, mh3) ∧ St l n mh3 ∧ ys.length = i ∧ ∀ y ∈ ys, DrawnG P0 b e y := by
      have ei : evI (callM T (k + 2)) mh.length (.rng1 (.var 6)) (mEnv l ps names M (some (.lst (ps.filter P))) (some (.str s)) (some (.int i))) mh2 = some (⟨(List.range i).map fun (k : Nat) => .int (k : Int), none⟩, mh2) := by
        have b1 : (-4611686018427387904 : Int) ≤ i := by omega
        have b2 : (i : Int) < 4611686018427387904 := by omega
        simp [evI, ev, mEnv, b1, b2]
      obtain ⟨ys, mh3, q1, q2, q3, q4⟩ := compGo_st (J := ⟨(List.range i).map fun (k : Nat) => MV.int (k : Int), none⟩) rfl (f := compF (callM T (k + 2)) mh.length (.nm 8) [8] (.c (.bl true)) (.call im [(.var 0), (.var 1), (.var 2), (.bin .sub (.var 3) (.c (.int (1))))]) (mEnv l ps names M (some (.lst (ps.filter P))) (some (.str s)) (some (.int i)))) (P := St l n) (R := DrawnG P0 b e) (xs := (List.range i).map fun (k : Nat) => MV.int (k : Int)) S2 (fun x hx m1 Sm => by
        obtain ⟨j, hj, rfl⟩ := List.mem_map.mp hx
        have hj' := List.mem_range.mp hj
        have h1 : 1 < M := Classical.byContradiction fun z => by have := hi1 z; omega
        obtain ⟨t, m2, t1, t2, t3⟩ := rec h1 m1 Sm
        refine ⟨t, m2, ?_, t2, t3⟩
        simp [compF, asg, wipeE, ev, evs, mEnv, binV, intV, t1])
      refine ⟨ys, mh3, ?_, q2, by simpa using q3, q4⟩
      rw [ev_compq, ei]
      have hz : i ≤ line := by unfold line; omega
      simp only [List.length_map, List.length_range, hz, if_true, q1]
    obtain ⟨ys, mh3, e3, S3, hl, hy3⟩ := hpart
    have hdd : dats ys = true := dats_iff.mpr fun x hx => (hy3 x hx).dat
    have hcc : cnts ys ≤ i * b := by rw [← hl]; exact cnts_le fun x hx => (hy3 x hx).cnt
    have hib : i * b ≤ 3 * b := Nat.mul_le_mul_right b hi
    refine ⟨.tup (.str s :: ys), mEnv l ps names M (some (.lst (ps.filter P))) (some (.str s)) (some (.int i)), mh3, ?_, S3, ⟨?_, ?_, ?_, ?_⟩⟩
    · have hz : 1 ≤ line := by unfold line; omega
      have hz2 : 1 + ys.length ≤ line := by unfold line; omega
      rw [termD, exs]
      simp only [ex, c1, exs, hg]
      simp only [asg, mEnv, List.length_cons, List.length_nil, List.set, Nat.reduceAdd, Nat.reduceLT, if_true]
      simp only [mEnv] at e3
      simp [ev, evs, e2, asg, asgs, e3, exs, ex, hz, biV, one1, tupV, getL, binV, addV, hz2]
    · exact hP0 s i ys hyp hl fun y hy => (hy3 y hy).good
    · simp only [cnt, cntT]; omega
    · have := deps_le fun x hx => (hy3 x hx).dep
      simp only [dep, deps]
      omega
    · unfold dat dats; rw [hds, hdd]; rfl
theorem term_ok {T : List Df} {it ip im : Nat} (hT : T[it]? = some takeD) (hPk : T[ip]? = some (pickD it)) (hM : T[im]? = some (termD it ip im)) {P0 : MV → Prop} {l n : Nat} {ps : List MV} (hps : TokG ps) (hP0 : ∀ s (i : Nat) ys, pr s i ∈ ps → ys.length = i → (∀ y ∈ ys, P0 y) → P0 (.tup (.str s :: ys))) {names : List MV} (hnl : names.length ≤ 1000) (hnd : dats names = true) (hng : ∀ x ∈ names, ∃ s, x = .str s ∧ P0 (.str s)) :
    ∀ (m k : Nat) {mh : MHp}, St l n mh → ∃ t mh', callM T (k + m + 3) im [.loc l, .tup ps, .lst names, .int ((m + 1 : Nat) : Int)] mh = some (t, mh') ∧ St l n mh' ∧ DrawnG P0 (bnd m) (m + 1) t := by
  intro m
  induction m with
  | zero =>
    intro k mh S
    obtain ⟨t, ρ, mh', e, S', d⟩ := term_bodyG hT hPk hps hP0 hnl hnd hng (k := k) (M := ((0 + 1 : Nat) : Int)) (b := 0) (e := 0) (mh := mh) (by omega) S (fun h => by exfalso; omega)
    refine ⟨t, mh', ?_, S', d⟩
    rw [callM_eq hM]
    exact run_of' rfl rfl e rfl d.dat (by rw [S'.1, S.1])
  | succ m ih =>
    intro k mh S
    obtain ⟨t, ρ, mh', e, S', d⟩ := term_bodyG hT hPk hps hP0 hnl hnd hng (k := k + m + 1) (M := ((m + 1 + 1 : Nat) : Int)) (b := bnd m) (e := m + 1) (mh := mh) (by omega) S (fun h mh1 S1 => by
      obtain ⟨t, mh2, q, r⟩ := ih k S1
      have e2 : ((m + 1 + 1 : Nat) : Int) - 1 = ((m + 1 : Nat) : Int) := by omega
      rw [e2]
      exact ⟨t, mh2, q, r⟩)
    refine ⟨t, mh', ?_, S', d⟩
    rw [show k + (m + 1) + 3 = (k + m + 1 + 2) + 1 by omega, callM_eq hM]
    exact run_of' rfl rfl e rfl d.dat (by rw [S'.1, S.1])
end L2.Mi

set_option Elab.async false
set_option linter.all false
set_option maxRecDepth 100000
set_option maxHeartbeats 4000000
/-! Ev5: terms, positions, parts put, for any table (bounded by depth). -/
namespace L2.Mi
open PySem PySem.Spec PyProof.Rows
def isS : MV → Bool
  | .str _ => true
  | _ => false
mutual
/-- a term: a text, or a tuple of a text and terms -/
def tm : MV → Bool
  | .str _ => true
  | .tup xs => tmT xs
  | _ => false
def tmT : List MV → Bool
  | [] => false
  | h :: xs => isS h && tms xs
def tms : List MV → Bool
  | [] => true
  | x :: xs => tm x && tms xs
end
theorem tms_iff : ∀ {xs : List MV}, tms xs = true ↔ ∀ x ∈ xs, tm x = true
  | [] => by simp [tms]
  | x :: xs => by simp [tms, tms_iff (xs := xs)]
/-- a term is a text, or a tuple of a text and terms -/
theorem tm_cases {t : MV} (h : tm t = true) (hd : dat t = true) : (∃ s, t = .str s) ∨ ∃ s xs, t = .tup (.str s :: xs) ∧ dat (.str s) = true ∧ (∀ x ∈ xs, tm x = true ∧ dat x = true) := by
  cases t with
  | str s => exact .inl ⟨s, rfl⟩
  | tup ys =>
    cases ys with
    | nil => simp [tm, tmT] at h
    | cons y xs =>
      simp only [tm, tmT, Bool.and_eq_true] at h
      cases y with
      | str s =>
        have hds : dats (.str s :: xs) = true := by unfold dat at hd; exact hd
        exact .inr ⟨s, xs, rfl, dats_iff.mp hds _ (by simp), fun x hx => ⟨tms_iff.mp h.2 x hx, dats_iff.mp hds x (List.mem_cons_of_mem _ hx)⟩⟩
      | _ => simp [isS] at h
  | _ => simp [tm] at h
theorem cnt_le {x : MV} {xs : List MV} (h : x ∈ xs) : cnt x ≤ cnts xs := by
  induction xs with
  | nil => simp at h
  | cons y xs ih =>
    simp only [cnts]
    rcases List.mem_cons.mp h with rfl | h
    · omega
    · have := ih h; omega
theorem ints_map {mh : MHp} (ns : List Int) : intsM mh (.lst (ns.map .int)) = some ns := by
  unfold intsM
  show (ns.map MV.int).mapM intOf = some ns
  induction ns with
  | nil => rfl
  | cons n ns ih => rw [List.map_cons, List.mapM_cons, ih]; rfl
theorem ints_map2 {mh : MHp} {α : Type} (xs : List α) (g : α → Int) : intsM mh (.lst (xs.map (MV.int ∘ g))) = some (xs.map g) := by
  have := ints_map (mh := mh) (xs.map g)
  rw [List.map_map] at this
  exact this
theorem cut1 (h : MV) (xs : List MV) : cut (h :: xs) (some 1) none = xs := by
  have := cut_drop (xs := h :: xs) (k := 1)
  simpa using this
/-- the part at a position -/
def atF : MV → List Int → Option MV
  | t, [] => some t
  | .tup xs, i :: is => (idx xs i).bind fun x => atF x is
  | _, _ :: _ => none
theorem atF_dat : ∀ (is : List Int) (t r : MV), dat t = true → atF t is = some r → dat r = true
  | [], t, r, h, e => by simp only [atF] at e; cases e; exact h
  | i :: is, t, r, h, e => by
    cases t with
    | tup xs =>
      simp only [atF, Option.bind_eq_some_iff] at e
      obtain ⟨x, e1, e2⟩ := e
      have hx : x ∈ xs := by
        unfold idx L2.atI at e1
        obtain ⟨j, _, e3⟩ := Option.bind_eq_some_iff.mp e1
        exact List.mem_of_getElem? e3
      exact atF_dat is x r (dats_iff.mp (by unfold dat at h; exact h) x hx) e2
    | _ => simp [atF] at e
abbrev atB : List MS := [(.set (.nm 0) (.sub (.var 0) (.var 2)))]
theorem at_loop {C : CallF} {b : Nat} {p : Option MV} {mh : MHp} {J : Its} (hJ : J.src = none) : ∀ (is : List Int) (t r : MV) (o : Option MV), atF t is = some r →
    ∃ o', forGo J (forF C b (.nm 2) atB) (is.map .int) [some t, p, o] mh = some (.nx, [some r, p, o'], mh)
  | [], t, r, o, e => by simp only [atF] at e; cases e; exact ⟨o, forGo_nil_of hJ⟩
  | i :: is, t, r, o, e => by
    cases t with
    | tup xs =>
      simp only [atF, Option.bind_eq_some_iff] at e
      obtain ⟨x, e1, e2⟩ := e
      have st : forF C b (.nm 2) atB (.int i) [some (.tup xs), p, o] mh = some (.nx, [some x, p, some (.int i)], mh) := by
        simp [forF, asg, exs, ex, ev, subV, e1]
      rw [List.map_cons, forGo_cons_of hJ, st]
      exact at_loop hJ is x r _ e2
    | _ => simp [atF] at e
def latD : Df := ⟨2, 3, false, [(.for (.nm 2) (.var 1) atB), (.ret (.var 0))]⟩
theorem at_ok {T : List Df} {f : Nat} (hT : T[f]? = some latD) (k : Nat) {t r : MV} {is : List Int} (mh : MHp) (hd : dat t = true) (e : atF t is = some r) : callM T (k + 1) f [t, .tup (is.map .int)] mh = some (r, mh) := by
  rw [callM_eq hT]
  obtain ⟨o', h⟩ := at_loop (C := callM T k) (b := mh.length) (p := some (.tup (is.map .int))) (mh := mh) (J := ⟨is.map .int, none⟩) rfl is t r none e
  refine run_of' rfl rfl (ρ := [some r, some (.tup (is.map .int)), o']) (fl := .rt r) ?_ rfl (atF_dat is t r hd e) rfl
  have ei : evI (callM T k) mh.length (.var 1) [some t, some (.tup (is.map .int)), none] mh = some (⟨is.map .int, none⟩, mh) := by simp [evI, ev, itsOf]
  show exs (callM T k) mh.length latD.body [some t, some (.tup (is.map .int)), none] mh = _
  rw [latD, exs, ex_for, ei]
  simp only
  rw [h]
  simp [exs, ex, ev]
/-- a position as a value -/
abbrev pV (p : List Int) : MV := .tup (p.map .int)
mutual
/-- the positions of a term -/
def pls : MV → List (List Int)
  | .tup xs => [] :: plsT xs
  | _ => [[]]
def plsT : List MV → List (List Int)
  | [] => []
  | _ :: xs => plsL 1 xs
def plsL : Nat → List MV → List (List Int)
  | _, [] => []
  | k, x :: xs => (pls x).map (fun p => (k : Int) :: p) ++ plsL (k + 1) xs
end
mutual
theorem pls_len : ∀ t, (pls t).length = cnt t
  | .tup [] => by simp [pls, plsT, cnt, cntT]
  | .tup (_ :: xs) => by
    have := plsL_len 1 xs
    simp only [pls, plsT, cnt, cntT, List.length_cons]
    omega
  | .str _ => by simp [pls, cnt]
  | .non => by simp [pls, cnt]
  | .bl _ => by simp [pls, cnt]
  | .int _ => by simp [pls, cnt]
  | .fn _ => by simp [pls, cnt]
  | .lst _ => by simp [pls, cnt]
  | .loc _ => by simp [pls, cnt]
  | .dct _ _ => by simp [pls, cnt]
  | .scr _ => by simp [pls, cnt]
theorem plsL_len : ∀ (k : Nat) (xs : List MV), (plsL k xs).length = cnts xs
  | k, [] => by simp [plsL, cnts]
  | k, x :: xs => by
    have h1 := pls_len x
    have h2 := plsL_len (k + 1) xs
    simp only [plsL, cnts, List.length_append, List.length_map]
    omega
end
theorem mem_plsL : ∀ {xs : List MV} {k : Nat} {q : List Int}, q ∈ plsL k xs ↔ ∃ (j : Nat) (x : MV) (p : List Int), xs[j]? = some x ∧ q = ((k + j : Nat) : Int) :: p ∧ p ∈ pls x
  | [], k, q => by simp [plsL]
  | x :: xs, k, q => by
    simp only [plsL, List.mem_append, List.mem_map]
    rw [mem_plsL (xs := xs)]
    constructor
    · rintro (⟨p, hp, rfl⟩ | ⟨j, y, p, h1, h2, h3⟩)
      · exact ⟨0, x, p, rfl, rfl, hp⟩
      · exact ⟨j + 1, y, p, by simpa using h1, by rw [h2]; congr 2; omega, h3⟩
    · rintro ⟨j, y, p, h1, h2, h3⟩
      cases j with
      | zero =>
        simp at h1
        subst h1
        exact .inl ⟨p, h3, h2.symm⟩
      | succ j => exact .inr ⟨j, y, p, by simpa using h1, by rw [h2]; congr 2; omega, h3⟩
theorem nil_pls (t : MV) : [] ∈ pls t := by
  cases t <;> simp [pls]
theorem head_pls (t : MV) : (pls t).head? = some [] := by
  cases t <;> simp [pls]
/-- a position that is not the top -/
theorem cons_pls {t : MV} {i : Int} {p : List Int} : i :: p ∈ pls t ↔ ∃ (h : MV) (xs : List MV) (j : Nat) (x : MV), t = .tup (h :: xs) ∧ i = ((1 + j : Nat) : Int) ∧ xs[j]? = some x ∧ p ∈ pls x := by
  cases t with
  | tup ys =>
    cases ys with
    | nil => simp [pls, plsT]
    | cons h xs =>
      simp only [pls, plsT, List.mem_cons]
      rw [mem_plsL]
      constructor
      · rintro (h | ⟨j, x, q, h1, h2, h3⟩)
        · simp at h
        · simp only [List.cons.injEq] at h2
          obtain ⟨h2, h4⟩ := h2
          subst h4
          exact ⟨h, xs, j, x, rfl, h2, h1, h3⟩
      · rintro ⟨h', xs', j, x, e, h2, h1, h3⟩
        simp only [MV.tup.injEq, List.cons.injEq] at e
        obtain ⟨e1, e2⟩ := e
        subst e1 e2
        exact .inr ⟨j, x, p, h1, by rw [h2], h3⟩
  | _ => simp [pls]
theorem get_cons1 {h : MV} {xs : List MV} {j : Nat} {x : MV} (e : xs[j]? = some x) : (h :: xs)[1 + j]? = some x := by
  rw [Nat.add_comm]; simpa using e
theorem pls_at : ∀ (p : List Int) (t : MV), p ∈ pls t → ∃ r, atF t p = some r
  | [], t, _ => ⟨t, by cases t <;> rfl⟩
  | i :: p, t, h => by
    obtain ⟨hd, xs, j, x, rfl, rfl, h1, h2⟩ := cons_pls.mp h
    obtain ⟨r, e⟩ := pls_at p x h2
    refine ⟨r, ?_⟩
    simp only [atF]
    rw [idx_nat (get_cons1 h1)]
    exact e
theorem cnt_get {xs : List MV} {j : Nat} {x : MV} (e : xs[j]? = some x) : cnt x ≤ cnts xs := cnt_le (List.mem_of_getElem? e)
theorem pls_plen : ∀ (p : List Int) (t : MV), p ∈ pls t → p.length < cnt t
  | [], t, _ => by have := cnt_pos t; simp; omega
  | i :: p, t, h => by
    obtain ⟨hd, xs, j, x, rfl, rfl, h1, h2⟩ := cons_pls.mp h
    have := pls_plen p x h2
    have := cnt_get h1
    simp only [List.length_cons, cnt, cntT]
    omega
mutual
theorem pls_ord : ∀ t, (pls t).Pairwise fun a b => HT.lexLt b a = false
  | .tup [] => by simp [pls, plsT]
  | .tup (_ :: xs) => by
    simp only [pls, plsT]
    refine List.pairwise_cons.mpr ⟨fun b _ => ?_, plsL_ord 1 xs⟩
    cases b <;> simp [HT.lexLt]
  | .str _ => by simp [pls]
  | .non => by simp [pls]
  | .bl _ => by simp [pls]
  | .int _ => by simp [pls]
  | .fn _ => by simp [pls]
  | .lst _ => by simp [pls]
  | .loc _ => by simp [pls]
  | .dct _ _ => by simp [pls]
  | .scr _ => by simp [pls]
theorem plsL_ord : ∀ (k : Nat) (xs : List MV), (plsL k xs).Pairwise fun a b => HT.lexLt b a = false
  | k, [] => by simp [plsL]
  | k, x :: xs => by
    simp only [plsL]
    refine List.pairwise_append.mpr ⟨?_, plsL_ord (k + 1) xs, ?_⟩
    · rw [List.pairwise_map]
      exact (pls_ord x).imp fun {a b} h => by simp [HT.lexLt, h]
    · intro a ha b hb
      obtain ⟨p, _, rfl⟩ := List.mem_map.mp ha
      obtain ⟨j, y, q, _, rfl, _⟩ := mem_plsL.mp hb
      have h1 : ¬ (((k + 1 + j : Nat) : Int) < (k : Int)) := by omega
      have h2 : ¬ (((k + 1 + j : Nat) : Int) = (k : Int)) := by omega
      rw [HT.lexLt_cons, if_neg h2]
      exact decide_eq_false h1
end
theorem pV_dat (p : List Int) : dat (pV p) = true := by
  unfold dat
  exact dats_iff.mpr fun x hx => by obtain ⟨i, _, rfl⟩ := List.mem_map.mp hx; rfl
theorem pV_dats (ps : List (List Int)) : dats (ps.map pV) = true := dats_iff.mpr fun x hx => by
  obtain ⟨p, _, rfl⟩ := List.mem_map.mp hx
  exact pV_dat p
/-- the whole numbers from k on -/
def upto : Nat → Nat → List MV
  | _, 0 => []
  | k, n + 1 => .int (k : Int) :: upto (k + 1) n
theorem upto_eq : ∀ (n k : Nat), (List.range n).map (fun (j : Nat) => MV.int ((k : Int) + (j : Int))) = upto k n
  | 0, k => rfl
  | n + 1, k => by
    have e : (List.range n).map (fun (j : Nat) => MV.int ((k : Int) + ((j + 1 : Nat) : Int))) = (List.range n).map fun (j : Nat) => MV.int (((k + 1 : Nat) : Int) + (j : Int)) := List.map_congr_left fun j _ => by
      rw [show (k : Int) + ((j + 1 : Nat) : Int) = ((k + 1 : Nat) : Int) + (j : Int) by omega]
    have h0 : MV.int ((k : Int) + ((0 : Nat) : Int)) = MV.int (k : Int) := by simp
    rw [List.range_succ_eq_map, List.map_cons, List.map_map, upto, ← upto_eq n (k + 1), ← e, h0]
    rfl
/-- the positions of one part, with its number ahead -/
theorem pos_comp {C : CallF} {b k : Nat} {e : ME} {x : MV} {ρ : Env} {mh : MHp} (hρ : ρ.length = 4) (h2 : ρ[2]? = some (some (.int (k : Int)))) (hc : ev C b e ρ mh = some (.lst ((pls x).map pV), mh)) (hI : evI C b e ρ mh = some (⟨(pls x).map pV, none⟩, mh)) (hl : cnt x ≤ 4000000) :
    ev C b (.comp (.nm 3) [3] e (.c (.bl true)) (.bin .add (.tup [(.var 2)]) (.var 3))) ρ mh = some (.lst (((pls x).map fun p => (k : Int) :: p).map pV), mh) := by
  have hz : ((pls x).map pV).length ≤ line := by rw [List.length_map, pls_len]; unfold line; omega
  rw [ev_compq, hI]
  simp only [hz, if_true]
  rw [compGo_pure rfl (g := fun v => match v with | .tup ps => some (.tup (.int (k : Int) :: ps)) | _ => none)]
  · simp only
    congr 3
    rw [List.filterMap_map, List.map_map, ← List.filterMap_eq_map]
    rfl
  · intro v hv
    obtain ⟨p, hp, rfl⟩ := List.mem_map.mp hv
    have hpl := pls_plen p x hp
    have z1 : 1 ≤ line := by unfold line; omega
    have z2 : 1 + p.length ≤ line := by unfold line; omega
    obtain ⟨a, b, c, d, rfl⟩ : ∃ a b c d, ρ = [a, b, c, d] := by
      match ρ, hρ with
      | [a, b, c, d], _ => exact ⟨a, b, c, d, rfl⟩
    simp at h2
    subst h2
    simp [compF, asg, wipeE, ev, evs, z1, binV, addV, z2]
abbrev plBody (f : Nat) : List MS := [(.set (.nm 1) (.bin .add (.var 1) (.comp (.nm 3) [3] (.call f [(.sub (.var 0) (.var 2))]) (.c (.bl true)) (.bin .add (.tup [(.var 2)]) (.var 3)))))]
theorem pl_loop {C : CallF} {b f : Nat} {all : List MV} {mh : MHp} {J : Its} (hJ : J.src = none) : ∀ (xs : List MV) (k : Nat) (acc : List (List Int)) (o : Option MV), all.drop k = xs → (∀ x ∈ xs, C f [x] mh = some (.lst ((pls x).map pV), mh)) → acc.length + cnts xs ≤ 8000000 → cnts xs ≤ 4000000 →
    ∃ o', forGo J (forF C b (.nm 2) (plBody f)) (upto k xs.length) [some (.tup all), some (.lst (acc.map pV)), o, none] mh = some (.nx, [some (.tup all), some (.lst ((acc ++ plsL k xs).map pV)), o', none], mh)
  | [], k, acc, o, _, _, _, _ => ⟨o, by simp only [plsL, List.append_nil]; exact forGo_nil_of hJ⟩
  | x :: xs, k, acc, o, hd, hC, hl, hl2 => by
    have hk : all[k]? = some x := by
      have := congrArg (·[0]?) hd
      simpa using this
    have hd' : all.drop (k + 1) = xs := by
      have := congrArg (·.drop 1) hd
      simpa using this
    simp only [cnts] at hl hl2
    have hc := hC x (by simp)
    have v1 : ev C b (.call f [(.sub (.var 0) (.var 2))]) [some (.tup all), some (.lst (acc.map pV)), some (.int (k : Int)), none] mh = some (.lst ((pls x).map pV), mh) := by
      simp [ev, evs, subV, idx_nat hk, hc]
    have v2 : evI C b (.call f [(.sub (.var 0) (.var 2))]) [some (.tup all), some (.lst (acc.map pV)), some (.int (k : Int)), none] mh = some (⟨(pls x).map pV, none⟩, mh) := by
      simp [evI, ev, evs, subV, idx_nat hk, hc, itsOf]
    have hcomp := pos_comp (k := k) (x := x) rfl rfl v1 v2 (by omega)
    obtain ⟨F, hF⟩ : ∃ F, F = (pls x).map fun p => (k : Int) :: p := ⟨_, rfl⟩
    have hFl : F.length = cnt x := by rw [hF, List.length_map, pls_len]
    rw [← hF] at hcomp
    have hz2 : acc.length + F.length ≤ line := by unfold line; omega
    have st : forF C b (.nm 2) (plBody f) (.int (k : Int)) [some (.tup all), some (.lst (acc.map pV)), o, none] mh = some (.nx, [some (.tup all), some (.lst ((acc ++ F).map pV)), some (.int (k : Int)), none], mh) := by
      simp [forF, asg, plBody, exs, ex, ev, ↓hcomp, binV, addV, getL, hz2]
    rw [List.length_cons, upto, forGo_cons_of hJ, st]
    obtain ⟨o', e⟩ := pl_loop hJ xs (k + 1) (acc ++ F) (some (.int (k : Int))) hd' (fun y hy => hC y (List.mem_cons_of_mem _ hy)) (by rw [List.length_append]; omega) (by omega)
    refine ⟨o', ?_⟩
    simp only [plsL]
    rw [← hF, ← List.append_assoc]
    exact e
def lplacesD (f : Nat) : Df := ⟨1, 4, false, [(.ite (.isi (.var 0) .str) [(.ret (.lst [(.tup [])]))] []), (.set (.nm 1) (.lst [(.tup [])])), (.for (.nm 2) (.rng2 (.c (.int (1))) (.bi .len [(.var 0)])) (plBody f)), (.ret (.var 1))]⟩
theorem dep_mem {h x : MV} {xs : List MV} (hx : x ∈ xs) : dep x + 1 ≤ dep (.tup (h :: xs)) := by
  have : dep x ≤ deps xs := by
    clear h
    induction xs with
    | nil => simp at hx
    | cons y xs ih =>
      simp only [deps]
      rcases List.mem_cons.mp hx with rfl | hx
      · omega
      · have := ih hx; omega
  simp only [dep, deps]
  omega
theorem places_ok {T : List Df} {f : Nat} (hT : T[f]? = some (lplacesD f)) : ∀ (D k : Nat) (t : MV) (mh : MHp), dep t ≤ D → cnt t ≤ 4000000 → tm t = true → dat t = true → callM T (k + D + 1) f [t] mh = some (.lst ((pls t).map pV), mh) := by
  intro D
  induction D with
  | zero =>
    intro k t mh hD hN ht hd
    rw [callM_eq hT]
    have z1 : 1 ≤ line := by unfold line; omega
    have z0 : 0 ≤ line := by unfold line; omega
    have hdv : dat (.lst ((pls t).map pV)) = true := by unfold dat; exact pV_dats _
    rcases tm_cases ht hd with ⟨s, rfl⟩ | ⟨s, xs, rfl, hds, hx⟩
    · refine run_of' rfl rfl (ρ := [some (.str s), none, none, none]) (fl := .rt (.lst ((pls (.str s)).map pV))) ?_ rfl hdv rfl
      simp [lplacesD, exs, ex, ev, evs, isTy, pls, z1, z0]
    · simp [dep] at hD
  | succ D ih =>
    intro k t mh hD hN ht hd
    rw [show k + (D + 1) + 1 = (k + D + 1) + 1 by omega, callM_eq hT]
    have z1 : 1 ≤ line := by unfold line; omega
    have z0 : 0 ≤ line := by unfold line; omega
    have hdv : dat (.lst ((pls t).map pV)) = true := by unfold dat; exact pV_dats _
    rcases tm_cases ht hd with ⟨s, rfl⟩ | ⟨s, xs, rfl, hds, hx⟩
    · refine run_of' rfl rfl (ρ := [some (.str s), none, none, none]) (fl := .rt (.lst ((pls (.str s)).map pV))) ?_ rfl hdv rfl
      simp [lplacesD, exs, ex, ev, evs, isTy, pls, z1, z0]
    · have hN' := hN
      simp only [cnt, cntT] at hN
      have hlx := len_cnts xs
      obtain ⟨o', e⟩ := pl_loop (C := callM T (k + D + 1)) (b := mh.length) (f := f) (all := .str s :: xs) (mh := mh) (J := ⟨upto 1 xs.length, none⟩) rfl xs 1 [[]] none rfl (fun x hxm => ih k x mh (by have := dep_mem (h := .str s) hxm; omega) (by have := cnt_le hxm; omega) (hx x hxm).1 (hx x hxm).2) (by simp; omega) (by omega)
      have e' : forGo ⟨upto 1 xs.length, none⟩ (forF (callM T (k + D + 1)) mh.length (.nm 2) (plBody f)) (upto 1 xs.length) [some (.tup (.str s :: xs)), some (.lst [.tup []]), none, none] mh = _ := e
      refine run_of' rfl rfl (ρ := [some (.tup (.str s :: xs)), some (.lst ((pls (.tup (.str s :: xs))).map pV)), o', none]) (fl := .rt (.lst ((pls (.tup (.str s :: xs))).map pV))) ?_ rfl hdv rfl
      have ei : evI (callM T (k + D + 1)) mh.length (.rng2 (.c (.int (1))) (.bi .len [(.var 0)])) [some (.tup (.str s :: xs)), some (.lst [.tup []]), none, none] mh = some (⟨upto 1 xs.length, none⟩, mh) := by
        have u := upto_eq xs.length 1
        have b2 : (xs.length : Int) + 1 < 4611686018427387904 := by omega
        have b3 : (-4611686018427387904 : Int) ≤ (xs.length : Int) + 1 := by omega
        simp only [Int.natCast_one] at u
        simp [evI, ev, evs, biV, one1, lenV, b2, b3, u]
      have s1 : ex (callM T (k + D + 1)) mh.length (.ite (.isi (.var 0) .str) [(.ret (.lst [(.tup [])]))] []) [some (.tup (.str s :: xs)), none, none, none] mh = some (.nx, [some (.tup (.str s :: xs)), none, none, none], mh) := by
        simp [ex, exs, ev, evs, isTy]
      have s2 : ex (callM T (k + D + 1)) mh.length (.set (.nm 1) (.lst [(.tup [])])) [some (.tup (.str s :: xs)), none, none, none] mh = some (.nx, [some (.tup (.str s :: xs)), some (.lst [.tup []]), none, none], mh) := by
        simp [ex, ev, evs, asg, z0, z1]
      show exs (callM T (k + D + 1)) mh.length (lplacesD f).body [some (.tup (.str s :: xs)), none, none, none] mh = _
      rw [lplacesD, exs, s1]
      simp only
      rw [exs, s2]
      simp only
      rw [exs, ex_for, ei]
      simp only
      rw [e']
      simp only [exs, ex, ev]
      simp [pls, plsT]
/-- the def that puts, calling itself by its number -/
def putD (f : Nat) : Df := ⟨3, 4, false, [(.ite (.cmp .eq (.bi .len [(.var 1)]) (.c (.int (0)))) [(.ret (.var 2))] []), (.set (.nm 3) (.sub (.var 1) (.c (.int (0))))), (.ret (.bin .add (.bin .add (.slcH (.var 0) (.var 3)) (.tup [(.call f [(.sub (.var 0) (.var 3)), (.slcL (.var 1) (.c (.int (1)))), (.var 2)])])) (.slcL (.var 0) (.bin .add (.var 3) (.c (.int (1)))))))]⟩
theorem deps_app (xs ys : List MV) : deps (xs ++ ys) = max (deps xs) (deps ys) := by
  induction xs with
  | nil => simp [deps]
  | cons x xs ih => simp only [List.cons_append, deps, ih]; omega
theorem deps_take (k : Nat) (xs : List MV) : deps (xs.take k) ≤ deps xs := by
  have h := deps_app (xs.take k) (xs.drop k)
  rw [List.take_append_drop] at h
  omega
theorem deps_drop (k : Nat) (xs : List MV) : deps (xs.drop k) ≤ deps xs := by
  have h := deps_app (xs.take k) (xs.drop k)
  rw [List.take_append_drop] at h
  omega
theorem deps_mem {x : MV} {xs : List MV} (h : x ∈ xs) : dep x ≤ deps xs := by
  induction xs with
  | nil => simp at h
  | cons y xs ih =>
    simp only [deps]
    rcases List.mem_cons.mp h with rfl | h
    · omega
    · have := ih h; omega
theorem dats_take {k : Nat} {xs : List MV} (h : dats xs = true) : dats (xs.take k) = true := dats_iff.mpr fun x hx => dats_iff.mp h x (List.mem_of_mem_take hx)
theorem dats_drop {k : Nat} {xs : List MV} (h : dats xs = true) : dats (xs.drop k) = true := dats_iff.mpr fun x hx => dats_iff.mp h x (List.mem_of_mem_drop hx)
/-! terms whose signs have their numbers of places -/
mutual
def tmA (ar : Sx → Option Nat) : MV → Bool
  | .str _ => true
  | .tup xs => tmAT ar xs
  | _ => false
def tmAT (ar : Sx → Option Nat) : List MV → Bool
  | [] => false
  | h :: xs => (match h with
    | .str s => decide (ar s = some xs.length)
    | _ => false) && tmAs ar xs
def tmAs (ar : Sx → Option Nat) : List MV → Bool
  | [] => true
  | x :: xs => tmA ar x && tmAs ar xs
end
theorem tmAs_iff {ar : Sx → Option Nat} : ∀ {xs : List MV}, tmAs ar xs = true ↔ ∀ x ∈ xs, tmA ar x = true
  | [] => by simp [tmAs]
  | x :: xs => by simp [tmAs, tmAs_iff (xs := xs)]
mutual
theorem tmA_tm {ar : Sx → Option Nat} : ∀ t, tmA ar t = true → tm t = true
  | .str _, _ => rfl
  | .tup [], h => by simp [tmA, tmAT] at h
  | .tup (y :: xs), h => by
    simp only [tmA, tmAT, Bool.and_eq_true] at h
    simp only [tm, tmT, Bool.and_eq_true]
    refine ⟨?_, tmAs_tms xs h.2⟩
    cases y with
    | str s => rfl
    | _ => cases h.1
  | .non, h => by simp [tmA] at h
  | .bl _, h => by simp [tmA] at h
  | .int _, h => by simp [tmA] at h
  | .fn _, h => by simp [tmA] at h
  | .lst _, h => by simp [tmA] at h
  | .loc _, h => by simp [tmA] at h
  | .dct _ _, h => by simp [tmA] at h
  | .scr _, h => by simp [tmA] at h
theorem tmAs_tms {ar : Sx → Option Nat} : ∀ xs, tmAs ar xs = true → tms xs = true
  | [], _ => rfl
  | x :: xs, h => by
    simp only [tmAs, Bool.and_eq_true] at h
    simp only [tms, Bool.and_eq_true]
    exact ⟨tmA_tm x h.1, tmAs_tms xs h.2⟩
end
theorem tmA_cases {ar : Sx → Option Nat} {t : MV} (h : tmA ar t = true) (hd : dat t = true) : (∃ s, t = .str s) ∨ ∃ s xs, t = .tup (.str s :: xs) ∧ ar s = some xs.length ∧ dat (.str s) = true ∧ (∀ x ∈ xs, tmA ar x = true ∧ dat x = true) := by
  rcases tm_cases (tmA_tm t h) hd with ⟨s, rfl⟩ | ⟨s, xs, rfl, h1, h2⟩
  · exact .inl ⟨s, rfl⟩
  · simp only [tmA, tmAT, Bool.and_eq_true, decide_eq_true_eq] at h
    exact .inr ⟨s, xs, rfl, h.1, h1, fun x hx => ⟨tmAs_iff.mp h.2 x hx, (h2 x hx).2⟩⟩
theorem tmA_tup {ar : Sx → Option Nat} {s : Sx} {xs : List MV} (h : ar s = some xs.length) (hx : ∀ x ∈ xs, tmA ar x = true) : tmA ar (.tup (.str s :: xs)) = true := by
  simp only [tmA, tmAT, Bool.and_eq_true, decide_eq_true_eq]
  exact ⟨h, tmAs_iff.mpr hx⟩
theorem set_split {h0 u : MV} {xs : List MV} {j : Nat} (hj : j < xs.length) : (h0 :: xs).take (1 + j) ++ [u] ++ (h0 :: xs).drop (1 + j + 1) = h0 :: xs.set j u := by
  rw [List.set_eq_take_append_cons_drop, if_pos hj, Nat.add_comm 1 j]
  simp
theorem cnts_set {u x : MV} : ∀ {xs : List MV} {j : Nat}, xs[j]? = some x → cnts (xs.set j u) + cnt x = cnts xs + cnt u
  | [], j, e => by simp at e
  | y :: xs, 0, e => by simp at e; subst e; simp only [List.set_cons_zero, cnts]; omega
  | y :: xs, j + 1, e => by
    have := cnts_set (u := u) (xs := xs) (j := j) (by simpa using e)
    simp only [List.set_cons_succ, cnts]
    omega
theorem put_ok {T : List Df} {r : MV} (hr : dat r = true) : ∀ (p : List Int) (t : MV), p ∈ pls t → cnt t ≤ 4000000 → dat t = true → ∃ u, dat u = true ∧ dep u ≤ dep t + dep r ∧ ((∀ ar, tmA ar t = true → tmA ar r = true → tmA ar u = true) ∧ cnt u ≤ cnt t + cnt r) ∧ ∀ f, T[f]? = some (putD f) → ∀ (k : Nat) (mh : MHp), callM T (k + p.length + 1) f [t, pV p, r] mh = some (u, mh)
  | [], t, _, _, hd => by
    refine ⟨r, hr, by omega, ⟨fun _ _ h => h, by omega⟩, fun f hf k mh => ?_⟩
    rw [callM_eq hf]
    refine run_of' rfl rfl (ρ := [some t, some (pV []), some r, none]) (fl := .rt r) ?_ rfl hr rfl
    simp [putD, exs, ex, ev, evs, biV, one1, lenV, cmpV, eqV_int]
  | i :: p, t, h, hc, hd => by
    obtain ⟨h0, xs, j, x, rfl, rfl, h1, h2⟩ := cons_pls.mp h
    simp only [cnt, cntT] at hc
    have hg := get_cons1 (h := h0) h1
    have hds : dats (h0 :: xs) = true := by unfold dat at hd; exact hd
    have hxm : x ∈ h0 :: xs := List.mem_of_getElem? hg
    obtain ⟨u, du, pu, ⟨au, cu⟩, hu⟩ := put_ok hr p x h2 (by have := cnt_get h1; omega) (dats_iff.mp hds x hxm)
    have hlx := len_cnts xs
    obtain ⟨A, hA⟩ : ∃ A, A = (h0 :: xs).take (1 + j) := ⟨_, rfl⟩
    obtain ⟨B, hB⟩ : ∃ B, B = (h0 :: xs).drop (1 + j + 1) := ⟨_, rfl⟩
    have dA : dats A = true := by rw [hA]; exact dats_take hds
    have dB : dats B = true := by rw [hB]; exact dats_drop hds
    have lA : A.length ≤ 4000001 := by rw [hA, List.length_take, List.length_cons]; omega
    have lB : B.length ≤ 4000001 := by rw [hB, List.length_drop, List.length_cons]; omega
    have pA := deps_take (1 + j) (h0 :: xs)
    have pB := deps_drop (1 + j + 1) (h0 :: xs)
    have px := deps_mem hxm
    rw [← hA] at pA
    rw [← hB] at pB
    have hsp : A ++ [u] ++ B = h0 :: xs.set j u := by rw [hA, hB]; exact set_split (List.getElem?_eq_some_iff.mp h1).1
    have hcs := cnts_set (u := u) h1
    refine ⟨.tup (A ++ [u] ++ B), ?_, ?_, ⟨fun ar ht hr' => ?_, ?_⟩, fun f hf k mh => ?_⟩
    rotate_left 2
    · rw [hsp]
      rcases tmA_cases ht hd with ⟨s, e⟩ | ⟨s, ys, e, a1, a2, a3⟩
      · cases e
      · cases e
        refine tmA_tup (by rw [List.length_set]; exact a1) fun y hy => ?_
        rcases List.mem_or_eq_of_mem_set hy with hy | rfl
        · exact (a3 y hy).1
        · exact au ar (a3 x (List.mem_of_getElem? h1)).1 hr'
    · rw [hsp]
      simp only [cnt, cntT]
      omega
    rotate_left 1
    · unfold dat
      rw [dats_app, dats_app, dA, dB]
      simp [dats, du]
    · simp only [dep, deps_app, deps]
      simp only [deps] at pA pB px
      omega
    · rw [List.length_cons, show k + (p.length + 1) + 1 = (k + p.length + 1) + 1 by omega, callM_eq hf]
      have hdr : dat (.tup (A ++ [u] ++ B)) = true := by
        unfold dat
        rw [dats_app, dats_app, dA, dB]
        simp [dats, du]
      have hrec := hu f hf k mh
      have c1 : cut (h0 :: xs) none (some ((1 + j : Nat) : Int)) = A := by rw [cut_take, hA]
      have c2 : cut (h0 :: xs) (some (((1 + j : Nat) : Int) + 1)) none = B := by
        have := cut_drop (xs := h0 :: xs) (k := 1 + j + 1)
        rw [show ((1 + j + 1 : Nat) : Int) = ((1 + j : Nat) : Int) + 1 by omega] at this
        rw [this, hB]
      have c3 : cut (MV.int ((1 + j : Nat) : Int) :: p.map MV.int) (some 1) none = p.map MV.int := cut1 _ _
      have c4 := idx_nat hg
      have z1 : A.length + 1 ≤ line := by unfold line; omega
      have z2 : A.length + 1 + B.length ≤ line := by unfold line; omega
      have z3 : 1 ≤ line := by unfold line; omega
      have z4 : ¬ ((p.length : Int) + 1 = 0) := by omega
      have s1 : exs (callM T (k + p.length + 1)) mh.length [(.ite (.cmp .eq (.bi .len [(.var 1)]) (.c (.int (0)))) [(.ret (.var 2))] []), (.set (.nm 3) (.sub (.var 1) (.c (.int (0)))))] [some (.tup (h0 :: xs)), some (pV (((1 + j : Nat) : Int) :: p)), some r, none] mh = some (.nx, [some (.tup (h0 :: xs)), some (pV (((1 + j : Nat) : Int) :: p)), some r, some (.int ((1 + j : Nat) : Int))], mh) := by
        simp [exs, ex, ev, evs, biV, one1, lenV, cmpV, eqV_int, z4, subV, atI0, asg]
      generalize ((1 + j : Nat) : Int) = q at c1 c2 c3 c4 s1 ⊢
      have hrec' : callM T (k + p.length + 1) f [x, .tup (p.map .int), r] mh = some (u, mh) := hrec
      refine run_of' rfl rfl (ρ := [some (.tup (h0 :: xs)), some (pV (q :: p)), some r, some (.int q)]) (fl := .rt (.tup (A ++ [u] ++ B))) ?_ rfl hdr rfl
      show exs (callM T (k + p.length + 1)) mh.length (putD f).body [some (.tup (h0 :: xs)), some (pV (q :: p)), some r, none] mh = _
      rw [putD]
      have s2 : exs (callM T (k + p.length + 1)) mh.length [(.ret (.bin .add (.bin .add (.slcH (.var 0) (.var 3)) (.tup [(.call f [(.sub (.var 0) (.var 3)), (.slcL (.var 1) (.c (.int (1)))), (.var 2)])])) (.slcL (.var 0) (.bin .add (.var 3) (.c (.int (1)))))))] [some (.tup (h0 :: xs)), some (.tup (.int q :: p.map .int)), some r, some (.int q)] mh = some (.rt (.tup (A ++ [u] ++ B)), [some (.tup (h0 :: xs)), some (.tup (.int q :: p.map .int)), some r, some (.int q)], mh) := by
        simp [exs, ex, ev, evs, slcV, subV, c1, c2, c3, c4, hrec', z1, z2, z3, binV, addV]
      rcases exs_cons s1 with ⟨ρ2, mh2, e1, e2⟩ | ⟨_, hn⟩
      · rcases exs_cons e2 with ⟨ρ3, mh3, e3, e4⟩ | ⟨_, hn⟩
        · simp only [exs] at e4
          cases e4
          rw [exs, e1]
          simp only
          rw [exs, e3]
          exact s2
        · exact absurd rfl hn
      · exact absurd rfl hn
end L2.Mi

set_option Elab.async false
set_option linter.all false
set_option maxRecDepth 100000
set_option maxHeartbeats 4000000
/-! Ev6: values with dicts; dicts as lists of pairs; == of terms. -/
namespace L2.Mi
open PySem PySem.Spec PyProof.Rows
mutual
/-- no live object; dicts may stand within -/
def dat2 : MV → Bool
  | .non => true
  | .bl _ => true
  | .int _ => true
  | .str s => dat (.str s)
  | .tup xs => dat2s xs
  | .lst xs => dat2s xs
  | .dct _ vs => dat2s vs
  | .fn _ => false
  | .loc _ => false
  | .scr _ => false
def dat2s : List MV → Bool
  | [] => true
  | x :: xs => dat2 x && dat2s xs
end
mutual
theorem frz_dat2 {n : Nat} {mh : MHp} {k : Nat} : ∀ x : MV, dat2 x = true → frz n mh k x = some x
  | .non, _ => by unfold frz; rfl
  | .bl _, _ => by unfold frz; rfl
  | .int _, _ => by unfold frz; rfl
  | .str _, _ => by unfold frz; rfl
  | .fn _, h => by unfold dat2 at h; cases h
  | .scr _, h => by unfold dat2 at h; cases h
  | .loc _, h => by unfold dat2 at h; cases h
  | .dct ks vs, h => by
    unfold dat2 at h
    unfold frz
    rw [frzs_dat2 vs h]; rfl
  | .tup xs, h => by
    unfold dat2 at h
    unfold frz
    rw [frzs_dat2 xs h]; rfl
  | .lst xs, h => by
    unfold dat2 at h
    unfold frz
    rw [frzs_dat2 xs h]; rfl
theorem frzs_dat2 {n : Nat} {mh : MHp} {k : Nat} : ∀ xs : List MV, dat2s xs = true → frzs n mh k xs = some xs
  | [], _ => by unfold frzs; rfl
  | x :: xs, h => by
    unfold dat2s at h
    rw [Bool.and_eq_true] at h
    unfold frzs
    rw [frz_dat2 x h.1, frzs_dat2 xs h.2]; rfl
end
mutual
theorem dat_dat2 : ∀ x : MV, dat x = true → dat2 x = true
  | .non, _ => rfl
  | .bl _, _ => rfl
  | .int _, _ => rfl
  | .str _, h => by unfold dat2; exact h
  | .fn _, h => by unfold dat at h; cases h
  | .scr _, h => by unfold dat at h; cases h
  | .loc _, h => by unfold dat at h; cases h
  | .dct _ _, h => by unfold dat at h; cases h
  | .tup xs, h => by unfold dat at h; unfold dat2; exact dats_dat2 xs h
  | .lst xs, h => by unfold dat at h; unfold dat2; exact dats_dat2 xs h
theorem dats_dat2 : ∀ xs : List MV, dats xs = true → dat2s xs = true
  | [], _ => rfl
  | x :: xs, h => by
    unfold dats at h
    rw [Bool.and_eq_true] at h
    unfold dat2s
    rw [dat_dat2 x h.1, dats_dat2 xs h.2]; rfl
end
theorem dat2s_iff : ∀ {xs : List MV}, dat2s xs = true ↔ ∀ x ∈ xs, dat2 x = true
  | [] => by simp [dat2s]
  | x :: xs => by simp [dat2s, dat2s_iff (xs := xs)]
theorem run_of2 {C : CallF} {d : Df} {args : List MV} {mh mh1 : MHp} {fl : Fl} {ρ : Env} {v : MV} (hl : args.length = d.np) (hv : d.live = false) (e : exs C mh.length d.body (args.map some ++ List.replicate (d.ns - d.np) none) mh = some (fl, ρ, mh1))
    (he : endV fl = some v) (hd : dat2 v = true) : runD C d args mh = some (v, mh1.take mh.length) := by
  unfold runD
  rw [if_pos hl, e]
  simp only [he, hv]
  rw [frz_dat2 v hd]
  rfl
/-- a value that must be read out -/
theorem run_frz2 {C : CallF} {d : Df} {args : List MV} {mh mh1 : MHp} {fl : Fl} {ρ : Env} {v w : MV} (hl : args.length = d.np) (hv : d.live = false) (e : exs C mh.length d.body (args.map some ++ List.replicate (d.ns - d.np) none) mh = some (fl, ρ, mh1))
    (he : endV fl = some v) (hf : frz mh.length mh1 8 v = some w) : runD C d args mh = some (w, mh1.take mh.length) := by
  unfold runD
  rw [if_pos hl, e]
  simp only [he, hv]
  rw [hf]
  rfl
/-! ### == of terms -/
theorem tms_of_tm {xs : List MV} (h : tm (.tup xs) = true) : tms xs = true := by
  cases xs with
  | nil => rfl
  | cons y ys =>
    simp only [tm, tmT, Bool.and_eq_true] at h
    simp only [tms, Bool.and_eq_true]
    refine ⟨?_, h.2⟩
    cases y with
    | str s => rfl
    | _ => cases h.1
mutual
theorem eqD_tm : ∀ t u : MV, tm t = true → tm u = true → PyData.eqv (toD t) (toD u) = true → t = u
  | .str a, .str b, _, _, h => by
    unfold toD PyData.eqv at h
    simp at h
    rw [h]
  | .str a, .tup ys, _, _, h => by unfold toD PyData.eqv at h; cases h
  | .tup xs, .str b, _, _, h => by unfold toD PyData.eqv at h; cases h
  | .tup xs, .tup ys, h1, h2, h => by
    unfold toD PyData.eqv at h
    rw [eqDs_tm xs ys (tms_of_tm h1) (tms_of_tm h2) h]
  | .non, _, h, _, _ => by simp [tm] at h
  | .bl _, _, h, _, _ => by simp [tm] at h
  | .int _, _, h, _, _ => by simp [tm] at h
  | .fn _, _, h, _, _ => by simp [tm] at h
  | .lst _, _, h, _, _ => by simp [tm] at h
  | .loc _, _, h, _, _ => by simp [tm] at h
  | .dct _ _, _, h, _, _ => by simp [tm] at h
  | .scr _, _, h, _, _ => by simp [tm] at h
  | _, .non, _, h, _ => by simp [tm] at h
  | _, .bl _, _, h, _ => by simp [tm] at h
  | _, .int _, _, h, _ => by simp [tm] at h
  | _, .fn _, _, h, _ => by simp [tm] at h
  | _, .lst _, _, h, _ => by simp [tm] at h
  | _, .loc _, _, h, _ => by simp [tm] at h
  | _, .dct _ _, _, h, _ => by simp [tm] at h
  | _, .scr _, _, h, _ => by simp [tm] at h
theorem eqDs_tm : ∀ xs ys : List MV, tms xs = true → tms ys = true → PyData.eqvAll (toDs xs) (toDs ys) = true → xs = ys
  | [], [], _, _, _ => rfl
  | [], _ :: _, _, _, h => by unfold toDs PyData.eqvAll at h; cases h
  | _ :: _, [], _, _, h => by unfold toDs PyData.eqvAll at h; cases h
  | x :: xs, y :: ys, h1, h2, h => by
    simp only [tms, Bool.and_eq_true] at h1 h2
    unfold toDs PyData.eqvAll at h
    rw [Bool.and_eq_true] at h
    rw [eqD_tm x y h1.1 h2.1 h.1, eqDs_tm xs ys h1.2 h2.2 h.2]
end
/-- a term with its bounds -/
structure Tm (ar : Sx → Option Nat) (t : MV) : Prop where
  tm : tmA ar t = true
  dat : dat t = true
  dep : dep t ≤ 30
theorem Tm.tm' {ar : Sx → Option Nat} {t : MV} (h : Tm ar t) : L2.Mi.tm t = true := tmA_tm t h.tm
theorem eqV_tm (mh : MHp) {t u : MV} (h1 : tm t = true) (d1 : dat t = true) (p1 : dep t ≤ 60) (h2 : tm u = true) (d2 : dat u = true) (p2 : dep u ≤ 60) : ∃ b, eqV mh t u = some b ∧ (b = true ↔ t = u) := by
  refine ⟨eqD t u, ?_, ?_⟩
  · unfold eqV
    rw [frz_dat t d1, frz_dat u d2]
    simp only [okD_dat d1 (by omega), okD_dat d2 (by omega), and_self, if_true]
  · constructor
    · intro h
      exact eqD_tm t u h1 h2 h
    · rintro rfl
      exact eqD_refl t d1
/-! ### dicts with texts for keys -/
abbrev AL := List (Sx × MV)
def aK (d : AL) : List MKey := d.map fun p => .inr p.1
def aV (d : AL) : List MV := d.map Prod.snd
def look : AL → Sx → Option MV
  | [], _ => none
  | p :: d, s => if p.1 = s then some p.2 else look d s
theorem aK_len (d : AL) : (aK d).length = d.length := by simp [aK]
theorem aV_len (d : AL) : (aV d).length = d.length := by simp [aV]
theorem dLook_al (s : Sx) : ∀ d : AL, dLook (aK d) (aV d) (.inr s) = look d s
  | [] => rfl
  | p :: d => by
    have ih := dLook_al s d
    simp only [aK, aV, List.map_cons, dLook, look] at ih ⊢
    by_cases h : p.1 = s
    · rw [if_pos h, if_pos (by rw [h])]
    · rw [if_neg h, if_neg (by intro z; exact h (Sum.inr.inj z))]
      exact ih
theorem any_al (s : Sx) : ∀ d : AL, ((aK d).any fun k' => decide (k' = .inr s)) = (look d s).isSome
  | [] => rfl
  | p :: d => by
    have ih := any_al s d
    simp only [aK, List.map_cons, List.any_cons, look] at ih ⊢
    rw [ih]
    by_cases h : p.1 = s
    · rw [if_pos h, decide_eq_true (by rw [h])]; rfl
    · rw [if_neg h, decide_eq_false (by intro z; exact h (Sum.inr.inj z))]; rfl
theorem put_new {d : AL} {s : Sx} {t : MV} (h : look d s = none) : dPutK (aK d) (.inr s) = aK (d ++ [(s, t)]) ∧ dPutV (aK d) (aV d) (.inr s) t = aV (d ++ [(s, t)]) := by
  unfold dPutK dPutV
  rw [any_al, h]
  simp [aK, aV]
theorem look_mem {s : Sx} {t : MV} : ∀ {d : AL}, look d s = some t → (s, t) ∈ d
  | [], h => by simp [look] at h
  | p :: d, h => by
    simp only [look] at h
    by_cases e : p.1 = s
    · rw [if_pos e] at h
      cases h
      subst e
      exact List.mem_cons_self
    · rw [if_neg e] at h
      exact List.mem_cons_of_mem _ (look_mem h)
theorem look_of {s : Sx} {t : MV} : ∀ {d : AL}, (d.map Prod.fst).Nodup → (s, t) ∈ d → look d s = some t
  | [], _, h => by simp at h
  | p :: d, hn, h => by
    rw [List.map_cons, List.nodup_cons] at hn
    simp only [look]
    rcases List.mem_cons.mp h with rfl | h
    · rw [if_pos rfl]
    · have : p.1 ≠ s := fun e => hn.1 (by rw [e]; exact List.mem_map.mpr ⟨_, h, rfl⟩)
      rw [if_neg this]
      exact look_of hn.2 h
theorem look_no {s : Sx} : ∀ {d : AL}, look d s = none → s ∉ d.map Prod.fst
  | [], _ => by simp
  | p :: d, h => by
    simp only [look] at h
    by_cases e : p.1 = s
    · rw [if_pos e] at h; cases h
    · rw [if_neg e] at h
      simp only [List.map_cons, List.mem_cons, not_or]
      exact ⟨fun z => e z.symm, look_no h⟩
theorem put_same {s : Sx} {t : MV} : ∀ {d : AL}, look d s = some t → (d.map Prod.fst).Nodup → dPutK (aK d) (.inr s) = aK d ∧ dPutV (aK d) (aV d) (.inr s) t = aV d := by
  intro d h hn
  unfold dPutK dPutV
  rw [any_al, h]
  refine ⟨rfl, ?_⟩
  simp only [Option.isSome_some, if_true]
  have gen : ∀ d : AL, (d.map Prod.fst).Nodup → (∀ p ∈ d, p.1 = s → p.2 = t) → List.zipWith (fun k' m' => if k' = Sum.inr s then t else m') (aK d) (aV d) = aV d := by
    intro d
    induction d with
    | nil => intro _ _; rfl
    | cons p d ih =>
      intro hn hh
      rw [List.map_cons, List.nodup_cons] at hn
      simp only [aK, aV, List.map_cons, List.zipWith_cons_cons]
      congr 1
      · by_cases e : p.1 = s
        · rw [if_pos (by rw [e])]; exact (hh p List.mem_cons_self e).symm
        · rw [if_neg (by intro z; exact e (Sum.inr.inj z))]
      · exact ih hn.2 fun q hq => hh q (List.mem_cons_of_mem _ hq)
  refine gen d hn fun p hp e => ?_
  have h2 := look_of hn (s := p.1) (t := p.2) hp
  rw [e, h] at h2
  exact (Option.some.inj h2).symm
/-- d holds just the pairs of L -/
structure Rpr (d L : AL) : Prop where
  nd : (d.map Prod.fst).Nodup
  mem : ∀ p, p ∈ d ↔ p ∈ L
/-- no name with two values -/
def Con (L : AL) : Prop := ∀ s t t', (s, t) ∈ L → (s, t') ∈ L → t = t'
theorem Rpr.con {d L : AL} (h : Rpr d L) : Con L := fun s t t' h1 h2 => by
  have e1 := look_of h.nd ((h.mem _).mpr h1)
  have e2 := look_of h.nd ((h.mem _).mpr h2)
  rw [e1] at e2
  exact Option.some.inj e2
theorem Rpr.same {d L : AL} {s : Sx} {t : MV} (h : Rpr d L) (e : look d s = some t) : Rpr d (L ++ [(s, t)]) := ⟨h.nd, fun p => by
  rw [List.mem_append, List.mem_singleton, h.mem]
  constructor
  · exact .inl
  · rintro (z | rfl)
    · exact z
    · exact (h.mem _).mp (look_mem e)⟩
theorem Rpr.new {d L : AL} {s : Sx} {t : MV} (h : Rpr d L) (e : look d s = none) : Rpr (d ++ [(s, t)]) (L ++ [(s, t)]) := by
  refine ⟨?_, fun p => by rw [List.mem_append, List.mem_append, h.mem]⟩
  rw [List.map_append]
  refine List.nodup_append.mpr ⟨h.nd, by simp, fun a ha b hb => ?_⟩
  simp at hb
  subst hb
  exact fun z => look_no e (by rw [← z]; exact ha)
theorem Rpr.clash {d L L2 : AL} {s : Sx} {t t' : MV} (h : Rpr d L) (e : look d s = some t') (hne : t' ≠ t) (hm : (s, t) ∈ L2) : ¬ Con (L ++ L2) := fun c =>
  hne (c s t' t (List.mem_append_left _ ((h.mem _).mp (look_mem e))) (List.mem_append_right _ hm))
theorem Rpr.congr {d L L' : AL} (h : Rpr d L) (e : ∀ p, p ∈ L ↔ p ∈ L') : Rpr d L' := ⟨h.nd, fun p => (h.mem p).trans (e p)⟩
theorem Con.congr {L L' : AL} (h : Con L) (e : ∀ p, p ∈ L' → p ∈ L) : Con L' := fun s t t' h1 h2 => h s t t' (e _ h1) (e _ h2)
/-- two dicts with the same pairs are equal -/
theorem eqKs_al {d e : AL} (he : (e.map Prod.fst).Nodup) : ∀ (d' : AL), (∀ p ∈ d', p ∈ e ∧ eqT p.2 p.2 = true) → eqKs (aV d') (aK d') (aK e) (aV e) = true
  | [], _ => by unfold aV eqKs; rfl
  | p :: d', h => by
    obtain ⟨h1, h2⟩ := h p List.mem_cons_self
    have h3 := eqKs_al (d := d) he d' fun q hq => h q (List.mem_cons_of_mem _ hq)
    simp only [aV, aK, List.map_cons] at h3 ⊢
    unfold eqKs
    rw [show dLook (e.map fun p => (Sum.inr p.1 : MKey)) (e.map Prod.snd) (Sum.inr p.1) = some p.2 from (dLook_al p.1 e).trans (look_of he h1)]
    simp only [h2, Bool.true_and]
    exact h3
theorem len_eq {d e : AL} (hd : (d.map Prod.fst).Nodup) (he : (e.map Prod.fst).Nodup) (h : ∀ p, p ∈ d ↔ p ∈ e) : d.length = e.length := by
  have nd : ∀ {x : AL}, (x.map Prod.fst).Nodup → x.Nodup := fun {x} h => List.Pairwise.of_map Prod.fst (fun a b hne hab => hne (by rw [hab])) h
  exact ((List.perm_ext_iff_of_nodup (nd hd) (nd he)).mpr h).length_eq
theorem eqT_al {d e L : AL} (hd : Rpr d L) (he : Rpr e L) (hv : ∀ p ∈ d, eqT p.2 p.2 = true) : eqT (.dct (aK d) (aV d)) (.dct (aK e) (aV e)) = true := by
  unfold eqT
  rw [eqKs_al (d := d) he.nd d fun p hp => ⟨(he.mem p).mpr ((hd.mem p).mp hp), hv p hp⟩]
  have := len_eq hd.nd he.nd fun p => (hd.mem p).trans (he.mem p).symm
  rw [aK_len, aK_len, decide_eq_true this]
  rfl
mutual
theorem eqT_tm : ∀ t : MV, tm t = true → dat t = true → eqT t t = true
  | .str s, _, h => by
    unfold eqT
    rw [okD_str h, show eqD (.str s) (.str s) = true from eqD_refl _ h]
    simp [toD, PyData.depth]
  | .tup xs, h, d => by
    unfold eqT
    exact eqTs_tm xs (tms_of_tm h) (by unfold dat at d; exact d)
  | .non, h, _ => by simp [tm] at h
  | .bl _, h, _ => by simp [tm] at h
  | .int _, h, _ => by simp [tm] at h
  | .fn _, h, _ => by simp [tm] at h
  | .lst _, h, _ => by simp [tm] at h
  | .loc _, h, _ => by simp [tm] at h
  | .dct _ _, h, _ => by simp [tm] at h
  | .scr _, h, _ => by simp [tm] at h
theorem eqTs_tm : ∀ xs : List MV, tms xs = true → dats xs = true → eqTs xs xs = true
  | [], _, _ => by unfold eqTs; rfl
  | x :: xs, h, d => by
    simp only [tms, Bool.and_eq_true] at h
    simp only [dats, Bool.and_eq_true] at d
    unfold eqTs
    rw [eqT_tm x h.1 d.1, eqTs_tm xs h.2 d.2]
    rfl
end
mutual
theorem hgt_tm : ∀ t : MV, tm t = true → hgt t ≤ dep t
  | .str s, _ => by simp [hgt]
  | .tup xs, h => by
    have := hgts_tm xs (tms_of_tm h)
    simp only [hgt, dep]
    omega
  | .non, h => by simp [tm] at h
  | .bl _, h => by simp [tm] at h
  | .int _, h => by simp [tm] at h
  | .fn _, h => by simp [tm] at h
  | .lst _, h => by simp [tm] at h
  | .loc _, h => by simp [tm] at h
  | .dct _ _, h => by simp [tm] at h
  | .scr _, h => by simp [tm] at h
theorem hgts_tm : ∀ xs : List MV, tms xs = true → hgts xs ≤ deps xs
  | [], _ => by simp [hgts]
  | x :: xs, h => by
    simp only [tms, Bool.and_eq_true] at h
    have := hgt_tm x h.1
    have := hgts_tm xs h.2
    simp only [hgts, deps]
    omega
end
/-- the comprehension of a dict, its body kept whole -/
theorem ev_dcompq {C : CallF} {base : Nat} {ρ : Env} {mh : MHp} {tg : Tg} {own : List Nat} {it cond k e : ME} : ev C base (.dcomp tg own it cond k e) ρ mh = match evI C base it ρ mh with
  | none => none
  | some (J, mh1) => if J.items.length ≤ line then (match compGo J (dcompF C base tg own cond k e ρ) J.items mh1 with
    | none => none
    | some (ys, mh5) => match ys.mapM pairK with
      | some ps => some (.dct (dFold ps [] []).1 (dFold ps [] []).2, mh5)
      | none => none) else none := by
  simp only [ev]
  rfl
theorem pairs_al : ∀ d : AL, (d.map fun p => MV.tup [.str p.1, p.2]).mapM pairK = some (d.map fun p => ((.inr p.1 : MKey), p.2))
  | [] => rfl
  | p :: d => by
    rw [List.map_cons, List.mapM_cons, pairs_al d]
    rfl
theorem dFold_al : ∀ (d e : AL), ((e ++ d).map Prod.fst).Nodup → dFold (d.map fun p => ((.inr p.1 : MKey), p.2)) (aK e) (aV e) = (aK (e ++ d), aV (e ++ d))
  | [], e, _ => by simp [dFold]
  | p :: d, e, h => by
    have hn : look e p.1 = none := by
      cases q : look e p.1 with
      | none => rfl
      | some t =>
        exfalso
        have hm := look_mem q
        rw [List.map_append, List.nodup_append] at h
        exact h.2.2 p.1 (List.mem_map.mpr ⟨_, hm, rfl⟩) p.1 (by simp) rfl
    obtain ⟨e1, e2⟩ := put_new (t := p.2) hn
    rw [List.map_cons, dFold]
    simp only
    rw [e1, e2, dFold_al d (e ++ [p]) (by simpa using h)]
    simp
theorem sortS_perm (xs : List Sx) : (sortS xs).Perm xs := List.mergeSort_perm _ _
theorem sortS_idem (xs : List Sx) : sortS (sortS xs) = sortS xs :=
  List.Perm.eq_of_pairwise (le := (· ≤ ·)) (fun a b _ _ x y => sx_le_anti x y) (sortS_pair _) (sortS_pair xs) (sortS_perm _)
theorem mapM_strOf : ∀ ss : List Sx, (ss.map MV.str).mapM strOf = some ss
  | [] => rfl
  | s :: ss => by rw [List.map_cons, List.mapM_cons, mapM_strOf ss]; rfl
end L2.Mi

set_option Elab.async false
set_option linter.all false
set_option maxRecDepth 100000
set_option maxHeartbeats 4000000
namespace L2.Mi.k08
open PySem PySem.Spec PyProof.Rows L2.Mi
theorem hTake : T[24]? = some takeD := rfl
theorem hPick : T[25]? = some (pickD 24) := rfl
theorem hTongue : T[26]? = some (tongueD 25) := rfl
theorem hTerm : T[27]? = some (termD 24 25 27) := rfl
theorem hState : T[23]? = some stateD := rfl
theorem hPlaces : T[30]? = some (lplacesD 30) := rfl
theorem hAt : T[31]? = some latD := rfl
theorem hWith : T[32]? = some (putD 32) := rfl
theorem sp_isvar (k : Nat) (v : MV) (mh : MHp) (hd : dat v = true) : callM T (k + 1) 5 [v] mh = some (.bl (isS v), mh) := by
  rw [callM_eq (d := d_is_var) rfl]
  refine run_of' rfl rfl (ρ := [some v]) (fl := .rt (.bl (isS v))) ?_ rfl rfl rfl
  cases v <;> first | (cases hd; done) | simp [d_is_var, exs, ex, ev, isTy, isS]
/-! ### which names stand for which terms -/
mutual
def prs : MV → MV → Option AL
  | .str s, t => some [(s, t)]
  | .tup ps, t => match t with
    | .tup ts => prsT ps ts
    | _ => none
  | _, _ => none
def prsT : List MV → List MV → Option AL
  | [], _ => none
  | a :: ps, ts => match a, ts with
    | .str a, .str b :: ts => if a = b then prsL ps ts else none
    | _, _ => none
def prsL : List MV → List MV → Option AL
  | [], _ => some []
  | p :: ps, ts => match ts with
    | t :: ts => (prs p t).bind fun x => (prsL ps ts).map (x ++ ·)
    | [] => none
end
def prsS : List (MV × MV) → Option AL
  | [] => some []
  | x :: w => (prs x.1 x.2).bind fun a => (prsS w).map (a ++ ·)
theorem prsS_app : ∀ v w : List (MV × MV), prsS (v ++ w) = (prsS v).bind fun a => (prsS w).map (a ++ ·)
  | [], w => by simp [prsS]
  | x :: v, w => by
    rw [List.cons_append, prsS, prsS, prsS_app v w]
    cases prs x.1 x.2 with
    | none => rfl
    | some a =>
      cases prsS v with
      | none => rfl
      | some b =>
        cases prsS w with
        | none => rfl
        | some c => simp
theorem prsS_zip : ∀ ps ts : List MV, ps.length = ts.length → prsS (ps.zip ts) = prsL ps ts
  | [], ts, _ => by simp [prsS, prsL]
  | p :: ps, [], h => by simp at h
  | p :: ps, t :: ts, h => by
    rw [List.zip_cons_cons, prsS, prsL, prsS_zip ps ts (by simpa using h)]
theorem prs_tup {a b : Sx} {ps ts : List MV} : prs (.tup (.str a :: ps)) (.tup (.str b :: ts)) = if a = b then prsL ps ts else none := by
  simp [prs, prsT]
theorem prs_ts {a b : Sx} {ps : List MV} : prs (.tup (.str a :: ps)) (.str b) = none := by
  simp [prs]
mutual
theorem prs_len : ∀ (p t : MV) (L : AL), prs p t = some L → L.length ≤ cnt p
  | .str s, t, L, h => by simp only [prs] at h; cases h; simp [cnt]
  | .tup [], t, L, h => by
    simp only [prs] at h
    split at h
    · simp [prsT] at h
    · cases h
  | .tup (y :: ps), t, L, h => by
    simp only [prs] at h
    split at h
    · simp only [prsT] at h
      split at h
      · split at h
        · have := prsL_len ps _ L h
          simp only [cnt, cntT]
          omega
        · cases h
      · cases h
    · cases h
  | .non, t, L, h => by simp [prs] at h
  | .bl _, t, L, h => by simp [prs] at h
  | .int _, t, L, h => by simp [prs] at h
  | .fn _, t, L, h => by simp [prs] at h
  | .lst _, t, L, h => by simp [prs] at h
  | .loc _, t, L, h => by simp [prs] at h
  | .dct _ _, t, L, h => by simp [prs] at h
  | .scr _, t, L, h => by simp [prs] at h
theorem prsL_len : ∀ (ps ts : List MV) (L : AL), prsL ps ts = some L → L.length ≤ cnts ps
  | [], ts, L, h => by simp only [prsL] at h; cases h; simp
  | p :: ps, [], L, h => by simp [prsL] at h
  | p :: ps, t :: ts, L, h => by
    simp only [prsL, Option.bind_eq_some_iff, Option.map_eq_some_iff] at h
    obtain ⟨x, h1, y, h2, rfl⟩ := h
    have := prs_len p t x h1
    have := prsL_len ps ts y h2
    simp only [List.length_append, cnts]
    omega
end
/-! ### a dict and a list, live -/
abbrev H2 (mh : MHp) (d : AL) (w : List MV) : MHp := mh ++ [some (.dct (aK d) (aV d)), some (.lst w)]
section
variable {mh : MHp} {d d' : AL} {w w' : List MV}
theorem g0 : (H2 mh d w)[mh.length]? = some (some (.dct (aK d) (aV d))) := by
  rw [List.getElem?_append_right (Nat.le_refl _)]; simp
theorem g1 : (H2 mh d w)[mh.length + 1]? = some (some (.lst w)) := by
  rw [List.getElem?_append_right (by omega)]; simp
theorem set0 : (H2 mh d w).set mh.length (some (.dct (aK d') (aV d'))) = H2 mh d' w := by
  rw [List.set_append_right _ _ (Nat.le_refl _)]; simp
theorem set1 : (H2 mh d w).set (mh.length + 1) (some (.lst w')) = H2 mh d w' := by
  rw [List.set_append_right _ _ (by omega)]; simp
theorem take2 : (H2 mh d w).take mh.length = mh := by simp
theorem H2_new : (mh ++ [some (.dct [] [])]) ++ [some (.lst w)] = H2 mh [] w := by simp [aK, aV]
theorem frz_d {n : Nat} (hn : n ≤ mh.length) (hd : dats (aV d) = true) : frz n (H2 mh d w) 8 (.loc mh.length) = some (.dct (aK d) (aV d)) := by
  unfold frz
  rw [if_neg (by omega)]
  simp only [g0]
  rw [frzs_dat _ hd]
  rfl
theorem memH {s : Sx} (hs : dat (.str s) = true) (hd : dats (aV d) = true) : memV (H2 mh d w) (.str s) (.loc mh.length) = some (look d s).isSome := by
  have e1 : frz 0 (H2 mh d w) 8 (.str s) = some (.str s) := frz_dat _ hs
  have e2 := frz_d (w := w) (Nat.zero_le mh.length) hd
  unfold memV
  split
  · rename_i h; cases h
  · simp only [e1, e2, kyV, Option.map_some, dLook_al]
theorem subH {s : Sx} : subV (H2 mh d w) (.loc mh.length) (.str s) = look d s := by
  simp only [subV, subD, getD, g0, kyV, Option.bind_some, dLook_al]
end
abbrev wV (W : List (MV × MV)) : List MV := W.map fun x => .tup [x.1, x.2]
theorem wV_zip : ∀ ps ts : List MV, List.zipWith (fun x y => MV.tup [x, y]) ps ts = wV (ps.zip ts)
  | [], ts => by simp [wV]
  | p :: ps, [] => by simp [wV]
  | p :: ps, t :: ts => by
    have := wV_zip ps ts
    simp only [wV, List.zipWith_cons_cons, List.zip_cons_cons, List.map_cons] at this ⊢
    rw [this]
def msr (W : List (MV × MV)) : Nat := cnts (W.map Prod.fst)
theorem msr_app (V W : List (MV × MV)) : msr (V ++ W) = msr V + msr W := by simp only [msr, List.map_append, cnts_app]
theorem msr_zip : ∀ ps ts : List MV, msr (ps.zip ts) ≤ cnts ps
  | [], ts => by simp [msr, cnts]
  | p :: ps, [] => by simp [msr, cnts]
  | p :: ps, t :: ts => by
    have := msr_zip ps ts
    simp only [msr, List.zip_cons_cons, List.map_cons, cnts] at this ⊢
    omega
theorem len_msr (W : List (MV × MV)) : W.length ≤ msr W := by
  have := len_cnts (W.map Prod.fst)
  simpa [msr] using this
/-- the values that a dict holds -/
def DOk (ar : Sx → Option Nat) (d : AL) : Prop := ∀ p ∈ d, Tm ar p.2 ∧ dat (.str p.1) = true
theorem DOk.dats {ar : Sx → Option Nat} {d : AL} (h : DOk ar d) : dats (aV d) = true := dats_iff.mpr fun x hx => by
  obtain ⟨p, hp, rfl⟩ := List.mem_map.mp hx
  exact (h p hp).1.dat
theorem DOk.snoc {ar : Sx → Option Nat} {d : AL} {s : Sx} {t : MV} (h : DOk ar d) (ht : Tm ar t) (hs : dat (.str s) = true) : DOk ar (d ++ [(s, t)]) := fun p hp => by
  rcases List.mem_append.mp hp with hp | hp
  · exact h p hp
  · simp at hp; subst hp; exact ⟨ht, hs⟩
abbrev mE (p0 t0 : MV) (b : Nat) (o4 o5 : Option MV) : Env := [some p0, some t0, some (.loc b), some (.loc (b + 1)), o4, o5, none]
abbrev mCond : ME := (.cmp .gt (.bi .len [(.var 3)]) (.c (.int (0))))
abbrev mPop : MS := (.set (.tp [(.nm 4), (.nm 5)]) (.meth .pop (.var 3) []))
abbrev mA : List MS := [(.ite (.and (.cmp .mem (.var 4) (.var 2)) (.cmp .ne (.sub (.var 2) (.var 4)) (.var 5))) [(.ret (.c .non))] []), (.sti (.var 2) (.var 4) (.var 5))]
abbrev mB : List MS := [(.ite (.or (.call 5 [(.var 5)]) (.or (.cmp .ne (.sub (.var 4) (.c (.int (0)))) (.sub (.var 5) (.c (.int (0))))) (.cmp .ne (.bi .len [(.var 4)]) (.bi .len [(.var 5)])))) [(.ret (.c .non))] [(.ex (.meth .extend (.var 3) [(.lzip (.slcL (.var 4) (.c (.int (1)))) (.slcL (.var 5) (.c (.int (1)))))]))])]
abbrev mBody : List MS := [mPop, (.ite (.call 5 [(.var 4)]) mA mB)]
section
variable {k : Nat} {mh : MHp} {p0 t0 : MV} {ar : Sx → Option Nat}
theorem m_cond {W : List MV} {d : AL} {o4 o5 : Option MV} : whC (callM T (k + 1)) mh.length mCond (mE p0 t0 mh.length o4 o5) (H2 mh d W) = some (decide (0 < W.length), H2 mh d W) := by
  have h1 : (H2 mh d W)[mh.length + 1]? = _ := g1
  have h2 : getL (H2 mh d W) (.loc (mh.length + 1)) = some W := by simp only [getL, h1]
  generalize H2 mh d W = H at *
  simp [whC, ev, evs, biV, one1, lenV, h2, cmpV, ordV]
theorem m_pop {W : List MV} {d : AL} {a b : MV} {o4 o5 : Option MV} : ex (callM T (k + 1)) mh.length mPop (mE p0 t0 mh.length o4 o5) (H2 mh d (W ++ [.tup [a, b]])) = some (.nx, mE p0 t0 mh.length (some a) (some b), H2 mh d W) := by
  have h1 : liveL (H2 mh d (W ++ [.tup [a, b]])) (.loc (mh.length + 1)) = some (mh.length + 1, W ++ [.tup [a, b]]) := by simp only [liveL, g1]
  have h2 : methV mh.length (H2 mh d (W ++ [.tup [a, b]])) .pop (.loc (mh.length + 1)) [] = some (.tup [a, b], H2 mh d W) := by
    simp only [methV, popV, h1]
    rw [List.dropLast_concat, set1]
    simp
  have h3 : tyM (H2 mh d (W ++ [.tup [a, b]])) .pop (.loc (mh.length + 1)) = true := by simp only [tyM, h1]; rfl
  generalize H2 mh d (W ++ [.tup [a, b]]) = H at *
  simp [ex, ev, evs, h3, h2, asg, asgs]
/-- a name is met -/
theorem m_A {W : List MV} {d : AL} {L0 : AL} {s : Sx} {t : MV} (hd : DOk ar d) (hr : Rpr d L0) (ht : Tm ar t) (hs : dat (.str s) = true) (hl : d.length + 1 ≤ 1000000) :
    (∃ d', exs (callM T (k + 1)) mh.length mA (mE p0 t0 mh.length (some (.str s)) (some t)) (H2 mh d W) = some (.nx, mE p0 t0 mh.length (some (.str s)) (some t), H2 mh d' W) ∧ Rpr d' (L0 ++ [(s, t)]) ∧ DOk ar d' ∧ d'.length ≤ d.length + 1) ∨
    (exs (callM T (k + 1)) mh.length mA (mE p0 t0 mh.length (some (.str s)) (some t)) (H2 mh d W) = some (.rt .non, mE p0 t0 mh.length (some (.str s)) (some t), H2 mh d W) ∧ ∀ L, (s, t) ∈ L → ¬ Con (L0 ++ L)) := by
  have hm := memH (mh := mh) (w := W) hs hd.dats
  have hsub := subH (mh := mh) (d := d) (w := W) (s := s)
  have hg := g0 (mh := mh) (d := d) (w := W)
  have hz : (aK d).length < line := by rw [aK_len]; unfold line; omega
  have hw : wr mh.length mh.length t = true := by simp [wr]
  cases q : look d s with
  | none =>
    rw [q] at hm hsub
    obtain ⟨e1, e2⟩ := put_new (t := t) q
    have hset := set0 (mh := mh) (d := d) (d' := d ++ [(s, t)]) (w := W)
    refine .inl ⟨d ++ [(s, t)], ?_, hr.new q, hd.snoc ht hs, by simp⟩
    generalize H2 mh d W = H at *
    simp [exs, ex, ev, cmpV, hm, hg, hw, hz, e1, e2, hset]
  | some t' =>
    rw [q] at hm hsub
    have hp := (hd _ (look_mem q)).1
    obtain ⟨b, hb, hb2⟩ := eqV_tm (H2 mh d W) hp.tm' hp.dat (by have := hp.dep; omega) ht.tm' ht.dat (by have := ht.dep; omega)
    cases b with
    | true =>
      have e0 := hb2.mp rfl
      simp only at e0
      subst e0
      obtain ⟨e1, e2⟩ := put_same q hr.nd
      have hset := set0 (mh := mh) (d := d) (d' := d) (w := W)
      refine .inl ⟨d, ?_, hr.same q, hd, by omega⟩
      generalize H2 mh d W = H at *
      simp [exs, ex, ev, cmpV, hm, hsub, hb, hg, hw, hz, e1, e2, hset]
    | false =>
      have e0 : t' ≠ t := fun z => by have := hb2.mpr z; cases this
      refine .inr ⟨?_, fun L hL => hr.clash q e0 hL⟩
      generalize H2 mh d W = H at *
      simp [exs, ex, ev, cmpV, hm, hsub, hb]
/-- a sign is met -/
theorem m_B {W : List (MV × MV)} {d : AL} {a : Sx} {ps : List MV} {t : MV} (hp : Tm ar (.tup (.str a :: ps))) (ht : Tm ar t) (hl : W.length + ps.length ≤ 1000000) :
    (∃ ts, t = .tup (.str a :: ts) ∧ ps.length = ts.length ∧ exs (callM T (k + 1)) mh.length mB (mE p0 t0 mh.length (some (.tup (.str a :: ps))) (some t)) (H2 mh d (wV W)) = some (.nx, mE p0 t0 mh.length (some (.tup (.str a :: ps))) (some t), H2 mh d (wV (W ++ ps.zip ts)))) ∨
    (exs (callM T (k + 1)) mh.length mB (mE p0 t0 mh.length (some (.tup (.str a :: ps))) (some t)) (H2 mh d (wV W)) = some (.rt .non, mE p0 t0 mh.length (some (.tup (.str a :: ps))) (some t), H2 mh d (wV W)) ∧ prs (.tup (.str a :: ps)) t = none) := by
  have iv := sp_isvar k t (H2 mh d (wV W)) ht.dat
  rcases tmA_cases ht.tm ht.dat with ⟨s, rfl⟩ | ⟨b, ts, rfl, h1, h2, h3⟩
  · simp only [isS] at iv
    refine .inr ⟨?_, prs_ts⟩
    generalize H2 mh d (wV W) = H at *
    simp [exs, ex, ev, evs, iv]
  · simp only [isS] at iv
    rcases tmA_cases hp.tm hp.dat with ⟨s, e⟩ | ⟨a', ps', e, q1, q2, q3⟩
    · cases e
    · cases e
      have hab := eqV_str (H2 mh d (wV W)) a b q2 h2
      by_cases hab' : a = b
      · subst hab'
        have hlen : ps.length = ts.length := by rw [q1] at h1; exact Option.some.inj h1
        simp at hab
        refine .inl ⟨ts, rfl, hlen, ?_⟩
        have l1 : liveL (H2 mh d (wV W)) (.loc (mh.length + 1)) = some (mh.length + 1, wV W) := by simp only [liveL, g1]
        have h3 : tyM (H2 mh d (wV W)) .extend (.loc (mh.length + 1)) = true := by simp only [tyM, l1]; rfl
        have hz1 : ps.length ≤ 1000000 ∧ ts.length ≤ 1000000 := by omega
        have hzip := wV_zip ps ts
        have hm : methV mh.length (H2 mh d (wV W)) .extend (.loc (mh.length + 1)) [.lst (wV (ps.zip ts))] = some (.non, H2 mh d (wV (W ++ ps.zip ts))) := by
          simp only [methV, extV, l1, seqOf, getL]
          rw [if_pos ⟨List.all_eq_true.mpr fun y _ => by simp [wr], by simp only [List.length_map, List.length_zip]; unfold line; omega⟩, set1]
          simp [wV]
        have hln : eqV (H2 mh d (wV W)) (.int ((ps.length : Int) + 1)) (.int ((ts.length : Int) + 1)) = some true := by rw [eqV_int, hlen]; simp
        generalize H2 mh d (wV W) = H at *
        simp [exs, ex, ev, evs, iv, subV, atI0, cmpV, hab, biV, one1, lenV, hln, h3, slcV, cut1, hz1, hzip, hm]
      · simp [hab'] at hab
        refine .inr ⟨?_, by rw [prs_tup, if_neg hab']⟩
        generalize H2 mh d (wV W) = H at *
        simp [exs, ex, ev, evs, iv, subV, atI0, cmpV, hab]
end
end L2.Mi.k08

set_option Elab.async false
set_option linter.all false
set_option maxRecDepth 100000
set_option maxHeartbeats 4000000
namespace L2.Mi.k08
open PySem PySem.Spec PyProof.Rows L2.Mi
theorem snocW {W : List (MV × MV)} (h : W ≠ []) : ∃ V x, W = V ++ [x]  := by
  rcases List.eq_nil_or_concat W with e | ⟨V, x, e⟩
  · exact absurd e h
  · exact ⟨V, x, by rw [e, List.concat_eq_append]⟩
theorem nodup_len : ∀ (d L : AL), d.Nodup → (∀ p ∈ d, p ∈ L) → d.length ≤ L.length
  | [], L, _, _ => by simp
  | p :: d, L, hn, h => by
    rw [List.nodup_cons] at hn
    obtain ⟨A, B, rfl⟩ := List.mem_iff_append.mp (h p List.mem_cons_self)
    have := nodup_len d (A ++ B) hn.2 fun q hq => by
      have h1 := h q (List.mem_cons_of_mem _ hq)
      have hne : q ≠ p := fun e => hn.1 (by rw [← e]; exact hq)
      simp only [List.mem_append, List.mem_cons] at h1 ⊢
      rcases h1 with h1 | h1 | h1
      · exact .inl h1
      · exact absurd h1 hne
      · exact .inr h1
    simp only [List.length_append, List.length_cons] at this ⊢
    omega
theorem m_loop {k : Nat} {mh : MHp} {p0 t0 : MV} {ar : Sx → Option Nat} : ∀ (N : Nat) (W : List (MV × MV)) (d L0 : AL) (o4 o5 : Option MV), msr W ≤ N → (∀ x ∈ W, Tm ar x.1 ∧ Tm ar x.2) → DOk ar d → Rpr d L0 → d.length + N ≤ 1000000 →
    ∃ (n : Nat) (r : Fl × Env × MHp), whileN (whC (callM T (k + 1)) mh.length mCond) (exs (callM T (k + 1)) mh.length mBody) n (mE p0 t0 mh.length o4 o5) (H2 mh d (wV W)) = some r ∧
      ((∃ L d' o4' o5', prsS W = some L ∧ Rpr d' (L0 ++ L) ∧ DOk ar d' ∧ r = (.nx, mE p0 t0 mh.length o4' o5', H2 mh d' [])) ∨
       ((∀ L, prsS W = some L → ¬ Con (L0 ++ L)) ∧ ∃ o4' o5' d' W', r = (.rt .non, mE p0 t0 mh.length o4' o5', H2 mh d' W'))) := by
  intro N
  induction N with
  | zero =>
    intro W d L0 o4 o5 hm hW hd hr hl
    have : W = [] := List.length_eq_zero_iff.mp (by have := len_msr W; omega)
    subst this
    refine ⟨1, (.nx, mE p0 t0 mh.length o4 o5, H2 mh d []), ?_, .inl ⟨[], d, o4, o5, rfl, by simpa using hr, hd, rfl⟩⟩
    have c := m_cond (k := k) (mh := mh) (p0 := p0) (t0 := t0) (W := []) (d := d) (o4 := o4) (o5 := o5)
    simp only [List.length_nil, Nat.lt_irrefl, decide_false] at c
    simp only [whileN, wV, List.map_nil, c]
  | succ N ih =>
    intro W d L0 o4 o5 hm hW hd hr hl
    by_cases hW0 : W = []
    · subst hW0
      refine ⟨1, (.nx, mE p0 t0 mh.length o4 o5, H2 mh d []), ?_, .inl ⟨[], d, o4, o5, rfl, by simpa using hr, hd, rfl⟩⟩
      have c := m_cond (k := k) (mh := mh) (p0 := p0) (t0 := t0) (W := []) (d := d) (o4 := o4) (o5 := o5)
      simp only [List.length_nil, Nat.lt_irrefl, decide_false] at c
      simp only [whileN, wV, List.map_nil, c]
    · obtain ⟨V, ⟨one, other⟩, rfl⟩ := snocW hW0
      have hone := (hW (one, other) (by simp)).1
      have hother := (hW (one, other) (by simp)).2
      simp only at hone hother
      have hV : ∀ x ∈ V, Tm ar x.1 ∧ Tm ar x.2 := fun x hx => hW x (List.mem_append_left _ hx)
      have hms : msr V + cnt one ≤ N + 1 := by
        rw [msr_app] at hm
        simpa [msr, cnts] using hm
      have hc1 := cnt_pos one
      have c := m_cond (k := k) (mh := mh) (p0 := p0) (t0 := t0) (W := wV (V ++ [(one, other)])) (d := d) (o4 := o4) (o5 := o5)
      have hpos : 0 < (wV (V ++ [(one, other)])).length := by simp [wV]
      rw [decide_eq_true hpos] at c
      have pop := m_pop (k := k) (mh := mh) (p0 := p0) (t0 := t0) (W := wV V) (d := d) (a := one) (b := other) (o4 := o4) (o5 := o5)
      have hwe : wV (V ++ [(one, other)]) = wV V ++ [.tup [one, other]] := by simp [wV]
      rw [hwe] at c ⊢
      have iv := sp_isvar k one (H2 mh d (wV V)) hone.dat
      have vl := len_msr V
      have hprs : ∀ L, prsS (V ++ [(one, other)]) = some L → ∃ L1 L2, prsS V = some L1 ∧ prs one other = some L2 ∧ L = L1 ++ L2 := fun L h => by
        rw [prsS_app] at h
        simp only [prsS, Option.bind_eq_some_iff, Option.map_eq_some_iff] at h
        obtain ⟨a, h1, b, ⟨c', h2, d', h3, h4⟩, h5⟩ := h
        cases h3
        refine ⟨a, c', h1, h2, ?_⟩
        rw [← h5, ← h4, List.append_nil]
      have hprs' : ∀ L1 L2, prsS V = some L1 → prs one other = some L2 → prsS (V ++ [(one, other)]) = some (L1 ++ L2) := fun L1 L2 h1 h2 => by
        rw [prsS_app, h1]
        simp [prsS, h2]
      have body : ∀ {fl : Fl} {ρ : Env} {H : MHp}, exs (callM T (k + 1)) mh.length (if isS one = true then mA else mB) (mE p0 t0 mh.length (some one) (some other)) (H2 mh d (wV V)) = some (fl, ρ, H) → exs (callM T (k + 1)) mh.length mBody (mE p0 t0 mh.length o4 o5) (H2 mh d (wV V ++ [.tup [one, other]])) = some (fl, ρ, H) := fun {fl ρ H} h => by
        have c0 : ev (callM T (k + 1)) mh.length (.call 5 [(.var 4)]) (mE p0 t0 mh.length (some one) (some other)) (H2 mh d (wV V)) = some (.bl (isS one), H2 mh d (wV V)) := by
          generalize H2 mh d (wV V) = H at *
          simp [ev, evs, iv]
        rw [mBody, exs, pop]
        simp only
        rw [exs, ex, c0]
        cases hb : isS one with
        | true =>
          rw [hb] at h
          simp only [if_true] at h
          simp only [h]
          cases fl <;> simp [exs]
        | false =>
          rw [hb] at h
          simp only [Bool.false_eq_true, if_false] at h
          simp only [h]
          cases fl <;> simp [exs]
      rcases tmA_cases hone.tm hone.dat with ⟨s, rfl⟩ | ⟨a, ps, rfl, q1, q2, q3⟩
      · rcases m_A (k := k) (mh := mh) (p0 := p0) (t0 := t0) (W := wV V) hd hr hother hone.dat (by omega) with ⟨d', e, hr', hd', hl'⟩ | ⟨e, hno⟩
        · obtain ⟨n, r, e2, post⟩ := ih V d' (L0 ++ [(s, other)]) (some (.str s)) (some other) (by simp only [cnt] at hms; omega) hV hd' hr' (by omega)
          refine ⟨n + 1, r, ?_, ?_⟩
          · rw [whileN, c]
            simp only
            rw [body e]
            exact e2
          · rcases post with ⟨L, d2, o4', o5', z1, z2, z3, z4⟩ | ⟨z1, z2⟩
            · refine .inl ⟨L ++ [(s, other)], d2, o4', o5', hprs' L _ z1 (by simp [prs]), z2.congr fun p => by simp [or_assoc, or_comm], z3, z4⟩
            · refine .inr ⟨fun L hL hc => ?_, z2⟩
              obtain ⟨L1, L2, y1, y2, rfl⟩ := hprs L hL
              simp only [prs] at y2
              cases y2
              exact z1 L1 y1 (hc.congr fun p hp => by simp at hp ⊢; rcases hp with h | h | h <;> simp [h])
        · refine ⟨1, (.rt .non, mE p0 t0 mh.length (some (.str s)) (some other), H2 mh d (wV V)), ?_, .inr ⟨fun L hL => ?_, some (.str s), some other, d, wV V, rfl⟩⟩
          rotate_left 1
          · obtain ⟨L1, L2, y1, y2, rfl⟩ := hprs L hL
            simp only [prs] at y2
            cases y2
            exact hno _ (by simp)
          · rw [whileN, c]
            simp only
            rw [body e]
      · have hps : ps.length ≤ cnts ps := len_cnts ps
        simp only [cnt, cntT] at hms
        rcases m_B (k := k) (mh := mh) (p0 := p0) (t0 := t0) (W := V) (d := d) hone hother (by omega) with ⟨ts, rfl, hlen, e⟩ | ⟨e, hno⟩
        · have hmz := msr_zip ps ts
          have hts : ∀ x ∈ ts, Tm ar x := fun x hx => by
            rcases tmA_cases hother.tm hother.dat with ⟨s, e⟩ | ⟨b, ts', e, w1, w2, w3⟩
            · cases e
            · cases e
              refine ⟨(w3 x hx).1, (w3 x hx).2, ?_⟩
              have := dep_mem (h := .str a) hx
              have := hother.dep
              omega
          have hpst : ∀ x ∈ ps, Tm ar x := fun x hx => ⟨(q3 x hx).1, (q3 x hx).2, by
            have := dep_mem (h := .str a) hx
            have := hone.dep
            omega⟩
          obtain ⟨n, r, e2, post⟩ := ih (V ++ ps.zip ts) d L0 (some (.tup (.str a :: ps))) (some (.tup (.str a :: ts))) (by rw [msr_app]; omega) (fun x hx => by
            rcases List.mem_append.mp hx with hx | hx
            · exact hV x hx
            · have := List.of_mem_zip (a := x.1) (b := x.2) hx
              exact ⟨hpst _ this.1, hts _ this.2⟩) hd hr (by omega)
          have hz : prsS (V ++ [(.tup (.str a :: ps), .tup (.str a :: ts))]) = prsS (V ++ ps.zip ts) := by
            rw [prsS_app, prsS_app, prsS_zip ps ts hlen]
            simp only [prsS, prs_tup, if_true]
            cases prsS V with
            | none => rfl
            | some x =>
              cases prsL ps ts with
              | none => rfl
              | some y => simp
          refine ⟨n + 1, r, ?_, ?_⟩
          · rw [whileN, c]
            simp only
            rw [body e]
            exact e2
          · rw [hz]
            exact post
        · refine ⟨1, (.rt .non, mE p0 t0 mh.length (some (.tup (.str a :: ps))) (some other), H2 mh d (wV V)), ?_, .inr ⟨fun L hL => ?_, some (.tup (.str a :: ps)), some other, d, wV V, rfl⟩⟩
          rotate_left 1
          · obtain ⟨L1, L2, y1, y2, rfl⟩ := hprs L hL
            rw [hno] at y2
            cases y2
          · rw [whileN, c]
            simp only
            rw [body e]
/-- what matching tells: the pairs, or none -/
def Mt (p t : MV) (L : AL) : Prop := prs p t = some L ∧ Con L
theorem aV_sorted (d : AL) : (aV d).length = (aK d).length := by simp [aK, aV]
/-- the def of matching -/
theorem sp_matched {ar : Sx → Option Nat} (k : Nat) {p t : MV} (mh : MHp) (hp : Tm ar p) (ht : Tm ar t) (hc : cnt p ≤ 60) :
    (∃ L d, Mt p t L ∧ Rpr d L ∧ DOk ar d ∧ (d.map Prod.fst) = sortS (d.map Prod.fst) ∧ d.length < 64 ∧ callM T (k + 2) 14 [p, t] mh = some (.dct (aK d) (aV d), mh)) ∨
    ((∀ L, ¬ Mt p t L) ∧ callM T (k + 2) 14 [p, t] mh = some (.non, mh)) := by
  have z0 : 1 ≤ line := by unfold line; omega
  have z2 : 2 ≤ line := by unfold line; omega
  have e1 : exs (callM T (k + 1)) mh.length [(.set (.nm 2) (.al .dnew)), (.set (.nm 3) (.al (.lst [(.tup [(.var 0), (.var 1)])])))] [some p, some t, none, none, none, none, none] mh = some (.nx, mE p t mh.length none none, H2 mh [] (wV [(p, t)])) := by
    simp [exs, ex, ev, evs, asg, z0, z2, aK, aV]
  obtain ⟨n, r, e2, post⟩ := m_loop (k := k) (mh := mh) (p0 := p) (t0 := t) (ar := ar) (cnt p) [(p, t)] [] [] none none (by simp [msr, cnts]) (fun x hx => by simp at hx; subst hx; exact ⟨hp, ht⟩) (fun q hq => by simp at hq) ⟨by simp, fun q => by simp⟩ (by simp; omega)
  have w := whileM_eq e2
  have hprs : prsS [(p, t)] = prs p t := by
    simp only [prsS]
    cases prs p t with
    | none => rfl
    | some a => simp
  rw [hprs] at post
  have hrun : ∀ {fl : Fl} {ρ : Env} {H : MHp}, exs (callM T (k + 1)) mh.length ((.while mCond mBody) :: [(.ret (.dcomp (.nm 6) [6] (.bi .sorted [(.var 2)]) (.c (.bl true)) (.var 6) (.sub (.var 2) (.var 6))))]) (mE p t mh.length none none) (H2 mh [] (wV [(p, t)])) = some (fl, ρ, H) → exs (callM T (k + 1)) mh.length d_matched.body [some p, some t, none, none, none, none, none] mh = some (fl, ρ, H) := fun {fl ρ H} h => by
    rcases exs_cons e1 with ⟨ρ1, m1, f1, f2⟩ | ⟨_, hn⟩
    · rcases exs_cons f2 with ⟨ρ2, m2, f3, f4⟩ | ⟨_, hn⟩
      · simp only [exs] at f4
        cases f4
        rw [d_matched, exs, f1]
        simp only
        rw [exs, f3]
        exact h
      · exact absurd rfl hn
    · exact absurd rfl hn
  rcases post with ⟨L, d, o4, o5, y1, y2, y3, rfl⟩ | ⟨y1, o4, o5, d, W', rfl⟩
  · rw [List.nil_append] at y2
    have hdl : d.length < 64 := by
      have hln := prs_len p t L y1
      have h1 : d.length ≤ L.length := by
        have nd : d.Nodup := List.Pairwise.of_map Prod.fst (fun a b hne hab => hne (by rw [hab])) y2.nd
        exact nodup_len d L nd fun q hq => (y2.mem q).mp hq
      omega
    -- the names in order
    obtain ⟨S, hS⟩ : ∃ S, S = sortS (d.map Prod.fst) := ⟨_, rfl⟩
    have hperm : S.Perm (d.map Prod.fst) := by rw [hS]; exact sortS_perm _
    have hSnd : S.Nodup := hperm.nodup_iff.mpr y2.nd
    have hlook : ∀ s ∈ S, ∃ v, look d s = some v := fun s hs => by
      obtain ⟨q, hq, rfl⟩ := List.mem_map.mp (hperm.mem_iff.mp hs)
      exact ⟨q.2, look_of y2.nd hq⟩
    let e : AL := S.map fun s => (s, (look d s).getD .non)
    have hef : e.map Prod.fst = S := by simp only [e, List.map_map]; exact List.map_id' S
    have hem : ∀ q, q ∈ e ↔ q ∈ d := fun q => by
      constructor
      · intro hq
        obtain ⟨s, hs, rfl⟩ := List.mem_map.mp hq
        obtain ⟨v, hv⟩ := hlook s hs
        rw [hv]
        exact look_mem hv
      · intro hq
        refine List.mem_map.mpr ⟨q.1, hperm.mem_iff.mpr (List.mem_map.mpr ⟨q, hq, rfl⟩), ?_⟩
        rw [look_of y2.nd (s := q.1) (t := q.2) hq]
        rfl
    have her : Rpr e L := ⟨by rw [hef]; exact hSnd, fun q => (hem q).trans (y2.mem q)⟩
    have hed : DOk ar e := fun q hq => y3 q ((hem q).mp hq)
    refine .inl ⟨L, e, ⟨y1, her.con⟩, her, hed, by rw [hef, hS, sortS_idem], ?_, ?_⟩
    · have : e.length = S.length := by simp [e]
      rw [this, hperm.length_eq, List.length_map]
      exact hdl
    · have hso : sortedV (H2 mh d []) (.loc mh.length) = some (.lst (S.map .str)) := by
        unfold sortedV
        have h1 : getL (H2 mh d []) (.loc mh.length) = none := by simp only [getL, g0]
        have h2 : getD (H2 mh d []) (.loc mh.length) = some (aK d, aV d) := by simp only [getD, g0]
        have h3 : ((aK d).map kM).mapM strOf = some (d.map Prod.fst) := by
          have : (aK d).map kM = (d.map Prod.fst).map .str := by simp [aK, kM]
          rw [this, mapM_strOf]
        simp only [h1, h2, h3]
        rw [if_pos (by rw [List.length_map]; exact hdl), hS]
      have hdc : ev (callM T (k + 1)) mh.length (.dcomp (.nm 6) [6] (.bi .sorted [(.var 2)]) (.c (.bl true)) (.var 6) (.sub (.var 2) (.var 6))) (mE p t mh.length o4 o5) (H2 mh d []) = some (.dct (aK e) (aV e), H2 mh d []) := by
        have ei : evI (callM T (k + 1)) mh.length (.bi .sorted [(.var 2)]) (mE p t mh.length o4 o5) (H2 mh d []) = some (⟨S.map .str, none⟩, H2 mh d []) := by
          generalize H2 mh d [] = H at *
          simp [evI, ev, evs, biV, one1, hso, itsOf]
        have hz : (S.map MV.str).length ≤ line := by rw [List.length_map, hperm.length_eq, List.length_map]; unfold line; omega
        rw [ev_dcompq, ei]
        simp only [hz, if_true]
        rw [compGo_pure rfl (g := fun v => match v with | .str s => some (.tup [.str s, (look d s).getD .non]) | _ => none)]
        · have hys : (S.map MV.str).filterMap (fun v => match v with | .str s => some (MV.tup [.str s, (look d s).getD .non]) | _ => none) = e.map fun q => MV.tup [.str q.1, q.2] := by
            rw [List.filterMap_map]
            simp only [e, List.map_map]
            rw [← List.filterMap_eq_map]
            rfl
          have hfold := dFold_al e [] (by rw [List.nil_append, hef]; exact hSnd)
          simp only [List.nil_append] at hfold
          have hfold' : dFold (e.map fun q => ((.inr q.1 : MKey), q.2)) [] [] = (aK e, aV e) := hfold
          simp only [hys, pairs_al, hfold']
        · intro v hv
          obtain ⟨s, hs, rfl⟩ := List.mem_map.mp hv
          obtain ⟨v, hv⟩ := hlook s hs
          have hsub := subH (mh := mh) (d := d) (w := []) (s := s)
          rw [hv] at hsub
          simp only [hv]
          generalize H2 mh d [] = H at *
          simp [dcompF, asg, wipeE, ev, hsub]
      have full := hrun (fl := .rt (.dct (aK e) (aV e))) (ρ := mE p t mh.length o4 o5) (H := H2 mh d []) (by
        rw [exs, ex_while, w]
        simp only
        rw [exs, ex, hdc])
      rw [callM_eq (d := d_matched) rfl]
      have := run_of2 (C := callM T (k + 1)) (d := d_matched) (args := [p, t]) rfl rfl full rfl (by unfold dat2; exact dats_dat2 _ hed.dats)
      rw [take2] at this
      exact this
  · refine .inr ⟨fun L hL => y1 L hL.1 (by rw [List.nil_append]; exact hL.2), ?_⟩
    have full := hrun (fl := .rt .non) (ρ := mE p t mh.length o4 o5) (H := H2 mh d W') (by
      rw [exs, ex_while, w])
    rw [callM_eq (d := d_matched) rfl]
    have := run_of2 (C := callM T (k + 1)) (d := d_matched) (args := [p, t]) rfl rfl full rfl rfl
    rw [take2] at this
    exact this
abbrev H1 (mh : MHp) (d : AL) : MHp := mh ++ [some (.dct (aK d) (aV d))]
section
variable {mh : MHp} {d d' : AL}
theorem h0 : (H1 mh d)[mh.length]? = some (some (.dct (aK d) (aV d))) := by
  rw [List.getElem?_append_right (Nat.le_refl _)]; simp
theorem hset : (H1 mh d).set mh.length (some (.dct (aK d') (aV d'))) = H1 mh d' := by
  rw [List.set_append_right _ _ (Nat.le_refl _)]; simp
theorem htake : (H1 mh d).take mh.length = mh := by simp
theorem hfrz {n : Nat} (hn : n ≤ mh.length) (hd : dats (aV d) = true) : frz n (H1 mh d) 8 (.loc mh.length) = some (.dct (aK d) (aV d)) := by
  unfold frz
  rw [if_neg (by omega)]
  simp only [h0]
  rw [frzs_dat _ hd]
  rfl
theorem hmem {s : Sx} (hs : dat (.str s) = true) (hd : dats (aV d) = true) : memV (H1 mh d) (.str s) (.loc mh.length) = some (look d s).isSome := by
  have e1 : frz 0 (H1 mh d) 8 (.str s) = some (.str s) := frz_dat _ hs
  have e2 := hfrz (Nat.zero_le mh.length) hd
  unfold memV
  split
  · rename_i h; cases h
  · simp only [e1, e2, kyV, Option.map_some, dLook_al]
theorem hsub {s : Sx} : subV (H1 mh d) (.loc mh.length) (.str s) = look d s := by
  simp only [subV, subD, getD, h0, kyV, Option.bind_some, dLook_al]
theorem dsub {H : MHp} {s : Sx} : subV H (.dct (aK d) (aV d)) (.str s) = look d s := by
  simp only [subV, subD, getD, kyV, Option.bind_some, dLook_al]
end
theorem kM_keys (d : AL) : (aK d).map kM = d.map fun q => MV.str q.1 := by simp [aK, kM]
abbrev lE (p t : MV) (b : Nat) (o3 o4 o5 : Option MV) : Env := [some p, some t, some (.loc b), o3, o4, o5]
abbrev iBody : List MS := [(.ite (.and (.cmp .mem (.var 5) (.var 2)) (.cmp .ne (.sub (.var 2) (.var 5)) (.sub (.var 4) (.var 5)))) [(.ret (.c .non))] []), (.sti (.var 2) (.var 5) (.sub (.var 4) (.var 5)))]
theorem i_step {C : CallF} {mh : MHp} {p t : MV} {ar : Sx → Option Nat} {d2 d L0 : AL} {o3 o5 : Option MV} {s : Sx} {u : MV} (hd : DOk ar d) (hr : Rpr d L0) (hu : Tm ar u) (hs : dat (.str s) = true) (h2 : look d2 s = some u) (hl : d.length + 1 ≤ 1000000) :
    (∃ d', forF C mh.length (.nm 5) iBody (.str s) (lE p t mh.length o3 (some (.dct (aK d2) (aV d2))) o5) (H1 mh d) = some (.nx, lE p t mh.length o3 (some (.dct (aK d2) (aV d2))) (some (.str s)), H1 mh d') ∧ Rpr d' (L0 ++ [(s, u)]) ∧ DOk ar d' ∧ d'.length ≤ d.length + 1) ∨
    (forF C mh.length (.nm 5) iBody (.str s) (lE p t mh.length o3 (some (.dct (aK d2) (aV d2))) o5) (H1 mh d) = some (.rt .non, lE p t mh.length o3 (some (.dct (aK d2) (aV d2))) (some (.str s)), H1 mh d) ∧ ∀ L, (s, u) ∈ L → ¬ Con (L0 ++ L)) := by
  have hm := hmem (mh := mh) hs hd.dats
  have hsb := hsub (mh := mh) (d := d) (s := s)
  have hds := dsub (d := d2) (H := H1 mh d) (s := s)
  rw [h2] at hds
  have hg := h0 (mh := mh) (d := d)
  have hz : (aK d).length < line := by rw [aK_len]; unfold line; omega
  have hw : wr mh.length mh.length u = true := by simp [wr]
  cases q : look d s with
  | none =>
    rw [q] at hm hsb
    obtain ⟨e1, e2⟩ := put_new (t := u) q
    have hst := hset (mh := mh) (d := d) (d' := d ++ [(s, u)])
    refine .inl ⟨d ++ [(s, u)], ?_, hr.new q, hd.snoc hu hs, by simp⟩
    generalize H1 mh d = H at *
    simp [forF, asg, exs, ex, ev, cmpV, hm, hg, hw, hz, e1, e2, hst, hds]
  | some u' =>
    rw [q] at hm hsb
    have hp := (hd _ (look_mem q)).1
    obtain ⟨b, hb, hb2⟩ := eqV_tm (H1 mh d) hp.tm' hp.dat (by have := hp.dep; omega) hu.tm' hu.dat (by have := hu.dep; omega)
    cases b with
    | true =>
      have e0 := hb2.mp rfl
      simp only at e0
      subst e0
      obtain ⟨e1, e2⟩ := put_same q hr.nd
      have hst := hset (mh := mh) (d := d) (d' := d)
      refine .inl ⟨d, ?_, hr.same q, hd, by omega⟩
      generalize H1 mh d = H at *
      simp [forF, asg, exs, ex, ev, cmpV, hm, hsb, hb, hg, hw, hz, e1, e2, hst, hds]
    | false =>
      have e0 : u' ≠ u := fun z => by have := hb2.mpr z; cases this
      refine .inr ⟨?_, fun L hL => hr.clash q e0 hL⟩
      generalize H1 mh d = H at *
      simp [forF, asg, exs, ex, ev, cmpV, hm, hsb, hb, hds]
theorem i_loop {C : CallF} {mh : MHp} {p t : MV} {ar : Sx → Option Nat} {d2 : AL} {o3 : Option MV} {J : Its} (hJ : J.src = none) : ∀ (es d L0 : AL) (o5 : Option MV), DOk ar d → Rpr d L0 → (∀ q ∈ es, Tm ar q.2 ∧ dat (.str q.1) = true ∧ look d2 q.1 = some q.2) → d.length + es.length ≤ 1000000 →
    (∃ d' o5', forGo J (forF C mh.length (.nm 5) iBody) (es.map fun q => .str q.1) (lE p t mh.length o3 (some (.dct (aK d2) (aV d2))) o5) (H1 mh d) = some (.nx, lE p t mh.length o3 (some (.dct (aK d2) (aV d2))) o5', H1 mh d') ∧ Rpr d' (L0 ++ es) ∧ DOk ar d' ∧ d'.length ≤ d.length + es.length) ∨
    (¬ Con (L0 ++ es) ∧ ∃ d' o5', forGo J (forF C mh.length (.nm 5) iBody) (es.map fun q => .str q.1) (lE p t mh.length o3 (some (.dct (aK d2) (aV d2))) o5) (H1 mh d) = some (.rt .non, lE p t mh.length o3 (some (.dct (aK d2) (aV d2))) o5', H1 mh d'))
  | [], d, L0, o5, hd, hr, _, _ => .inl ⟨d, o5, forGo_nil_of hJ, by simpa using hr, hd, by simp⟩
  | (s, u) :: es, d, L0, o5, hd, hr, he, hl => by
    obtain ⟨h1, h2, h3⟩ := he (s, u) List.mem_cons_self
    simp only [List.length_cons] at hl
    rw [List.map_cons, forGo_cons_of hJ]
    rcases i_step (C := C) (mh := mh) (p := p) (t := t) (o3 := o3) (o5 := o5) hd hr h1 h2 h3 (by omega) with ⟨d', e, hr', hd', hl'⟩ | ⟨e, hno⟩
    · rw [e]
      have hcc : ∀ q, q ∈ (L0 ++ [(s, u)]) ++ es ↔ q ∈ L0 ++ (s, u) :: es := fun q => by simp
      rcases i_loop hJ es d' (L0 ++ [(s, u)]) (some (.str s)) hd' hr' (fun q hq => he q (List.mem_cons_of_mem _ hq)) (by omega) with ⟨d2', o5', e2, z1, z2, z3⟩ | ⟨z1, z2⟩
      · exact .inl ⟨d2', o5', e2, z1.congr hcc, z2, by simp only [List.length_cons]; omega⟩
      · exact .inr ⟨fun c => z1 (c.congr fun q hq => (hcc q).mp hq), z2⟩
    · rw [e]
      exact .inr ⟨hno _ (by simp), d, some (.str s), rfl⟩
abbrev oBody : List MS := [(.set (.nm 4) (.call 33 [(.sub (.var 0) (.var 3)), (.sub (.var 1) (.var 3))])), (.ite (.cmp .is (.var 4) (.c .non)) [(.ret (.c .non))] []), (.for (.nm 5) (.var 4) iBody)]
/-- what the def answers for two terms -/
def LmOk (C : CallF) (ar : Sx → Option Nat) (x y : MV) : Prop := ∀ mh, (∃ L d, Mt x y L ∧ Rpr d L ∧ DOk ar d ∧ C 33 [x, y] mh = some (.dct (aK d) (aV d), mh)) ∨ ((∀ L, ¬ Mt x y L) ∧ C 33 [x, y] mh = some (.non, mh))
theorem conL {A B : AL} (h : Con (A ++ B)) : Con A := h.congr fun p hp => List.mem_append_left _ hp
theorem conR {A B : AL} (h : Con (A ++ B)) : Con B := h.congr fun p hp => List.mem_append_right _ hp
theorem o_loop {C : CallF} {mh : MHp} {all allt : List MV} {ar : Sx → Option Nat} {J : Its} (hJ : J.src = none) : ∀ (ps ts : List MV) (i : Nat) (d L0 : AL) (o3 o4 o5 : Option MV), all.drop i = ps → allt.drop i = ts → ps.length = ts.length → (∀ z ∈ ps.zip ts, LmOk C ar z.1 z.2) → DOk ar d → Rpr d L0 → d.length + cnts ps ≤ 1000000 →
    (∃ L d' o3' o4' o5', prsL ps ts = some L ∧ Rpr d' (L0 ++ L) ∧ DOk ar d' ∧ forGo J (forF C mh.length (.nm 3) oBody) (upto i ps.length) (lE (.tup all) (.tup allt) mh.length o3 o4 o5) (H1 mh d) = some (.nx, lE (.tup all) (.tup allt) mh.length o3' o4' o5', H1 mh d')) ∨
    ((∀ L, prsL ps ts = some L → ¬ Con (L0 ++ L)) ∧ ∃ d' o3' o4' o5', forGo J (forF C mh.length (.nm 3) oBody) (upto i ps.length) (lE (.tup all) (.tup allt) mh.length o3 o4 o5) (H1 mh d) = some (.rt .non, lE (.tup all) (.tup allt) mh.length o3' o4' o5', H1 mh d'))
  | [], ts, i, d, L0, o3, o4, o5, _, _, _, _, hd, hr, _ => .inl ⟨[], d, o3, o4, o5, rfl, by simpa using hr, hd, forGo_nil_of hJ⟩
  | x :: ps, [], i, d, L0, o3, o4, o5, _, _, h, _, _, _, _ => by simp at h
  | x :: ps, y :: ts, i, d, L0, o3, o4, o5, ha, hb, hlen, hC, hd, hr, hl => by
    have nth : ∀ {al : List MV} {z : MV} {zs : List MV}, al.drop i = z :: zs → al[i]? = some z ∧ al.drop (i + 1) = zs := fun {al z zs} h => by
      refine ⟨?_, ?_⟩
      · have := congrArg (·[0]?) h
        simpa using this
      · have := congrArg (·.drop 1) h
        simpa using this
    obtain ⟨ax, ad⟩ := nth ha
    obtain ⟨bx, bd⟩ := nth hb
    simp only [cnts] at hl
    have hxy := hC (x, y) (by simp) (H1 mh d)
    have pl : ∀ L, prsL (x :: ps) (y :: ts) = some L → ∃ L1 L2, prs x y = some L1 ∧ prsL ps ts = some L2 ∧ L = L1 ++ L2 := fun L h => by
      simp only [prsL, Option.bind_eq_some_iff, Option.map_eq_some_iff] at h
      obtain ⟨a, h1, b, h2, h3⟩ := h
      exact ⟨a, b, h1, h2, h3.symm⟩
    rw [List.length_cons, upto, forGo_cons_of hJ]
    have s1 : ∀ {v : MV}, C 33 [x, y] (H1 mh d) = some (v, H1 mh d) → ex C mh.length (.set (.nm 4) (.call 33 [(.sub (.var 0) (.var 3)), (.sub (.var 1) (.var 3))])) (lE (.tup all) (.tup allt) mh.length (some (.int (i : Int))) o4 o5) (H1 mh d) = some (.nx, lE (.tup all) (.tup allt) mh.length (some (.int (i : Int))) (some v) o5, H1 mh d) := fun {v} e => by
      have i1 := idx_nat ax
      have i2 := idx_nat bx
      generalize H1 mh d = H at *
      simp [ex, ev, evs, subV, i1, i2, e, asg]
    have a0 : asg (H1 mh d) (.nm 3) (.int (i : Int)) (lE (.tup all) (.tup allt) mh.length o3 o4 o5) = some (lE (.tup all) (.tup allt) mh.length (some (.int (i : Int))) o4 o5) := by simp [asg]
    rcases hxy with ⟨L1, d2, hM, hr2, hd2, e⟩ | ⟨hno, e⟩
    · have hlook : ∀ q ∈ d2, Tm ar q.2 ∧ dat (.str q.1) = true ∧ look d2 q.1 = some q.2 := fun q hq => ⟨(hd2 q hq).1, (hd2 q hq).2, look_of hr2.nd hq⟩
      have hd2l : d2.length ≤ cnt x := by
        have nd : d2.Nodup := List.Pairwise.of_map Prod.fst (fun a b hne hab => hne (by rw [hab])) hr2.nd
        exact Nat.le_trans (nodup_len d2 L1 nd fun q hq => (hr2.mem q).mp hq) (prs_len x y L1 hM.1)
      have ei : evI C mh.length (.var 4) (lE (.tup all) (.tup allt) mh.length (some (.int (i : Int))) (some (.dct (aK d2) (aV d2))) o5) (H1 mh d) = some (⟨d2.map fun q => .str q.1, none⟩, H1 mh d) := by
        generalize H1 mh d = H
        simp [evI, ev, itsOf, kM_keys]
      have s2 : ex C mh.length (.ite (.cmp .is (.var 4) (.c .non)) [(.ret (.c .non))] []) (lE (.tup all) (.tup allt) mh.length (some (.int (i : Int))) (some (.dct (aK d2) (aV d2))) o5) (H1 mh d) = some (.nx, lE (.tup all) (.tup allt) mh.length (some (.int (i : Int))) (some (.dct (aK d2) (aV d2))) o5, H1 mh d) := by
        generalize H1 mh d = H
        simp [ex, exs, ev, cmpV, isV]
      have st : ∀ {fl : Fl} {ρ : Env} {H : MHp}, forGo ⟨d2.map fun q => .str q.1, none⟩ (forF C mh.length (.nm 5) iBody) (d2.map fun q => .str q.1) (lE (.tup all) (.tup allt) mh.length (some (.int (i : Int))) (some (.dct (aK d2) (aV d2))) o5) (H1 mh d) = some (fl, ρ, H) → forF C mh.length (.nm 3) oBody (.int (i : Int)) (lE (.tup all) (.tup allt) mh.length o3 o4 o5) (H1 mh d) = some (fl, ρ, H) := fun {fl ρ H} h => by
        unfold forF
        rw [a0]
        simp only
        rw [oBody, exs, s1 e]
        simp only
        rw [exs, s2]
        simp only
        rw [exs, ex_for, ei]
        simp only
        have h' : forGo ⟨d2.map fun q => .str q.1, none⟩ (forF C mh.length (.nm 5) iBody) (d2.map fun q => .str q.1) _ _ = _ := h
        rw [h']
        cases fl <;> simp [exs]
      have hcc : ∀ q, q ∈ L0 ++ d2 ↔ q ∈ L0 ++ L1 := fun q => by rw [List.mem_append, List.mem_append, hr2.mem]
      rcases i_loop (C := C) (mh := mh) (p := .tup all) (t := .tup allt) (o3 := some (.int (i : Int))) (J := ⟨d2.map fun q => .str q.1, none⟩) rfl d2 d L0 o5 hd hr hlook (by omega) with ⟨d', o5', e2, z1, z2, z3⟩ | ⟨z1, d', o5', e2⟩
      · rw [st e2]
        simp only
        rcases o_loop hJ ps ts (i + 1) d' (L0 ++ L1) (some (.int (i : Int))) (some (.dct (aK d2) (aV d2))) o5' ad bd (by simpa using hlen) (fun z hz => hC z (by simp [hz])) z2 (z1.congr hcc) (by omega) with ⟨L, d3, o3', o4', o5'', w1, w2, w3, w4⟩ | ⟨w1, w2⟩
        · refine .inl ⟨L1 ++ L, d3, o3', o4', o5'', ?_, w2.congr fun q => by simp [or_assoc], w3, w4⟩
          simp [prsL, hM.1, w1]
        · refine .inr ⟨fun L hL hc => ?_, w2⟩
          obtain ⟨A, B, p1, p2, rfl⟩ := pl L hL
          rw [hM.1] at p1
          cases p1
          exact w1 B p2 (by rw [List.append_assoc]; exact hc)
      · rw [st e2]
        refine .inr ⟨fun L hL hc => ?_, d', _, _, o5', rfl⟩
        obtain ⟨A, B, p1, p2, rfl⟩ := pl L hL
        rw [hM.1] at p1
        cases p1
        rw [← List.append_assoc] at hc
        exact z1 ((conL (A := L0 ++ L1) hc).congr fun q hq => (hcc q).mp hq)
    · have st : forF C mh.length (.nm 3) oBody (.int (i : Int)) (lE (.tup all) (.tup allt) mh.length o3 o4 o5) (H1 mh d) = some (.rt .non, lE (.tup all) (.tup allt) mh.length (some (.int (i : Int))) (some .non) o5, H1 mh d) := by
        unfold forF
        rw [a0]
        simp only
        rw [oBody, exs, s1 e]
        generalize H1 mh d = H
        simp [exs, ex, ev, cmpV, isV]
      rw [st]
      refine .inr ⟨fun L hL hc => ?_, d, _, _, o5, rfl⟩
      obtain ⟨A, B, p1, p2, rfl⟩ := pl L hL
      rw [← List.append_assoc] at hc
      exact hno A ⟨p1, conR (A := L0) (conL (A := L0 ++ A) hc)⟩
theorem tm_part {ar : Sx → Option Nat} {a : Sx} {ps : List MV} {x : MV} (h : Tm ar (.tup (.str a :: ps))) (hx : x ∈ ps) : Tm ar x := by
  rcases tmA_cases h.tm h.dat with ⟨s, e⟩ | ⟨b, ts', e, w1, w2, w3⟩
  · cases e
  · cases e
    refine ⟨(w3 x hx).1, (w3 x hx).2, ?_⟩
    have := dep_mem (h := .str a) hx
    have := h.dep
    omega
theorem _root_.L2.Mi.Tm.cases {ar : Sx → Option Nat} {t : MV} (h : Tm ar t) : (∃ s, t = .str s) ∨ ∃ a xs, t = .tup (.str a :: xs) ∧ ar a = some xs.length ∧ dat (.str a) = true ∧ ∀ x ∈ xs, Tm ar x := by
  rcases tmA_cases h.tm h.dat with ⟨s, rfl⟩ | ⟨a, xs, rfl, w1, w2, w3⟩
  · exact .inl ⟨s, rfl⟩
  · exact .inr ⟨a, xs, rfl, w1, w2, fun x hx => tm_part h hx⟩
theorem sp_lmatch {ar : Sx → Option Nat} : ∀ (D k : Nat) (p t : MV), dep p ≤ D → cnt p ≤ 100000 → Tm ar p → Tm ar t → LmOk (callM T (k + D + 1)) ar p t := by
  intro D
  induction D with
  | zero =>
    intro k p t hD hc hp ht mh
    rcases hp.cases with ⟨s, rfl⟩ | ⟨a, ps, rfl, q1, q2, q3⟩
    · refine .inl ⟨[(s, t)], [(s, t)], ⟨by simp [prs], fun a b c h1 h2 => by simp at h1 h2; rw [h1.2, h2.2]⟩, ⟨by simp, fun q => Iff.rfl⟩, fun q hq => by simp at hq; subst hq; exact ⟨ht, hp.dat⟩, ?_⟩
      rw [callM_eq (d := d_l_match) rfl]
      have e : exs (callM T (k + 0)) mh.length d_l_match.body [some (.str s), some t, none, none, none, none] mh = some (.rt (.dct (aK [(s, t)]) (aV [(s, t)])), [some (.str s), some t, none, none, none, none], mh) := by
        simp [d_l_match, exs, ex, ev, isTy, kyV, aK, aV]
      have := run_of2 (C := callM T (k + 0)) (d := d_l_match) (args := [.str s, t]) rfl rfl e rfl (by simp [dat2, dat2s, aV, dat_dat2 _ ht.dat])
      rw [List.take_length] at this
      exact this
    · simp [dep] at hD
  | succ D ih =>
    intro k p t hD hc hp ht mh
    rcases hp.cases with ⟨s, rfl⟩ | ⟨a, ps, rfl, q1, q2, q3⟩
    · refine .inl ⟨[(s, t)], [(s, t)], ⟨by simp [prs], fun a b c h1 h2 => by simp at h1 h2; rw [h1.2, h2.2]⟩, ⟨by simp, fun q => Iff.rfl⟩, fun q hq => by simp at hq; subst hq; exact ⟨ht, hp.dat⟩, ?_⟩
      rw [callM_eq (d := d_l_match) rfl]
      have e : exs (callM T (k + (D + 1))) mh.length d_l_match.body [some (.str s), some t, none, none, none, none] mh = some (.rt (.dct (aK [(s, t)]) (aV [(s, t)])), [some (.str s), some t, none, none, none, none], mh) := by
        simp [d_l_match, exs, ex, ev, isTy, kyV, aK, aV]
      have := run_of2 (C := callM T (k + (D + 1))) (d := d_l_match) (args := [.str s, t]) rfl rfl e rfl (by simp [dat2, dat2s, aV, dat_dat2 _ ht.dat])
      rw [List.take_length] at this
      exact this
    · rw [show k + (D + 1) + 1 = (k + D + 1) + 1 by omega]
      have t1 : ex (callM T (k + D + 1)) mh.length (.ite (.isi (.var 0) .str) [(.ret (.disp1 (.var 0) (.var 1)))] []) [some (.tup (.str a :: ps)), some t, none, none, none, none] mh = some (.nx, [some (.tup (.str a :: ps)), some t, none, none, none, none], mh) := by
        simp [ex, exs, ev, isTy]
      have fail : ∀ {v : MV}, exs (callM T (k + D + 1)) mh.length d_l_match.body [some (.tup (.str a :: ps)), some t, none, none, none, none] mh = some (.rt .non, [some (.tup (.str a :: ps)), some t, none, none, none, none], mh) → callM T ((k + D + 1) + 1) 33 [.tup (.str a :: ps), t] mh = some (.non, mh) := fun {v} e => by
        rw [callM_eq (d := d_l_match) rfl]
        have := run_of2 (C := callM T (k + D + 1)) (d := d_l_match) (args := [.tup (.str a :: ps), t]) rfl rfl e rfl rfl
        rw [List.take_length] at this
        exact this
      rcases ht.cases with ⟨s, rfl⟩ | ⟨b, ts, rfl, w1, w2, w3⟩
      · refine .inr ⟨fun L hL => (by have := hL.1; rw [prs_ts] at this; cases this), fail (v := .non) ?_⟩
        rw [d_l_match, exs, t1]
        simp [exs, ex, ev, isTy]
      · have hab := eqV_str mh a b q2 w2
        by_cases hab' : a = b
        · subst hab'
          have hlen : ps.length = ts.length := by rw [q1] at w1; exact Option.some.inj w1
          simp at hab
          have t2 : ex (callM T (k + D + 1)) mh.length (.ite (.or (.isi (.var 1) .str) (.cmp .ne (.sub (.var 0) (.c (.int (0)))) (.sub (.var 1) (.c (.int (0)))))) [(.ret (.c .non))] []) [some (.tup (.str a :: ps)), some (.tup (.str a :: ts)), none, none, none, none] mh = some (.nx, [some (.tup (.str a :: ps)), some (.tup (.str a :: ts)), none, none, none, none], mh) := by
            simp [ex, exs, ev, isTy, subV, atI0, cmpV, hab]
          have t3 : ex (callM T (k + D + 1)) mh.length (.set (.nm 2) (.al .dnew)) [some (.tup (.str a :: ps)), some (.tup (.str a :: ts)), none, none, none, none] mh = some (.nx, lE (.tup (.str a :: ps)) (.tup (.str a :: ts)) mh.length none none none, H1 mh []) := by
            simp [ex, ev, asg, aK, aV]
          have hlp := len_cnts ps
          simp only [cnt, cntT] at hc
          have ei : evI (callM T (k + D + 1)) mh.length (.rng2 (.c (.int (1))) (.bi .len [(.var 0)])) (lE (.tup (.str a :: ps)) (.tup (.str a :: ts)) mh.length none none none) (H1 mh []) = some (⟨upto 1 ps.length, none⟩, H1 mh []) := by
            have u := upto_eq ps.length 1
            have b2 : (ps.length : Int) + 1 < 4611686018427387904 := by omega
            have b3 : (-4611686018427387904 : Int) ≤ (ps.length : Int) + 1 := by omega
            simp only [Int.natCast_one] at u
            generalize H1 mh [] = H
            simp [evI, ev, evs, biV, one1, lenV, b2, b3, u]
          have hrun : ∀ {fl : Fl} {ρ : Env} {H : MHp}, forGo ⟨upto 1 ps.length, none⟩ (forF (callM T (k + D + 1)) mh.length (.nm 3) oBody) (upto 1 ps.length) (lE (.tup (.str a :: ps)) (.tup (.str a :: ts)) mh.length none none none) (H1 mh []) = some (fl, ρ, H) → exs (callM T (k + D + 1)) mh.length d_l_match.body [some (.tup (.str a :: ps)), some (.tup (.str a :: ts)), none, none, none, none] mh = match fl with
              | .nx => exs (callM T (k + D + 1)) mh.length [(.ret (.var 2))] ρ H
              | _ => some (fl, ρ, H) := fun {fl ρ H} h => by
            rw [d_l_match, exs, t1]
            simp only
            rw [exs, t2]
            simp only
            rw [exs, t3]
            simp only
            rw [exs, ex_for, ei]
            simp only
            rw [h]
            cases fl <;> rfl
          rcases o_loop (C := callM T (k + D + 1)) (mh := mh) (all := .str a :: ps) (allt := .str a :: ts) (ar := ar) (J := ⟨upto 1 ps.length, none⟩) rfl ps ts 1 [] [] none none none rfl rfl hlen (fun z hz => by
            have hz' := List.of_mem_zip (a := z.1) (b := z.2) hz
            exact ih k z.1 z.2 (by have := dep_mem (h := .str a) hz'.1; omega) (by have := cnt_le hz'.1; omega) (q3 _ hz'.1) (w3 _ hz'.2)) (fun q hq => by simp at hq) ⟨by simp, fun q => by simp⟩ (by simp; omega) with ⟨L, d', o3', o4', o5', y1, y2, y3, y4⟩ | ⟨y1, d', o3', o4', o5', y4⟩
          · rw [List.nil_append] at y2
            have hM : prs (.tup (.str a :: ps)) (.tup (.str a :: ts)) = some L := by rw [prs_tup, if_pos rfl]; exact y1
            refine .inl ⟨L, d', ⟨hM, y2.con⟩, y2, y3, ?_⟩
            have full := hrun y4
            simp only [exs, ex, ev] at full
            rw [callM_eq (d := d_l_match) rfl]
            have := run_frz2 (C := callM T (k + D + 1)) (d := d_l_match) (args := [.tup (.str a :: ps), .tup (.str a :: ts)]) (mh := mh) (mh1 := H1 mh d') (fl := .rt (.loc mh.length)) (ρ := lE (.tup (.str a :: ps)) (.tup (.str a :: ts)) mh.length o3' o4' o5') (v := .loc mh.length) rfl rfl full rfl (hfrz (Nat.le_refl _) y3.dats)
            rw [htake] at this
            exact this
          · refine .inr ⟨fun L hL => ?_, ?_⟩
            · have h1 := hL.1
              rw [prs_tup, if_pos rfl] at h1
              exact y1 L h1 (by rw [List.nil_append]; exact hL.2)
            · have full := hrun y4
              rw [callM_eq (d := d_l_match) rfl]
              have := run_of2 (C := callM T (k + D + 1)) (d := d_l_match) (args := [.tup (.str a :: ps), .tup (.str a :: ts)]) rfl rfl full rfl rfl
              rw [htake] at this
              exact this
        · simp [hab'] at hab
          refine .inr ⟨fun L hL => (by have := hL.1; rw [prs_tup, if_neg hab'] at this; cases this), fail (v := .non) ?_⟩
          rw [d_l_match, exs, t1]
          simp [exs, ex, ev, isTy, subV, atI0, cmpV, hab]
end L2.Mi.k08

set_option Elab.async false
set_option linter.all false
set_option maxRecDepth 100000
set_option maxHeartbeats 4000000
namespace L2.Mi.k08
open PySem PySem.Spec PyProof.Rows L2.Mi
def hasV (acc : List MV) (x : MV) : Bool := acc.any fun z => eqD z x
mutual
/-- the names of a term, each once, in order -/
def vars : MV → List MV
  | .str s => [.str s]
  | .tup xs => varsT xs
  | _ => []
def varsT : List MV → List MV
  | [] => []
  | _ :: xs => varsL [] xs
def varsL : List MV → List MV → List MV
  | acc, [] => acc
  | acc, x :: xs => varsL (acc ++ (vars x).filter fun n => !hasV acc n) xs
end
def AllS (xs : List MV) : Prop := ∀ x ∈ xs, ∃ s, x = .str s ∧ dat x = true
theorem AllS.app {a b : List MV} (h : AllS a) (h' : AllS b) : AllS (a ++ b) := fun x hx => (List.mem_append.mp hx).elim (h x) (h' x)
theorem AllS.filter {a : List MV} {p : MV → Bool} (h : AllS a) : AllS (a.filter p) := fun x hx => h x (List.mem_filter.mp hx).1
theorem AllS.dats {a : List MV} (h : AllS a) : dats a = true := dats_iff.mpr fun x hx => (h x hx).elim fun _ z => z.2
theorem AllS.ok {a : List MV} (h : AllS a) : okD (.lst a) = true := okD_dat (by unfold dat; exact h.dats) (by
  have : deps a ≤ 0 := deps_le fun x hx => by obtain ⟨s, rfl, _⟩ := h x hx; simp [dep]
  simp only [dep]; omega)
mutual
theorem vars_all : ∀ t, tm t = true → dat t = true → AllS (vars t) ∧ (vars t).length ≤ cnt t
  | .str s, h, d => ⟨fun x hx => by simp [vars] at hx; subst hx; exact ⟨s, rfl, d⟩, by simp [vars, cnt]⟩
  | .tup [], h, d => by simp [tm, tmT] at h
  | .tup (y :: xs), h, d => by
    simp only [tm, tmT, Bool.and_eq_true] at h
    have hx : dats xs = true := by unfold dat dats at d; rw [Bool.and_eq_true] at d; exact d.2
    obtain ⟨a, b⟩ := varsL_all [] xs h.2 hx (fun x hx => by simp at hx)
    refine ⟨by simp only [vars, varsT]; exact a, ?_⟩
    simp only [vars, varsT, cnt, cntT]
    simp at b
    omega
  | .non, h, _ => by simp [tm] at h
  | .bl _, h, _ => by simp [tm] at h
  | .int _, h, _ => by simp [tm] at h
  | .fn _, h, _ => by simp [tm] at h
  | .lst _, h, _ => by simp [tm] at h
  | .loc _, h, _ => by simp [tm] at h
  | .dct _ _, h, _ => by simp [tm] at h
  | .scr _, h, _ => by simp [tm] at h
theorem varsL_all : ∀ acc xs, tms xs = true → dats xs = true → AllS acc → AllS (varsL acc xs) ∧ (varsL acc xs).length ≤ acc.length + cnts xs
  | acc, [], h, d, ha => by simp only [varsL]; exact ⟨ha, by simp [cnts]⟩
  | acc, x :: xs, h, d, ha => by
    simp only [tms, Bool.and_eq_true] at h
    simp only [dats, Bool.and_eq_true] at d
    obtain ⟨a, b⟩ := vars_all x h.1 d.1
    obtain ⟨a2, b2⟩ := varsL_all (acc ++ (vars x).filter fun n => !hasV acc n) xs h.2 d.2 (ha.app a.filter)
    have hf := List.length_filter_le (fun n => !hasV acc n) (vars x)
    refine ⟨by simp only [varsL]; exact a2, ?_⟩
    simp only [varsL, cnts]
    rw [List.length_append] at b2
    omega
end
theorem mem_str {mh : MHp} {acc : List MV} {x : MV} (ha : AllS acc) (hx : ∃ s, x = .str s ∧ dat x = true) : memV mh x (.lst acc) = some (hasV acc x) := by
  obtain ⟨s, rfl, hd⟩ := hx
  have e1 : frz 0 mh 8 (.str s) = some (.str s) := frz_dat _ hd
  have e2 : frz 0 mh 8 (.lst acc) = some (.lst acc) := frz_dat _ (by unfold dat; exact ha.dats)
  have o1 := okD_str hd
  have o2 := ha.ok
  unfold memV
  split
  · rename_i h; cases h
  · simp only [e1, e2, o1, o2, and_self, if_true]
    rfl
abbrev nmBody : List MS := [(.set (.nm 1) (.bin .add (.var 1) (.comp (.nm 3) [3] (.call 29 [(.var 2)]) (.cmp .nmem (.var 3) (.var 1)) (.var 3))))]
theorem names_loop {C : CallF} {b : Nat} {t : Option MV} {mh : MHp} {J : Its} (hJ : J.src = none) : ∀ (xs acc : List MV) (o : Option MV), (∀ x ∈ xs, C 29 [x] mh = some (.lst (vars x), mh)) → tms xs = true → dats xs = true → AllS acc → acc.length + cnts xs ≤ 2000 →
    ∃ o', forGo J (forF C b (.nm 2) nmBody) xs [t, some (.lst acc), o, none] mh = some (.nx, [t, some (.lst (varsL acc xs)), o', none], mh)
  | [], acc, o, _, _, _, _, _ => ⟨o, by simp only [varsL]; exact forGo_nil_of hJ⟩
  | x :: xs, acc, o, hC, ht, hd, ha, hl => by
    simp only [tms, Bool.and_eq_true] at ht
    simp only [dats, Bool.and_eq_true] at hd
    simp only [cnts] at hl
    obtain ⟨va, vl⟩ := vars_all x ht.1 hd.1
    have hc := hC x (by simp)
    have hcomp : ev C b (.comp (.nm 3) [3] (.call 29 [(.var 2)]) (.cmp .nmem (.var 3) (.var 1)) (.var 3)) [t, some (.lst acc), some x, none] mh = some (.lst ((vars x).filter fun n => !hasV acc n), mh) := by
      have ei : evI C b (.call 29 [(.var 2)]) [t, some (.lst acc), some x, none] mh = some (⟨vars x, none⟩, mh) := by
        simp [evI, ev, evs, hc, itsOf]
      have hz : (vars x).length ≤ line := by unfold line; omega
      rw [ev_compq, ei]
      simp only [hz, if_true]
      rw [compGo_pure rfl (g := fun n => if (!hasV acc n) = true then some n else none)]
      · simp only
        rw [fm_filter]
      · intro n hn
        have hm := mem_str (mh := mh) ha (va n hn)
        cases hb : hasV acc n <;> rw [hb] at hm <;> simp [compF, asg, wipeE, ev, cmpV, hm]
    have hf := List.length_filter_le (fun n => !hasV acc n) (vars x)
    obtain ⟨F, hF⟩ : ∃ F, F = (vars x).filter fun n => !hasV acc n := ⟨_, rfl⟩
    rw [← hF] at hcomp hf
    have hz2 : acc.length + F.length ≤ line := by unfold line; omega
    have st : forF C b (.nm 2) nmBody x [t, some (.lst acc), o, none] mh = some (.nx, [t, some (.lst (acc ++ F)), some x, none], mh) := by
      simp [forF, asg, exs, ex, ev, ↓hcomp, binV, addV, getL, hz2]
    rw [forGo_cons_of hJ, st]
    obtain ⟨o', e⟩ := names_loop hJ xs (acc ++ F) (some x) (fun y hy => hC y (List.mem_cons_of_mem _ hy)) ht.2 hd.2 (ha.app (by rw [hF]; exact va.filter)) (by rw [List.length_append]; omega)
    refine ⟨o', ?_⟩
    simp only [varsL]
    rw [← hF]
    exact e
theorem sp_names : ∀ (N k : Nat) (t : MV) (mh : MHp), cnt t ≤ N → N ≤ 1000 → tm t = true → dat t = true → callM T (k + N) 29 [t] mh = some (.lst (vars t), mh) := by
  intro N
  induction N with
  | zero => intro k t mh hc; have := cnt_pos t; omega
  | succ N ih =>
    intro k t mh hc hN ht hd
    rw [show k + (N + 1) = k + N + 1 by omega, callM_eq (d := d_l_names) rfl]
    have hva := (vars_all t ht hd).1
    have hdv : dat (.lst (vars t)) = true := by unfold dat; exact hva.dats
    rcases tm_cases ht hd with ⟨s, rfl⟩ | ⟨s, xs, rfl, hds, hx⟩
    · refine run_of' rfl rfl (ρ := [some (.str s), none, none, none]) (fl := .rt (.lst (vars (.str s)))) ?_ rfl hdv rfl
      have z1 : 1 ≤ line := by unfold line; omega
      simp [d_l_names, exs, ex, ev, evs, isTy, vars, z1]
    · simp only [cnt, cntT] at hc
      obtain ⟨o', e⟩ := names_loop (C := callM T (k + N)) (b := mh.length) (t := some (.tup (.str s :: xs))) (mh := mh) (J := ⟨xs, none⟩) rfl xs [] none (fun x hxm => ih k x mh (by have := cnt_le hxm; omega) (by omega) (hx x hxm).1 (hx x hxm).2) (tms_iff.mpr fun x hxm => (hx x hxm).1) (dats_iff.mpr fun x hxm => (hx x hxm).2) (fun x hx => by simp at hx) (by simp; omega)
      refine run_of' rfl rfl (ρ := [some (.tup (.str s :: xs)), some (.lst (varsL [] xs)), o', none]) (fl := .rt (.lst (varsL [] xs))) ?_ (by simp [endV, vars, varsT]) (by have := hdv; simp only [vars, varsT] at this; exact this) rfl
      simp [d_l_names, exs, ex, ↓ex_for, ev, evs, evI, isTy, asg, slcV, cut1, itsOf, e]
theorem top_get {mh : MHp} {o : MO} : (mh ++ [some o])[mh.length]? = some (some o) := by
  rw [List.getElem?_append_right (Nat.le_refl _)]; simp
theorem top_set {mh : MHp} {o o' : MO} : (mh ++ [some o]).set mh.length (some o') = mh ++ [some o'] := by
  rw [List.set_append_right _ _ (Nat.le_refl _)]; simp
theorem take_top {mh : MHp} {o : MO} : (mh ++ [some o]).take mh.length = mh := by simp
abbrev nHp (mh : MHp) (w : List MV) : MHp := mh ++ [some (.lst w)]
theorem frz_top {n : Nat} {mh : MHp} {acc : List MV} (hn : n ≤ mh.length) (hd : dats acc = true) : frz n (nHp mh acc) 8 (.loc mh.length) = some (.lst acc) := by
  unfold frz
  rw [if_neg (by omega)]
  simp only [nHp, top_get]
  rw [frzs_dat acc hd]
  rfl
theorem run_frz {C : CallF} {d : Df} {args : List MV} {mh mh1 : MHp} {fl : Fl} {ρ : Env} {v w : MV} (hl : args.length = d.np) (hv : d.live = false) (e : exs C mh.length d.body (args.map some ++ List.replicate (d.ns - d.np) none) mh = some (fl, ρ, mh1))
    (he : endV fl = some v) (hf : frz mh.length mh1 8 v = some w) : runD C d args mh = some (w, mh1.take mh.length) := by
  unfold runD
  rw [if_pos hl, e]
  simp only [he, hv]
  rw [hf]
  rfl
theorem mem_loc {mh : MHp} {acc : List MV} {x : MV} (ha : AllS acc) (hx : ∃ s, x = .str s ∧ dat x = true) : memV (nHp mh acc) x (.loc mh.length) = some (hasV acc x) := by
  obtain ⟨s, rfl, hd⟩ := hx
  have e1 : frz 0 (nHp mh acc) 8 (.str s) = some (.str s) := frz_dat _ hd
  have e2 := frz_top (n := 0) (mh := mh) (Nat.zero_le _) ha.dats
  have o1 := okD_str hd
  have o2 := ha.ok
  unfold memV
  split
  · rename_i h; cases h
  · simp only [e1, e2, o1, o2, and_self, if_true]
    rfl
abbrev vrBody : List MS := [(.ex (.meth .extend (.var 1) [(.comp (.nm 3) [3] (.call 8 [(.var 2)]) (.cmp .nmem (.var 3) (.var 1)) (.var 3))]))]
theorem vars_loop {C : CallF} {t : Option MV} {mh : MHp} {J : Its} (hJ : J.src = none) : ∀ (xs acc : List MV) (o : Option MV), (∀ x ∈ xs, ∀ mh, C 8 [x] mh = some (.lst (vars x), mh)) → tms xs = true → dats xs = true → AllS acc → acc.length + cnts xs ≤ 2000 →
    ∃ o', forGo J (forF C mh.length (.nm 2) vrBody) xs [t, some (.loc mh.length), o, none] (nHp mh acc) = some (.nx, [t, some (.loc mh.length), o', none], nHp mh (varsL acc xs))
  | [], acc, o, _, _, _, _, _ => ⟨o, by simp only [varsL]; exact forGo_nil_of hJ⟩
  | x :: xs, acc, o, hC, ht, hd, ha, hl => by
    simp only [tms, Bool.and_eq_true] at ht
    simp only [dats, Bool.and_eq_true] at hd
    simp only [cnts] at hl
    obtain ⟨va, vl⟩ := vars_all x ht.1 hd.1
    have hc := hC x (by simp) (nHp mh acc)
    have hcomp : ev C mh.length (.comp (.nm 3) [3] (.call 8 [(.var 2)]) (.cmp .nmem (.var 3) (.var 1)) (.var 3)) [t, some (.loc mh.length), some x, none] (nHp mh acc) = some (.lst ((vars x).filter fun n => !hasV acc n), nHp mh acc) := by
      have ei : evI C mh.length (.call 8 [(.var 2)]) [t, some (.loc mh.length), some x, none] (nHp mh acc) = some (⟨vars x, none⟩, nHp mh acc) := by
        simp [evI, ev, evs, hc, itsOf]
      have hz : (vars x).length ≤ line := by unfold line; omega
      rw [ev_compq, ei]
      simp only [hz, if_true]
      rw [compGo_pure rfl (g := fun n => if (!hasV acc n) = true then some n else none)]
      · simp only
        rw [fm_filter]
      · intro n hn
        have hm := mem_loc (mh := mh) ha (va n hn)
        cases hb : hasV acc n <;> rw [hb] at hm <;> simp [compF, asg, wipeE, ev, cmpV, hm]
    have hf := List.length_filter_le (fun n => !hasV acc n) (vars x)
    obtain ⟨F, hF⟩ : ∃ F, F = (vars x).filter fun n => !hasV acc n := ⟨_, rfl⟩
    rw [← hF] at hcomp hf
    have hz2 : acc.length + F.length ≤ line := by unfold line; omega
    have hw : ∀ y ∈ F, wr mh.length mh.length y = true := fun y hy => by simp [wr]
    have me : ev C mh.length (.meth .extend (.var 1) [(.comp (.nm 3) [3] (.call 8 [(.var 2)]) (.cmp .nmem (.var 3) (.var 1)) (.var 3))]) [t, some (.loc mh.length), some x, none] (nHp mh acc) = some (.non, nHp mh (acc ++ F)) := by
      have l1 : liveL (nHp mh acc) (.loc mh.length) = some (mh.length, acc) := by simp [liveL, nHp, top_get]
      have m1 : methV mh.length (nHp mh acc) .extend (.loc mh.length) [.lst F] = some (.non, nHp mh (acc ++ F)) := by
        simp only [methV, extV, l1, seqOf, getL]
        rw [if_pos ⟨List.all_eq_true.mpr hw, hz2⟩]
        simp only [nHp, top_set]
      have ty : tyM (nHp mh acc) .extend (.loc mh.length) = true := by simp [tyM, l1]
      have v1 : ev C mh.length (.var 1) [t, some (.loc mh.length), some x, none] (nHp mh acc) = some (.loc mh.length, nHp mh acc) := by simp [ev]
      have es : evs C mh.length [(.comp (.nm 3) [3] (.call 8 [(.var 2)]) (.cmp .nmem (.var 3) (.var 1)) (.var 3))] [t, some (.loc mh.length), some x, none] (nHp mh acc) = some ([.lst F], nHp mh acc) := by
        rw [evs, hcomp]; simp only [evs]
      rw [ev, v1]
      simp only [ty, if_true, es, m1]
    have st : forF C mh.length (.nm 2) vrBody x [t, some (.loc mh.length), o, none] (nHp mh acc) = some (.nx, [t, some (.loc mh.length), some x, none], nHp mh (acc ++ F)) := by
      have a0 : asg (nHp mh acc) (.nm 2) x [t, some (.loc mh.length), o, none] = some [t, some (.loc mh.length), some x, none] := by simp [asg]
      unfold forF
      rw [a0]
      simp only
      rw [vrBody, exs, ex, me]
      simp only [exs]
    rw [forGo_cons_of hJ, st]
    obtain ⟨o', e⟩ := vars_loop hJ xs (acc ++ F) (some x) (fun y hy => hC y (List.mem_cons_of_mem _ hy)) ht.2 hd.2 (ha.app (by rw [hF]; exact va.filter)) (by rw [List.length_append]; omega)
    refine ⟨o', ?_⟩
    simp only [varsL]
    rw [← hF]
    exact e
theorem sp_vars : ∀ (N k : Nat) (t : MV) (mh : MHp), cnt t ≤ N → N ≤ 1000 → tm t = true → dat t = true → callM T (k + N + 1) 8 [t] mh = some (.lst (vars t), mh) := by
  intro N
  induction N with
  | zero => intro k t mh hc; have := cnt_pos t; omega
  | succ N ih =>
    intro k t mh hc hN ht hd
    rw [callM_eq (d := d_variables) rfl, show k + (N + 1) = k + N + 1 by omega]
    have iv := sp_isvar (k + N) t mh hd
    have hva := (vars_all t ht hd).1
    have hdv : dat (.lst (vars t)) = true := by unfold dat; exact hva.dats
    rcases tm_cases ht hd with ⟨s, rfl⟩ | ⟨s, xs, rfl, hds, hx⟩
    · refine run_of' rfl rfl (ρ := [some (.str s), none, none, none]) (fl := .rt (.lst (vars (.str s)))) ?_ rfl hdv rfl
      have z1 : 1 ≤ line := by unfold line; omega
      simp only [isS] at iv
      simp [d_variables, exs, ex, ev, evs, iv, vars, z1]
    · simp only [cnt, cntT] at hc
      simp only [isS] at iv
      simp only [vars, varsT] at hva
      obtain ⟨o', e⟩ := vars_loop (C := callM T (k + N + 1)) (t := some (.tup (.str s :: xs))) (mh := mh) (J := ⟨xs, none⟩) rfl xs [] none (fun x hxm mh => ih k x mh (by have := cnt_le hxm; omega) (by omega) (hx x hxm).1 (hx x hxm).2) (tms_iff.mpr fun x hxm => (hx x hxm).1) (dats_iff.mpr fun x hxm => (hx x hxm).2) (fun x hx => by simp at hx) (by simp; omega)
      have := run_frz (C := callM T (k + N + 1)) (d := d_variables) (args := [.tup (.str s :: xs)]) (mh := mh) (mh1 := nHp mh (varsL [] xs)) (fl := .rt (.loc mh.length)) (ρ := [some (.tup (.str s :: xs)), some (.loc mh.length), o', none]) (v := .loc mh.length) (w := .lst (varsL [] xs)) rfl rfl ?_ rfl (frz_top (Nat.le_refl _) hva.dats)
      · rw [take_top] at this
        simp only [vars, varsT]
        exact this
      · show exs (callM T (k + N + 1)) mh.length d_variables.body [some (.tup (.str s :: xs)), none, none, none] mh = _
        have s1 : ex (callM T (k + N + 1)) mh.length (.ite (.call 5 [(.var 0)]) [(.ret (.lst [(.var 0)]))] []) [some (.tup (.str s :: xs)), none, none, none] mh = some (.nx, [some (.tup (.str s :: xs)), none, none, none], mh) := by
          simp [ex, exs, ev, evs, iv]
        have s2 : ex (callM T (k + N + 1)) mh.length (.set (.nm 1) (.al (.lst []))) [some (.tup (.str s :: xs)), none, none, none] mh = some (.nx, [some (.tup (.str s :: xs)), some (.loc mh.length), none, none], nHp mh []) := by
          simp [ex, ev, evs, asg, nHp]
        have ei : evI (callM T (k + N + 1)) mh.length (.slcL (.var 0) (.c (.int (1)))) [some (.tup (.str s :: xs)), some (.loc mh.length), none, none] (nHp mh []) = some (⟨xs, none⟩, nHp mh []) := by
          simp [evI, ev, slcV, cut1, itsOf]
        rw [d_variables, exs, s1]
        simp only
        rw [exs, s2]
        simp only
        rw [exs, ex_for, ei]
        simp only
        rw [e]
        simp [exs, ex, ev]
abbrev poBody : List MS := [(.ex (.meth .extend (.var 1) [(.comp (.nm 3) [3] (.call 9 [(.sub (.var 0) (.var 2))]) (.c (.bl true)) (.bin .add (.tup [(.var 2)]) (.var 3)))]))]
theorem pos_loop {C : CallF} {all : List MV} {mh : MHp} {J : Its} (hJ : J.src = none) : ∀ (xs : List MV) (k : Nat) (acc : List (List Int)) (o : Option MV), all.drop k = xs → (∀ x ∈ xs, ∀ mh, C 9 [x] mh = some (.lst ((pls x).map pV), mh)) → acc.length + cnts xs ≤ 8000000 → cnts xs ≤ 4000000 →
    ∃ o', forGo J (forF C mh.length (.nm 2) poBody) (upto k xs.length) [some (.tup all), some (.loc mh.length), o, none] (nHp mh (acc.map pV)) = some (.nx, [some (.tup all), some (.loc mh.length), o', none], nHp mh ((acc ++ plsL k xs).map pV))
  | [], k, acc, o, _, _, _, _ => ⟨o, by simp only [plsL, List.append_nil]; exact forGo_nil_of hJ⟩
  | x :: xs, k, acc, o, hd, hC, hl, hl2 => by
    have hk : all[k]? = some x := by
      have := congrArg (·[0]?) hd
      simpa using this
    have hd' : all.drop (k + 1) = xs := by
      have := congrArg (·.drop 1) hd
      simpa using this
    simp only [cnts] at hl hl2
    have hc := hC x (by simp) (nHp mh (acc.map pV))
    have v1 : ev C mh.length (.call 9 [(.sub (.var 0) (.var 2))]) [some (.tup all), some (.loc mh.length), some (.int (k : Int)), none] (nHp mh (acc.map pV)) = some (.lst ((pls x).map pV), nHp mh (acc.map pV)) := by
      simp [ev, evs, subV, idx_nat hk, hc]
    have v2 : evI C mh.length (.call 9 [(.sub (.var 0) (.var 2))]) [some (.tup all), some (.loc mh.length), some (.int (k : Int)), none] (nHp mh (acc.map pV)) = some (⟨(pls x).map pV, none⟩, nHp mh (acc.map pV)) := by
      simp [evI, ev, evs, subV, idx_nat hk, hc, itsOf]
    have hcomp := pos_comp (k := k) (x := x) rfl rfl v1 v2 (by omega)
    obtain ⟨F, hF⟩ : ∃ F, F = (pls x).map fun p => (k : Int) :: p := ⟨_, rfl⟩
    have hFl : F.length = cnt x := by rw [hF, List.length_map, pls_len]
    rw [← hF] at hcomp
    have hz2 : (acc.map pV).length + (F.map pV).length ≤ line := by rw [List.length_map, List.length_map]; unfold line; omega
    have hw : ∀ y ∈ F.map pV, wr mh.length mh.length y = true := fun y hy => by simp [wr]
    have me : ev C mh.length (.meth .extend (.var 1) [(.comp (.nm 3) [3] (.call 9 [(.sub (.var 0) (.var 2))]) (.c (.bl true)) (.bin .add (.tup [(.var 2)]) (.var 3)))]) [some (.tup all), some (.loc mh.length), some (.int (k : Int)), none] (nHp mh (acc.map pV)) = some (.non, nHp mh ((acc ++ F).map pV)) := by
      have l1 : liveL (nHp mh (acc.map pV)) (.loc mh.length) = some (mh.length, acc.map pV) := by simp [liveL, nHp, top_get]
      have m1 : methV mh.length (nHp mh (acc.map pV)) .extend (.loc mh.length) [.lst (F.map pV)] = some (.non, nHp mh ((acc ++ F).map pV)) := by
        simp only [methV, extV, l1, seqOf, getL]
        rw [if_pos ⟨List.all_eq_true.mpr hw, hz2⟩]
        simp only [nHp, top_set, List.map_append]
      have ty : tyM (nHp mh (acc.map pV)) .extend (.loc mh.length) = true := by simp [tyM, l1]
      have w1 : ev C mh.length (.var 1) [some (.tup all), some (.loc mh.length), some (.int (k : Int)), none] (nHp mh (acc.map pV)) = some (.loc mh.length, nHp mh (acc.map pV)) := by simp [ev]
      have es : evs C mh.length [(.comp (.nm 3) [3] (.call 9 [(.sub (.var 0) (.var 2))]) (.c (.bl true)) (.bin .add (.tup [(.var 2)]) (.var 3)))] [some (.tup all), some (.loc mh.length), some (.int (k : Int)), none] (nHp mh (acc.map pV)) = some ([.lst (F.map pV)], nHp mh (acc.map pV)) := by
        rw [evs, hcomp]; simp only [evs]
      rw [ev, w1]
      simp only [ty, if_true, es, m1]
    have st : forF C mh.length (.nm 2) poBody (.int (k : Int)) [some (.tup all), some (.loc mh.length), o, none] (nHp mh (acc.map pV)) = some (.nx, [some (.tup all), some (.loc mh.length), some (.int (k : Int)), none], nHp mh ((acc ++ F).map pV)) := by
      have a0 : asg (nHp mh (acc.map pV)) (.nm 2) (.int (k : Int)) [some (.tup all), some (.loc mh.length), o, none] = some [some (.tup all), some (.loc mh.length), some (.int (k : Int)), none] := by simp [asg]
      unfold forF
      rw [a0]
      simp only
      rw [poBody, exs, ex, me]
      simp only [exs]
    rw [List.length_cons, upto, forGo_cons_of hJ, st]
    obtain ⟨o', e⟩ := pos_loop hJ xs (k + 1) (acc ++ F) (some (.int (k : Int))) hd' (fun y hy => hC y (List.mem_cons_of_mem _ hy)) (by rw [List.length_append]; omega) (by omega)
    refine ⟨o', ?_⟩
    simp only [plsL]
    rw [← hF, ← List.append_assoc]
    exact e
/-- what is_whole says -/
def isW : MV → Int → Int → Bool
  | .int i, lo, hi => decide (lo ≤ i) && decide (i ≤ hi)
  | _, _, _ => false
theorem sp_whole (k : Nat) (v : MV) (lo hi : Int) (mh : MHp) (hd : dat v = true) : callM T (k + 1) 0 [v, .int lo, .int hi] mh = some (.bl (isW v lo hi), mh) := by
  rw [callM_eq (d := d_is_whole) rfl]
  refine run_of' rfl rfl (ρ := [some v, some (.int lo), some (.int hi)]) (fl := .rt (.bl (isW v lo hi))) ?_ rfl rfl rfl
  cases v with
  | int i =>
    by_cases h : i < lo
    · have h' : ¬ lo ≤ i := by omega
      simp [d_is_whole, exs, ex, ev, evs, isTy, isW, cmpV, ordV, h, h']
    · have h' : lo ≤ i := by omega
      by_cases h2 : hi < i
      · have h2' : ¬ i ≤ hi := by omega
        simp [d_is_whole, exs, ex, ev, evs, isTy, isW, cmpV, ordV, h, h', h2, h2']
      · have h2' : i ≤ hi := by omega
        simp [d_is_whole, exs, ex, ev, evs, isTy, isW, cmpV, ordV, h, h', h2, h2']
  | fn _ => cases hd
  | loc _ => cases hd
  | dct _ _ => cases hd
  | scr _ => cases hd
  | _ => simp [d_is_whole, exs, ex, ev, evs, isTy, isW]
/-- what has_position says of a tuple's items -/
def hpB : MV → List MV → Bool
  | _, [] => true
  | .tup (_ :: xs), v :: vs => match v with
    | .int i => if 1 ≤ i ∧ i ≤ xs.length then (match xs[i.toNat - 1]? with
      | some x => hpB x vs
      | none => false) else false
    | _ => false
  | _, _ :: _ => false
abbrev hpBody : List MS := [(.ite (.or (.call 5 [(.var 0)]) (.not (.call 0 [(.var 2), (.c (.int (1))), (.bin .sub (.bi .len [(.var 0)]) (.c (.int (1))))]))) [(.ret (.c (.bl false)))] []), (.set (.nm 0) (.sub (.var 0) (.var 2)))]
theorem hp_loop {k b : Nat} {p : Option MV} {mh : MHp} {J : Its} (hJ : J.src = none) : ∀ (vs : List MV) (t : MV) (o : Option MV), dats vs = true → tm t = true → dat t = true →
    (hpB t vs = true ∧ ∃ t' o', forGo J (forF (callM T (k + 1)) b (.nm 2) hpBody) vs [some t, p, o] mh = some (.nx, [some t', p, o'], mh)) ∨ (hpB t vs = false ∧ ∃ t' o', forGo J (forF (callM T (k + 1)) b (.nm 2) hpBody) vs [some t, p, o] mh = some (.rt (.bl false), [some t', p, o'], mh))
  | [], t, o, _, _, _ => .inl ⟨by unfold hpB; rfl, t, o, forGo_nil_of hJ⟩
  | v :: vs, t, o, hd, ht, hdt => by
    simp only [dats, Bool.and_eq_true] at hd
    have iv := sp_isvar k t mh hdt
    rcases tm_cases ht hdt with ⟨s, rfl⟩ | ⟨s, xs, rfl, hds, hx⟩
    · refine .inr ⟨by unfold hpB; rfl, .str s, some v, ?_⟩
      simp only [isS] at iv
      have st : forF (callM T (k + 1)) b (.nm 2) hpBody v [some (.str s), p, o] mh = some (.rt (.bl false), [some (.str s), p, some v], mh) := by
        simp [forF, asg, exs, ex, ev, evs, iv]
      rw [forGo_cons_of hJ, st]
    · simp only [isS] at iv
      have iw := sp_whole k v 1 (xs.length : Int) mh hd.1
      by_cases hw : isW v 1 (xs.length : Int) = true
      · cases v with
        | int i =>
          simp only [isW, Bool.and_eq_true, decide_eq_true_eq] at hw
          have hw' : isW (.int i) 1 (xs.length : Int) = true := by simp [isW, hw]
          rw [hw'] at iw
          obtain ⟨j, hj⟩ : ∃ j : Nat, i = ((1 + j : Nat) : Int) := ⟨i.toNat - 1, by omega⟩
          have hjl : j < xs.length := by omega
          have e1 : xs[j]? = some xs[j] := List.getElem?_eq_getElem hjl
          have e2 : i.toNat - 1 = j := by omega
          have hB : hpB (.tup (.str s :: xs)) (.int i :: vs) = hpB xs[j] vs := by
            rw [hpB, if_pos hw, e2, e1]
          rw [hB]
          have hxj := hx xs[j] (List.getElem_mem hjl)
          have e3 := idx_nat (get_cons1 (h := .str s) e1)
          rw [← hj] at e3
          have st : forF (callM T (k + 1)) b (.nm 2) hpBody (.int i) [some (.tup (.str s :: xs)), p, o] mh = some (.nx, [some xs[j], p, some (.int i)], mh) := by
            simp [forF, asg, exs, ex, ev, evs, iv, biV, one1, lenV, binV, intV, iw, subV, e3]
          rw [forGo_cons_of hJ, st]
          exact hp_loop hJ vs xs[j] (some (.int i)) hd.2 hxj.1 hxj.2
        | _ => simp [isW] at hw
      · simp only [Bool.not_eq_true] at hw
        rw [hw] at iw
        refine .inr ⟨?_, .tup (.str s :: xs), some v, ?_⟩
        · cases v with
          | int i =>
            simp only [isW, Bool.and_eq_false_iff, decide_eq_false_iff_not] at hw
            rw [hpB, if_neg (by omega)]
          | _ => unfold hpB; rfl
        · have st : forF (callM T (k + 1)) b (.nm 2) hpBody v [some (.tup (.str s :: xs)), p, o] mh = some (.rt (.bl false), [some (.tup (.str s :: xs)), p, some v], mh) := by
            simp [forF, asg, exs, ex, ev, evs, iv, biV, one1, lenV, binV, intV, iw]
          rw [forGo_cons_of hJ, st]
/-- what has_position says -/
def hpV (t : MV) : MV → Bool
  | .tup vs => hpB t vs
  | _ => false
theorem sp_hp (k : Nat) (t v : MV) (mh : MHp) (ht : tm t = true) (hdt : dat t = true) (hd : dat v = true) : callM T (k + 2) 10 [t, v] mh = some (.bl (hpV t v), mh) := by
  rw [callM_eq (d := d_has_position) rfl]
  cases v with
  | tup vs =>
    have hdv : dats vs = true := by unfold dat at hd; exact hd
    have s1 : ex (callM T (k + 1)) mh.length (.ite (.not (.isi (.var 1) .tuple)) [(.ret (.c (.bl false)))] []) [some t, some (.tup vs), none] mh = some (.nx, [some t, some (.tup vs), none], mh) := by
      simp [ex, exs, ev, isTy]
    have ei : evI (callM T (k + 1)) mh.length (.var 1) [some t, some (.tup vs), none] mh = some (⟨vs, none⟩, mh) := by simp [evI, ev, itsOf]
    rcases hp_loop (k := k) (b := mh.length) (p := some (.tup vs)) (mh := mh) (J := ⟨vs, none⟩) rfl vs t none hdv ht hdt with ⟨hb, t', o', e⟩ | ⟨hb, t', o', e⟩
    · refine run_of' rfl rfl (ρ := [some t', some (.tup vs), o']) (fl := .rt (.bl true)) ?_ (by simp [endV, hpV, hb]) rfl rfl
      show exs (callM T (k + 1)) mh.length d_has_position.body [some t, some (.tup vs), none] mh = _
      rw [d_has_position, exs, s1]
      simp only
      rw [exs, ex_for, ei]
      simp only
      rw [e]
      simp [exs, ex, ev]
    · refine run_of' rfl rfl (ρ := [some t', some (.tup vs), o']) (fl := .rt (.bl false)) ?_ (by simp [endV, hpV, hb]) rfl rfl
      show exs (callM T (k + 1)) mh.length d_has_position.body [some t, some (.tup vs), none] mh = _
      rw [d_has_position, exs, s1]
      simp only
      rw [exs, ex_for, ei]
      simp only
      rw [e]
  | fn _ => cases hd
  | loc _ => cases hd
  | dct _ _ => cases hd
  | scr _ => cases hd
  | non =>
    refine run_of' rfl rfl (ρ := [some t, some .non, none]) (fl := .rt (.bl false)) ?_ rfl rfl rfl
    simp [d_has_position, exs, ex, ev, isTy]
  | bl b =>
    refine run_of' rfl rfl (ρ := [some t, some (.bl b), none]) (fl := .rt (.bl false)) ?_ rfl rfl rfl
    simp [d_has_position, exs, ex, ev, isTy]
  | int i =>
    refine run_of' rfl rfl (ρ := [some t, some (.int i), none]) (fl := .rt (.bl false)) ?_ rfl rfl rfl
    simp [d_has_position, exs, ex, ev, isTy]
  | str s =>
    refine run_of' rfl rfl (ρ := [some t, some (.str s), none]) (fl := .rt (.bl false)) ?_ rfl rfl rfl
    simp [d_has_position, exs, ex, ev, isTy]
  | lst xs =>
    refine run_of' rfl rfl (ρ := [some t, some (.lst xs), none]) (fl := .rt (.bl false)) ?_ rfl rfl rfl
    simp [d_has_position, exs, ex, ev, isTy]
/-! the law's own judge of positions -/
theorem hpB_pls : ∀ (p : List Int) (t : MV), tm t = true → dat t = true → hpB t (p.map .int) = decide (p ∈ pls t)
  | [], t, _, _ => by
    have := nil_pls t
    unfold hpB
    simp [this]
  | i :: p, t, ht, hd => by
    rcases tm_cases ht hd with ⟨s, rfl⟩ | ⟨s, xs, rfl, hds, hx⟩
    · rw [List.map_cons, hpB]
      · simp [pls]
      · intro a b h; cases h
    · rw [List.map_cons, hpB]
      by_cases hw : 1 ≤ i ∧ i ≤ xs.length
      · obtain ⟨j, hj⟩ : ∃ j : Nat, i = ((1 + j : Nat) : Int) := ⟨i.toNat - 1, by omega⟩
        have hjl : j < xs.length := by omega
        have e1 : xs[j]? = some xs[j] := List.getElem?_eq_getElem hjl
        have e2 : i.toNat - 1 = j := by omega
        have hxj := hx xs[j] (List.getElem_mem hjl)
        rw [if_pos hw, e2, e1]
        simp only
        rw [hpB_pls p xs[j] hxj.1 hxj.2]
        congr 1
        apply propext
        rw [cons_pls]
        constructor
        · exact fun h => ⟨_, xs, j, _, rfl, hj, e1, h⟩
        · rintro ⟨h, ys, j', x, q1, q2, q3, q4⟩
          simp only [MV.tup.injEq, List.cons.injEq] at q1
          obtain ⟨_, rfl⟩ := q1
          have : j' = j := by omega
          subst this
          rw [e1] at q3
          cases q3
          exact q4
      · rw [if_neg hw]
        symm
        rw [decide_eq_false_iff_not]
        intro h
        obtain ⟨h, ys, j', x, q1, q2, q3, q4⟩ := cons_pls.mp h
        simp only [MV.tup.injEq, List.cons.injEq] at q1
        obtain ⟨_, rfl⟩ := q1
        have := (List.getElem?_eq_some_iff.mp q3).1
        omega
theorem hpB_bad {v : MV} (hv : ∀ i, v ≠ .int i) : ∀ (p : List Int) (t : MV), tm t = true → dat t = true → hpB t (p.map .int ++ [v]) = false
  | [], t, ht, hd => by
    rcases tm_cases ht hd with ⟨s, rfl⟩ | ⟨s, xs, rfl, hds, hx⟩
    · unfold hpB; rfl
    · show hpB (.tup (.str s :: xs)) [v] = false
      cases v with
      | int i => exact absurd rfl (hv i)
      | _ => unfold hpB; rfl
  | i :: p, t, ht, hd => by
    rcases tm_cases ht hd with ⟨s, rfl⟩ | ⟨s, xs, rfl, hds, hx⟩
    · unfold hpB; rfl
    · rw [List.map_cons, List.cons_append, hpB]
      by_cases hw : 1 ≤ i ∧ i ≤ xs.length
      · obtain ⟨j, hj⟩ : ∃ j : Nat, i = ((1 + j : Nat) : Int) := ⟨i.toNat - 1, by omega⟩
        have hjl : j < xs.length := by omega
        have e1 : xs[j]? = some xs[j] := List.getElem?_eq_getElem hjl
        have e2 : i.toNat - 1 = j := by omega
        have hxj := hx xs[j] (List.getElem_mem hjl)
        rw [if_pos hw, e2, e1]
        simp only
        exact hpB_bad hv p xs[j] hxj.1 hxj.2
      · rw [if_neg hw]
/-- == of tuples of whole numbers -/
theorem eqvAll_ints : ∀ (p q : List Int), PyData.eqvAll (toDs (p.map .int)) (toDs (q.map .int)) = decide (p = q)
  | [], [] => by simp [toDs, PyData.eqvAll]
  | [], _ :: _ => by simp [toDs, PyData.eqvAll]
  | _ :: _, [] => by simp [toDs, PyData.eqvAll]
  | a :: p, b :: q => by
    have ih := eqvAll_ints p q
    simp only [List.map_cons, toDs, PyData.eqvAll, ih]
    have e : PyData.eqv (toD (.int a)) (toD (.int b)) = decide (a = b) := by
      unfold toD PyData.eqv; simp [BEq.beq]
    rw [e]
    by_cases h1 : a = b <;> by_cases h2 : p = q <;> simp [h1, h2]
theorem eqD_pV (p q : List Int) : eqD (pV p) (pV q) = decide (p = q) := by
  have := eqvAll_ints p q
  unfold eqD toD PyData.eqv
  exact this
theorem hasV_pV (ps : List (List Int)) (q : List Int) : hasV (ps.map pV) (pV q) = decide (q ∈ ps) := by
  unfold hasV
  rw [List.any_map]
  apply Bool.eq_iff_iff.mpr
  simp only [List.any_eq_true, Function.comp, eqD_pV, decide_eq_true_eq]
  constructor
  · rintro ⟨x, hx, rfl⟩; exact hx
  · exact fun h => ⟨q, h, rfl⟩
theorem eqvAll_non : ∀ (q p : List Int), PyData.eqvAll (toDs (q.map .int)) (toDs (p.map .int ++ [.non])) = false
  | [], [] => by simp [toDs, PyData.eqvAll]
  | [], _ :: _ => by simp [toDs, PyData.eqvAll]
  | a :: q, [] => by
    simp only [List.map_cons, List.map_nil, List.nil_append, toDs, PyData.eqvAll]
    have e : PyData.eqv (toD (.int a)) (toD .non) = false := by unfold toD PyData.eqv; rfl
    rw [e]; rfl
  | a :: q, b :: p => by
    have ih := eqvAll_non q p
    simp only [List.map_cons, List.cons_append, toDs, PyData.eqvAll, ih, Bool.and_false]
theorem hasV_non (ps : List (List Int)) (p : List Int) : hasV (ps.map pV) (.tup (p.map .int ++ [.non])) = false := by
  unfold hasV
  rw [List.any_map, List.any_eq_false]
  intro q _
  have := eqvAll_non q p
  simp only [Function.comp]
  unfold eqD toD PyData.eqv
  rw [this]
  simp
end L2.Mi.k08

set_option Elab.async false
set_option linter.all false
set_option maxRecDepth 100000
set_option maxHeartbeats 4000000
namespace L2.Mi.k08
open PySem PySem.Spec PyProof.Rows L2.Mi
def lowd (c : Nat) : Bool := (decide (97 ≤ c) && decide (c ≤ 122)) || (decide (48 ≤ c) && decide (c ≤ 57))
def wordB (first : Sx) : MV → Bool
  | .str [] => false
  | .str (c :: s) => decide (s.length ≤ 7) && decide (c ∈ first) && s.all lowd
  | _ => false
theorem sp_signs (k : Nat) (v : MV) (first : Sx) (mh : MHp) (hd : dat v = true) : callM T (k + 1) 1 [v, .str first] mh = some (.bl (wordB first v), mh) := by
  rw [callM_eq (d := d_are_signs_of_text) rfl]
  have fals : ∀ {C : CallF}, isTy v .str mh = some false → exs C mh.length d_are_signs_of_text.body ([v, .str first].map some ++ List.replicate (3 - 2) none) mh = some (.rt (.bl false), [some v, some (.str first), none], mh) := fun {C} h => by
    simp [d_are_signs_of_text, exs, ex, ev, evs, h]
  cases v with
  | str s =>
    cases s with
    | nil =>
      refine run_of' rfl rfl (ρ := [some (.str []), some (.str first), none]) (fl := .rt (.bl false)) ?_ rfl rfl rfl
      simp [d_are_signs_of_text, exs, ex, ev, evs, isTy, biV, one1, lenV, cmpV, ordV]
    | cons c s =>
      have hl : s.length + 1 ≤ 1000 := by simp [dat] at hd; omega
      have hz : s.length + 1 ≤ line := by unfold line; omega
      have hn1 : ¬ ((s.length : Int) + 1 < 1) := by omega
      by_cases h7 : s.length ≤ 7
      · have hn2 : ¬ ((8 : Int) < (s.length : Int) + 1) := by omega
        by_cases hc : c ∈ first
        · have hg : ∀ C base, ev C base (.comp (.nm 2) [2] (.slcL (.var 0) (.c (.int (1)))) (.c (.bl true)) (.or (.chn .le .le (.c (.str [97])) (.var 2) (.c (.str [122]))) (.chn .le .le (.c (.str [48])) (.var 2) (.c (.str [57])))))
              [some (.str (c :: s)), some (.str first), none] mh = some (.lst ((s.map lowd).map .bl), mh) := fun C base => by
            have e1 : evI C base (.slcL (.var 0) (.c (.int (1)))) [some (.str (c :: s)), some (.str first), none] mh = some (⟨s.map fun c => .str [c], none⟩, mh) := by
              have := cut_drop (xs := c :: s) (k := 1)
              simp at this
              simp [evI, ev, slcV, hz, this, itsOf]
            have hs : s.length ≤ line := by omega
            simp only [ev, e1]
            rw [compGo_pure rfl (g := fun x => match x with | .str [c] => some (.bl (lowd c)) | _ => none)]
            · simp [List.filterMap_map, hs]
              rw [← List.filterMap_eq_map]
              rfl
            · intro x hx
              obtain ⟨a, _, rfl⟩ := List.mem_map.mp hx
              by_cases h1 : a < 97 <;> by_cases h2 : 122 < a <;> by_cases h3 : a < 48 <;> by_cases h4 : 57 < a <;> simp [asg, wipeE, ev, cmpV, ordV, lt1, lowd, h1, h2, h3, h4] <;> omega
          refine run_of' rfl rfl (ρ := [some (.str (c :: s)), some (.str first), none]) (fl := .rt (.bl (s.all lowd))) ?_ ?_ rfl rfl
          · simp [d_are_signs_of_text, exs, ex, ↓hg, ev, evs, isTy, biV, one1, lenV, cmpV, ordV, subV, memV, atI0, hc, hz, hn1, hn2, bls_map]
            rw [← List.map_map, bls_map]
            simp
          · simp [endV, wordB, h7, hc]
        · refine run_of' rfl rfl (ρ := [some (.str (c :: s)), some (.str first), none]) (fl := .rt (.bl false)) ?_ ?_ rfl rfl
          · simp [d_are_signs_of_text, exs, ex, ev, evs, isTy, biV, one1, lenV, cmpV, ordV, subV, memV, atI0, hc, hz, hn1, hn2]
          · simp [endV, wordB, hc]
      · have hn2 : ((8 : Int) < (s.length : Int) + 1) := by omega
        refine run_of' rfl rfl (ρ := [some (.str (c :: s)), some (.str first), none]) (fl := .rt (.bl false)) ?_ ?_ rfl rfl
        · simp [d_are_signs_of_text, exs, ex, ev, evs, isTy, biV, one1, lenV, cmpV, ordV, subV, memV, atI0, hz, hn1, hn2]
        · simp [endV, wordB, h7]
  | _ => first | (cases hd; done) | (exact run_of' rfl rfl (fals rfl) rfl rfl rfl)

/-! equality of small values -/
def lower : Sx := [97, 98, 99, 100, 101, 102, 103, 104, 105, 106, 107, 108, 109, 110, 111, 112, 113, 114, 115, 116, 117, 118, 119, 120, 121, 122]
def upper : Sx := [65, 66, 67, 68, 69, 70, 71, 72, 73, 74, 75, 76, 77, 78, 79, 80, 81, 82, 83, 84, 85, 86, 87, 88, 89, 90]
theorem sp_is_sign (k : Nat) (v : MV) (mh : MHp) (hd : dat v = true) : callM T (k + 2) 2 [v] mh = some (.bl (wordB lower v), mh) := by
  rw [callM_eq (d := d_is_sign) rfl]
  refine run_of' rfl rfl (ρ := [some v]) (fl := .rt (.bl (wordB lower v))) ?_ rfl rfl rfl
  have := sp_signs k v lower mh hd
  simp only [lower] at this
  simp [d_is_sign, exs, ex, ev, evs, this]
  rfl
theorem sp_is_var (k : Nat) (v : MV) (mh : MHp) (hd : dat v = true) : callM T (k + 2) 3 [v] mh = some (.bl (wordB upper v), mh) := by
  rw [callM_eq (d := d_is_variable) rfl]
  refine run_of' rfl rfl (ρ := [some v]) (fl := .rt (.bl (wordB upper v))) ?_ rfl rfl rfl
  have := sp_signs k v upper mh hd
  simp only [upper] at this
  simp [d_is_variable, exs, ex, ev, evs, this]
  rfl
def wholeB (lo hi : Int) : MV → Bool
  | .int i => decide (lo ≤ i) && decide (i ≤ hi)
  | _ => false
def pairB : MV → Bool
  | .tup [a, b] => wordB lower a && wholeB 0 4 b
  | _ => false
def fstS : MV → Sx
  | .tup (.str s :: _) => s
  | _ => []
def sndI : MV → MV
  | .tup [_, b] => b
  | _ => .non
/-- what places_of gives -/
def placesV : List MV → Sx → MV
  | [], _ => .non
  | p :: ps, s => if fstS p = s then sndI p else placesV ps s
theorem wordB_str {f : Sx} {v : MV} (h : wordB f v = true) : ∃ c s, v = .str (c :: s) := by
  unfold wordB at h
  split at h
  · cases h
  · exact ⟨_, _, rfl⟩
  · cases h
theorem wholeB_int {lo hi : Int} {v : MV} (h : wholeB lo hi v = true) : ∃ i : Int, v = .int i ∧ lo ≤ i ∧ i ≤ hi := by
  unfold wholeB at h
  split at h
  · rename_i i
    rw [Bool.and_eq_true, decide_eq_true_eq, decide_eq_true_eq] at h
    exact ⟨i, rfl, h.1, h.2⟩
  · cases h
theorem pairB_tup {p : MV} (h : pairB p = true) : ∃ (c : Nat) (s : Sx) (i : Int), p = .tup [.str (c :: s), .int i] ∧ wordB lower (.str (c :: s)) = true ∧ 0 ≤ i ∧ i ≤ 4 := by
  unfold pairB at h
  split at h
  · rw [Bool.and_eq_true] at h
    obtain ⟨c, s, rfl⟩ := wordB_str h.1
    obtain ⟨i, rfl, h1, h2⟩ := wholeB_int h.2
    exact ⟨c, s, i, rfl, h.1, h1, h2⟩
  · cases h
theorem placesV_cases {ps : List MV} (hp : ∀ p ∈ ps, pairB p = true) (s : Sx) : placesV ps s = .non ∨ ∃ i : Int, placesV ps s = .int i := by
  induction ps with
  | nil => exact .inl rfl
  | cons p ps ih =>
    obtain ⟨c, t, i, rfl, _⟩ := pairB_tup (hp p (by simp))
    unfold placesV
    split
    · exact .inr ⟨i, rfl⟩
    · exact ih fun q hq => hp q (List.mem_cons_of_mem _ hq)
theorem pair_dat {p : MV} {c : Nat} {t : Sx} {i : Int} (h : dat (.tup [.str (c :: t), .int i]) = true) : dat (.str (c :: t)) = true := by
  unfold dat at h
  exact dats_iff.mp h _ (by simp)
theorem places_loop {f : MV → Env → MHp → Option (Fl × Env × MHp)} {s : Sx} {a b : Option MV} {mh : MHp} {J : Its} (hJ : J.src = none) :
    ∀ (qs : List MV) (o1 o2 : Option MV), (∀ p ∈ qs, ∀ o1 o2, f p [a, b, o1, o2] mh = some (if fstS p = s then .rt (sndI p) else .nx, [a, b, some (.str (fstS p)), some (sndI p)], mh)) →
    ∃ ρ1, (forGo J f qs [a, b, o1, o2] mh = some (.nx, ρ1, mh) ∧ placesV qs s = .non ∧ ρ1.length = 4) ∨ forGo J f qs [a, b, o1, o2] mh = some (.rt (placesV qs s), ρ1, mh)
  | [], o1, o2, _ => ⟨_, .inl ⟨forGo_nil_of hJ, rfl, rfl⟩⟩
  | p :: qs, o1, o2, h => by
    rw [forGo_cons_of hJ, h p (by simp) o1 o2]
    unfold placesV
    by_cases e : fstS p = s
    · rw [if_pos e, if_pos e]
      exact ⟨_, .inr rfl⟩
    · rw [if_neg e, if_neg e]
      exact places_loop hJ qs _ _ fun q hq => h q (List.mem_cons_of_mem _ hq)
theorem sp_places (k : Nat) (ps : List MV) (s : Sx) (mh : MHp) (hp : ∀ p ∈ ps, pairB p = true) (hd : dats ps = true) (hs : dat (.str s) = true) : callM T (k + 1) 4 [.tup ps, .str s] mh = some (placesV ps s, mh) := by
  rw [callM_eq (d := d_places_of) rfl]
  have hv : dat (placesV ps s) = true := by
    rcases placesV_cases hp s with e | ⟨i, e⟩ <;> rw [e] <;> rfl
  obtain ⟨ρ1, h⟩ := places_loop (f := forF (callM T k) mh.length (.tp [(.nm 2), (.nm 3)]) [(.ite (.cmp .eq (.var 2) (.var 1)) [(.ret (.var 3))] [])]) (s := s) (a := some (.tup ps)) (b := some (.str s)) (mh := mh) (J := ⟨ps, none⟩) rfl ps none none (fun p hm o1 o2 => by
    obtain ⟨c, t, i, rfl, _⟩ := pairB_tup (hp p hm)
    have hdt : dat (.str (c :: t)) = true := pair_dat (p := .non) (dats_iff.mp hd _ hm)
    by_cases e : c :: t = s
    · subst e
      simp [forF, asg, asgs, exs, ex, ev, cmpV, eqV_str _ _ _ hdt hdt, fstS, sndI]
    · simp [forF, asg, asgs, exs, ex, ev, cmpV, eqV_str _ _ _ hdt hs, e, fstS, sndI])
  rcases h with ⟨e, e2, hl⟩ | e
  · refine run_of' rfl rfl (ρ := ρ1) (fl := .rt .non) ?_ (by rw [e2]; rfl) hv rfl
    simp [d_places_of, exs, ↓ex_for, evI, ev, itsOf, e, ex]
  · refine run_of' rfl rfl (ρ := ρ1) (fl := .rt (placesV ps s)) ?_ rfl hv rfl
    simp [d_places_of, exs, ↓ex_for, evI, ev, itsOf, e, ex]
/-! ### is_tongue -/
mutual
def shape : MV → Bool
  | .str _ => true
  | .tup xs => shapeT xs
  | _ => false
def shapeT : List MV → Bool
  | [] => false
  | _ :: xs => shapes xs
def shapes : List MV → Bool
  | [] => true
  | x :: xs => shape x && shapes xs
end
theorem shapes_app (xs ys : List MV) : shapes (xs ++ ys) = (shapes xs && shapes ys) := by
  induction xs with
  | nil => simp [shapes]
  | cons x xs ih => simp only [List.cons_append, shapes, ih, Bool.and_assoc]
theorem cnts_pos {w : List MV} (h : w ≠ []) : 1 ≤ cnts w := by
  cases w with
  | nil => exact absurd rfl h
  | cons x xs => have := cnt_pos x; simp only [cnts]; omega
abbrev nC : ME := (.cmp .gt (.bi .len [(.var 1)]) (.c (.int (0))))
abbrev nB : List MS := [(.set (.nm 3) (.meth .pop (.var 1) [])), (.aug 2 .add (.c (.int (1)))), (.ite (.and (.isi (.var 3) .tuple) (.cmp .gt (.bi .len [(.var 3)]) (.c (.int (0))))) [(.ex (.meth .extend (.var 1) [(.slcL (.var 3) (.c (.int (1))))]))] [(.ite (.not (.isi (.var 3) .str)) [(.ret (.c .non))] [])]), (.ite (.cmp .gt (.var 2) (.c (.int (400)))) [(.ret (.var 2))] [])]
abbrev nEnv (v : MV) (mh : MHp) (found : Int) (o : Option MV) : Env := [some v, some (.loc mh.length), some (.int found), o]
theorem n_cond {C : CallF} {v : MV} {mh : MHp} {w : List MV} {found : Int} {o : Option MV} : whC C mh.length nC (nEnv v mh found o) (nHp mh w) = some (decide (0 < w.length), nHp mh w) := by
  simp [whC, nC, nEnv, nHp, ev, evs, biV, one1, lenV, getL, top_get, cmpV, ordV]
theorem last_get {w : List MV} {x : MV} : (w ++ [x])[(w ++ [x]).length - 1]? = some x := by simp
theorem n_pop {C : CallF} {v : MV} {mh : MHp} {w : List MV} {x : MV} {found : Int} {o : Option MV} : ev C mh.length (.meth .pop (.var 1) []) (nEnv v mh found o) (nHp mh (w ++ [x])) = some (x, nHp mh w) := by
  simp [nEnv, nHp, ev, evs, tyM, liveL, top_get, methV, popV, top_set]
theorem bd_dat {n : Nat} : ∀ x : MV, dat x = true → bd n x = true := by
  intro x
  induction x using MV.rec (motive_2 := fun xs => dats xs = true → bds n xs = true) with
  | non => intro _; rfl
  | bl => intro _; rfl
  | int => intro _; rfl
  | str => intro _; rfl
  | fn => intro _; rfl
  | tup xs ih => intro h; unfold dat at h; unfold bd; exact ih h
  | lst xs ih => intro h; unfold dat at h; unfold bd; exact ih h
  | loc l => intro h; unfold dat at h; cases h
  | dct ks vs ih => intro h; unfold dat at h; cases h
  | scr ns => intro _; rfl
  | nil => rfl
  | cons x xs h1 h2 =>
    rename_i h
    unfold dats at h
    rw [Bool.and_eq_true] at h
    unfold bds
    rw [h1 h.1, h2 h.2]; rfl
theorem n_ext {C : CallF} {v : MV} {mh : MHp} {w : List MV} {x : MV} {xs : List MV} {found : Int} (hz : w.length + xs.length ≤ line) : ev C mh.length (.meth .extend (.var 1) [(.slcL (.var 3) (.c (.int (1))))]) (nEnv v mh found (some (.tup (x :: xs)))) (nHp mh w) = some (.non, nHp mh (w ++ xs)) := by
  have hc := cut_drop (xs := x :: xs) (k := 1)
  simp at hc
  have hw : ∀ y ∈ xs, wr mh.length mh.length y = true := fun y hy => by simp [wr]
  simp [nEnv, nHp, ev, evs, tyM, liveL, top_get, methV, extV, top_set, slcV, hc, seqOf, hz, hw]
  exact hw
/-- one turn -/
theorem n_turn {C : CallF} {v : MV} {mh : MHp} {w : List MV} {x : MV} {found : Nat} {o : Option MV} (hf : found ≤ 400) (hd : dat x = true) (hz : w.length + cnt x ≤ line) :
    exs C mh.length nB (nEnv v mh (found : Int) o) (nHp mh (w ++ [x])) =
      match x with
      | .str s => if found = 400 then some (.rt (.int (401 : Int)), nEnv v mh ((found : Int) + 1) (some x), nHp mh w) else some (.nx, nEnv v mh ((found : Int) + 1) (some x), nHp mh w)
      | .tup (_ :: xs) => if found = 400 then some (.rt (.int (401 : Int)), nEnv v mh ((found : Int) + 1) (some x), nHp mh (w ++ xs)) else some (.nx, nEnv v mh ((found : Int) + 1) (some x), nHp mh (w ++ xs))
      | _ => some (.rt .non, nEnv v mh ((found : Int) + 1) (some x), nHp mh w) := by
  have s1 : ex C mh.length (.set (.nm 3) (.meth .pop (.var 1) [])) (nEnv v mh (found : Int) o) (nHp mh (w ++ [x])) = some (.nx, nEnv v mh (found : Int) (some x), nHp mh w) := by
    simp only [ex, n_pop]
    simp [asg, nEnv]
  have s2 : ex C mh.length (.aug 2 .add (.c (.int (1)))) (nEnv v mh (found : Int) (some x)) (nHp mh w) = some (.nx, nEnv v mh ((found : Int) + 1) (some x), nHp mh w) := by
    simp [ex, ev, nEnv]
  have s4 : ∀ w', ex C mh.length (.ite (.cmp .gt (.var 2) (.c (.int (400)))) [(.ret (.var 2))] []) (nEnv v mh ((found : Int) + 1) (some x)) (nHp mh w') = if found = 400 then some (.rt (.int (401 : Int)), nEnv v mh ((found : Int) + 1) (some x), nHp mh w') else some (.nx, nEnv v mh ((found : Int) + 1) (some x), nHp mh w') := fun w' => by
    by_cases h : found = 400
    · subst h
      simp [ex, exs, ev, nEnv, cmpV, ordV]
    · have : ¬ ((400 : Int) < (found : Int) + 1) := by omega
      simp [ex, exs, ev, nEnv, cmpV, ordV, this, h]
  have e4 : ∀ w', exs C mh.length [(.ite (.cmp .gt (.var 2) (.c (.int (400)))) [(.ret (.var 2))] [])] (nEnv v mh ((found : Int) + 1) (some x)) (nHp mh w') = if found = 400 then some (.rt (.int (401 : Int)), nEnv v mh ((found : Int) + 1) (some x), nHp mh w') else some (.nx, nEnv v mh ((found : Int) + 1) (some x), nHp mh w') := fun w' => by
    rw [exs, s4 w']
    by_cases h : found = 400
    · rw [if_pos h]
    · rw [if_neg h]; rfl
  rw [nB, exs, s1]
  simp only
  rw [exs, s2]
  simp only
  cases x with
  | str s =>
    rw [exs]
    have : ex C mh.length (.ite (.and (.isi (.var 3) .tuple) (.cmp .gt (.bi .len [(.var 3)]) (.c (.int (0))))) [(.ex (.meth .extend (.var 1) [(.slcL (.var 3) (.c (.int (1))))]))] [(.ite (.not (.isi (.var 3) .str)) [(.ret (.c .non))] [])]) (nEnv v mh ((found : Int) + 1) (some (.str s))) (nHp mh w) = some (.nx, nEnv v mh ((found : Int) + 1) (some (.str s)), nHp mh w) := by
      simp [ex, exs, ev, nEnv, isTy]
    rw [this]
    exact e4 w
  | tup ys =>
    cases ys with
    | nil =>
      rw [exs]
      have : ex C mh.length (.ite (.and (.isi (.var 3) .tuple) (.cmp .gt (.bi .len [(.var 3)]) (.c (.int (0))))) [(.ex (.meth .extend (.var 1) [(.slcL (.var 3) (.c (.int (1))))]))] [(.ite (.not (.isi (.var 3) .str)) [(.ret (.c .non))] [])]) (nEnv v mh ((found : Int) + 1) (some (.tup []))) (nHp mh w) = some (.rt .non, nEnv v mh ((found : Int) + 1) (some (.tup [])), nHp mh w) := by
        simp [ex, exs, ev, evs, nEnv, isTy, biV, one1, lenV, cmpV, ordV]
      rw [this]
    | cons y ys =>
      rw [exs]
      have hz' : w.length + ys.length ≤ line := by
        have : ys.length ≤ cnts ys := by
          clear hd hz s1 s2 s4 e4
          induction ys with
          | nil => simp
          | cons z zs ih => have := cnt_pos z; simp only [cnts, List.length_cons]; omega
        simp only [cnt, cntT] at hz
        omega
      have : ex C mh.length (.ite (.and (.isi (.var 3) .tuple) (.cmp .gt (.bi .len [(.var 3)]) (.c (.int (0))))) [(.ex (.meth .extend (.var 1) [(.slcL (.var 3) (.c (.int (1))))]))] [(.ite (.not (.isi (.var 3) .str)) [(.ret (.c .non))] [])]) (nEnv v mh ((found : Int) + 1) (some (.tup (y :: ys)))) (nHp mh w) = some (.nx, nEnv v mh ((found : Int) + 1) (some (.tup (y :: ys))), nHp mh (w ++ ys)) := by
        have c1 : ev C mh.length (.and (.isi (.var 3) .tuple) (.cmp .gt (.bi .len [(.var 3)]) (.c (.int (0))))) (nEnv v mh ((found : Int) + 1) (some (.tup (y :: ys)))) (nHp mh w) = some (.bl true, nHp mh w) := by
          have : (0 : Int) < (ys.length : Int) + 1 := by omega
          simp [ev, evs, nEnv, isTy, biV, one1, lenV, cmpV, ordV, this]
        simp only [ex, c1, exs, n_ext hz']
      rw [this]
      exact e4 (w ++ ys)
  | _ =>
    first
    | (cases hd; done)
    | (rw [exs]
       simp [ex, exs, ev, evs, nEnv, isTy])
theorem snoc_of {w : List MV} (h : w ≠ []) : ∃ w' x, w = w' ++ [x] := ⟨w.dropLast, w.getLast h, (List.dropLast_concat_getLast h).symm⟩
theorem n_condT {C : CallF} {v : MV} {mh : MHp} {w : List MV} {x : MV} {found : Int} {o : Option MV} : whC C mh.length nC (nEnv v mh found o) (nHp mh (w ++ [x])) = some (true, nHp mh (w ++ [x])) := by
  rw [n_cond]; simp
theorem n_condF {C : CallF} {v : MV} {mh : MHp} {found : Int} {o : Option MV} : whC C mh.length nC (nEnv v mh found o) (nHp mh []) = some (false, nHp mh []) := by
  rw [n_cond]; simp
/-- nodes's loop: where it ends -/
theorem n_loop {C : CallF} {v : MV} {mh : MHp} : ∀ (n : Nat) (w : List MV) (found : Nat) (o : Option MV), found + n = 400 → dats w = true → cnts w ≤ line →
    ∃ fl ρ' w', whileN (whC C mh.length nC) (exs C mh.length nB) (n + 1) (nEnv v mh (found : Int) o) (nHp mh w) = some (fl, ρ', nHp mh w') ∧
      ((shapes w = true ∧ found + cnts w ≤ 400 ∧ fl = .nx ∧ ∃ o', ρ' = nEnv v mh ((found + cnts w : Nat) : Int) o') ∨ ((shapes w = false ∨ 400 < found + cnts w) ∧ (fl = .rt .non ∨ fl = .rt (.int 401)))) := by
  intro n
  induction n with
  | zero =>
    intro w found o hf hd hz
    by_cases hw : w = []
    · subst hw
      refine ⟨.nx, nEnv v mh (found : Int) o, [], ?_, .inl ⟨rfl, by simp [cnts]; omega, rfl, o, by simp [cnts]⟩⟩
      rw [whileN, n_condF]
    · obtain ⟨w', x, rfl⟩ := snoc_of hw
      have h4 : found = 400 := by omega
      rw [cnts_app] at hz
      simp only [cnts, Nat.add_zero] at hz
      rw [dats_app] at hd
      simp only [dats, Bool.and_true, Bool.and_eq_true] at hd
      have hl := len_cnts w'
      have ht := n_turn (C := C) (v := v) (mh := mh) (w := w') (x := x) (found := found) (o := o) (by omega) hd.2 (by omega)
      have hbig : 400 < found + cnts (w' ++ [x]) := by
        have := cnt_pos x
        rw [cnts_app]; simp only [cnts]; omega
      rw [whileN, n_condT]
      simp only [ht]
      cases x with
      | str s => simp only [h4, if_true]; exact ⟨_, _, _, rfl, .inr ⟨.inr (by omega), .inr rfl⟩⟩
      | tup ys =>
        cases ys with
        | nil => exact ⟨_, _, _, rfl, .inr ⟨.inr hbig, .inl rfl⟩⟩
        | cons y ys => simp only [h4, if_true]; exact ⟨_, _, _, rfl, .inr ⟨.inr (by omega), .inr rfl⟩⟩
      | _ => exact ⟨_, _, _, rfl, .inr ⟨.inr hbig, .inl rfl⟩⟩
  | succ n ih =>
    intro w found o hf hd hz
    by_cases hw : w = []
    · subst hw
      refine ⟨.nx, nEnv v mh (found : Int) o, [], ?_, .inl ⟨rfl, by simp [cnts]; omega, rfl, o, by simp [cnts]⟩⟩
      rw [whileN, n_condF]
    · obtain ⟨w', x, rfl⟩ := snoc_of hw
      have h4 : ¬ found = 400 := by omega
      have hz0 := hz
      have hd0 := hd
      rw [cnts_app] at hz
      simp only [cnts, Nat.add_zero] at hz
      rw [dats_app] at hd
      simp only [dats, Bool.and_true, Bool.and_eq_true] at hd
      have hl := len_cnts w'
      have ht := n_turn (C := C) (v := v) (mh := mh) (w := w') (x := x) (found := found) (o := o) (by omega) hd.2 (by omega)
      have hc : cnts (w' ++ [x]) = cnts w' + cnt x := by rw [cnts_app]; simp only [cnts, Nat.add_zero]
      have hs : shapes (w' ++ [x]) = (shapes w' && shape x) := by rw [shapes_app]; simp only [shapes, Bool.and_true]
      rw [hc, hs, whileN, n_condT]
      simp only [ht]
      have e1 : ((found : Int) + 1) = ((found + 1 : Nat) : Int) := by omega
      cases x with
      | str s =>
        simp only [h4, if_false]
        rw [e1]
        obtain ⟨fl, ρ', w2, q1, q2⟩ := ih w' (found + 1) (some (.str s)) (by omega) hd.1 (by omega)
        refine ⟨fl, ρ', w2, q1, ?_⟩
        have a1 : found + (cnts w' + cnt (.str s)) = found + 1 + cnts w' := by simp only [cnt]; omega
        have a2 : shape (.str s) = true := rfl
        rw [a1, a2, Bool.and_true]
        exact q2
      | tup ys =>
        cases ys with
        | nil => exact ⟨_, _, _, rfl, .inr ⟨.inl (by simp [shape, shapeT]), .inl rfl⟩⟩
        | cons y ys =>
          simp only [h4, if_false]
          rw [e1]
          have hdy : dats ys = true := by
            have := hd.2
            unfold dat dats at this
            rw [Bool.and_eq_true] at this
            exact this.2
          obtain ⟨fl, ρ', w2, q1, q2⟩ := ih (w' ++ ys) (found + 1) (some (.tup (y :: ys))) (by omega) (by rw [dats_app, hd.1, hdy]; rfl) (by rw [cnts_app]; simp only [cnt, cntT] at hz; omega)
          refine ⟨fl, ρ', w2, q1, ?_⟩
          have a1 : found + (cnts w' + cnt (.tup (y :: ys))) = found + 1 + cnts (w' ++ ys) := by rw [cnts_app]; simp only [cnt, cntT]; omega
          have a2 : (shapes w' && shape (.tup (y :: ys))) = shapes (w' ++ ys) := by rw [shapes_app]; simp only [shape, shapeT]
          rw [a1, a2]
          exact q2
      | _ => exact ⟨_, _, _, rfl, .inr ⟨.inl (by simp [shape]), .inl rfl⟩⟩
theorem sp_nodes (k : Nat) (v : MV) (mh : MHp) (hd : dat v = true) (hz : cnt v ≤ line) : ∃ r, callM T (k + 1) 6 [v] mh = some (r, mh) ∧
    ((shape v = true ∧ cnt v ≤ 400 ∧ r = .int (cnt v)) ∨ ((shape v = false ∨ 400 < cnt v) ∧ (r = .non ∨ r = .int 401))) := by
  rw [callM_eq (d := d_nodes) rfl]
  have hc : cnts [v] = cnt v := by simp only [cnts, Nat.add_zero]
  have hs : shapes [v] = shape v := by simp only [shapes, Bool.and_true]
  obtain ⟨fl, ρ', w', q1, q2⟩ := n_loop (C := callM T k) (v := v) (mh := mh) 400 [v] 0 none (by omega) (by simp [dats, hd]) (by rw [hc]; exact hz)
  have q1' := whileM_eq q1
  rw [hc, hs, Nat.zero_add] at q2
  have hp : ex (callM T k) mh.length (.par 1 2 (.al (.lst [(.var 0)])) (.c (.int (0)))) [some v, none, none, none] mh = some (.nx, nEnv v mh ((0 : Nat) : Int) none, nHp mh [v]) := by
    have h1 : 1 ≤ line := by unfold line; omega
    simp [ex, ev, evs, nEnv, nHp, h1]
  rcases q2 with ⟨h1, h2, rfl, o', rfl⟩ | ⟨h1, h2⟩
  · refine ⟨.int (cnt v), ?_, .inl ⟨h1, h2, rfl⟩⟩
    have := run_of (C := callM T k) (d := d_nodes) (args := [v]) (mh := mh) (mh1 := nHp mh w') (fl := .rt (.int (cnt v))) (ρ := nEnv v mh ((cnt v : Nat) : Int) o') rfl rfl ?_ rfl rfl
    · rw [take_top] at this; exact this
    · show exs (callM T k) mh.length d_nodes.body [some v, none, none, none] mh = _
      rw [d_nodes, exs, hp]
      simp only
      rw [exs, ex_while, q1']
      simp [exs, ex, ev, nEnv]
  · have key : ∀ r, dat r = true → fl = .rt r → runD (callM T k) d_nodes [v] mh = some (r, mh) := fun r hr e => by
      subst e
      have := run_of (C := callM T k) (d := d_nodes) (args := [v]) (mh := mh) (mh1 := nHp mh w') (fl := .rt r) (ρ := ρ') rfl rfl ?_ rfl hr
      · rw [take_top] at this; exact this
      · show exs (callM T k) mh.length d_nodes.body [some v, none, none, none] mh = _
        rw [d_nodes, exs, hp]
        simp only
        rw [exs, ex_while, q1']
    rcases h2 with e | e
    · exact ⟨.non, key .non rfl e, .inr ⟨h1, .inl rfl⟩⟩
    · exact ⟨.int 401, key _ rfl e, .inr ⟨h1, .inr rfl⟩⟩
def isI (n : Nat) : MV → Bool
  | .int i => decide (i = (n : Int))
  | _ => false
def headB (ps : List MV) (h : MV) (n : Nat) : Bool := wordB lower h && match h with
  | .str s => isI n (placesV ps s)
  | _ => false
mutual
def good (ps : List MV) : MV → Bool
  | .str s => wordB upper (.str s)
  | .tup xs => goodT ps xs
  | _ => false
def goodT (ps : List MV) : List MV → Bool
  | [] => false
  | h :: xs => headB ps h xs.length && goods ps xs
def goods (ps : List MV) : List MV → Bool
  | [] => true
  | x :: xs => good ps x && goods ps xs
end
theorem goods_app (ps xs ys : List MV) : goods ps (xs ++ ys) = (goods ps xs && goods ps ys) := by
  induction xs with
  | nil => simp [goods]
  | cons x xs ih => simp only [List.cons_append, goods, ih, Bool.and_assoc]
mutual
theorem good_shape (ps : List MV) : ∀ x : MV, good ps x = true → shape x = true
  | .str s, _ => rfl
  | .tup [], h => by simp [good, goodT] at h
  | .tup (y :: xs), h => by
    simp only [good, goodT, Bool.and_eq_true] at h
    simp only [shape, shapeT]
    exact goods_shape ps xs h.2
  | .non, h => by simp [good] at h
  | .bl _, h => by simp [good] at h
  | .int _, h => by simp [good] at h
  | .fn _, h => by simp [good] at h
  | .lst _, h => by simp [good] at h
  | .loc _, h => by simp [good] at h
  | .dct _ _, h => by simp [good] at h
  | .scr _, h => by simp [good] at h
theorem goods_shape (ps : List MV) : ∀ xs : List MV, goods ps xs = true → shapes xs = true
  | [], _ => rfl
  | x :: xs, h => by
    simp only [goods, Bool.and_eq_true] at h
    simp only [shapes, Bool.and_eq_true]
    exact ⟨good_shape ps x h.1, goods_shape ps xs h.2⟩
end
abbrev tC : ME := (.cmp .gt (.bi .len [(.var 3)]) (.c (.int (0))))
abbrev tB : List MS := [(.set (.nm 4) (.meth .pop (.var 3) [])), (.ite (.isi (.var 4) .tuple) [(.ite (.or (.not (.call 2 [(.sub (.var 4) (.c (.int (0))))])) (.cmp .ne (.call 4 [(.var 1), (.sub (.var 4) (.c (.int (0))))]) (.bin .sub (.bi .len [(.var 4)]) (.c (.int (1)))))) [(.ret (.c (.bl false)))] []), (.ex (.meth .extend (.var 3) [(.slcL (.var 4) (.c (.int (1))))]))] [(.ite (.not (.call 3 [(.var 4)])) [(.ret (.c (.bl false)))] [])])]
abbrev tEnv (v : MV) (ps : List MV) (mh : MHp) (c : Int) (o : Option MV) : Env := [some v, some (.tup ps), some (.int c), some (.loc mh.length), o]
section
variable {k : Nat} {v : MV} {ps : List MV} {mh : MHp} {c : Int} {w : List MV} {x : MV} {o : Option MV}
theorem t_condT {C : CallF} : whC C mh.length tC (tEnv v ps mh c o) (nHp mh (w ++ [x])) = some (true, nHp mh (w ++ [x])) := by
  simp [whC, tC, tEnv, nHp, ev, evs, biV, one1, lenV, getL, top_get, cmpV, ordV]
theorem t_condF {C : CallF} : whC C mh.length tC (tEnv v ps mh c o) (nHp mh []) = some (false, nHp mh []) := by
  simp [whC, tC, tEnv, nHp, ev, evs, biV, one1, lenV, getL, top_get, cmpV, ordV]
theorem t_pop {C : CallF} : ex C mh.length (.set (.nm 4) (.meth .pop (.var 3) [])) (tEnv v ps mh c o) (nHp mh (w ++ [x])) = some (.nx, tEnv v ps mh c (some x), nHp mh w) := by
  simp [tEnv, nHp, ex, ev, evs, tyM, liveL, top_get, methV, popV, top_set, asg]
theorem t_ext {C : CallF} {xs : List MV} (hz : w.length + xs.length ≤ line) : ev C mh.length (.meth .extend (.var 3) [(.slcL (.var 4) (.c (.int (1))))]) (tEnv v ps mh c (some (.tup (x :: xs)))) (nHp mh w) = some (.non, nHp mh (w ++ xs)) := by
  have hc := cut_drop (xs := x :: xs) (k := 1)
  simp at hc
  have hw : ∀ y ∈ xs, wr mh.length mh.length y = true := fun y hy => by simp [wr]
  simp [tEnv, nHp, ev, evs, tyM, liveL, top_get, methV, extV, top_set, slcV, hc, seqOf, hz, hw]
  exact hw
theorem t_turnS {s : Sx} (hd : dat (.str s) = true) : exs (callM T (k + 2)) mh.length tB (tEnv v ps mh c o) (nHp mh (w ++ [.str s])) = some (if wordB upper (.str s) = true then .nx else .rt (.bl false), tEnv v ps mh c (some (.str s)), nHp mh w) := by
  rw [tB, exs, t_pop]
  have hv := sp_is_var k (.str s) (nHp mh w) hd
  cases e : wordB upper (.str s) <;> rw [e] at hv <;> simp [exs, ex, ev, evs, tEnv, isTy, hv]
theorem t_turnT {h : MV} {xs : List MV} (hp : ∀ p ∈ ps, pairB p = true) (hdp : dats ps = true) (hd : dats (h :: xs) = true) (hz : w.length + xs.length ≤ line) :
    ∃ w', exs (callM T (k + 2)) mh.length tB (tEnv v ps mh c o) (nHp mh (w ++ [.tup (h :: xs)])) = some (if headB ps h xs.length = true then .nx else .rt (.bl false), tEnv v ps mh c (some (.tup (h :: xs))), nHp mh w') ∧ (headB ps h xs.length = true → w' = w ++ xs) := by
  have hdh : dat h = true := dats_iff.mp hd h (by simp)
  have hs := sp_is_sign k h (nHp mh w) hdh
  rw [tB, exs, t_pop]
  cases e : wordB lower h with
  | false =>
    rw [e] at hs
    have hb : headB ps h xs.length = false := by simp [headB, e]
    refine ⟨w, ?_, fun z => by rw [hb] at z; cases z⟩
    rw [hb]
    simp [exs, ex, ev, evs, tEnv, isTy, subV, atI0, hs]
  | true =>
    rw [e] at hs
    obtain ⟨a, s, rfl⟩ := wordB_str e
    have hpl := sp_places (k + 1) ps (a :: s) (nHp mh w) hp hdp hdh
    have hb : headB ps (.str (a :: s)) xs.length = isI xs.length (placesV ps (a :: s)) := by simp [headB, e]
    rw [hb]
    have hl1 : ((xs.length : Int) + 1 - 1) = (xs.length : Int) := by omega
    have key : ∀ b, cmpV (nHp mh w) .ne (placesV ps (a :: s)) (.int (xs.length : Int)) = some (!b) → ev (callM T (k + 2)) mh.length (.or (.not (.call 2 [(.sub (.var 4) (.c (.int (0))))])) (.cmp .ne (.call 4 [(.var 1), (.sub (.var 4) (.c (.int (0))))]) (.bin .sub (.bi .len [(.var 4)]) (.c (.int (1)))))) (tEnv v ps mh c (some (.tup (.str (a :: s) :: xs)))) (nHp mh w) = some (.bl (!b), nHp mh w) := fun b hb => by
      simp [ev, evs, tEnv, isTy, subV, atI0, hs, hpl, biV, one1, lenV, binV, intV, hl1, hb]
    have hcm : cmpV (nHp mh w) .ne (placesV ps (a :: s)) (.int (xs.length : Int)) = some (!isI xs.length (placesV ps (a :: s))) := by
      rcases placesV_cases hp (a :: s) with q | ⟨i, q⟩
      · rw [q]; simp [cmpV, eqV_nonint, isI]
      · rw [q]; simp [cmpV, eqV_int, isI]
    have e2 := key _ hcm
    have it : ev (callM T (k + 2)) mh.length (.isi (.var 4) .tuple) (tEnv v ps mh c (some (.tup (.str (a :: s) :: xs)))) (nHp mh w) = some (.bl true, nHp mh w) := by simp [ev, tEnv, isTy]
    cases hi : isI xs.length (placesV ps (a :: s)) with
    | false =>
      rw [hi] at e2
      refine ⟨w, ?_, fun z => by cases z⟩
      simp only [exs, ex, it, e2, ev, Bool.not_false]
      rfl
    | true =>
      rw [hi] at e2
      refine ⟨w ++ xs, ?_, fun _ => rfl⟩
      simp only [exs, ex, it, e2, Bool.not_true, t_ext hz]
      rfl
theorem t_loop (hp : ∀ p ∈ ps, pairB p = true) (hdp : dats ps = true) : ∀ (n : Nat) (w : List MV) (o : Option MV), cnts w ≤ n → n ≤ line → dats w = true → shapes w = true →
    ∃ ρ' w', whileN (whC (callM T (k + 2)) mh.length tC) (exs (callM T (k + 2)) mh.length tB) (n + 1) (tEnv v ps mh c o) (nHp mh w) = some (if goods ps w = true then .nx else .rt (.bl false), ρ', nHp mh w') := by
  intro n
  induction n with
  | zero =>
    intro w o hc _ hd hs
    have hw : w = [] := by
      cases w with
      | nil => rfl
      | cons x w => have := cnt_pos x; simp only [cnts] at hc; omega
    subst hw
    refine ⟨tEnv v ps mh c o, [], ?_⟩
    rw [whileN, t_condF]
    rfl
  | succ n ih =>
    intro w o hc hn hd hs
    by_cases hw : w = []
    · subst hw
      refine ⟨tEnv v ps mh c o, [], ?_⟩
      rw [whileN, t_condF]
      rfl
    · obtain ⟨w', x, rfl⟩ := snoc_of hw
      rw [cnts_app] at hc
      simp only [cnts, Nat.add_zero] at hc
      rw [dats_app] at hd
      simp only [dats, Bool.and_true, Bool.and_eq_true] at hd
      rw [shapes_app] at hs
      simp only [shapes, Bool.and_true, Bool.and_eq_true] at hs
      have hl := len_cnts w'
      have hg : goods ps (w' ++ [x]) = (goods ps w' && good ps x) := by rw [goods_app]; simp only [goods, Bool.and_true]
      rw [hg, whileN, t_condT]
      cases x with
      | str s =>
        simp only [t_turnS hd.2]
        have a2 : good ps (.str s) = wordB upper (.str s) := by simp only [good]
        rw [a2]
        cases e : wordB upper (.str s) with
        | true =>
          simp only [if_true, Bool.and_true]
          have := cnt_pos (.str s)
          exact ih w' _ (by omega) (by omega) hd.1 hs.1
        | false =>
          simp only [Bool.and_false]
          exact ⟨_, w', rfl⟩
      | tup ys =>
        cases ys with
        | nil => have := hs.2; simp [shape, shapeT] at this
        | cons y ys =>
          have hdy : dats (y :: ys) = true := by have := hd.2; unfold dat at this; exact this
          have hcy := hc
          simp only [cnt, cntT] at hcy
          have hly := len_cnts ys
          obtain ⟨w2, e1, e2⟩ := t_turnT (k := k) (v := v) (mh := mh) (c := c) (w := w') (o := o) (h := y) (xs := ys) hp hdp hdy (by omega)
          simp only [e1]
          have a2 : good ps (.tup (y :: ys)) = (headB ps y ys.length && goods ps ys) := by simp only [good, goodT]
          rw [a2]
          cases e : headB ps y ys.length with
          | true =>
            rw [e2 e]
            simp only [if_true, Bool.true_and]
            have hdy2 : dats ys = true := by
              unfold dats at hdy
              rw [Bool.and_eq_true] at hdy
              exact hdy.2
            have hsy : shapes ys = true := by have := hs.2; simp only [shape, shapeT] at this; exact this
            rw [← goods_app]
            exact ih (w' ++ ys) _ (by rw [cnts_app]; omega) (by omega) (by rw [dats_app, hd.1, hdy2]; rfl) (by rw [shapes_app, hs.1, hsy]; rfl)
          | false =>
            simp only [Bool.false_and, Bool.and_false]
            exact ⟨_, w2, rfl⟩
      | _ => have := hs.2; simp [shape] at this
def termB (ps : List MV) (v : MV) : Bool := decide (cnt v ≤ 400) && good ps v
theorem sp_term (hp : ∀ p ∈ ps, pairB p = true) (hdp : dats ps = true) (hd : dat v = true) (hz : cnt v ≤ line) : callM T (k + 3) 7 [v, .tup ps] mh = some (.bl (termB ps v), mh) := by
  rw [callM_eq (d := d_is_term) rfl]
  have h1 : 1 ≤ line := by unfold line; omega
  obtain ⟨r, e1, hr⟩ := sp_nodes (k + 1) v mh hd hz
  have fin : ∀ (ρ : Env) (m1 : MHp), exs (callM T (k + 2)) mh.length d_is_term.body [some v, some (.tup ps), none, none, none] mh = some (.rt (.bl (termB ps v)), ρ, m1) → m1.take mh.length = mh → runD (callM T (k + 2)) d_is_term [v, .tup ps] mh = some (.bl (termB ps v), mh) := fun ρ m1 e em => by
    have := run_of (C := callM T (k + 2)) (d := d_is_term) (args := [v, .tup ps]) (mh := mh) rfl rfl e rfl rfl
    rw [em] at this
    exact this
  rcases hr with ⟨s1, s2, rfl⟩ | ⟨s1, s2⟩
  · have hc : cnts [v] = cnt v := by simp only [cnts, Nat.add_zero]
    obtain ⟨ρ', w', q1⟩ := t_loop (k := k) (v := v) (ps := ps) (mh := mh) (c := (cnt v : Int)) hp hdp (cnt v) [v] none (by rw [hc]; exact Nat.le_refl _) hz (by simp [dats, hd]) (by simp [shapes, s1])
    have q2 := whileM_eq q1
    have hg : goods ps [v] = termB ps v := by simp only [goods, Bool.and_true, termB, s2, decide_true, Bool.true_and]
    rw [hg] at q2
    have hn : ¬ ((400 : Int) < (cnt v : Int)) := by omega
    have pre : ∀ r, exs (callM T (k + 2)) mh.length [(.while tC tB), (.ret (.c (.bl true)))] (tEnv v ps mh (cnt v) none) (nHp mh [v]) = r → exs (callM T (k + 2)) mh.length d_is_term.body [some v, some (.tup ps), none, none, none] mh = r := fun r hr => by
      rw [← hr]
      simp only [d_is_term]
      rw [exs]
      have b1 : ex (callM T (k + 2)) mh.length (.set (.nm 2) (.call 6 [(.var 0)])) [some v, some (.tup ps), none, none, none] mh = some (.nx, [some v, some (.tup ps), some (.int (cnt v : Int)), none, none], mh) := by
        simp [ex, ev, evs, e1, asg]
      rw [b1]
      simp only
      rw [exs]
      have b2 : ex (callM T (k + 2)) mh.length (.ite (.or (.cmp .is (.var 2) (.c .non)) (.cmp .gt (.var 2) (.c (.int (400))))) [(.ret (.c (.bl false)))] []) [some v, some (.tup ps), some (.int (cnt v : Int)), none, none] mh = some (.nx, [some v, some (.tup ps), some (.int (cnt v : Int)), none, none], mh) := by
        simp [ex, exs, ev, cmpV, isV, ordV, hn]
      rw [b2]
      simp only
      rw [exs]
      have b3 : ex (callM T (k + 2)) mh.length (.set (.nm 3) (.al (.lst [(.var 0)]))) [some v, some (.tup ps), some (.int (cnt v : Int)), none, none] mh = some (.nx, tEnv v ps mh (cnt v) none, nHp mh [v]) := by
        simp [ex, ev, evs, h1, asg, tEnv, nHp]
      rw [b3]
    cases ht : termB ps v with
    | true =>
      rw [ht] at q2 fin
      refine fin ρ' (nHp mh w') (pre _ ?_) take_top
      rw [exs, ex_while, q2]
      simp [exs, ex, ev]
    | false =>
      rw [ht] at q2 fin
      refine fin ρ' (nHp mh w') (pre _ ?_) take_top
      rw [exs, ex_while, q2]
      rfl
  · have ht : termB ps v = false := by
      unfold termB
      rcases s1 with s1 | s1
      · cases hg : good ps v with
        | false => simp
        | true => rw [good_shape ps v hg] at s1; cases s1
      · have : ¬ cnt v ≤ 400 := by omega
        simp [this]
    rw [ht] at fin ⊢
    rcases s2 with rfl | rfl
    · refine fin [some v, some (.tup ps), some .non, none, none] mh ?_ (by simp)
      simp [d_is_term, exs, ex, ev, evs, e1, asg, cmpV, isV]
    · refine fin [some v, some (.tup ps), some (.int 401), none, none] mh ?_ (by simp)
      simp [d_is_term, exs, ex, ev, evs, e1, asg, cmpV, isV, ordV]
end
end L2.Mi.k08

set_option Elab.async false
set_option linter.all false
set_option maxRecDepth 100000
set_option maxHeartbeats 4000000
namespace L2.Mi.k08
open PySem PySem.Spec PyProof.Rows L2.Mi
theorem deps_leq {d : Nat} : ∀ {xs : List MV}, (∀ x ∈ xs, dep x ≤ d) → deps xs ≤ d
  | [], _ => by simp [deps]
  | x :: xs, h => by
    have := h x (by simp)
    have := deps_leq (xs := xs) fun y hy => h y (List.mem_cons_of_mem _ hy)
    simp only [deps]
    omega
theorem pV_dep (p : List Int) : dep (pV p) ≤ 1 := by
  have : deps (p.map MV.int) ≤ 0 := deps_leq fun y hy => by obtain ⟨i, _, rfl⟩ := List.mem_map.mp hy; simp [dep]
  simp only [dep]
  omega
theorem pV_deps2 (ps : List (List Int)) : dep (.lst (ps.map pV)) ≤ 2 := by
  have : deps (ps.map pV) ≤ 1 := deps_leq fun x hx => by
    obtain ⟨p, _, rfl⟩ := List.mem_map.mp hx
    exact pV_dep p
  simp only [dep]
  omega
theorem mem_pls {H : MHp} {q : List Int} {P : List (List Int)} (h : q ∈ P) : memV H (pV q) (.lst (P.map pV)) = some true := by
  have d1 := pV_dat q
  have d2 : dat (.lst (P.map pV)) = true := by unfold dat; exact pV_dats P
  have o1 := okD_dat d1 (by have := pV_dep q; omega)
  have o2 := okD_dat d2 (by have := pV_deps2 P; omega)
  unfold memV
  split
  · rename_i e _; cases e
  · rw [frz_dat _ d1, frz_dat _ d2]
    simp only [o1, o2, and_self, if_true]
    congr 1
    exact List.any_eq_true.mpr ⟨pV q, List.mem_map.mpr ⟨q, h, rfl⟩, eqD_refl _ d1⟩
theorem atF_Tm {ar : Sx → Option Nat} : ∀ (q : List Int) {t r : MV}, Tm ar t → q ∈ pls t → atF t q = some r → Tm ar r
  | [], t, r, h, _, e => by simp only [atF] at e; cases e; exact h
  | i :: q, t, r, h, hq, e => by
    obtain ⟨h0, ys, j0, y, rfl, rfl, h1, h2⟩ := cons_pls.mp hq
    simp only [atF] at e
    rw [idx_nat (get_cons1 h1)] at e
    rcases h.cases with ⟨s, z⟩ | ⟨a, xs, z, _, _, w⟩
    · cases z
    · cases z
      exact atF_Tm q (w y (List.mem_of_getElem? h1)) h2 e
section
variable {k : Nat} {p t : MV} {ar : Sx → Option Nat} {mh : MHp}
end
/-! ### parts put for names -/
mutual
def putF (d : AL) : MV → MV
  | .str s => (look d s).getD (.str s)
  | .tup xs => .tup (putT d xs)
  | x => x
def putT (d : AL) : List MV → List MV
  | [] => []
  | h :: xs => h :: putFs d xs
def putFs (d : AL) : List MV → List MV
  | [] => []
  | x :: xs => putF d x :: putFs d xs
end
theorem putFs_map (d : AL) : ∀ xs, putFs d xs = xs.map (putF d)
  | [] => rfl
  | x :: xs => by rw [putFs, putFs_map d xs]; rfl
/-- what a dict's values keep -/
structure VOk (ar : Sx → Option Nat) (c e : Nat) (d : AL) : Prop where
  tm : ∀ p ∈ d, tmA ar p.2 = true
  dat : ∀ p ∈ d, dat p.2 = true
  cnt : ∀ p ∈ d, cnt p.2 ≤ c
  dep : ∀ p ∈ d, dep p.2 ≤ e
theorem put_facts {ar : Sx → Option Nat} {c e : Nat} {d : AL} (hd : VOk ar c e d) (hc : 1 ≤ c) : ∀ (D : Nat) (t : MV), dep t ≤ D → tmA ar t = true → dat t = true → tmA ar (putF d t) = true ∧ dat (putF d t) = true ∧ cnt (putF d t) ≤ cnt t * c ∧ dep (putF d t) ≤ dep t + e := by
  intro D
  have leaf : ∀ s : Sx, dat (.str s) = true → tmA ar (putF d (.str s)) = true ∧ dat (putF d (.str s)) = true ∧ cnt (putF d (.str s)) ≤ cnt (.str s) * c ∧ dep (putF d (.str s)) ≤ dep (.str s) + e := fun s hs => by
    simp only [putF]
    cases q : look d s with
    | none => exact ⟨by simp [tmA], hs, by simp [cnt]; omega, by simp [dep]⟩
    | some v =>
      have hm := look_mem q
      exact ⟨hd.tm _ hm, hd.dat _ hm, by have := hd.cnt _ hm; simp only [Option.getD_some, L2.Mi.cnt] at this ⊢; omega, by have := hd.dep _ hm; simp only [Option.getD_some, L2.Mi.dep] at this ⊢; omega⟩
  induction D with
  | zero =>
    intro t hD ht hdt
    rcases tmA_cases ht hdt with ⟨s, rfl⟩ | ⟨s, xs, rfl, h1, h2, h3⟩
    · exact leaf s hdt
    · simp [dep] at hD
  | succ D ih =>
    intro t hD ht hdt
    rcases tmA_cases ht hdt with ⟨s, rfl⟩ | ⟨s, xs, rfl, h1, h2, h3⟩
    · exact leaf s hdt
    · have each : ∀ x ∈ xs, _ := fun x hx => ih x (by have := dep_mem (h := .str s) hx; omega) (h3 x hx).1 (h3 x hx).2
      have e0 : putF d (.tup (.str s :: xs)) = .tup (.str s :: xs.map (putF d)) := by simp only [putF, putT, putFs_map]
      rw [e0]
      refine ⟨tmA_tup (by rw [List.length_map]; exact h1) fun y hy => ?_, ?_, ?_, ?_⟩
      · obtain ⟨x, hx, rfl⟩ := List.mem_map.mp hy
        exact (each x hx).1
      · show dat (.tup (.str s :: xs.map (putF d))) = true
        rw [dat]
        refine dats_iff.mpr fun y hy => ?_
        rcases List.mem_cons.mp hy with rfl | hy
        · exact h2
        · obtain ⟨x, hx, rfl⟩ := List.mem_map.mp hy
          exact (each x hx).2.1
      · have : ∀ ys : List MV, (∀ x ∈ ys, L2.Mi.cnt (putF d x) ≤ L2.Mi.cnt x * c) → cnts (ys.map (putF d)) ≤ cnts ys * c := by
          intro ys
          induction ys with
          | nil => intro _; simp [cnts]
          | cons y ys ihy =>
            intro h
            have a := h y (by simp)
            have b := ihy fun x hx => h x (List.mem_cons_of_mem _ hx)
            simp only [List.map_cons, cnts, Nat.add_mul]
            omega
        have := this xs fun x hx => (each x hx).2.2.1
        simp only [L2.Mi.cnt, cntT, Nat.add_mul]
        omega
      · have : deps (xs.map (putF d)) ≤ deps xs + e := deps_leq fun y hy => by
          obtain ⟨x, hx, rfl⟩ := List.mem_map.mp hy
          have := (each x hx).2.2.2
          have := deps_mem hx
          omega
        simp only [L2.Mi.dep, deps]
        omega
theorem sp_lput {ar : Sx → Option Nat} {c e : Nat} {d : AL} (hd : VOk ar c e d) (hc : 1 ≤ c) : ∀ (D k : Nat) (t : MV) (mh : MHp), dep t ≤ D → cnt t ≤ 1000000 → tmA ar t = true → dat t = true → callM T (k + D + 1) 28 [t, .dct (aK d) (aV d)] mh = some (putF d t, mh) := by
  intro D
  have leaf : ∀ (k : Nat) (s : Sx) (mh : MHp), dat (.str s) = true → callM T (k + 1) 28 [.str s, .dct (aK d) (aV d)] mh = some (putF d (.str s), mh) := fun k s mh hs => by
    have hf := (put_facts hd hc 0 (.str s) (by simp [dep]) (by simp [tmA]) hs).2.1
    rw [callM_eq (d := d_l_put) rfl]
    refine run_of' rfl rfl (ρ := [some (.str s), some (.dct (aK d) (aV d)), none]) (fl := .rt (putF d (.str s))) ?_ rfl hf rfl
    have g : methV mh.length mh .get2 (.dct (aK d) (aV d)) [.str s, .str s] = some (putF d (.str s), mh) := by
      simp only [methV, getV, getD, kyV, Option.map_some, dLook_al, putF]
    have t : tyM mh .get2 (.dct (aK d) (aV d)) = true := rfl
    simp [d_l_put, exs, ex, ev, evs, isTy, t, g]
  induction D with
  | zero =>
    intro k t mh hD hn ht hdt
    rcases tmA_cases ht hdt with ⟨s, rfl⟩ | ⟨s, xs, rfl, h1, h2, h3⟩
    · exact leaf k s mh hdt
    · simp [dep] at hD
  | succ D ih =>
    intro k t mh hD hn ht hdt
    rcases tmA_cases ht hdt with ⟨s, rfl⟩ | ⟨s, xs, rfl, h1, h2, h3⟩
    · exact leaf (k + (D + 1)) s mh hdt
    · have hf := (put_facts hd hc (D + 1) _ hD ht hdt).2.1
      have e0 : putF d (.tup (.str s :: xs)) = .tup (.str s :: xs.map (putF d)) := by simp only [putF, putT, putFs_map]
      rw [e0] at hf ⊢
      have hl := len_cnts xs
      simp only [cnt, cntT] at hn
      rw [show k + (D + 1) + 1 = (k + D + 1) + 1 by omega, callM_eq (d := d_l_put) rfl]
      have each : ∀ x ∈ xs, ∀ mh, callM T (k + D + 1) 28 [x, .dct (aK d) (aV d)] mh = some (putF d x, mh) := fun x hx mh => ih k x mh (by have := dep_mem (h := .str s) hx; omega) (by have := cnt_le hx; omega) (h3 x hx).1 (h3 x hx).2
      generalize hDD : MV.dct (aK d) (aV d) = DD at *
      refine run_of' rfl rfl (ρ := [some (.tup (.str s :: xs)), some DD, none]) (fl := .rt (.tup (.str s :: xs.map (putF d)))) ?_ rfl hf rfl
      have hcomp : ev (callM T (k + D + 1)) mh.length (.comp (.nm 2) [2] (.slcL (.var 0) (.c (.int (1)))) (.c (.bl true)) (.call 28 [(.var 2), (.var 1)])) [some (.tup (.str s :: xs)), some DD, none] mh = some (.lst (xs.map (putF d)), mh) := by
        have ei : evI (callM T (k + D + 1)) mh.length (.slcL (.var 0) (.c (.int (1)))) [some (.tup (.str s :: xs)), some DD, none] mh = some (⟨xs, none⟩, mh) := by simp [evI, ev, slcV, cut1, itsOf]
        have hz : xs.length ≤ line := by unfold line; omega
        rw [ev_compq, ei]
        simp only [hz, if_true]
        rw [compGo_pure rfl (g := fun v => some (putF d v))]
        · simp
        · intro v hv
          have := each v hv mh
          simp [compF, asg, wipeE, ev, evs, this]
      have z1 : 1 ≤ line := by unfold line; omega
      have z2 : 1 + xs.length ≤ line := by unfold line; omega
      show exs (callM T (k + D + 1)) mh.length d_l_put.body [some (.tup (.str s :: xs)), some DD, none] mh = _
      simp [d_l_put, exs, ex, ev, evs, isTy, subV, atI0, ↓hcomp, biV, one1, tupV, getL, z1, binV, addV, z2]
/-! ### is_instance, instances -/
section
variable {k : Nat} {mh : MHp} {p t : MV} {ar : Sx → Option Nat}
open Classical in
noncomputable def mtb (p t : MV) : Bool := decide (∃ L, Mt p t L)
theorem mtb_t {p t : MV} (h : ∃ L, Mt p t L) : mtb p t = true := by unfold mtb; simp; exact h
theorem mtb_f {p t : MV} (h : ∀ L, ¬ Mt p t L) : mtb p t = false := by unfold mtb; simp; exact h
abbrev Row := MV × AL
abbrev rV (r : Row) : MV := .tup [r.1, .dct (aK r.2) (aV r.2)]
structure RowsOk (ar : Sx → Option Nat) (p : MV) (ts : List MV) (rows : List Row) : Prop where
  fst : rows.map Prod.fst = ts.filter (mtb p)
  each : ∀ r ∈ rows, ∃ L, Mt p r.1 L ∧ Rpr r.2 L ∧ DOk ar r.2
  tms : ∀ r ∈ rows, Tm ar r.1
abbrev HL (mh : MHp) (w : List MV) : MHp := mh ++ [some (.lst w)]
theorem hl0 {w : List MV} : (HL mh w)[mh.length]? = some (some (.lst w)) := by
  rw [List.getElem?_append_right (Nat.le_refl _)]; simp
theorem hlset {w w' : List MV} : (HL mh w).set mh.length (some (.lst w')) = HL mh w' := by
  rw [List.set_append_right _ _ (Nat.le_refl _)]; simp
theorem hltake {w : List MV} : (HL mh w).take mh.length = mh := by simp
theorem rV_dat2 {rows : List Row} {ts : List MV} (h : RowsOk ar p ts rows) : dat2 (.lst (rows.map rV)) = true := by
  rw [dat2]
  refine dat2s_iff.mpr fun y hy => ?_
  obtain ⟨r, hr, rfl⟩ := List.mem_map.mp hy
  obtain ⟨L, _, _, h3⟩ := h.each r hr
  rw [dat2, dat2s, dat2s, dat2s, dat2, dat_dat2 _ (h.tms r hr).dat, dats_dat2 _ h3.dats]
  rfl
theorem eqT_dct {d1 d2 : AL} {L : AL} (h1 : Rpr d1 L) (h2 : Rpr d2 L) (hd : DOk ar d1) : eqT (.dct (aK d1) (aV d1)) (.dct (aK d2) (aV d2)) = true := eqT_al h1 h2 fun q hq => eqT_tm _ (hd q hq).1.tm' (hd q hq).1.dat
theorem hgt_dct {d : AL} (hd : DOk ar d) : hgt (.dct (aK d) (aV d)) ≤ 31 := by
  have : ∀ xs : List MV, (∀ x ∈ xs, hgt x ≤ 30) → hgts xs ≤ 30 := by
    intro xs
    induction xs with
    | nil => intro _; simp [hgts]
    | cons x xs ih =>
      intro h
      have := h x (by simp)
      have := ih fun y hy => h y (List.mem_cons_of_mem _ hy)
      simp only [hgts]
      omega
  have := this (aV d) fun x hx => by
    obtain ⟨q, hq, rfl⟩ := List.mem_map.mp hx
    have := hgt_tm q.2 (hd q hq).1.tm'
    have := (hd q hq).1.dep
    omega
  simp only [hgt]
  omega
theorem okD_dct (ks : List MKey) (vs : List MV) : okD (.dct ks vs) = false := by
  unfold okD SeqAt.shaped toD PyData.canLay0
  rfl
theorem eqV_dct {H : MHp} {d1 d2 L : AL} (h1 : Rpr d1 L) (h2 : Rpr d2 L) (k1 : DOk ar d1) (k2 : DOk ar d2) : eqV H (.dct (aK d1) (aV d1)) (.dct (aK d2) (aV d2)) = some true := by
  unfold eqV
  rw [frz_dat2 _ (by rw [dat2]; exact dats_dat2 _ k1.dats), frz_dat2 _ (by rw [dat2]; exact dats_dat2 _ k2.dats)]
  have := hgt_dct k1
  simp only [okD_dct, Bool.false_eq_true, false_and, if_false, eqT_dct h1 h2 k1, notTup]
  rw [if_pos ⟨trivial, by omega, trivial⟩]
theorem eqV_rows {H : MHp} {ts : List MV} {r1 r2 : List Row} (h1 : RowsOk ar p ts r1) (h2 : RowsOk ar p ts r2) : eqV H (.lst (r1.map rV)) (.lst (r2.map rV)) = some true := by
  have hf : r1.map Prod.fst = r2.map Prod.fst := by rw [h1.fst, h2.fst]
  have gen : ∀ (a b : List Row), a.map Prod.fst = b.map Prod.fst → (∀ r ∈ a, (∃ L, Mt p r.1 L ∧ Rpr r.2 L ∧ DOk ar r.2) ∧ Tm ar r.1) → (∀ r ∈ b, ∃ L, Mt p r.1 L ∧ Rpr r.2 L ∧ DOk ar r.2) → eqTs (a.map rV) (b.map rV) = true ∧ hgts (a.map rV) ≤ 40 := by
    intro a
    induction a with
    | nil =>
      intro b hb _ _
      cases b with
      | nil => simp [eqTs, hgts]
      | cons y ys => simp at hb
    | cons x a ih =>
      intro b hb ha hb2
      cases b with
      | nil => simp at hb
      | cons y b =>
        simp only [List.map_cons, List.cons.injEq] at hb
        obtain ⟨e1, e2⟩ := hb
        obtain ⟨⟨L, m1, m2, m3⟩, m4⟩ := ha x (by simp)
        obtain ⟨L', n1, n2, n3⟩ := hb2 y (by simp)
        have hL : L = L' := by
          have a1 := m1.1
          rw [e1, n1.1] at a1
          exact (Option.some.inj a1).symm
        subst hL
        obtain ⟨g1, g2⟩ := ih b e2 (fun r hr => ha r (List.mem_cons_of_mem _ hr)) fun r hr => hb2 r (List.mem_cons_of_mem _ hr)
        have hd := hgt_dct m3
        have ht := hgt_tm x.1 m4.tm'
        have hdp := m4.dep
        have q1 := eqT_dct m2 n2 m3
        have q2 := eqT_tm x.1 m4.tm' m4.dat
        constructor
        · simp only [List.map_cons]
          unfold eqTs
          rw [g1, Bool.and_true]
          show eqT (.tup [x.1, .dct (aK x.2) (aV x.2)]) (.tup [y.1, .dct (aK y.2) (aV y.2)]) = true
          unfold eqT eqTs eqTs eqTs
          rw [← e1, q2, q1]
          rfl
        · simp only [List.map_cons, hgts, rV, hgt] at hd ⊢
          omega
  obtain ⟨g1, g2⟩ := gen r1 r2 hf (fun r hr => ⟨h1.each r hr, h1.tms r hr⟩) h2.each
  unfold eqV
  rw [frz_dat2 _ (rV_dat2 h1), frz_dat2 _ (rV_dat2 h2)]
  simp only
  cases r1 with
  | nil =>
    cases r2 with
    | nil => rw [if_pos ⟨okD_dat (by rfl) (by simp [dep, deps]), okD_dat (by rfl) (by simp [dep, deps])⟩]; exact congrArg some (eqD_refl _ rfl)
    | cons y ys => simp at hf
  | cons x a =>
    have ho : okD (.lst ((x :: a).map rV)) = false := by
      unfold okD SeqAt.shaped toD PyData.canLay0
      simp only [List.map_cons, toDs]
      unfold PyData.canLayAll0 
      rw [show (toD (rV x)).canLay0 = false by
        show (toD (.tup [x.1, .dct (aK x.2) (aV x.2)])).canLay0 = false
        unfold toD toDs toDs toDs PyData.canLay0 PyData.canLayAll0 PyData.canLayAll0
        rw [show (toD (.dct (aK x.2) (aV x.2))).canLay0 = false by unfold toD PyData.canLay0; rfl]
        simp]
      simp
    have w1 : eqT (.lst ((x :: a).map rV)) (.lst (r2.map rV)) = true := by unfold eqT; exact g1
    have w2 : hgt (.lst ((x :: a).map rV)) ≤ 60 := by simp only [hgt]; omega
    rw [if_neg (by rw [ho]; simp), if_pos ⟨w1, w2, rfl⟩]
end
end L2.Mi.k08

set_option Elab.async false
set_option linter.all false
set_option maxRecDepth 100000
set_option maxHeartbeats 4000000
namespace L2.Mi.k08
open PySem PySem.Spec PyProof.Rows L2.Mi
theorem hAtP : T[11]? = some latD := rfl
theorem hPutP : T[12]? = some (putD 12) := rfl
/-! ### positions, by depth -/
theorem sp_pos : ∀ (D k : Nat) (t : MV) (mh : MHp), dep t ≤ D → cnt t ≤ 4000000 → tm t = true → dat t = true → callM T (k + D + 2) 9 [t] mh = some (.lst ((pls t).map pV), mh) := by
  intro D
  have leaf : ∀ (k : Nat) (s : Sx) (mh : MHp), dat (.str s) = true → callM T (k + 2) 9 [.str s] mh = some (.lst ((pls (.str s)).map pV), mh) := fun k s mh hd => by
    have iv := sp_isvar k (.str s) mh hd
    have z1 : 1 ≤ line := by unfold line; omega
    have z0 : 0 ≤ line := by unfold line; omega
    rw [callM_eq (d := d_positions) rfl]
    refine run_of' rfl rfl (ρ := [some (.str s), none, none, none]) (fl := .rt (.lst ((pls (.str s)).map pV))) ?_ rfl (by unfold dat; exact pV_dats _) rfl
    simp only [isS] at iv
    simp [d_positions, exs, ex, ev, evs, iv, pls, z1, z0]
  induction D with
  | zero =>
    intro k t mh hD hN ht hd
    rcases tm_cases ht hd with ⟨s, rfl⟩ | ⟨s, xs, rfl, hds, hx⟩
    · exact leaf k s mh hd
    · simp [dep] at hD
  | succ D ih =>
    intro k t mh hD hN ht hd
    rcases tm_cases ht hd with ⟨s, rfl⟩ | ⟨s, xs, rfl, hds, hx⟩
    · exact leaf (k + (D + 1)) s mh hd
    · rw [show k + (D + 1) + 2 = (k + D + 2) + 1 by omega, callM_eq (d := d_positions) rfl]
      have iv := sp_isvar (k + D + 1) (.tup (.str s :: xs)) mh hd
      have iv : callM T (k + D + 2) 5 [.tup (.str s :: xs)] mh = _ := iv
      simp only [isS] at iv
      have z1 : 1 ≤ line := by unfold line; omega
      have z0 : 0 ≤ line := by unfold line; omega
      simp only [cnt, cntT] at hN
      have hlx := len_cnts xs
      obtain ⟨o', e⟩ := pos_loop (C := callM T (k + D + 2)) (all := .str s :: xs) (mh := mh) (J := ⟨upto 1 xs.length, none⟩) rfl xs 1 [[]] none rfl (fun x hxm mh => ih k x mh (by have := dep_mem (h := .str s) hxm; omega) (by have := cnt_le hxm; omega) (hx x hxm).1 (hx x hxm).2) (by simp; omega) (by omega)
      have := run_frz (C := callM T (k + D + 2)) (d := d_positions) (args := [.tup (.str s :: xs)]) (mh := mh) (mh1 := nHp mh ((pls (.tup (.str s :: xs))).map pV)) (fl := .rt (.loc mh.length)) (ρ := [some (.tup (.str s :: xs)), some (.loc mh.length), o', none]) (v := .loc mh.length) (w := .lst ((pls (.tup (.str s :: xs))).map pV)) rfl rfl ?_ rfl (frz_top (Nat.le_refl _) (pV_dats _))
      · rw [take_top] at this
        exact this
      · show exs (callM T (k + D + 2)) mh.length d_positions.body [some (.tup (.str s :: xs)), none, none, none] mh = _
        have s1 : ex (callM T (k + D + 2)) mh.length (.ite (.call 5 [(.var 0)]) [(.ret (.lst [(.tup [])]))] []) [some (.tup (.str s :: xs)), none, none, none] mh = some (.nx, [some (.tup (.str s :: xs)), none, none, none], mh) := by
          simp [ex, exs, ev, evs, iv]
        have s2 : ex (callM T (k + D + 2)) mh.length (.set (.nm 1) (.al (.lst [(.tup [])]))) [some (.tup (.str s :: xs)), none, none, none] mh = some (.nx, [some (.tup (.str s :: xs)), some (.loc mh.length), none, none], nHp mh [.tup []]) := by
          simp [ex, ev, evs, asg, nHp, z0, z1]
        have ei : evI (callM T (k + D + 2)) mh.length (.rng2 (.c (.int (1))) (.bi .len [(.var 0)])) [some (.tup (.str s :: xs)), some (.loc mh.length), none, none] (nHp mh [.tup []]) = some (⟨upto 1 xs.length, none⟩, nHp mh [.tup []]) := by
          have u := upto_eq xs.length 1
          have b2 : (xs.length : Int) + 1 < 4611686018427387904 := by omega
          have b3 : (-4611686018427387904 : Int) ≤ (xs.length : Int) + 1 := by omega
          have b4 : ((xs.length : Int) + 1 - 1).toNat = xs.length := by omega
          simp only [Int.natCast_one] at u
          simp [evI, ev, evs, biV, one1, lenV, b2, b3, u]
        rw [d_positions, exs, s1]
        simp only
        rw [exs, s2]
        simp only
        rw [exs, ex_for, ei]
        simp only
        have e' : forGo ⟨upto 1 xs.length, none⟩ (forF (callM T (k + D + 2)) mh.length (.nm 2) poBody) (upto 1 xs.length) [some (.tup (.str s :: xs)), some (.loc mh.length), none, none] (nHp mh [.tup []]) = _ := e
        rw [e']
        simp only [exs, ex, ev]
        simp [pls, plsT]
/-! ### put_for -/
theorem sp_putfor {ar : Sx → Option Nat} {c e : Nat} {d : AL} (hd : VOk ar c e d) (hc : 1 ≤ c) : ∀ (D k : Nat) (t : MV) (mh : MHp), dep t ≤ D → cnt t ≤ 1000000 → tmA ar t = true → dat t = true → callM T (k + D + 2) 13 [t, .dct (aK d) (aV d)] mh = some (putF d t, mh) := by
  intro D
  have leaf : ∀ (k : Nat) (s : Sx) (mh : MHp), dat (.str s) = true → callM T (k + 2) 13 [.str s, .dct (aK d) (aV d)] mh = some (putF d (.str s), mh) := fun k s mh hs => by
    have hf := (put_facts hd hc 0 (.str s) (by simp [dep]) (by simp [tmA]) hs).2.1
    have iv := sp_isvar k (.str s) mh hs
    simp only [isS] at iv
    rw [callM_eq (d := d_put_for) rfl]
    refine run_of' rfl rfl (ρ := [some (.str s), some (.dct (aK d) (aV d)), none]) (fl := .rt (putF d (.str s))) ?_ rfl hf rfl
    have g : methV mh.length mh .get2 (.dct (aK d) (aV d)) [.str s, .str s] = some (putF d (.str s), mh) := by
      simp only [methV, getV, getD, kyV, Option.map_some, dLook_al, putF]
    have t : tyM mh .get2 (.dct (aK d) (aV d)) = true := rfl
    simp [d_put_for, exs, ex, ev, evs, iv, t, g]
  induction D with
  | zero =>
    intro k t mh hD hn ht hdt
    rcases tmA_cases ht hdt with ⟨s, rfl⟩ | ⟨s, xs, rfl, h1, h2, h3⟩
    · exact leaf k s mh hdt
    · simp [dep] at hD
  | succ D ih =>
    intro k t mh hD hn ht hdt
    rcases tmA_cases ht hdt with ⟨s, rfl⟩ | ⟨s, xs, rfl, h1, h2, h3⟩
    · exact leaf (k + (D + 1)) s mh hdt
    · have hf := (put_facts hd hc (D + 1) _ hD ht hdt).2.1
      have e0 : putF d (.tup (.str s :: xs)) = .tup (.str s :: xs.map (putF d)) := by simp only [putF, putT, putFs_map]
      rw [e0] at hf ⊢
      have hl := len_cnts xs
      simp only [cnt, cntT] at hn
      rw [show k + (D + 1) + 2 = (k + D + 2) + 1 by omega, callM_eq (d := d_put_for) rfl]
      have iv : callM T (k + D + 2) 5 [.tup (.str s :: xs)] mh = _ := sp_isvar (k + D + 1) (.tup (.str s :: xs)) mh hdt
      simp only [isS] at iv
      have each : ∀ x ∈ xs, ∀ mh, callM T (k + D + 2) 13 [x, .dct (aK d) (aV d)] mh = some (putF d x, mh) := fun x hx mh => ih k x mh (by have := dep_mem (h := .str s) hx; omega) (by have := cnt_le hx; omega) (h3 x hx).1 (h3 x hx).2
      generalize hDD : MV.dct (aK d) (aV d) = DD at *
      refine run_of' rfl rfl (ρ := [some (.tup (.str s :: xs)), some DD, none]) (fl := .rt (.tup (.str s :: xs.map (putF d)))) ?_ rfl hf rfl
      have hcomp : ev (callM T (k + D + 2)) mh.length (.comp (.nm 2) [2] (.slcL (.var 0) (.c (.int (1)))) (.c (.bl true)) (.call 13 [(.var 2), (.var 1)])) [some (.tup (.str s :: xs)), some DD, none] mh = some (.lst (xs.map (putF d)), mh) := by
        have ei : evI (callM T (k + D + 2)) mh.length (.slcL (.var 0) (.c (.int (1)))) [some (.tup (.str s :: xs)), some DD, none] mh = some (⟨xs, none⟩, mh) := by simp [evI, ev, slcV, cut1, itsOf]
        have hz : xs.length ≤ line := by unfold line; omega
        rw [ev_compq, ei]
        simp only [hz, if_true]
        rw [compGo_pure rfl (g := fun v => some (putF d v))]
        · simp
        · intro v hv
          have := each v hv mh
          simp [compF, asg, wipeE, ev, evs, this]
      have z1 : 1 ≤ line := by unfold line; omega
      have z2 : 1 + xs.length ≤ line := by unfold line; omega
      show exs (callM T (k + D + 2)) mh.length d_put_for.body [some (.tup (.str s :: xs)), some DD, none] mh = _
      simp [d_put_for, exs, ex, ev, evs, iv, subV, atI0, ↓hcomp, biV, one1, tupV, getL, z1, binV, addV, z2]
/-! ### a part put at a position -/
def putAt (r : MV) : List Int → MV → MV
  | [], _ => r
  | i :: p, .tup xs => .tup (xs.set i.toNat (putAt r p (xs[i.toNat]?.getD .non)))
  | _ :: _, t => t
theorem putAt_cons {r h0 x : MV} {xs : List MV} {j : Nat} {p : List Int} (h1 : xs[j]? = some x) : putAt r (((1 + j : Nat) : Int) :: p) (.tup (h0 :: xs)) = .tup (h0 :: xs.set j (putAt r p x)) := by
  simp only [putAt, Int.toNat_natCast, get_cons1 (h := h0) h1, Option.getD_some]
  rw [Nat.add_comm 1 j, List.set_cons_succ]
theorem deps_set {u : MV} : ∀ {xs : List MV} {j : Nat}, deps (xs.set j u) ≤ max (deps xs) (dep u)
  | [], j => by simp [deps]
  | y :: xs, 0 => by simp only [List.set_cons_zero, deps]; omega
  | y :: xs, j + 1 => by
    have := deps_set (u := u) (xs := xs) (j := j)
    simp only [List.set_cons_succ, deps]
    omega
theorem put_all {r : MV} (hr : dat r = true) : ∀ (p : List Int) (t : MV), p ∈ pls t → cnt t ≤ 4000000 → dat t = true → dat (putAt r p t) = true ∧ dep (putAt r p t) ≤ max (dep t) (p.length + dep r) ∧ (∀ ar, tmA ar t = true → tmA ar r = true → tmA ar (putAt r p t) = true) ∧ cnt (putAt r p t) ≤ cnt t + cnt r ∧ ∀ f, T[f]? = some (putD f) → ∀ (k : Nat) (mh : MHp), callM T (k + p.length + 1) f [t, pV p, r] mh = some (putAt r p t, mh)
  | [], t, _, _, hd => by
    refine ⟨hr, by simp only [putAt, List.length_nil]; omega, fun _ _ h => h, by simp only [putAt]; omega, fun f hf k mh => ?_⟩
    rw [callM_eq hf]
    refine run_of' rfl rfl (ρ := [some t, some (pV []), some r, none]) (fl := .rt r) ?_ rfl hr rfl
    simp [putD, exs, ex, ev, evs, biV, one1, lenV, cmpV, eqV_int]
  | i :: p, t, h, hc, hd => by
    obtain ⟨h0, xs, j, x, rfl, rfl, h1, h2⟩ := cons_pls.mp h
    simp only [cnt, cntT] at hc
    have hg := get_cons1 (h := h0) h1
    have hds : dats (h0 :: xs) = true := by unfold dat at hd; exact hd
    have hxm : x ∈ h0 :: xs := List.mem_of_getElem? hg
    obtain ⟨du, pu, au, cu, hu⟩ := put_all hr p x h2 (by have := cnt_get h1; omega) (dats_iff.mp hds x hxm)
    rw [putAt_cons h1]
    generalize putAt r p x = u at *
    have hlx := len_cnts xs
    obtain ⟨A, hA⟩ : ∃ A, A = (h0 :: xs).take (1 + j) := ⟨_, rfl⟩
    obtain ⟨B, hB⟩ : ∃ B, B = (h0 :: xs).drop (1 + j + 1) := ⟨_, rfl⟩
    have dA : dats A = true := by rw [hA]; exact dats_take hds
    have dB : dats B = true := by rw [hB]; exact dats_drop hds
    have lA : A.length ≤ 4000001 := by rw [hA, List.length_take, List.length_cons]; omega
    have lB : B.length ≤ 4000001 := by rw [hB, List.length_drop, List.length_cons]; omega
    have px := deps_mem hxm
    have hsp : A ++ [u] ++ B = h0 :: xs.set j u := by rw [hA, hB]; exact set_split (List.getElem?_eq_some_iff.mp h1).1
    have hcs := cnts_set (u := u) h1
    have hdr : dat (.tup (A ++ [u] ++ B)) = true := by
      unfold dat
      rw [dats_app, dats_app, dA, dB]
      simp [dats, du]
    rw [hsp] at hdr
    refine ⟨hdr, ?_, fun ar ht hr' => ?_, ?_, fun f hf k mh => ?_⟩
    · have := deps_set (u := u) (xs := xs) (j := j)
      have p2 := dep_mem (h := h0) (List.mem_of_getElem? h1)
      simp only [dep, deps, List.length_cons] at p2 ⊢
      omega
    · rcases tmA_cases ht hd with ⟨s, e⟩ | ⟨s, ys, e, a1, a2, a3⟩
      · cases e
      · cases e
        refine tmA_tup (by rw [List.length_set]; exact a1) fun y hy => ?_
        rcases List.mem_or_eq_of_mem_set hy with hy | rfl
        · exact (a3 y hy).1
        · exact au ar (a3 x (List.mem_of_getElem? h1)).1 hr'
    · simp only [cnt, cntT]
      omega
    · rw [← hsp]
      rw [List.length_cons, show k + (p.length + 1) + 1 = (k + p.length + 1) + 1 by omega, callM_eq hf]
      have hdr : dat (.tup (A ++ [u] ++ B)) = true := by rw [hsp]; exact hdr
      have hrec := hu f hf k mh
      have c1 : cut (h0 :: xs) none (some ((1 + j : Nat) : Int)) = A := by rw [cut_take, hA]
      have c2 : cut (h0 :: xs) (some (((1 + j : Nat) : Int) + 1)) none = B := by
        have := cut_drop (xs := h0 :: xs) (k := 1 + j + 1)
        rw [show ((1 + j + 1 : Nat) : Int) = ((1 + j : Nat) : Int) + 1 by omega] at this
        rw [this, hB]
      have c3 : cut (MV.int ((1 + j : Nat) : Int) :: p.map MV.int) (some 1) none = p.map MV.int := cut1 _ _
      have c4 := idx_nat hg
      have z1 : A.length + 1 ≤ line := by unfold line; omega
      have z2 : A.length + 1 + B.length ≤ line := by unfold line; omega
      have z3 : 1 ≤ line := by unfold line; omega
      have z4 : ¬ ((p.length : Int) + 1 = 0) := by omega
      have s1 : exs (callM T (k + p.length + 1)) mh.length [(.ite (.cmp .eq (.bi .len [(.var 1)]) (.c (.int (0)))) [(.ret (.var 2))] []), (.set (.nm 3) (.sub (.var 1) (.c (.int (0)))))] [some (.tup (h0 :: xs)), some (pV (((1 + j : Nat) : Int) :: p)), some r, none] mh = some (.nx, [some (.tup (h0 :: xs)), some (pV (((1 + j : Nat) : Int) :: p)), some r, some (.int ((1 + j : Nat) : Int))], mh) := by
        simp [exs, ex, ev, evs, biV, one1, lenV, cmpV, eqV_int, z4, subV, atI0, asg]
      clear hsp hcs h
      generalize ((1 + j : Nat) : Int) = q at c1 c2 c3 c4 s1 ⊢
      have hrec' : callM T (k + p.length + 1) f [x, .tup (p.map .int), r] mh = some (u, mh) := hrec
      refine run_of' rfl rfl (ρ := [some (.tup (h0 :: xs)), some (pV (q :: p)), some r, some (.int q)]) (fl := .rt (.tup (A ++ [u] ++ B))) ?_ rfl hdr rfl
      show exs (callM T (k + p.length + 1)) mh.length (putD f).body [some (.tup (h0 :: xs)), some (pV (q :: p)), some r, none] mh = _
      rw [putD]
      have s2 : exs (callM T (k + p.length + 1)) mh.length [(.ret (.bin .add (.bin .add (.slcH (.var 0) (.var 3)) (.tup [(.call f [(.sub (.var 0) (.var 3)), (.slcL (.var 1) (.c (.int (1)))), (.var 2)])])) (.slcL (.var 0) (.bin .add (.var 3) (.c (.int (1)))))))] [some (.tup (h0 :: xs)), some (.tup (.int q :: p.map .int)), some r, some (.int q)] mh = some (.rt (.tup (A ++ [u] ++ B)), [some (.tup (h0 :: xs)), some (.tup (.int q :: p.map .int)), some r, some (.int q)], mh) := by
        simp [exs, ex, ev, evs, slcV, subV, c1, c2, c3, c4, hrec', z1, z2, z3, binV, addV]
      rcases exs_cons s1 with ⟨ρ2, mh2, e1, e2⟩ | ⟨_, hn⟩
      · rcases exs_cons e2 with ⟨ρ3, mh3, e3, e4⟩ | ⟨_, hn⟩
        · simp only [exs] at e4
          cases e4
          rw [exs, e1]
          simp only
          rw [exs, e3]
          exact s2
        · exact absurd rfl hn
      · exact absurd rfl hn
/-! ### matching as a function -/
open Classical in
noncomputable def matchF (p t : MV) : Option AL := match prs p t with
  | some L => if Con L then some L else none
  | none => none
theorem matchF_some {p t : MV} {L : AL} : matchF p t = some L ↔ Mt p t L := by
  unfold matchF Mt
  cases q : prs p t with
  | none => simp
  | some K =>
    simp only
    constructor
    · intro h
      split at h
      · cases h; exact ⟨rfl, by assumption⟩
      · cases h
    · rintro ⟨h1, h2⟩
      cases h1
      rw [if_pos h2]
theorem matchF_none {p t : MV} (h : ∀ L, ¬ Mt p t L) : matchF p t = none := by
  cases q : matchF p t with
  | none => rfl
  | some L => exact absurd (matchF_some.mp q) (h L)
theorem look_eq {d L : AL} (h : Rpr d L) (s : Sx) : look d s = look L s := by
  have hc := h.con
  cases q : look L s with
  | some v =>
    exact look_of h.nd ((h.mem _).mpr (look_mem q))
  | none =>
    cases r : look d s with
    | none => rfl
    | some v =>
      exfalso
      exact look_no q (List.mem_map.mpr ⟨(s, v), (h.mem _).mp (look_mem r), rfl⟩)
mutual
theorem putF_look {d e : AL} (h : ∀ s, look d s = look e s) : ∀ t, putF d t = putF e t
  | .str s => by simp only [putF, h]
  | .tup [] => by simp only [putF, putT]
  | .tup (x :: xs) => by simp only [putF, putT, putFs_look h xs]
  | .non => rfl
  | .bl _ => rfl
  | .int _ => rfl
  | .fn _ => rfl
  | .lst _ => rfl
  | .loc _ => rfl
  | .dct _ _ => rfl
  | .scr _ => rfl
theorem putFs_look {d e : AL} (h : ∀ s, look d s = look e s) : ∀ xs, putFs d xs = putFs e xs
  | [] => rfl
  | x :: xs => by simp only [putFs, putF_look h x, putFs_look h xs]
end
/-- what stands behind a name is a part -/
theorem prs_vals {ar : Sx → Option Nat} : ∀ (D : Nat) (p t : MV) (L : AL), dep p ≤ D → Tm ar p → Tm ar t → prs p t = some L → ∀ q ∈ L, Tm ar q.2 ∧ dep q.2 ≤ dep t ∧ cnt q.2 ≤ cnt t := by
  intro D
  have leaf : ∀ (s : Sx) (t : MV) (L : AL), Tm ar t → prs (.str s) t = some L → ∀ q ∈ L, Tm ar q.2 ∧ dep q.2 ≤ dep t ∧ cnt q.2 ≤ cnt t := fun s t L ht h q hq => by
    simp only [prs] at h
    cases h
    simp at hq
    subst hq
    exact ⟨ht, Nat.le_refl _, Nat.le_refl _⟩
  induction D with
  | zero =>
    intro p t L hD hp ht h q hq
    rcases hp.cases with ⟨s, rfl⟩ | ⟨a, ps, rfl, q1, q2, q3⟩
    · exact leaf s t L ht h q hq
    · simp [dep] at hD
  | succ D ih =>
    intro p t L hD hp ht h q hq
    rcases hp.cases with ⟨s, rfl⟩ | ⟨a, ps, rfl, q1, q2, q3⟩
    · exact leaf s t L ht h q hq
    · rcases ht.cases with ⟨s, rfl⟩ | ⟨b, ts, rfl, w1, w2, w3⟩
      · rw [prs_ts] at h; cases h
      · rw [prs_tup] at h
        split at h
        · have gen : ∀ (ps ts : List MV) (L : AL), (∀ x ∈ ps, dep x ≤ D ∧ Tm ar x) → (∀ x ∈ ts, Tm ar x) → prsL ps ts = some L → ∀ q ∈ L, Tm ar q.2 ∧ dep q.2 ≤ deps ts ∧ cnt q.2 ≤ cnts ts := by
            intro ps
            induction ps with
            | nil => intro ts L _ _ h q hq; simp only [prsL] at h; cases h; simp at hq
            | cons x ps ihp =>
              intro ts L hx hts h q hq
              cases ts with
              | nil => simp [prsL] at h
              | cons y ts =>
                simp only [prsL, Option.bind_eq_some_iff, Option.map_eq_some_iff] at h
                obtain ⟨A, h1, B, h2, rfl⟩ := h
                simp only [deps, cnts]
                rcases List.mem_append.mp hq with hq | hq
                · obtain ⟨a1, a2, a3⟩ := ih x y A (hx x (by simp)).1 (hx x (by simp)).2 (hts y (by simp)) h1 q hq
                  exact ⟨a1, by omega, by omega⟩
                · obtain ⟨a1, a2, a3⟩ := ihp ts B (fun z hz => hx z (List.mem_cons_of_mem _ hz)) (fun z hz => hts z (List.mem_cons_of_mem _ hz)) h2 q hq
                  exact ⟨a1, by omega, by omega⟩
          obtain ⟨a1, a2, a3⟩ := gen ps ts L (fun x hx => ⟨by have := dep_mem (h := .str a) hx; omega, q3 x hx⟩) w3 h q hq
          refine ⟨a1, ?_, ?_⟩
          · simp only [dep, deps]; omega
          · simp only [cnt, cntT]; omega
        · cases h
theorem atF_dep2 : ∀ (q : List Int) (t x : MV), q ∈ pls t → atF t q = some x → q.length + dep x ≤ dep t ∧ cnt x ≤ cnt t
  | [], t, x, _, e => by simp only [atF] at e; cases e; simp
  | i :: q, t, x, h, e => by
    obtain ⟨h0, xs, j, y, rfl, rfl, h1, h2⟩ := cons_pls.mp h
    simp only [atF] at e
    rw [idx_nat (get_cons1 h1)] at e
    obtain ⟨a, b⟩ := atF_dep2 q y x h2 e
    have c := dep_mem (h := h0) (List.mem_of_getElem? h1)
    have d := cnt_get h1
    simp only [List.length_cons, cnt, cntT]
    omega
end L2.Mi.k08

set_option Elab.async false
set_option linter.all false
set_option maxRecDepth 100000
set_option maxHeartbeats 4000000
namespace L2.Mi.k08
open PySem PySem.Spec PyProof.Rows L2.Mi
theorem compGo_cons_of {J : Its} (hJ : J.src = none) {f : MV → MHp → Option (Option MV × MHp)} {x : MV} {xs : List MV} {mh mh1 mh2 : MHp} {r : Option MV} {rs : List MV} (h1 : f x mh = some (r, mh1)) (h2 : compGo J f xs mh1 = some (rs, mh2)) : compGo J f (x :: xs) mh = some (r.toList ++ rs, mh2) := by
  have ok : J.ok mh := by unfold Its.ok; rw [hJ]; trivial
  rw [compGo, if_pos ok, h1]
  simp only [h2]
theorem compGo_nil_of {J : Its} (hJ : J.src = none) {f : MV → MHp → Option (Option MV × MHp)} {mh : MHp} : compGo J f [] mh = some ([], mh) := by
  have ok : J.ok mh := by unfold Its.ok; rw [hJ]; trivial
  rw [compGo, if_pos ok]
theorem ex_go {C : CallF} {base : Nat} {s : MS} {ss : List MS} {ρ ρ1 : Env} {mh mh1 : MHp} {r : Option (Fl × Env × MHp)} (h : ex C base s ρ mh = some (.nx, ρ1, mh1)) (h2 : exs C base ss ρ1 mh1 = r) : exs C base (s :: ss) ρ mh = r := by
  rw [exs, h]; exact h2
theorem ex_end {C : CallF} {base : Nat} {s : MS} {ss : List MS} {ρ ρ1 : Env} {mh mh1 : MHp} {v : MV} (h : ex C base s ρ mh = some (.rt v, ρ1, mh1)) : exs C base (s :: ss) ρ mh = some (.rt v, ρ1, mh1) := by
  rw [exs, h]
/-- a term with its bounds -/
structure Bd (ar : Sx → Option Nat) (c e : Nat) (t : MV) : Prop where
  tm : tmA ar t = true
  dat : dat t = true
  cnt : cnt t ≤ c
  dep : dep t ≤ e
theorem Bd.Tm {ar : Sx → Option Nat} {c e : Nat} {t : MV} (h : Bd ar c e t) (he : e ≤ 30) : L2.Mi.Tm ar t := ⟨h.tm, h.dat, by have := h.dep; omega⟩
theorem Bd.tm' {ar : Sx → Option Nat} {c e : Nat} {t : MV} (h : Bd ar c e t) : L2.Mi.tm t = true := tmA_tm t h.tm
theorem Bd.up {ar : Sx → Option Nat} {c e c' e' : Nat} {t : MV} (h : Bd ar c e t) (h1 : c ≤ c') (h2 : e ≤ e') : Bd ar c' e' t := ⟨h.tm, h.dat, Nat.le_trans h.cnt h1, Nat.le_trans h.dep h2⟩
theorem pls_pdep : ∀ (q : List Int) (t : MV), q ∈ pls t → q.length ≤ dep t
  | [], t, _ => by simp
  | i :: q, t, h => by
    obtain ⟨h0, xs, j, x, rfl, rfl, h1, h2⟩ := cons_pls.mp h
    have a := pls_pdep q x h2
    have b := dep_mem (h := h0) (List.mem_of_getElem? h1)
    simp only [List.length_cons]
    omega
abbrev dV (d : AL) : MV := .dct (aK d) (aV d)
/-! ### rules -/
structure Sys (ar : Sx → Option Nat) (sys : List (MV × MV)) : Prop where
  len : sys.length ≤ 5
  each : ∀ r ∈ sys, Bd ar 13 3 r.1 ∧ Bd ar 13 3 r.2
abbrev rlV (r : MV × MV) : MV := .tup [r.1, r.2]
abbrev sysV (sys : List (MV × MV)) : MV := .tup (sys.map rlV)
def optV : Option MV → MV
  | some v => v
  | none => .non
noncomputable def stepF (sys : List (MV × MV)) (t : MV) (k : Nat) (q : List Int) : Option MV := match sys[k]?, atF t q with
  | some r, some x => (matchF r.1 x).map fun L => putAt (putF L r.2) q t
  | _, _ => none
theorem isV_tm {t : MV} (h : tm t = true) : isV t .non = some false := by
  cases t <;> first | rfl | (simp [tm] at h)
theorem vok_of {ar : Sx → Option Nat} {p x : MV} {L : AL} (hp : Tm ar p) (hx : Tm ar x) (h : prs p x = some L) : VOk ar (cnt x) (dep x) L := by
  have a := prs_vals 30 p x L hp.dep hp hx h
  exact ⟨fun q hq => (a q hq).1.tm, fun q hq => (a q hq).1.dat, fun q hq => (a q hq).2.2, fun q hq => (a q hq).2.1⟩
theorem vok_rpr {ar : Sx → Option Nat} {c e : Nat} {d L : AL} (h : VOk ar c e L) (r : Rpr d L) : VOk ar c e d := ⟨fun q hq => h.tm q ((r.mem q).mp hq), fun q hq => h.dat q ((r.mem q).mp hq), fun q hq => h.cnt q ((r.mem q).mp hq), fun q hq => h.dep q ((r.mem q).mp hq)⟩
section
variable {ar : Sx → Option Nat} {sys : List (MV × MV)} {N e : Nat} {t : MV}
theorem stepF_ok (hs : Sys ar sys) (ht : Bd ar N e t) (hN : N ≤ 4000000) (he : e ≤ 26) {k : Nat} {q : List Int} (hq : q ∈ pls t) {u : MV} (h : stepF sys t k q = some u) : Bd ar (14 * N) (e + 3) u := by
  unfold stepF at h
  split at h
  · rename_i r x h1 h2
    simp only [Option.map_eq_some_iff] at h
    obtain ⟨L, h3, rfl⟩ := h
    have hM := matchF_some.mp h3
    have hr := hs.each r (List.mem_of_getElem? h1)
    have hx := atF_Tm q (ht.Tm (by omega)) hq h2
    have hv := vok_of (hr.1.Tm (by omega)) hx hM.1
    obtain ⟨d1, d2⟩ := atF_dep2 q t x hq h2
    obtain ⟨f1, f2, f3, f4⟩ := put_facts hv (cnt_pos x) 30 r.2 (by have := hr.2.dep; omega) hr.2.tm hr.2.dat
    obtain ⟨g1, g2, g3, g4, _⟩ := put_all (r := putF L r.2) f2 q t hq (by have := ht.cnt; omega) ht.dat
    have c1 := ht.cnt
    have c2 := ht.dep
    have c3 := hr.2.cnt
    have c4 := hr.2.dep
    have m1 : cnt r.2 * cnt x ≤ 13 * N := Nat.mul_le_mul c3 (by omega)
    exact ⟨g3 ar ht.tm f1, g1, by omega, by omega⟩
  · cases h
theorem sp_turned (hs : Sys ar sys) (ht : Bd ar N e t) (hN : N ≤ 4000000) (he : e ≤ 26) {i : Nat} (hi : i < sys.length) {q : List Int} (hq : q ∈ pls t) (k : Nat) (mh : MHp) : callM T (k + 34) 18 [sysV sys, t, .tup [.int (i : Int), pV q]] mh = some (optV (stepF sys t i q), mh) := by
  rw [callM_eq (d := d_turned) rfl]
  obtain ⟨x, hx⟩ := pls_at q t hq
  have hr : sys[i]? = some sys[i] := List.getElem?_eq_getElem hi
  generalize sys[i] = r at hr
  have hrb := hs.each r (List.mem_of_getElem? hr)
  have hxt := atF_Tm q (ht.Tm (by omega)) hq hx
  have e1 : callM T (k + 33) 11 [t, pV q] mh = some (x, mh) := at_ok hAtP (k + 32) mh ht.dat hx
  have hi2 : idx (sys.map rlV) (i : Int) = some (rlV r) := idx_nat (by rw [List.getElem?_map, hr]; rfl)
  have g0 : subV mh (rlV r) (.int 0) = some r.1 := rfl
  have g1 : subV mh (rlV r) (.int 1) = some r.2 := rfl
  have g2 : subV mh (sysV sys) (.int (i : Int)) = some (rlV r) := by simp only [subV]; exact hi2
  have s1 : ex (callM T (k + 33)) mh.length (.set (.tp [(.nm 4), (.nm 5)]) (.var 2)) [some (sysV sys), some t, some (.tup [.int (i : Int), pV q]), none, none, none] mh = some (.nx, [some (sysV sys), some t, some (.tup [.int (i : Int), pV q]), none, some (.int (i : Int)), some (pV q)], mh) := by
    simp [ex, ev, asg, asgs]
  have hst : stepF sys t i q = (matchF r.1 x).map fun L => putAt (putF L r.2) q t := by simp only [stepF, hr, hx]
  have hdat : dat (optV (stepF sys t i q)) = true := by
    cases z : stepF sys t i q with
    | none => rfl
    | some u => exact (stepF_ok hs ht hN he hq z).dat
  rcases sp_matched (ar := ar) (k + 31) mh (hrb.1.Tm (by omega)) hxt (by have := hrb.1.cnt; omega) with ⟨L, d, m1, m2, m3, _, _, e2⟩ | ⟨hno, e2⟩
  · have hm : matchF r.1 x = some L := matchF_some.mpr m1
    have hv := vok_of (hrb.1.Tm (by omega)) hxt m1.1
    have hvd := vok_rpr hv m2
    have e3 : callM T (k + 33) 13 [r.2, dV d] mh = some (putF L r.2, mh) := by
      have := sp_putfor hvd (cnt_pos x) 30 (k + 1) r.2 mh (by have := hrb.2.dep; omega) (by have := hrb.2.cnt; omega) hrb.2.tm hrb.2.dat
      rw [putF_look (look_eq m2)] at this
      exact this
    obtain ⟨f1, f2, f3, f4⟩ := put_facts hv (cnt_pos x) 30 r.2 (by have := hrb.2.dep; omega) hrb.2.tm hrb.2.dat
    obtain ⟨_, _, _, _, g5⟩ := put_all (r := putF L r.2) f2 q t hq (by have := ht.cnt; omega) ht.dat
    have hql := pls_pdep q t hq
    have e4 := g5 12 hPutP (k + 32 - q.length) mh
    rw [show k + 32 - q.length + q.length + 1 = k + 33 by have := ht.dep; omega] at e4
    rw [hst, hm] at hdat ⊢
    refine run_of' rfl rfl (ρ := [some (sysV sys), some t, some (.tup [.int (i : Int), pV q]), some (dV d), some (.int (i : Int)), some (pV q)]) (fl := .rt (putAt (putF L r.2) q t)) ?_ rfl hdat rfl
    have i1 : isV (dV d) .non = some false := rfl
    have e2 : callM T (k + 33) 14 [r.1, x] mh = some (dV d, mh) := e2
    refine ex_go s1 ?_
    generalize rlV r = RL at *
    generalize sysV sys = SV at *
    generalize pV q = Q at *
    generalize dV d = DD at *
    simp [exs, ex, ev, evs, g0, g1, g2, e1, e2, cmpV, i1, asg, e3, e4]
  · have hm : matchF r.1 x = none := matchF_none hno
    rw [hst, hm]
    refine run_of' rfl rfl (ρ := [some (sysV sys), some t, some (.tup [.int (i : Int), pV q]), some .non, some (.int (i : Int)), some (pV q)]) (fl := .rt .non) ?_ rfl rfl rfl
    have i1 : isV .non .non = some true := rfl
    have e2 : callM T (k + 33) 14 [r.1, x] mh = some (.non, mh) := e2
    refine ex_go s1 ?_
    generalize rlV r = RL at *
    generalize sysV sys = SV at *
    generalize pV q = Q at *
    simp [exs, ex, ev, evs, g0, g1, g2, e1, e2, cmpV, i1, asg]
theorem sp_lstep (hs : Sys ar sys) (ht : Bd ar N e t) (hN : N ≤ 4000000) (he : e ≤ 26) {i : Nat} (hi : i < sys.length) {q : List Int} (hq : q ∈ pls t) (k : Nat) (mh : MHp) : callM T (k + 34) 34 [sysV sys, t, .tup [.int (i : Int), pV q]] mh = some (optV (stepF sys t i q), mh) := by
  rw [callM_eq (d := d_l_step) rfl]
  obtain ⟨x, hx⟩ := pls_at q t hq
  have hr : sys[i]? = some sys[i] := List.getElem?_eq_getElem hi
  generalize sys[i] = r at hr
  have hrb := hs.each r (List.mem_of_getElem? hr)
  have hxt := atF_Tm q (ht.Tm (by omega)) hq hx
  have e1 : callM T (k + 33) 31 [t, pV q] mh = some (x, mh) := at_ok hAt (k + 32) mh ht.dat hx
  have hi2 : idx (sys.map rlV) (i : Int) = some (rlV r) := idx_nat (by rw [List.getElem?_map, hr]; rfl)
  have g0 : subV mh (rlV r) (.int 0) = some r.1 := rfl
  have g1 : subV mh (rlV r) (.int 1) = some r.2 := rfl
  have g2 : subV mh (sysV sys) (.int (i : Int)) = some (rlV r) := by simp only [subV]; exact hi2
  have s1 : ex (callM T (k + 33)) mh.length (.set (.tp [(.nm 4), (.nm 5)]) (.var 2)) [some (sysV sys), some t, some (.tup [.int (i : Int), pV q]), none, none, none] mh = some (.nx, [some (sysV sys), some t, some (.tup [.int (i : Int), pV q]), none, some (.int (i : Int)), some (pV q)], mh) := by
    simp [ex, ev, asg, asgs]
  have hst : stepF sys t i q = (matchF r.1 x).map fun L => putAt (putF L r.2) q t := by simp only [stepF, hr, hx]
  have hdat : dat (optV (stepF sys t i q)) = true := by
    cases z : stepF sys t i q with
    | none => rfl
    | some u => exact (stepF_ok hs ht hN he hq z).dat
  rcases sp_lmatch (ar := ar) 30 (k + 2) r.1 x (by have := hrb.1.dep; omega) (by have := hrb.1.cnt; omega) (hrb.1.Tm (by omega)) hxt mh with ⟨L, d, m1, m2, m3, e2⟩ | ⟨hno, e2⟩
  · have hm : matchF r.1 x = some L := matchF_some.mpr m1
    have hv := vok_of (hrb.1.Tm (by omega)) hxt m1.1
    have hvd := vok_rpr hv m2
    have e3 : callM T (k + 33) 28 [r.2, dV d] mh = some (putF L r.2, mh) := by
      have := sp_lput hvd (cnt_pos x) 30 (k + 2) r.2 mh (by have := hrb.2.dep; omega) (by have := hrb.2.cnt; omega) hrb.2.tm hrb.2.dat
      rw [putF_look (look_eq m2)] at this
      exact this
    obtain ⟨f1, f2, f3, f4⟩ := put_facts hv (cnt_pos x) 30 r.2 (by have := hrb.2.dep; omega) hrb.2.tm hrb.2.dat
    obtain ⟨_, _, _, _, g5⟩ := put_all (r := putF L r.2) f2 q t hq (by have := ht.cnt; omega) ht.dat
    have hql := pls_pdep q t hq
    have e4 := g5 32 hWith (k + 32 - q.length) mh
    rw [show k + 32 - q.length + q.length + 1 = k + 33 by have := ht.dep; omega] at e4
    rw [hst, hm] at hdat ⊢
    refine run_of' rfl rfl (ρ := [some (sysV sys), some t, some (.tup [.int (i : Int), pV q]), some (dV d), some (.int (i : Int)), some (pV q)]) (fl := .rt (putAt (putF L r.2) q t)) ?_ rfl hdat rfl
    have i1 : isV (dV d) .non = some false := rfl
    have e2 : callM T (k + 33) 33 [r.1, x] mh = some (dV d, mh) := e2
    refine ex_go s1 ?_
    generalize rlV r = RL at *
    generalize sysV sys = SV at *
    generalize pV q = Q at *
    generalize dV d = DD at *
    simp [exs, ex, ev, evs, g0, g1, g2, e1, e2, cmpV, i1, asg, e3, e4]
  · have hm : matchF r.1 x = none := matchF_none hno
    rw [hst, hm]
    refine run_of' rfl rfl (ρ := [some (sysV sys), some t, some (.tup [.int (i : Int), pV q]), some .non, some (.int (i : Int)), some (pV q)]) (fl := .rt .non) ?_ rfl rfl rfl
    have i1 : isV .non .non = some true := rfl
    have e2 : callM T (k + 33) 33 [r.1, x] mh = some (.non, mh) := e2
    refine ex_go s1 ?_
    generalize rlV r = RL at *
    generalize sysV sys = SV at *
    generalize pV q = Q at *
    simp [exs, ex, ev, evs, g0, g1, g2, e1, e2, cmpV, i1, asg]
/-! ### all steps -/
abbrev Stp := Nat × List Int
abbrev sV (s : Stp) : MV := .tup [.int (s.1 : Int), pV s.2]
noncomputable def hereF (sys : List (MV × MV)) (t : MV) (q : List Int) : List Stp := ((List.range sys.length).filter fun k => (stepF sys t k q).isSome).map fun k => (k, q)
noncomputable def stepsQ (sys : List (MV × MV)) (t : MV) (Q : List (List Int)) : List Stp := Q.flatMap fun q => if isS ((atF t q).getD .non) = true then [] else hereF sys t q
noncomputable def stepsF (sys : List (MV × MV)) (t : MV) : List Stp := stepsQ sys t (pls t)
theorem hereF_len (q : List Int) : (hereF sys t q).length ≤ sys.length := by
  unfold hereF
  rw [List.length_map]
  refine Nat.le_trans (List.length_filter_le _ _) ?_
  simp
theorem stepsQ_len : ∀ Q, (stepsQ sys t Q).length ≤ sys.length * Q.length
  | [] => by simp [stepsQ]
  | q :: Q => by
    have h1 := stepsQ_len Q
    have h2 := hereF_len (sys := sys) (t := t) q
    unfold stepsQ at h1 ⊢
    rw [List.flatMap_cons, List.length_append, List.length_cons, Nat.mul_succ]
    have : (if isS ((atF t q).getD .non) = true then [] else hereF sys t q).length ≤ sys.length := by split <;> simp [h2]
    omega
theorem here_fm (q : List Int) : ((List.range sys.length).map fun (k : Nat) => MV.int (k : Int)).filterMap (fun v => match v with | .int i => if (stepF sys t i.toNat q).isSome = true then some (.tup [.int i, pV q]) else none | _ => none) = (hereF sys t q).map sV := by
  unfold hereF
  rw [List.filterMap_map, List.map_map]
  generalize List.range sys.length = R
  induction R with
  | nil => rfl
  | cons k R ih =>
    rw [List.filterMap_cons, List.filter_cons]
    simp only [Function.comp, Int.toNat_natCast]
    by_cases h : (stepF sys t k q).isSome = true
    · simp only [h, if_true, List.map_cons]
      rw [← ih] <;> rfl
    · simp only [h, if_false, Bool.false_eq_true]
      rw [← ih] <;> rfl
theorem range_mem {v : MV} {n : Nat} (h : v ∈ (List.range n).map fun (k : Nat) => MV.int (k : Int)) : ∃ i : Nat, i < n ∧ v = .int (i : Int) := by
  obtain ⟨k, hk, rfl⟩ := List.mem_map.mp h
  exact ⟨k, List.mem_range.mp hk, rfl⟩
theorem sV_dats (l : List Stp) : dats (l.map sV) = true := dats_iff.mpr fun x hx => by
  obtain ⟨s, _, rfl⟩ := List.mem_map.mp hx
  show dat (.tup [.int (s.1 : Int), pV s.2]) = true
  rw [dat, dats, dats, dats, pV_dat]
  rfl
abbrev stBody : List MS := [(.set (.nm 4) (.call 11 [(.var 1), (.var 3)])), (.ite (.not (.call 5 [(.var 4)])) [(.ex (.meth .extend (.var 2) [(.comp (.nm 5) [5] (.rng1 (.bi .len [(.var 0)])) (.cmp .isn (.call 14 [(.sub (.sub (.var 0) (.var 5)) (.c (.int (0)))), (.var 4)]) (.c .non)) (.tup [(.var 5), (.var 3)]))]))] [])]
theorem st_loop (hs : Sys ar sys) (ht : Bd ar N e t) (hN : N ≤ 4000000) (he : e ≤ 26) {k : Nat} {mh : MHp} {J : Its} (hJ : J.src = none) : ∀ (Q : List (List Int)) (acc : List Stp) (o3 o4 : Option MV), (∀ q ∈ Q, q ∈ pls t) → acc.length + 5 * Q.length ≤ 16000000 →
    ∃ o3' o4', forGo J (forF (callM T (k + 33)) mh.length (.nm 3) stBody) (Q.map pV) [some (sysV sys), some t, some (.loc mh.length), o3, o4, none] (nHp mh (acc.map sV)) = some (.nx, [some (sysV sys), some t, some (.loc mh.length), o3', o4', none], nHp mh ((acc ++ stepsQ sys t Q).map sV))
  | [], acc, o3, o4, _, _ => ⟨o3, o4, by simp only [stepsQ, List.flatMap_nil, List.append_nil]; exact forGo_nil_of hJ⟩
  | q :: Q, acc, o3, o4, hq, hl => by
    have hqp := hq q (by simp)
    simp only [List.length_cons] at hl
    obtain ⟨x, hx⟩ := pls_at q t hqp
    have hxt := atF_Tm q (ht.Tm (by omega)) hqp hx
    have e1 : callM T (k + 33) 11 [t, pV q] (nHp mh (acc.map sV)) = some (x, nHp mh (acc.map sV)) := at_ok hAtP (k + 32) _ ht.dat hx
    have iv : callM T (k + 33) 5 [x] (nHp mh (acc.map sV)) = some (.bl (isS x), nHp mh (acc.map sV)) := sp_isvar (k + 32) x _ hxt.dat
    have cons : stepsQ sys t (q :: Q) = (if isS x = true then [] else hereF sys t q) ++ stepsQ sys t Q := by
      unfold stepsQ
      rw [List.flatMap_cons, hx]
      rfl
    have hlen := hereF_len (sys := sys) (t := t) q
    have hsl := hs.len
    rw [List.map_cons, forGo_cons_of hJ]
    have st : forF (callM T (k + 33)) mh.length (.nm 3) stBody (pV q) [some (sysV sys), some t, some (.loc mh.length), o3, o4, none] (nHp mh (acc.map sV)) = some (.nx, [some (sysV sys), some t, some (.loc mh.length), some (pV q), some x, none], nHp mh ((acc ++ (if isS x = true then [] else hereF sys t q)).map sV)) := by
      cases hb : isS x with
      | true =>
        rw [hb] at iv
        simp only [if_true, List.append_nil]
        generalize nHp mh (acc.map sV) = H at *
        generalize sysV sys = SV at *
        generalize pV q = QV at *
        simp [forF, asg, exs, ex, ev, evs, e1, iv]
      | false =>
        rw [hb] at iv
        simp only [Bool.false_eq_true, if_false]
        have hcomp : ev (callM T (k + 33)) mh.length (.comp (.nm 5) [5] (.rng1 (.bi .len [(.var 0)])) (.cmp .isn (.call 14 [(.sub (.sub (.var 0) (.var 5)) (.c (.int (0)))), (.var 4)]) (.c .non)) (.tup [(.var 5), (.var 3)])) [some (sysV sys), some t, some (.loc mh.length), some (pV q), some x, none] (nHp mh (acc.map sV)) = some (.lst ((hereF sys t q).map sV), nHp mh (acc.map sV)) := by
          have ei : evI (callM T (k + 33)) mh.length (.rng1 (.bi .len [(.var 0)])) [some (sysV sys), some t, some (.loc mh.length), some (pV q), some x, none] (nHp mh (acc.map sV)) = some (⟨(List.range sys.length).map fun (k : Nat) => MV.int (k : Int), none⟩, nHp mh (acc.map sV)) := by
            have b2 : (sys.length : Int) < 4611686018427387904 := by omega
            have b3 : (-4611686018427387904 : Int) ≤ (sys.length : Int) := by omega
            generalize nHp mh (acc.map sV) = H at *
            simp [evI, ev, evs, biV, one1, lenV, b2, b3]
          have hz : ((List.range sys.length).map fun (k : Nat) => MV.int (k : Int)).length ≤ line := by rw [List.length_map, List.length_range]; unfold line; omega
          rw [ev_compq, ei]
          simp only [hz, if_true]
          rw [compGo_pure rfl (g := fun v => match v with | .int i => if (stepF sys t i.toNat q).isSome = true then some (.tup [.int i, pV q]) else none | _ => none)]
          · simp only [here_fm]
          · intro v hv
            obtain ⟨i, hi, rfl⟩ := range_mem hv
            have hr : sys[i]? = some sys[i] := List.getElem?_eq_getElem hi
            generalize sys[i] = r at hr
            have hrb := hs.each r (List.mem_of_getElem? hr)
            have hi2 : idx (sys.map rlV) (i : Int) = some (rlV r) := idx_nat (by rw [List.getElem?_map, hr]; rfl)
            have g0 : ∀ H, subV H (rlV r) (.int 0) = some r.1 := fun H => rfl
            have g2 : ∀ H, subV H (sysV sys) (.int (i : Int)) = some (rlV r) := fun H => by simp only [subV]; exact hi2
            have hst : stepF sys t i q = (matchF r.1 x).map fun L => putAt (putF L r.2) q t := by simp only [stepF, hr, hx]
            have z2 : 2 ≤ line := by unfold line; omega
            rcases sp_matched (ar := ar) (k + 31) (nHp mh (acc.map sV)) (hrb.1.Tm (by omega)) hxt (by have := hrb.1.cnt; omega) with ⟨L, d, m1, m2, m3, _, _, e2⟩ | ⟨hno, e2⟩
            · have hm : matchF r.1 x = some L := matchF_some.mpr m1
              have i1 : isV (dV d) .non = some false := rfl
              have e2 : callM T (k + 33) 14 [r.1, x] (nHp mh (acc.map sV)) = some (dV d, nHp mh (acc.map sV)) := e2
              simp only [Int.toNat_natCast, hst, hm, Option.map_some, Option.isSome_some, if_true]
              generalize nHp mh (acc.map sV) = H at *
              generalize rlV r = RL at *
              generalize sysV sys = SV at *
              generalize pV q = QV at *
              generalize dV d = DD at *
              simp [compF, asg, wipeE, ev, evs, g2, g0, e2, cmpV, i1, z2]
            · have hm : matchF r.1 x = none := matchF_none hno
              have i1 : isV .non .non = some true := rfl
              have e2 : callM T (k + 33) 14 [r.1, x] (nHp mh (acc.map sV)) = some (.non, nHp mh (acc.map sV)) := e2
              simp only [Int.toNat_natCast, hst, hm, Option.map_none, Option.isSome_none, Bool.false_eq_true, if_false]
              generalize nHp mh (acc.map sV) = H at *
              generalize rlV r = RL at *
              generalize sysV sys = SV at *
              generalize pV q = QV at *
              simp [compF, asg, wipeE, ev, evs, g2, g0, e2, cmpV, i1, z2]
        have me : ev (callM T (k + 33)) mh.length (.meth .extend (.var 2) [(.comp (.nm 5) [5] (.rng1 (.bi .len [(.var 0)])) (.cmp .isn (.call 14 [(.sub (.sub (.var 0) (.var 5)) (.c (.int (0)))), (.var 4)]) (.c .non)) (.tup [(.var 5), (.var 3)]))]) [some (sysV sys), some t, some (.loc mh.length), some (pV q), some x, none] (nHp mh (acc.map sV)) = some (.non, nHp mh ((acc ++ hereF sys t q).map sV)) := by
          have l1 : liveL (nHp mh (acc.map sV)) (.loc mh.length) = some (mh.length, acc.map sV) := by simp [liveL, nHp, top_get]
          have hw : ∀ y ∈ (hereF sys t q).map sV, wr mh.length mh.length y = true := fun y hy => by simp [wr]
          have hz2 : (acc.map sV).length + ((hereF sys t q).map sV).length ≤ line := by rw [List.length_map, List.length_map]; unfold line; omega
          have m1 : methV mh.length (nHp mh (acc.map sV)) .extend (.loc mh.length) [.lst ((hereF sys t q).map sV)] = some (.non, nHp mh ((acc ++ hereF sys t q).map sV)) := by
            simp only [methV, extV, l1, seqOf, getL]
            rw [if_pos ⟨List.all_eq_true.mpr hw, hz2⟩]
            simp only [nHp, top_set, List.map_append]
          have ty : tyM (nHp mh (acc.map sV)) .extend (.loc mh.length) = true := by simp [tyM, l1]
          have w1 : ev (callM T (k + 33)) mh.length (.var 2) [some (sysV sys), some t, some (.loc mh.length), some (pV q), some x, none] (nHp mh (acc.map sV)) = some (.loc mh.length, nHp mh (acc.map sV)) := by simp [ev]
          have es : ∀ ρ, ev (callM T (k + 33)) mh.length (.comp (.nm 5) [5] (.rng1 (.bi .len [(.var 0)])) (.cmp .isn (.call 14 [(.sub (.sub (.var 0) (.var 5)) (.c (.int (0)))), (.var 4)]) (.c .non)) (.tup [(.var 5), (.var 3)])) ρ (nHp mh (acc.map sV)) = some (.lst ((hereF sys t q).map sV), nHp mh (acc.map sV)) → evs (callM T (k + 33)) mh.length [(.comp (.nm 5) [5] (.rng1 (.bi .len [(.var 0)])) (.cmp .isn (.call 14 [(.sub (.sub (.var 0) (.var 5)) (.c (.int (0)))), (.var 4)]) (.c .non)) (.tup [(.var 5), (.var 3)]))] ρ (nHp mh (acc.map sV)) = some ([.lst ((hereF sys t q).map sV)], nHp mh (acc.map sV)) := fun ρ h => by
            rw [evs, h]; simp only [evs]
          rw [ev, w1]
          simp only [ty, if_true, es _ hcomp, m1]
        have a1 : asg (nHp mh (acc.map sV)) (.nm 3) (pV q) [some (sysV sys), some t, some (.loc mh.length), o3, o4, none] = some [some (sysV sys), some t, some (.loc mh.length), some (pV q), o4, none] := by simp [asg]
        have s1 : ex (callM T (k + 33)) mh.length (.set (.nm 4) (.call 11 [(.var 1), (.var 3)])) [some (sysV sys), some t, some (.loc mh.length), some (pV q), o4, none] (nHp mh (acc.map sV)) = some (.nx, [some (sysV sys), some t, some (.loc mh.length), some (pV q), some x, none], nHp mh (acc.map sV)) := by
          generalize nHp mh (acc.map sV) = H at *
          generalize sysV sys = SV at *
          generalize pV q = QV at *
          simp [ex, ev, evs, e1, asg]
        have c1 : ev (callM T (k + 33)) mh.length (.not (.call 5 [(.var 4)])) [some (sysV sys), some t, some (.loc mh.length), some (pV q), some x, none] (nHp mh (acc.map sV)) = some (.bl true, nHp mh (acc.map sV)) := by
          generalize nHp mh (acc.map sV) = H at *
          simp [ev, evs, iv]
        unfold forF
        rw [a1]
        simp only
        refine ex_go s1 ?_
        rw [exs, ex, c1]
        simp only
        rw [exs, ex, me]
        simp only [exs]
    rw [st]
    have hz5 : (if isS x = true then [] else hereF sys t q).length ≤ 5 := by
      cases isS x
      · exact Nat.le_trans hlen hsl
      · simp
    obtain ⟨o3', o4', e2⟩ := st_loop hs ht hN he hJ Q (acc ++ (if isS x = true then [] else hereF sys t q)) (some (pV q)) (some x) (fun p hp => hq p (List.mem_cons_of_mem _ hp)) (by rw [List.length_append]; omega)
    refine ⟨o3', o4', ?_⟩
    rw [cons, ← List.append_assoc]
    exact e2
theorem sp_steps (hs : Sys ar sys) (ht : Bd ar N e t) (hN : N ≤ 3000000) (he : e ≤ 26) (k : Nat) (mh : MHp) : callM T (k + 34) 20 [sysV sys, t] mh = some (.lst ((stepsF sys t).map sV), mh) := by
  have z0 : 0 ≤ line := by unfold line; omega
  have hc := ht.cnt
  obtain ⟨o3, o4, e1⟩ := st_loop hs ht (by omega) he (k := k) (mh := mh) (J := ⟨(pls t).map pV, none⟩) rfl (pls t) [] none none (fun q h => h) (by rw [pls_len]; simp; omega)
  rw [List.nil_append] at e1
  have hp : callM T (k + 33) 9 [t] (nHp mh (([] : List Stp).map sV)) = some (.lst ((pls t).map pV), nHp mh (([] : List Stp).map sV)) := sp_pos 30 (k + 1) t _ (by have := ht.dep; omega) (by omega) ht.tm' ht.dat
  rw [callM_eq (d := d_steps) rfl]
  have s1 : ex (callM T (k + 33)) mh.length (.set (.nm 2) (.al (.lst []))) [some (sysV sys), some t, none, none, none, none] mh = some (.nx, [some (sysV sys), some t, some (.loc mh.length), none, none, none], nHp mh (([] : List Stp).map sV)) := by
    simp [ex, ev, evs, asg, z0]
  have ei : evI (callM T (k + 33)) mh.length (.call 9 [(.var 1)]) [some (sysV sys), some t, some (.loc mh.length), none, none, none] (nHp mh (([] : List Stp).map sV)) = some (⟨(pls t).map pV, none⟩, nHp mh (([] : List Stp).map sV)) := by
    generalize nHp mh (([] : List Stp).map sV) = H at *
    simp [evI, ev, evs, hp, itsOf]
  have full : exs (callM T (k + 33)) mh.length d_steps.body [some (sysV sys), some t, none, none, none, none] mh = some (.rt (.loc mh.length), [some (sysV sys), some t, some (.loc mh.length), o3, o4, none], nHp mh ((stepsF sys t).map sV)) := by
    refine ex_go s1 ?_
    rw [exs, ex_for, ei]
    simp only
    rw [e1]
    show exs (callM T (k + 33)) mh.length [(.ret (.var 2))] _ (nHp mh ((stepsF sys t).map sV)) = _
    generalize nHp mh ((stepsF sys t).map sV) = H
    simp [exs, ex, ev]
  have := run_frz (C := callM T (k + 33)) (d := d_steps) (args := [sysV sys, t]) rfl rfl full rfl (frz_top (Nat.le_refl _) (sV_dats _))
  rw [take_top] at this
  exact this
end
end L2.Mi.k08

set_option Elab.async false
set_option linter.all false
set_option maxRecDepth 100000
set_option maxHeartbeats 4000000
namespace L2.Mi.k08
open PySem PySem.Spec PyProof.Rows L2.Mi
def isB : MV → Bool
  | .bl _ => true
  | _ => false
theorem int_toD {z : MV} {i : Int} (h : eqD (.int i) z = true) (hb : isB z = false) (hd : dat z = true) : z = .int i := by
  unfold eqD at h
  cases z with
  | int j => simp [toD, PyData.eqv] at h; rw [h]
  | bl b => cases hb
  | fn _ => cases hd
  | loc _ => cases hd
  | dct _ _ => cases hd
  | scr _ => cases hd
  | _ => simp [toD, PyData.eqv] at h
theorem ints_toD : ∀ (q : List Int) (vs : List MV), PyData.eqvAll (toDs (q.map .int)) (toDs vs) = true → (∀ x ∈ vs, isB x = false) → dats vs = true → vs = q.map .int
  | [], [], _, _, _ => rfl
  | [], _ :: _, h, _, _ => by simp [toDs, PyData.eqvAll] at h
  | a :: q, [], h, _, _ => by simp [toDs, PyData.eqvAll] at h
  | a :: q, v :: vs, h, hb, hd => by
    simp only [List.map_cons, toDs, PyData.eqvAll, Bool.and_eq_true] at h
    simp only [dats, Bool.and_eq_true] at hd
    rw [int_toD (z := v) (i := a) h.1 (hb v (by simp)) hd.1, ints_toD q vs h.2 (fun x hx => hb x (List.mem_cons_of_mem _ hx)) hd.2]
    rfl
theorem hasV_ints {P : List (List Int)} {vs : List MV} (h : hasV (P.map pV) (.tup vs) = true) (hb : ∀ x ∈ vs, isB x = false) (hd : dats vs = true) : ∃ q, vs = q.map .int ∧ q ∈ P := by
  unfold hasV at h
  rw [List.any_map, List.any_eq_true] at h
  obtain ⟨q, hq, h⟩ := h
  simp only [Function.comp] at h
  unfold eqD toD PyData.eqv at h
  exact ⟨q, ints_toD q vs h hb hd, hq⟩
theorem mapM_ints : ∀ {ps : List MV} {q : List Int}, ps.mapM intOf = some q → ps = q.map .int
  | [], q, h => by simp at h; subst h; rfl
  | p :: ps, q, h => by
    rw [List.mapM_cons] at h
    cases p with
    | int i =>
      cases z : ps.mapM intOf with
      | none => rw [z] at h; cases h
      | some r =>
        rw [z] at h
        cases h
        rw [mapM_ints z]
        rfl
    | _ => simp [intOf] at h
theorem ints_mapM (q : List Int) : (q.map MV.int).mapM intOf = some q := by
  have := ints_map (mh := []) q
  unfold intsM at this
  exact this
theorem hpB_ints : ∀ (vs : List MV) (t : MV), hpB t vs = true → ∃ q : List Int, vs = q.map .int
  | [], t, _ => ⟨[], rfl⟩
  | v :: vs, t, h => by
    cases t with
    | tup ys =>
      cases ys with
      | nil => simp [hpB] at h
      | cons y xs =>
        cases v with
        | int i =>
          rw [hpB] at h
          split at h
          · split at h
            · obtain ⟨q, rfl⟩ := hpB_ints vs _ h
              exact ⟨i :: q, rfl⟩
            · cases h
          · cases h
        | _ => simp [hpB] at h
    | _ => simp [hpB] at h
theorem hpV_true {t v : MV} (ht : tm t = true) (hd : dat t = true) (h : hpV t v = true) : ∃ q, v = pV q ∧ q ∈ pls t := by
  cases v with
  | tup vs =>
    simp only [hpV] at h
    obtain ⟨q, rfl⟩ := hpB_ints vs t h
    rw [hpB_pls q t ht hd] at h
    exact ⟨q, rfl, of_decide_eq_true h⟩
  | _ => simp [hpV] at h
theorem hpV_pV {t : MV} (ht : tm t = true) (hd : dat t = true) (q : List Int) : hpV t (pV q) = decide (q ∈ pls t) := by
  simp only [hpV]
  exact hpB_pls q t ht hd
/-- a step as a value -/
def valS (v : MV) : Option (Int × List Int) := match v with
  | .tup [.int i, .tup ps] => (ps.mapM intOf).map fun q => (i, q)
  | _ => none
theorem valS_some {v : MV} {i : Int} {q : List Int} (h : valS v = some (i, q)) : v = .tup [.int i, pV q] := by
  unfold valS at h
  split at h
  · rename_i j ps
    simp only [Option.map_eq_some_iff] at h
    obtain ⟨r, h1, h2⟩ := h
    cases h2
    rw [mapM_ints h1]
  · cases h
theorem valS_of (i : Int) (q : List Int) : valS (.tup [.int i, pV q]) = some (i, q) := by
  simp only [valS, ints_mapM, Option.map_some]
noncomputable def stepW (sys : List (MV × MV)) (t v : MV) : Option MV := match valS v with
  | some (i, q) => if 0 ≤ i ∧ i < sys.length ∧ q ∈ pls t then stepF sys t i.toNat q else none
  | none => none
theorem stepW_ok {sys : List (MV × MV)} {t : MV} {i : Nat} {q : List Int} (hi : i < sys.length) (hq : q ∈ pls t) : stepW sys t (.tup [.int (i : Int), pV q]) = stepF sys t i q := by
  unfold stepW
  rw [valS_of]
  simp only
  rw [if_pos ⟨by omega, by omega, hq⟩, Int.toNat_natCast]
theorem stepW_some {sys : List (MV × MV)} {t v u : MV} (h : stepW sys t v = some u) : ∃ (i : Nat) (q : List Int), v = .tup [.int (i : Int), pV q] ∧ i < sys.length ∧ q ∈ pls t ∧ stepF sys t i q = some u := by
  unfold stepW at h
  split at h
  · rename_i i q hv
    split at h
    · rename_i hc
      refine ⟨i.toNat, q, ?_, by omega, hc.2.2, h⟩
      rw [valS_some hv, Int.toNat_of_nonneg hc.1]
    · cases h
  · cases h
/-- is a step, by the program's two looks -/
theorem stepW_pair {sys : List (MV × MV)} {t a b : MV} (ht : tm t = true) (hd : dat t = true) (h : stepW sys t (.tup [a, b]) ≠ none) : isW a 0 ((sys.length : Int) - 1) = true ∧ hpV t b = true := by
  cases z : stepW sys t (.tup [a, b]) with
  | none => exact absurd z h
  | some u =>
    obtain ⟨i, q, e, hi, hq, _⟩ := stepW_some z
    simp only [MV.tup.injEq, List.cons.injEq, and_true] at e
    obtain ⟨rfl, rfl⟩ := e
    refine ⟨?_, by rw [hpV_pV ht hd]; exact decide_eq_true hq⟩
    simp only [isW, Bool.and_eq_true, decide_eq_true_eq]
    omega
theorem stepW_short {sys : List (MV × MV)} {t v : MV} (h : ∀ a b, v ≠ .tup [a, b]) : stepW sys t v = none := by
  cases z : stepW sys t v with
  | none => rfl
  | some u =>
    obtain ⟨i, q, e, _⟩ := stepW_some z
    exact absurd e (h _ _)
section
variable {ar : Sx → Option Nat} {sys : List (MV × MV)} {N e : Nat} {t : MV}
theorem isV_opt (hs : Sys ar sys) (ht : Bd ar N e t) (hN : N ≤ 4000000) (he : e ≤ 26) {i : Nat} {q : List Int} (hq : q ∈ pls t) : isV (optV (stepF sys t i q)) .non = some (stepF sys t i q).isNone := by
  cases z : stepF sys t i q with
  | none => rfl
  | some u => exact isV_tm (stepF_ok hs ht hN he hq z).tm'
theorem sp_isstep (hs : Sys ar sys) (ht : Bd ar N e t) (hN : N ≤ 4000000) (he : e ≤ 26) {v : MV} (hv : dat v = true) (k : Nat) (mh : MHp) : callM T (k + 35) 19 [v, sysV sys, t] mh = some (.bl (stepW sys t v).isSome, mh) := by
  rw [callM_eq (d := d_is_step) rfl]
  have bad : ∀ {v : MV}, stepW sys t v = none → exs (callM T (k + 34)) mh.length d_is_step.body [some v, some (sysV sys), some t] mh = some (.rt (.bl false), [some v, some (sysV sys), some t], mh) → runD (callM T (k + 34)) d_is_step [v, sysV sys, t] mh = some (.bl (stepW sys t v).isSome, mh) := fun {v} h e => by
    rw [h]
    exact run_of' rfl rfl e rfl rfl rfl
  by_cases h2 : ∃ a b, v = .tup [a, b]
  · obtain ⟨a, b, rfl⟩ := h2
    have hda : dat a = true ∧ dat b = true := by
      have : dats [a, b] = true := by unfold dat at hv; exact hv
      simp [dats] at this
      exact this
    have iw := sp_whole (k + 33) a 0 ((sys.length : Int) - 1) mh hda.1
    have iw : callM T (k + 34) 0 [a, .int 0, .int ((sys.length : Int) - 1)] mh = _ := iw
    have ih : callM T (k + 34) 10 [t, b] mh = some (.bl (hpV t b), mh) := sp_hp (k + 32) t b mh ht.tm' ht.dat hda.2
    have w0 : subV mh (.tup [a, b]) (.int 0) = some a := rfl
    have w1 : subV mh (.tup [a, b]) (.int 1) = some b := rfl
    have l2 : eqV mh (.int 2) (.int 2) = some true := by rw [eqV_int]; simp
    have ln : lenV mh (sysV sys) = some (.int (sys.length : Int)) := by simp [lenV]
    have l0 : ∀ a b, lenV mh (.tup [a, b]) = some (.int 2) := fun a b => rfl
    by_cases c1 : isW a 0 ((sys.length : Int) - 1) = true
    · by_cases c2 : hpV t b = true
      · obtain ⟨q, rfl, hq⟩ := hpV_true ht.tm' ht.dat c2
        obtain ⟨i, rfl, hi⟩ : ∃ i : Nat, a = .int (i : Int) ∧ i < sys.length := by
          cases a with
          | int j =>
            simp only [isW, Bool.and_eq_true, decide_eq_true_eq] at c1
            exact ⟨j.toNat, by rw [Int.toNat_of_nonneg c1.1], by omega⟩
          | _ => simp [isW] at c1
        have et : callM T (k + 34) 18 [sysV sys, t, .tup [.int (i : Int), pV q]] mh = _ := sp_turned hs ht hN he hi hq k mh
        have iv := isV_opt hs ht hN he (i := i) hq
        rw [stepW_ok hi hq]
        refine run_of' rfl rfl (ρ := [some (.tup [.int (i : Int), pV q]), some (sysV sys), some t]) (fl := .rt (.bl (stepF sys t i q).isSome)) ?_ rfl rfl rfl
        rw [c1] at iw
        rw [c2] at ih
        have hns : (stepF sys t i q).isSome = !(stepF sys t i q).isNone := by cases stepF sys t i q <;> rfl
        rw [hns]
        generalize (stepF sys t i q).isNone = B at *
        generalize optV (stepF sys t i q) = O at *
        generalize sysV sys = SV at *
        generalize pV q = Q at *
        simp [d_is_step, exs, ex, ev, evs, isTy, biV, one1, l0, cmpV, l2, w0, w1, ln, iw, binV, intV, ih, et, iv]
      · have hst : stepW sys t (.tup [a, b]) = none := by
          cases z : stepW sys t (.tup [a, b]) with
          | none => rfl
          | some u => exact absurd (stepW_pair ht.tm' ht.dat (by rw [z]; simp)).2 c2
        simp only [Bool.not_eq_true] at c2
        rw [c1] at iw
        rw [c2] at ih
        refine bad hst ?_
        generalize sysV sys = SV at *
        simp [d_is_step, exs, ex, ev, evs, isTy, biV, one1, l0, cmpV, l2, w0, w1, ln, iw, binV, intV, ih]
    · have hst : stepW sys t (.tup [a, b]) = none := by
        cases z : stepW sys t (.tup [a, b]) with
        | none => rfl
        | some u => exact absurd (stepW_pair ht.tm' ht.dat (by rw [z]; simp)).1 c1
      simp only [Bool.not_eq_true] at c1
      rw [c1] at iw
      refine bad hst ?_
      generalize sysV sys = SV at *
      simp [d_is_step, exs, ex, ev, evs, isTy, biV, one1, l0, cmpV, l2, w0, w1, ln, iw, binV, intV]
  · have hst : stepW sys t v = none := stepW_short fun a b e => h2 ⟨a, b, e⟩
    refine bad hst ?_
    cases v with
    | tup xs =>
      have hl : ¬ ((xs.length : Int) = 2) := fun e => by
        match xs, e with
        | [a, b], _ => exact h2 ⟨a, b, rfl⟩
        | [], e => simp at e
        | [a], e => simp at e
        | a :: b :: c :: r, e => simp at e; omega
      have l2 : eqV mh (.int (xs.length : Int)) (.int 2) = some false := by rw [eqV_int]; simp [hl]
      generalize sysV sys = SV at *
      simp [d_is_step, exs, ex, ev, evs, isTy, biV, one1, lenV, cmpV, l2]
    | fn _ => cases hv
    | loc _ => cases hv
    | dct _ _ => cases hv
    | scr _ => cases hv
    | _ => simp [d_is_step, exs, ex, ev, isTy]
noncomputable def behF (sys : List (MV × MV)) : MV → List MV → Option MV
  | t, [] => some t
  | t, v :: vs => match stepW sys t v with
    | some u => behF sys u vs
    | none => none
theorem behF_ok (hs : Sys ar sys) : ∀ (vs : List MV) (t : MV) (N e : Nat) (u : MV), Bd ar N e t → N * 14 ^ vs.length ≤ 56000000 → e + 3 * vs.length ≤ 29 → behF sys t vs = some u → Bd ar (N * 14 ^ vs.length) (e + 3 * vs.length) u
  | [], t, N, e, u, ht, _, _, h => by simp only [behF] at h; cases h; simpa using ht
  | v :: vs, t, N, e, u, ht, hN, he, h => by
    simp only [List.length_cons, Nat.pow_succ] at hN he ⊢
    have hp : 1 ≤ 14 ^ vs.length := Nat.one_le_pow _ _ (by omega)
    have e1 : N * (14 ^ vs.length * 14) = (14 * N) * 14 ^ vs.length := by rw [Nat.mul_comm 14 N, Nat.mul_assoc, Nat.mul_comm 14]
    have hN4 : 14 * N ≤ 56000000 := by
      have : (14 * N) * 1 ≤ (14 * N) * 14 ^ vs.length := Nat.mul_le_mul_left _ hp
      omega
    simp only [behF] at h
    cases z : stepW sys t v with
    | none => rw [z] at h; cases h
    | some w =>
      rw [z] at h
      obtain ⟨i, q, _, hi, hq, hst⟩ := stepW_some z
      have hw := stepF_ok hs ht (by omega) (by omega) hq hst
      have := behF_ok hs vs w (14 * N) (e + 3) u hw (by omega) (by omega) h
      exact this.up (by omega) (by omega)
abbrev brBody : List MS := [(.ite (.not (.call 19 [(.var 3), (.var 0), (.var 1)])) [(.ret (.c .non))] []), (.set (.nm 1) (.call 18 [(.var 0), (.var 1), (.var 3)]))]
theorem br_loop (hs : Sys ar sys) {k b : Nat} {mh : MHp} {row : Option MV} {J : Its} (hJ : J.src = none) : ∀ (vs : List MV) (t : MV) (N e : Nat) (o3 : Option MV), Bd ar N e t → N * 14 ^ vs.length ≤ 56000000 → e + 3 * vs.length ≤ 29 → dats vs = true →
    ∃ ρ', forGo J (forF (callM T (k + 35)) b (.nm 3) brBody) vs [some (sysV sys), some t, row, o3] mh = some (match behF sys t vs with
      | some _ => .nx
      | none => .rt .non, ρ', mh) ∧ ∀ u, behF sys t vs = some u → ∃ o3', ρ' = [some (sysV sys), some u, row, o3']
  | [], t, N, e, o3, _, _, _, _ => ⟨_, forGo_nil_of hJ, fun u h => by simp only [behF] at h; cases h; exact ⟨o3, rfl⟩⟩
  | v :: vs, t, N, e, o3, ht, hN, he, hd => by
    simp only [List.length_cons, Nat.pow_succ] at hN he
    have hp : 1 ≤ 14 ^ vs.length := Nat.one_le_pow _ _ (by omega)
    have e1 : N * (14 ^ vs.length * 14) = (14 * N) * 14 ^ vs.length := by rw [Nat.mul_comm 14 N, Nat.mul_assoc, Nat.mul_comm 14]
    have hN4 : 14 * N ≤ 56000000 := by
      have : (14 * N) * 1 ≤ (14 * N) * 14 ^ vs.length := Nat.mul_le_mul_left _ hp
      omega
    simp only [dats, Bool.and_eq_true] at hd
    have is := sp_isstep hs ht (by omega) (by omega) hd.1 k mh
    rw [forGo_cons_of hJ]
    cases z : stepW sys t v with
    | none =>
      rw [z] at is
      have st : forF (callM T (k + 35)) b (.nm 3) brBody v [some (sysV sys), some t, row, o3] mh = some (.rt .non, [some (sysV sys), some t, row, some v], mh) := by
        simp only [Option.isSome_none] at is
        generalize sysV sys = SV at *
        simp [forF, asg, exs, ex, ev, evs, is]
      rw [st]
      simp only [behF, z]
      exact ⟨_, rfl, fun u h => by cases h⟩
    | some w =>
      rw [z] at is
      obtain ⟨i, q, rfl, hi, hq, hst⟩ := stepW_some z
      have hw := stepF_ok hs ht (by omega) (by omega) hq hst
      have et : callM T (k + 35) 18 [sysV sys, t, .tup [.int (i : Int), pV q]] mh = some (optV (stepF sys t i q), mh) := sp_turned hs ht (by omega) (by omega) hi hq (k + 1) mh
      rw [hst] at et
      have et : callM T (k + 35) 18 [sysV sys, t, .tup [.int (i : Int), pV q]] mh = some (w, mh) := et
      have st : forF (callM T (k + 35)) b (.nm 3) brBody (.tup [.int (i : Int), pV q]) [some (sysV sys), some t, row, o3] mh = some (.nx, [some (sysV sys), some w, row, some (.tup [.int (i : Int), pV q])], mh) := by
        simp only [Option.isSome_some] at is
        generalize sysV sys = SV at *
        generalize MV.tup [.int (i : Int), pV q] = SS at *
        simp [forF, asg, exs, ex, ev, evs, is, et]
      rw [st]
      simp only [behF, z]
      exact br_loop hs hJ vs w (14 * N) (e + 3) _ hw (by omega) (by omega) hd.2
/-- what a row of any kind leads to -/
noncomputable def behV (sys : List (MV × MV)) (t : MV) : MV → Option MV
  | .tup vs => behF sys t vs
  | _ => none
theorem optV_dat {o : Option MV} (h : ∀ u, o = some u → dat u = true) : dat (optV o) = true := by
  cases o with
  | none => rfl
  | some u => exact h u rfl
theorem sp_behind (hs : Sys ar sys) (ht : Bd ar N e t) {row : MV} (hl : ∀ vs, row = .tup vs → N * 14 ^ vs.length ≤ 56000000 ∧ e + 3 * vs.length ≤ 29) (hd : dat row = true) (k : Nat) (mh : MHp) : callM T (k + 36) 22 [sysV sys, t, row] mh = some (optV (behV sys t row), mh) := by
  rw [callM_eq (d := d_behind_row) rfl]
  cases row with
  | tup vs =>
    obtain ⟨h1, h2⟩ := hl vs rfl
    have hdv : dats vs = true := by unfold dat at hd; exact hd
    obtain ⟨ρ', e1, e2⟩ := br_loop hs (k := k) (b := mh.length) (mh := mh) (row := some (.tup vs)) (J := ⟨vs, none⟩) rfl vs t N e none ht h1 h2 hdv
    have s1 : ex (callM T (k + 35)) mh.length (.ite (.not (.isi (.var 2) .tuple)) [(.ret (.c .non))] []) [some (sysV sys), some t, some (.tup vs), none] mh = some (.nx, [some (sysV sys), some t, some (.tup vs), none], mh) := by
      simp [ex, exs, ev, isTy]
    have ei : evI (callM T (k + 35)) mh.length (.var 2) [some (sysV sys), some t, some (.tup vs), none] mh = some (⟨vs, none⟩, mh) := by simp [evI, ev, itsOf]
    simp only [behV]
    cases z : behF sys t vs with
    | none =>
      rw [z] at e1
      refine run_of' rfl rfl (ρ := ρ') (fl := .rt .non) ?_ rfl rfl rfl
      refine ex_go s1 ?_
      rw [exs, ex_for, ei]
      simp only
      rw [e1]
    | some u =>
      rw [z] at e1
      obtain ⟨o3', rfl⟩ := e2 u z
      have hu := (behF_ok hs vs t N e u ht h1 h2 z).dat
      refine run_of' rfl rfl (ρ := [some (sysV sys), some u, some (.tup vs), o3']) (fl := .rt u) ?_ rfl hu rfl
      refine ex_go s1 ?_
      rw [exs, ex_for, ei]
      simp only
      rw [e1]
      simp [exs, ex, ev]
  | fn _ => cases hd
  | loc _ => cases hd
  | dct _ _ => cases hd
  | scr _ => cases hd
  | non =>
    refine run_of' rfl rfl (ρ := [some (sysV sys), some t, some .non, none]) (fl := .rt .non) ?_ rfl rfl rfl
    simp [d_behind_row, exs, ex, ev, isTy]
  | bl x =>
    refine run_of' rfl rfl (ρ := [some (sysV sys), some t, some (.bl x), none]) (fl := .rt .non) ?_ rfl rfl rfl
    simp [d_behind_row, exs, ex, ev, isTy]
  | int x =>
    refine run_of' rfl rfl (ρ := [some (sysV sys), some t, some (.int x), none]) (fl := .rt .non) ?_ rfl rfl rfl
    simp [d_behind_row, exs, ex, ev, isTy]
  | str x =>
    refine run_of' rfl rfl (ρ := [some (sysV sys), some t, some (.str x), none]) (fl := .rt .non) ?_ rfl rfl rfl
    simp [d_behind_row, exs, ex, ev, isTy]
  | lst x =>
    refine run_of' rfl rfl (ρ := [some (sysV sys), some t, some (.lst x), none]) (fl := .rt .non) ?_ rfl rfl rfl
    simp [d_behind_row, exs, ex, ev, isTy]
/-! ### the law's own way -/
abbrev c1E : ME := (.or (.not (.isi (.var 3) .tuple)) (.or (.cmp .ne (.bi .len [(.var 3)]) (.c (.int (2)))) (.or (.not (.isi (.sub (.var 3) (.c (.int (0)))) .int)) (.isi (.sub (.var 3) (.c (.int (0)))) .bool))))
abbrev c2E : ME := (.or (.cmp .lt (.sub (.var 3) (.c (.int (0)))) (.c (.int (0)))) (.or (.cmp .ge (.sub (.var 3) (.c (.int (0)))) (.bi .len [(.var 0)])) (.or (.not (.isi (.sub (.var 3) (.c (.int (1)))) .tuple)) (.cmp .nmem (.sub (.var 3) (.c (.int (1)))) (.call 30 [(.var 1)])))))
abbrev c3E : ME := (.cmp .gt (.bi .len [(.comp (.nm 4) [4] (.sub (.var 3) (.c (.int (1)))) (.isi (.var 4) .bool) (.var 4))]) (.c (.int (0))))
abbrev lbBody : List MS := [(.ite c1E [(.ret (.c .non))] []), (.ite c2E [(.ret (.c .non))] []), (.ite c3E [(.ret (.c .non))] []), (.set (.nm 1) (.call 34 [(.var 0), (.var 1), (.var 3)])), (.ite (.cmp .is (.var 1) (.c .non)) [(.ret (.c .non))] [])]
theorem isTy_bool {v : MV} {mh : MHp} (hd : dat v = true) : isTy v .bool mh = some (isB v) := by
  cases v <;> first | (cases hd; done) | rfl
theorem isTy_tup {v : MV} {mh : MHp} (hd : dat v = true) : isTy v .tuple mh = some (match v with
    | .tup _ => true
    | _ => false) := by
  cases v <;> first | (cases hd; done) | rfl
theorem isTy_int {v : MV} {mh : MHp} (hd : dat v = true) : isTy v .int mh = some (match v with
    | .int _ => true
    | .bl _ => true
    | _ => false) := by
  cases v <;> first | (cases hd; done) | rfl
theorem mem_any {H : MHp} {P : List (List Int)} {v : MV} (hd : dat v = true) (hp : dep v ≤ 60) (hv : ∀ c, v ≠ .str c) : memV H v (.lst (P.map pV)) = some (hasV (P.map pV) v) := by
  have d2 : dat (.lst (P.map pV)) = true := by unfold dat; exact pV_dats P
  have o1 := okD_dat hd (by omega)
  have o2 := okD_dat d2 (by have := pV_deps2 P; omega)
  unfold memV
  split
  · rename_i c t; exact absurd rfl (hv _)
  · rw [frz_dat _ hd, frz_dat _ d2]
    simp only [o1, o2, and_self, if_true]
    rfl
theorem lb_step (hs : Sys ar sys) (ht : Bd ar N e t) (hN : N ≤ 4000000) (he : e ≤ 26) {v : MV} (hv : dat v = true) (hdv : dep v ≤ 60) (k b : Nat) (mh : MHp) {row o3 : Option MV} :
    ∃ ρ', forF (callM T (k + 34)) b (.nm 3) lbBody v [some (sysV sys), some t, row, o3, none] mh = some (match stepW sys t v with
      | some _ => .nx
      | none => .rt .non, ρ', mh) ∧ ∀ u, stepW sys t v = some u → ρ' = [some (sysV sys), some u, row, some v, none] := by
  have a0 : ∀ v, asg mh (.nm 3) v [some (sysV sys), some t, row, o3, none] = some [some (sysV sys), some t, row, some v, none] := fun v => by simp [asg]
  have bad : ∀ {v : MV}, stepW sys t v = none → (∃ ρ, exs (callM T (k + 34)) b lbBody [some (sysV sys), some t, row, some v, none] mh = some (.rt .non, ρ, mh)) → ∃ ρ', forF (callM T (k + 34)) b (.nm 3) lbBody v [some (sysV sys), some t, row, o3, none] mh = some (match stepW sys t v with
      | some _ => .nx
      | none => .rt .non, ρ', mh) ∧ ∀ u, stepW sys t v = some u → ρ' = [some (sysV sys), some u, row, some v, none] := fun {v} h ⟨ρ, e⟩ => by
    rw [h]
    refine ⟨ρ, ?_, fun u h => by cases h⟩
    unfold forF
    rw [a0]
    exact e
  by_cases h2 : ∃ a b, v = .tup [a, b]
  · obtain ⟨a, c, rfl⟩ := h2
    have hda : dat a = true ∧ dat c = true := by
      have : dats [a, c] = true := by unfold dat at hv; exact hv
      simp [dats] at this
      exact this
    have hdc : dep c ≤ 60 := by simp only [dep, deps] at hdv; omega
    have w0 : subV mh (.tup [a, c]) (.int 0) = some a := rfl
    have w1 : subV mh (.tup [a, c]) (.int 1) = some c := rfl
    have l2 : eqV mh (.int 2) (.int 2) = some true := by rw [eqV_int]; simp
    have ln : lenV mh (sysV sys) = some (.int (sys.length : Int)) := by simp [lenV]
    have ti := isTy_int (mh := mh) hda.1
    have tb := isTy_bool (mh := mh) hda.1
    have tt := isTy_tup (mh := mh) hda.2
    by_cases ha : ∃ i : Int, a = .int i
    · obtain ⟨i, rfl⟩ := ha
      simp only [isB] at tb
      simp only at ti
      have c1 : ev (callM T (k + 34)) b c1E [some (sysV sys), some t, row, some (.tup [.int i, c]), none] mh = some (.bl false, mh) := by
        generalize sysV sys = SV at *
        simp [ev, evs, isTy, biV, one1, lenV, cmpV, l2, w0, ti, tb]
      have s1 : ex (callM T (k + 34)) b (.ite c1E [(.ret (.c .non))] []) [some (sysV sys), some t, row, some (.tup [.int i, c]), none] mh = some (.nx, [some (sysV sys), some t, row, some (.tup [.int i, c]), none], mh) := by
        rw [ex, c1]; simp only [exs]
      by_cases hi : i < 0
      · refine bad ?_ ⟨[some (sysV sys), some t, row, some (.tup [.int i, c]), none], ?_⟩
        · cases z : stepW sys t (.tup [.int i, c]) with
          | none => rfl
          | some u =>
            have := (stepW_pair ht.tm' ht.dat (by rw [z]; simp)).1
            simp only [isW, Bool.and_eq_true, decide_eq_true_eq] at this
            omega
        · refine ex_go s1 (ex_end ?_)
          generalize sysV sys = SV at *
          simp [ex, exs, ev, evs, w0, cmpV, ordV, hi]
      · by_cases hi2 : (sys.length : Int) ≤ i
        · have hi2' : ¬ (i < (sys.length : Int)) := by omega
          refine bad ?_ ⟨[some (sysV sys), some t, row, some (.tup [.int i, c]), none], ?_⟩
          · cases z : stepW sys t (.tup [.int i, c]) with
            | none => rfl
            | some u =>
              have := (stepW_pair ht.tm' ht.dat (by rw [z]; simp)).1
              simp only [isW, Bool.and_eq_true, decide_eq_true_eq] at this
              omega
          · refine ex_go s1 (ex_end ?_)
            generalize sysV sys = SV at *
            simp [ex, exs, ev, evs, w0, cmpV, ordV, hi, biV, one1, ln, hi2']
        · have hi2' : i < (sys.length : Int) := by omega
          by_cases hc : ∃ cs, c = .tup cs
          · obtain ⟨cs, rfl⟩ := hc
            have hdcs : dats cs = true := by have := hda.2; unfold dat at this; exact this
            have ep : callM T (k + 34) 30 [t] mh = some (.lst ((pls t).map pV), mh) := places_ok hPlaces 30 (k + 3) t mh (by have := ht.dep; omega) (by have := ht.cnt; omega) ht.tm' ht.dat
            have em := mem_any (H := mh) (P := pls t) hda.2 hdc (fun c e => by cases e)
            by_cases hm : hasV ((pls t).map pV) (.tup cs) = true
            · rw [hm] at em
              have s2 : ex (callM T (k + 34)) b (.ite c2E [(.ret (.c .non))] []) [some (sysV sys), some t, row, some (.tup [.int i, .tup cs]), none] mh = some (.nx, [some (sysV sys), some t, row, some (.tup [.int i, .tup cs]), none], mh) := by
                generalize (pls t).map pV = PP at *
                generalize sysV sys = SV at *
                simp [ex, exs, ev, evs, w0, w1, cmpV, ordV, hi, biV, one1, ln, hi2', isTy, ep, em]
              have hcomp : ev (callM T (k + 34)) b (.comp (.nm 4) [4] (.sub (.var 3) (.c (.int (1)))) (.isi (.var 4) .bool) (.var 4)) [some (sysV sys), some t, row, some (.tup [.int i, .tup cs]), none] mh = some (.lst (cs.filter isB), mh) := by
                have ei : evI (callM T (k + 34)) b (.sub (.var 3) (.c (.int (1)))) [some (sysV sys), some t, row, some (.tup [.int i, .tup cs]), none] mh = some (⟨cs, none⟩, mh) := by simp [evI, ev, w1, itsOf]
                have hz : cs.length ≤ line := by
                  have hcn : ∃ q : List Int, PyData.eqvAll (toDs (q.map .int)) (toDs cs) = true ∧ q ∈ pls t := by
                    unfold hasV at hm
                    rw [List.any_map, List.any_eq_true] at hm
                    obtain ⟨q, hq, h⟩ := hm
                    simp only [Function.comp] at h
                    unfold eqD toD PyData.eqv at h
                    exact ⟨q, h, hq⟩
                  obtain ⟨q, h, hq⟩ := hcn
                  have hlen : ∀ (xs ys : List MV), PyData.eqvAll (toDs xs) (toDs ys) = true → xs.length = ys.length := by
                    intro xs
                    induction xs with
                    | nil => intro ys h; cases ys with
                      | nil => rfl
                      | cons y ys => simp [toDs, PyData.eqvAll] at h
                    | cons x xs ih => intro ys h; cases ys with
                      | nil => simp [toDs, PyData.eqvAll] at h
                      | cons y ys =>
                        simp only [toDs, PyData.eqvAll, Bool.and_eq_true] at h
                        simp [ih ys h.2]
                  have h3 := hlen _ _ h
                  rw [List.length_map] at h3
                  have h4 := pls_pdep q t hq
                  have := ht.dep
                  unfold line
                  omega
                rw [ev_compq, ei]
                simp only [hz, if_true]
                rw [compGo_pure rfl (g := fun p => if isB p = true then some p else none)]
                · simp only [fm_filter]
                · intro v hv
                  have tv := isTy_bool (mh := mh) (dats_iff.mp hdcs v hv)
                  cases hb : isB v <;> rw [hb] at tv <;> simp [compF, asg, wipeE, ev, tv]
              by_cases hbl : (cs.filter isB).length = 0
              · have hnb : ∀ x ∈ cs, isB x = false := fun x hx => by
                  have h0 := List.length_eq_zero_iff.mp hbl
                  rw [List.filter_eq_nil_iff] at h0
                  simpa using h0 x hx
                obtain ⟨q, rfl, hq⟩ := hasV_ints hm hnb hdcs
                have hbl' : (((q.map MV.int).filter isB).length : Int) = 0 := by omega
                have s3 : ex (callM T (k + 34)) b (.ite c3E [(.ret (.c .non))] []) [some (sysV sys), some t, row, some (.tup [.int i, pV q]), none] mh = some (.nx, [some (sysV sys), some t, row, some (.tup [.int i, pV q]), none], mh) := by
                  generalize (q.map MV.int).filter isB = FB at *
                  simp [ex, exs, ev, evs, ↓hcomp, biV, one1, lenV, getL, cmpV, ordV, hbl', hbl]
                obtain ⟨j, rfl⟩ : ∃ j : Nat, i = (j : Int) := ⟨i.toNat, by omega⟩
                have hj : j < sys.length := by omega
                have et : callM T (k + 34) 34 [sysV sys, t, .tup [.int (j : Int), pV q]] mh = _ := sp_lstep hs ht hN he hj hq k mh
                have iv := isV_opt hs ht hN he (i := j) hq
                rw [stepW_ok hj hq]
                have s4 : ex (callM T (k + 34)) b (.set (.nm 1) (.call 34 [(.var 0), (.var 1), (.var 3)])) [some (sysV sys), some t, row, some (.tup [.int (j : Int), pV q]), none] mh = some (.nx, [some (sysV sys), some (optV (stepF sys t j q)), row, some (.tup [.int (j : Int), pV q]), none], mh) := by
                  generalize optV (stepF sys t j q) = OO at *
                  generalize sysV sys = SV at *
                  generalize MV.tup [.int (j : Int), pV q] = SS at *
                  simp [ex, ev, evs, et, asg]
                cases z : stepF sys t j q with
                | none =>
                  rw [z] at s4 iv
                  refine ⟨[some (sysV sys), some (optV none), row, some (.tup [.int (j : Int), pV q]), none], ?_, fun u h => by cases h⟩
                  unfold forF
                  rw [a0]
                  refine ex_go s1 (ex_go s2 (ex_go s3 (ex_go s4 ?_)))
                  generalize optV none = OO at *
                  generalize sysV sys = SV at *
                  generalize MV.tup [.int (j : Int), pV q] = SS at *
                  simp [exs, ex, ev, cmpV, iv]
                | some w =>
                  rw [z] at s4 iv
                  refine ⟨[some (sysV sys), some w, row, some (.tup [.int (j : Int), pV q]), none], ?_, fun u h => by cases h; rfl⟩
                  unfold forF
                  rw [a0]
                  refine ex_go s1 (ex_go s2 (ex_go s3 (ex_go s4 ?_)))
                  have iv : isV w .non = some false := iv
                  simp only [optV]
                  generalize sysV sys = SV at *
                  generalize MV.tup [.int (j : Int), pV q] = SS at *
                  simp [exs, ex, ev, cmpV, iv]
              · refine bad ?_ ⟨[some (sysV sys), some t, row, some (.tup [.int i, .tup cs]), none], ?_⟩
                · cases z : stepW sys t (.tup [.int i, .tup cs]) with
                  | none => rfl
                  | some u =>
                    obtain ⟨j, q, e, _⟩ := stepW_some z
                    simp only [MV.tup.injEq, List.cons.injEq, and_true] at e
                    exfalso
                    apply hbl
                    rw [e.2, List.length_eq_zero_iff, List.filter_eq_nil_iff]
                    intro x hx
                    obtain ⟨y, _, rfl⟩ := List.mem_map.mp hx
                    simp [isB]
                · refine ex_go s1 (ex_go s2 (ex_end ?_))
                  have hpos : 0 < (cs.filter isB).length := by omega
                  generalize cs.filter isB = FB at *
                  simp [ex, exs, ev, evs, ↓hcomp, biV, one1, lenV, getL, cmpV, ordV, hpos]
            · simp only [Bool.not_eq_true] at hm
              rw [hm] at em
              refine bad ?_ ⟨[some (sysV sys), some t, row, some (.tup [.int i, .tup cs]), none], ?_⟩
              · cases z : stepW sys t (.tup [.int i, .tup cs]) with
                | none => rfl
                | some u =>
                  obtain ⟨j, q, e, _, hq, _⟩ := stepW_some z
                  simp only [MV.tup.injEq, List.cons.injEq, and_true] at e
                  rw [e.2] at hm
                  have := hasV_pV (pls t) q
                  rw [show hasV ((pls t).map pV) (.tup (q.map .int)) = hasV ((pls t).map pV) (pV q) from rfl, this, decide_eq_true hq] at hm
                  cases hm
              · refine ex_go s1 (ex_end ?_)
                generalize (pls t).map pV = PP at *
                generalize sysV sys = SV at *
                simp [ex, exs, ev, evs, w0, w1, cmpV, ordV, hi, biV, one1, ln, hi2', isTy, ep, em]
          · have tt' : isTy c .tuple mh = some false := by
              cases c with
              | tup cs => exact absurd ⟨cs, rfl⟩ hc
              | _ => exact tt
            refine bad ?_ ⟨[some (sysV sys), some t, row, some (.tup [.int i, c]), none], ?_⟩
            · cases z : stepW sys t (.tup [.int i, c]) with
              | none => rfl
              | some u =>
                obtain ⟨j, q, e, _⟩ := stepW_some z
                simp only [MV.tup.injEq, List.cons.injEq, and_true] at e
                exact absurd ⟨_, e.2⟩ hc
            · refine ex_go s1 (ex_end ?_)
              generalize sysV sys = SV at *
              simp [ex, exs, ev, evs, w0, w1, cmpV, ordV, hi, biV, one1, ln, hi2', tt']
    · refine bad ?_ ⟨[some (sysV sys), some t, row, some (.tup [a, c]), none], ?_⟩
      · cases z : stepW sys t (.tup [a, c]) with
        | none => rfl
        | some u =>
          obtain ⟨j, q, e, _⟩ := stepW_some z
          simp only [MV.tup.injEq, List.cons.injEq, and_true] at e
          exact absurd ⟨_, e.1⟩ ha
      · refine ex_end ?_
        generalize sysV sys = SV at *
        cases a with
        | int i => exact absurd ⟨i, rfl⟩ ha
        | bl x =>
          simp only at ti
          simp only [isB] at tb
          simp [ex, exs, ev, evs, isTy, biV, one1, lenV, cmpV, l2, w0, ti, tb]
        | fn _ => have := hda.1; cases this
        | loc _ => have := hda.1; cases this
        | dct _ _ => have := hda.1; cases this
        | scr _ => have := hda.1; cases this
        | _ =>
          simp only at ti
          simp [ex, exs, ev, evs, isTy, biV, one1, lenV, cmpV, l2, w0, ti]
  · have hst : stepW sys t v = none := stepW_short fun a b e => h2 ⟨a, b, e⟩
    refine bad hst ⟨[some (sysV sys), some t, row, some v, none], ?_⟩
    refine ex_end ?_
    generalize sysV sys = SV at *
    cases v with
    | tup xs =>
      have hl : ¬ ((xs.length : Int) = 2) := fun e => by
        match xs, e with
        | [a, b], _ => exact h2 ⟨a, b, rfl⟩
        | [], e => simp at e
        | [a], e => simp at e
        | a :: b :: c :: r, e => simp at e; omega
      have l2 : eqV mh (.int (xs.length : Int)) (.int 2) = some false := by rw [eqV_int]; simp [hl]
      simp [ex, exs, ev, evs, isTy, biV, one1, lenV, cmpV, l2]
    | fn _ => cases hv
    | loc _ => cases hv
    | dct _ _ => cases hv
    | scr _ => cases hv
    | _ => simp [ex, exs, ev, evs, isTy]
end
end L2.Mi.k08

set_option Elab.async false
set_option linter.all false
set_option maxRecDepth 100000
set_option maxHeartbeats 4000000
namespace L2.Mi.k08
open PySem PySem.Spec PyProof.Rows L2.Mi
section
variable {ar : Sx → Option Nat} {sys : List (MV × MV)} {N e : Nat} {t : MV}
theorem lb_loop (hs : Sys ar sys) {k b : Nat} {mh : MHp} {row : Option MV} {J : Its} (hJ : J.src = none) : ∀ (vs : List MV) (t : MV) (N e : Nat) (o3 : Option MV), Bd ar N e t → N * 14 ^ vs.length ≤ 56000000 → e + 3 * vs.length ≤ 29 → dats vs = true → (∀ v ∈ vs, dep v ≤ 60) →
    ∃ ρ', forGo J (forF (callM T (k + 34)) b (.nm 3) lbBody) vs [some (sysV sys), some t, row, o3, none] mh = some (match behF sys t vs with
      | some _ => .nx
      | none => .rt .non, ρ', mh) ∧ ∀ u, behF sys t vs = some u → ∃ o3', ρ' = [some (sysV sys), some u, row, o3', none]
  | [], t, N, e, o3, _, _, _, _, _ => ⟨_, forGo_nil_of hJ, fun u h => by simp only [behF] at h; cases h; exact ⟨o3, rfl⟩⟩
  | v :: vs, t, N, e, o3, ht, hN, he, hd, hdp => by
    simp only [List.length_cons, Nat.pow_succ] at hN he
    have hp : 1 ≤ 14 ^ vs.length := Nat.one_le_pow _ _ (by omega)
    have e1 : N * (14 ^ vs.length * 14) = (14 * N) * 14 ^ vs.length := by rw [Nat.mul_comm 14 N, Nat.mul_assoc, Nat.mul_comm 14]
    have hN4 : 14 * N ≤ 56000000 := by
      have : (14 * N) * 1 ≤ (14 * N) * 14 ^ vs.length := Nat.mul_le_mul_left _ hp
      omega
    simp only [dats, Bool.and_eq_true] at hd
    obtain ⟨ρ1, st, h1⟩ := lb_step hs ht (by omega) (by omega) hd.1 (hdp v (by simp)) k b mh (row := row) (o3 := o3)
    rw [forGo_cons_of hJ, st]
    cases z : stepW sys t v with
    | none =>
      simp only [behF, z]
      exact ⟨_, rfl, fun u h => by cases h⟩
    | some w =>
      have hr := h1 w z
      subst hr
      obtain ⟨i, q, rfl, hi, hq, hst⟩ := stepW_some z
      have hw := stepF_ok hs ht (by omega) (by omega) hq hst
      simp only [behF, z]
      exact lb_loop hs hJ vs w (14 * N) (e + 3) _ hw (by omega) (by omega) hd.2 fun x hx => hdp x (List.mem_cons_of_mem _ hx)
theorem sp_lbehind (hs : Sys ar sys) (ht : Bd ar N e t) {row : MV} (hl : ∀ vs, row = .tup vs → N * 14 ^ vs.length ≤ 56000000 ∧ e + 3 * vs.length ≤ 29) (hd : dat row = true) (hdp : dep row ≤ 60) (k : Nat) (mh : MHp) : callM T (k + 35) 36 [sysV sys, t, row] mh = some (optV (behV sys t row), mh) := by
  rw [callM_eq (d := d_l_behind) rfl]
  cases row with
  | tup vs =>
    obtain ⟨h1, h2⟩ := hl vs rfl
    have hdv : dats vs = true := by unfold dat at hd; exact hd
    obtain ⟨ρ', e1, e2⟩ := lb_loop hs (k := k) (b := mh.length) (mh := mh) (row := some (.tup vs)) (J := ⟨vs, none⟩) rfl vs t N e none ht h1 h2 hdv (fun v hv => by have := deps_mem hv; simp only [dep] at hdp; omega)
    have s1 : ex (callM T (k + 34)) mh.length (.ite (.not (.isi (.var 2) .tuple)) [(.ret (.c .non))] []) [some (sysV sys), some t, some (.tup vs), none, none] mh = some (.nx, [some (sysV sys), some t, some (.tup vs), none, none], mh) := by
      simp [ex, exs, ev, isTy]
    have ei : evI (callM T (k + 34)) mh.length (.var 2) [some (sysV sys), some t, some (.tup vs), none, none] mh = some (⟨vs, none⟩, mh) := by simp [evI, ev, itsOf]
    simp only [behV]
    cases z : behF sys t vs with
    | none =>
      rw [z] at e1
      refine run_of' rfl rfl (ρ := ρ') (fl := .rt .non) ?_ rfl rfl rfl
      refine ex_go s1 ?_
      rw [exs, ex_for, ei]
      simp only
      rw [e1]
    | some u =>
      rw [z] at e1
      obtain ⟨o3', rfl⟩ := e2 u z
      have hu := (behF_ok hs vs t N e u ht h1 h2 z).dat
      refine run_of' rfl rfl (ρ := [some (sysV sys), some u, some (.tup vs), o3', none]) (fl := .rt u) ?_ rfl hu rfl
      refine ex_go s1 ?_
      rw [exs, ex_for, ei]
      simp only
      rw [e1]
      simp [exs, ex, ev]
  | fn _ => cases hd
  | loc _ => cases hd
  | dct _ _ => cases hd
  | scr _ => cases hd
  | non =>
    refine run_of' rfl rfl (ρ := [some (sysV sys), some t, some .non, none, none]) (fl := .rt .non) ?_ rfl rfl rfl
    simp [d_l_behind, exs, ex, ev, isTy]
  | bl x =>
    refine run_of' rfl rfl (ρ := [some (sysV sys), some t, some (.bl x), none, none]) (fl := .rt .non) ?_ rfl rfl rfl
    simp [d_l_behind, exs, ex, ev, isTy]
  | int x =>
    refine run_of' rfl rfl (ρ := [some (sysV sys), some t, some (.int x), none, none]) (fl := .rt .non) ?_ rfl rfl rfl
    simp [d_l_behind, exs, ex, ev, isTy]
  | str x =>
    refine run_of' rfl rfl (ρ := [some (sysV sys), some t, some (.str x), none, none]) (fl := .rt .non) ?_ rfl rfl rfl
    simp [d_l_behind, exs, ex, ev, isTy]
  | lst x =>
    refine run_of' rfl rfl (ρ := [some (sysV sys), some t, some (.lst x), none, none]) (fl := .rt .non) ?_ rfl rfl rfl
    simp [d_l_behind, exs, ex, ev, isTy]
theorem beh_eqV {H : MHp} (hs : Sys ar sys) (ht : Bd ar N e t) {row : MV} (hl : ∀ vs, row = .tup vs → N * 14 ^ vs.length ≤ 56000000 ∧ e + 3 * vs.length ≤ 29) : eqV H (optV (behV sys t row)) (optV (behV sys t row)) = some true ∧ isV (optV (behV sys t row)) .non = some (behV sys t row).isNone ∧ dat (optV (behV sys t row)) = true := by
  cases z : behV sys t row with
  | none => exact ⟨eqV_refl H rfl (by simp [optV, dep]), rfl, rfl⟩
  | some u =>
    cases row with
    | tup vs =>
      obtain ⟨h1, h2⟩ := hl vs rfl
      have hu := behF_ok hs vs t N e u ht h1 h2 z
      exact ⟨eqV_refl H hu.dat (by have := hu.dep; simp only [optV]; omega), isV_tm hu.tm', hu.dat⟩
    | _ => simp [behV] at z
/-! ### the law's steps -/
abbrev lsBody : List MS := [(.ite (.not (.isi (.call 31 [(.var 1), (.var 3)]) .str)) [(.set (.nm 2) (.bin .add (.var 2) (.comp (.nm 4) [4] (.rng1 (.bi .len [(.var 0)])) (.cmp .isn (.call 34 [(.var 0), (.var 1), (.tup [(.var 4), (.var 3)])]) (.c .non)) (.tup [(.var 4), (.var 3)]))))] [])]
theorem isTy_str {v : MV} {mh : MHp} (hd : dat v = true) : isTy v .str mh = some (isS v) := by
  cases v <;> first | (cases hd; done) | rfl
theorem ls_loop (hs : Sys ar sys) (ht : Bd ar N e t) (hN : N ≤ 4000000) (he : e ≤ 26) {k b : Nat} {mh : MHp} {J : Its} (hJ : J.src = none) : ∀ (Q : List (List Int)) (acc : List Stp) (o3 : Option MV), (∀ q ∈ Q, q ∈ pls t) → acc.length + 5 * Q.length ≤ 16000000 →
    ∃ o3', forGo J (forF (callM T (k + 34)) b (.nm 3) lsBody) (Q.map pV) [some (sysV sys), some t, some (.lst (acc.map sV)), o3, none] mh = some (.nx, [some (sysV sys), some t, some (.lst ((acc ++ stepsQ sys t Q).map sV)), o3', none], mh)
  | [], acc, o3, _, _ => ⟨o3, by simp only [stepsQ, List.flatMap_nil, List.append_nil]; exact forGo_nil_of hJ⟩
  | q :: Q, acc, o3, hq, hl => by
    have hqp := hq q (by simp)
    simp only [List.length_cons] at hl
    obtain ⟨x, hx⟩ := pls_at q t hqp
    have hxt := atF_Tm q (ht.Tm (by omega)) hqp hx
    have e1 : callM T (k + 34) 31 [t, pV q] mh = some (x, mh) := at_ok hAt (k + 33) _ ht.dat hx
    have ty := isTy_str (mh := mh) hxt.dat
    have cons : stepsQ sys t (q :: Q) = (if isS x = true then [] else hereF sys t q) ++ stepsQ sys t Q := by
      unfold stepsQ
      rw [List.flatMap_cons, hx]
      rfl
    have hlen := hereF_len (sys := sys) (t := t) q
    have hsl := hs.len
    rw [List.map_cons, forGo_cons_of hJ]
    have st : forF (callM T (k + 34)) b (.nm 3) lsBody (pV q) [some (sysV sys), some t, some (.lst (acc.map sV)), o3, none] mh = some (.nx, [some (sysV sys), some t, some (.lst ((acc ++ (if isS x = true then [] else hereF sys t q)).map sV)), some (pV q), none], mh) := by
      cases hb : isS x with
      | true =>
        rw [hb] at ty
        simp only [if_true, List.append_nil]
        generalize acc.map sV = AC at *
        generalize sysV sys = SV at *
        generalize pV q = QV at *
        simp [forF, asg, exs, ex, ev, evs, e1, ty]
      | false =>
        rw [hb] at ty
        simp only [Bool.false_eq_true, if_false]
        have hcomp : ev (callM T (k + 34)) b (.comp (.nm 4) [4] (.rng1 (.bi .len [(.var 0)])) (.cmp .isn (.call 34 [(.var 0), (.var 1), (.tup [(.var 4), (.var 3)])]) (.c .non)) (.tup [(.var 4), (.var 3)])) [some (sysV sys), some t, some (.lst (acc.map sV)), some (pV q), none] mh = some (.lst ((hereF sys t q).map sV), mh) := by
          have ei : evI (callM T (k + 34)) b (.rng1 (.bi .len [(.var 0)])) [some (sysV sys), some t, some (.lst (acc.map sV)), some (pV q), none] mh = some (⟨(List.range sys.length).map fun (k : Nat) => MV.int (k : Int), none⟩, mh) := by
            have b2 : (sys.length : Int) < 4611686018427387904 := by omega
            have b3 : (-4611686018427387904 : Int) ≤ (sys.length : Int) := by omega
            simp [evI, ev, evs, biV, one1, lenV, b2, b3]
          have hz : ((List.range sys.length).map fun (k : Nat) => MV.int (k : Int)).length ≤ line := by rw [List.length_map, List.length_range]; unfold line; omega
          rw [ev_compq, ei]
          simp only [hz, if_true]
          rw [compGo_pure rfl (g := fun v => match v with | .int i => if (stepF sys t i.toNat q).isSome = true then some (.tup [.int i, pV q]) else none | _ => none)]
          · exact congrArg (fun z => some (MV.lst z, mh)) (here_fm (sys := sys) (t := t) q)
          · intro v hv
            obtain ⟨i, hi, rfl⟩ := range_mem hv
            have z2 : 2 ≤ line := by unfold line; omega
            have et : callM T (k + 34) 34 [sysV sys, t, .tup [.int (i : Int), pV q]] mh = _ := sp_lstep hs ht hN he hi hqp k mh
            have iv := isV_opt hs ht hN he (i := i) hqp
            have hns : (stepF sys t i q).isSome = !(stepF sys t i q).isNone := by cases stepF sys t i q <;> rfl
            simp only [Int.toNat_natCast, hns]
            generalize (stepF sys t i q).isNone = B at *
            generalize optV (stepF sys t i q) = O at *
            generalize acc.map sV = AC at *
            generalize sysV sys = SV at *
            generalize pV q = QV at *
            cases B <;> simp [compF, asg, wipeE, ev, evs, et, cmpV, iv, z2]
        have hz2 : (acc.map sV).length + ((hereF sys t q).map sV).length ≤ line := by rw [List.length_map, List.length_map]; unfold line; omega
        have c1 : ev (callM T (k + 34)) b (.not (.isi (.call 31 [(.var 1), (.var 3)]) .str)) [some (sysV sys), some t, some (.lst (acc.map sV)), some (pV q), none] mh = some (.bl true, mh) := by
          generalize acc.map sV = AC at *
          generalize sysV sys = SV at *
          generalize pV q = QV at *
          simp [ev, evs, e1, ty]
        have s1 : ex (callM T (k + 34)) b (.set (.nm 2) (.bin .add (.var 2) (.comp (.nm 4) [4] (.rng1 (.bi .len [(.var 0)])) (.cmp .isn (.call 34 [(.var 0), (.var 1), (.tup [(.var 4), (.var 3)])]) (.c .non)) (.tup [(.var 4), (.var 3)])))) [some (sysV sys), some t, some (.lst (acc.map sV)), some (pV q), none] mh = some (.nx, [some (sysV sys), some t, some (.lst ((acc ++ hereF sys t q).map sV)), some (pV q), none], mh) := by
          rw [List.map_append]
          have v2 : ev (callM T (k + 34)) b (.var 2) [some (sysV sys), some t, some (.lst (acc.map sV)), some (pV q), none] mh = some (.lst (acc.map sV), mh) := by simp [ev]
          rw [ex, ev, v2]
          simp only [hcomp, binV, addV, getL, hz2, if_true, Option.map_some]
          simp [asg]
        have a1 : asg mh (.nm 3) (pV q) [some (sysV sys), some t, some (.lst (acc.map sV)), o3, none] = some [some (sysV sys), some t, some (.lst (acc.map sV)), some (pV q), none] := by simp [asg]
        unfold forF
        rw [a1]
        simp only
        rw [exs, ex, c1]
        simp only
        rw [exs, s1]
        simp only [exs]
    rw [st]
    have hz5 : (if isS x = true then [] else hereF sys t q).length ≤ 5 := by
      cases isS x
      · exact Nat.le_trans hlen hsl
      · simp
    obtain ⟨o3', e2⟩ := ls_loop hs ht hN he hJ Q (acc ++ (if isS x = true then [] else hereF sys t q)) (some (pV q)) (fun p hp => hq p (List.mem_cons_of_mem _ hp)) (by rw [List.length_append]; omega)
    refine ⟨o3', ?_⟩
    rw [cons, ← List.append_assoc]
    exact e2
theorem sp_lsteps (hs : Sys ar sys) (ht : Bd ar N e t) (hN : N ≤ 3000000) (he : e ≤ 26) (k : Nat) (mh : MHp) : callM T (k + 35) 35 [sysV sys, t] mh = some (.lst ((stepsF sys t).map sV), mh) := by
  have z0 : 0 ≤ line := by unfold line; omega
  have hc := ht.cnt
  obtain ⟨o3, e1⟩ := ls_loop hs ht (by omega) he (k := k) (b := mh.length) (mh := mh) (J := ⟨(pls t).map pV, none⟩) rfl (pls t) [] none (fun q h => h) (by rw [pls_len]; simp; omega)
  rw [List.nil_append] at e1
  have hp : callM T (k + 34) 30 [t] mh = some (.lst ((pls t).map pV), mh) := places_ok hPlaces 30 (k + 3) t _ (by have := ht.dep; omega) (by omega) ht.tm' ht.dat
  rw [callM_eq (d := d_l_steps) rfl]
  have s1 : ex (callM T (k + 34)) mh.length (.set (.nm 2) (.lst [])) [some (sysV sys), some t, none, none, none] mh = some (.nx, [some (sysV sys), some t, some (.lst (([] : List Stp).map sV)), none, none], mh) := by
    simp [ex, ev, evs, asg, z0]
  have ei : evI (callM T (k + 34)) mh.length (.call 30 [(.var 1)]) [some (sysV sys), some t, some (.lst (([] : List Stp).map sV)), none, none] mh = some (⟨(pls t).map pV, none⟩, mh) := by
    simp [evI, ev, evs, hp, itsOf]
  refine run_of' rfl rfl (ρ := [some (sysV sys), some t, some (.lst ((stepsF sys t).map sV)), o3, none]) (fl := .rt (.lst ((stepsF sys t).map sV))) ?_ rfl (by rw [dat]; exact sV_dats _) rfl
  refine ex_go s1 ?_
  rw [exs, ex_for, ei]
  simp only
  rw [e1]
  show exs (callM T (k + 34)) mh.length [(.ret (.var 2))] [some (sysV sys), some t, some (.lst ((stepsF sys t).map sV)), o3, none] mh = _
  simp [exs, ex, ev]
theorem sp_isnormal (hs : Sys ar sys) (ht : Bd ar N e t) (hN : N ≤ 3000000) (he : e ≤ 26) (k : Nat) (mh : MHp) : callM T (k + 35) 21 [sysV sys, t] mh = some (.bl (decide ((stepsF sys t).length = 0)), mh) := by
  have h := sp_steps hs ht hN he k mh
  rw [callM_eq (d := d_is_normal) rfl]
  refine run_of' rfl rfl (ρ := [some (sysV sys), some t]) (fl := .rt (.bl (decide ((stepsF sys t).length = 0)))) ?_ rfl rfl rfl
  have hl : ((stepsF sys t).map sV).length = (stepsF sys t).length := List.length_map ..
  generalize (stepsF sys t).map sV = L at *
  rw [← hl]
  generalize sysV sys = SV at *
  simp [d_is_normal, exs, ex, ev, evs, h, biV, one1, lenV, getL, cmpV, eqV_int]
/-! ### is_linear -/
def stG (t : MV) (p : List Int) : Option MV := match atF t p with
  | some (.str s) => some (.str s)
  | _ => none
def linGo : List MV → List MV → Bool
  | _, [] => true
  | acc, w :: ws => if hasV acc w = true then false else linGo (acc ++ [w]) ws
abbrev liBody : List MS := [(.set (.nm 3) (.call 11 [(.var 0), (.var 2)])), (.ite (.call 5 [(.var 3)]) [(.ite (.cmp .mem (.var 3) (.var 1)) [(.ret (.c (.bl false)))] []), (.ex (.meth .append (.var 1) [(.var 3)]))] [])]
theorem stG_all (ht : Bd ar N e t) (he : e ≤ 30) {Q : List (List Int)} (hq : ∀ q ∈ Q, q ∈ pls t) : AllS (Q.filterMap (stG t)) := fun x hx => by
  obtain ⟨q, h1, h2⟩ := List.mem_filterMap.mp hx
  unfold stG at h2
  split at h2
  · rename_i s hs
    cases h2
    exact ⟨s, rfl, (atF_Tm q (ht.Tm he) (hq q h1) hs).dat⟩
  · cases h2
theorem li_loop (ht : Bd ar N e t) (he : e ≤ 26) {k : Nat} {mh : MHp} {J : Its} (hJ : J.src = none) : ∀ (Q : List (List Int)) (acc : List MV) (o2 o3 : Option MV), (∀ q ∈ Q, q ∈ pls t) → AllS acc → acc.length + Q.length ≤ 4000000 →
    ∃ acc' o2' o3', forGo J (forF (callM T (k + 33)) mh.length (.nm 2) liBody) (Q.map pV) [some t, some (.loc mh.length), o2, o3] (nHp mh acc) = some (if linGo acc (Q.filterMap (stG t)) = true then .nx else .rt (.bl false), [some t, some (.loc mh.length), o2', o3'], nHp mh acc')
  | [], acc, o2, o3, _, _, _ => ⟨acc, o2, o3, forGo_nil_of hJ⟩
  | q :: Q, acc, o2, o3, hq, ha, hl => by
    have hqp := hq q (by simp)
    simp only [List.length_cons] at hl
    obtain ⟨x, hx⟩ := pls_at q t hqp
    have hxt := atF_Tm q (ht.Tm (by omega)) hqp hx
    have e1 : callM T (k + 33) 11 [t, pV q] (nHp mh acc) = some (x, nHp mh acc) := at_ok hAtP (k + 32) _ ht.dat hx
    have iv : callM T (k + 33) 5 [x] (nHp mh acc) = some (.bl (isS x), nHp mh acc) := sp_isvar (k + 32) x _ hxt.dat
    rw [List.map_cons, forGo_cons_of hJ]
    rcases hxt.cases with ⟨s, rfl⟩ | ⟨a, xs, rfl, q1, q2, q3⟩
    · have hg : stG t q = some (.str s) := by simp only [stG, hx]
      have hm := mem_loc (mh := mh) ha ⟨s, rfl, hxt.dat⟩
      rw [List.filterMap_cons, hg]
      simp only [linGo]
      simp only [isS] at iv
      by_cases hv : hasV acc (.str s) = true
      · rw [hv] at hm
        simp only [hv, if_true, Bool.false_eq_true, if_false]
        have st : forF (callM T (k + 33)) mh.length (.nm 2) liBody (pV q) [some t, some (.loc mh.length), o2, o3] (nHp mh acc) = some (.rt (.bl false), [some t, some (.loc mh.length), some (pV q), some (.str s)], nHp mh acc) := by
          generalize nHp mh acc = H at *
          generalize pV q = QV at *
          simp [forF, asg, exs, ex, ev, evs, e1, iv, cmpV, hm]
        rw [st]
        exact ⟨acc, _, _, rfl⟩
      · simp only [Bool.not_eq_true] at hv
        simp only [hv, Bool.false_eq_true, if_false]
        rw [hv] at hm
        have l1 : liveL (nHp mh acc) (.loc mh.length) = some (mh.length, acc) := by simp [liveL, nHp, top_get]
        have ty : tyM (nHp mh acc) .append (.loc mh.length) = true := by simp [tyM, l1]
        have hz : acc.length < line := by unfold line; omega
        have hw : wr mh.length mh.length (.str s) = true := by simp [wr]
        have m1 : methV mh.length (nHp mh acc) .append (.loc mh.length) [.str s] = some (.non, nHp mh (acc ++ [.str s])) := by
          simp only [methV, appV, l1]
          rw [if_pos (by first | exact ⟨hw, hz⟩ | exact ⟨hz, hw⟩ | exact hw | exact ⟨hw, Nat.le_of_lt hz⟩)]
          simp only [nHp, top_set]
        have st : forF (callM T (k + 33)) mh.length (.nm 2) liBody (pV q) [some t, some (.loc mh.length), o2, o3] (nHp mh acc) = some (.nx, [some t, some (.loc mh.length), some (pV q), some (.str s)], nHp mh (acc ++ [.str s])) := by
          generalize nHp mh acc = H at *
          generalize nHp mh (acc ++ [.str s]) = H' at *
          generalize pV q = QV at *
          simp [forF, asg, exs, ex, ev, evs, e1, iv, cmpV, hm, ty, m1]
        rw [st]
        exact li_loop ht he hJ Q (acc ++ [.str s]) _ _ (fun p hp => hq p (List.mem_cons_of_mem _ hp)) (ha.app fun y hy => by simp at hy; subst hy; exact ⟨s, rfl, hxt.dat⟩) (by rw [List.length_append]; simp; omega)
    · have hg : stG t q = none := by simp only [stG, hx]
      rw [List.filterMap_cons, hg]
      simp only [isS] at iv
      have st : forF (callM T (k + 33)) mh.length (.nm 2) liBody (pV q) [some t, some (.loc mh.length), o2, o3] (nHp mh acc) = some (.nx, [some t, some (.loc mh.length), some (pV q), some (.tup (.str a :: xs))], nHp mh acc) := by
        generalize nHp mh acc = H at *
        generalize pV q = QV at *
        simp [forF, asg, exs, ex, ev, evs, e1, iv]
      rw [st]
      exact li_loop ht he hJ Q acc _ _ (fun p hp => hq p (List.mem_cons_of_mem _ hp)) ha (by omega)
theorem sp_linear (ht : Bd ar N e t) (hN : N ≤ 3000000) (he : e ≤ 26) (k : Nat) (mh : MHp) : callM T (k + 34) 17 [t] mh = some (.bl (linGo [] ((pls t).filterMap (stG t))), mh) := by
  have z0 : 0 ≤ line := by unfold line; omega
  have hc := ht.cnt
  obtain ⟨acc', o2, o3, e1⟩ := li_loop ht he (k := k) (mh := mh) (J := ⟨(pls t).map pV, none⟩) rfl (pls t) [] none none (fun q h => h) (fun x hx => by simp at hx) (by rw [pls_len]; simp; omega)
  have hp : callM T (k + 33) 9 [t] (nHp mh []) = some (.lst ((pls t).map pV), nHp mh []) := sp_pos 30 (k + 1) t _ (by have := ht.dep; omega) (by omega) ht.tm' ht.dat
  rw [callM_eq (d := d_is_linear) rfl]
  have s1 : ex (callM T (k + 33)) mh.length (.set (.nm 1) (.al (.lst []))) [some t, none, none, none] mh = some (.nx, [some t, some (.loc mh.length), none, none], nHp mh []) := by
    simp [ex, ev, evs, asg, z0]
  have ei : evI (callM T (k + 33)) mh.length (.call 9 [(.var 0)]) [some t, some (.loc mh.length), none, none] (nHp mh []) = some (⟨(pls t).map pV, none⟩, nHp mh []) := by
    generalize nHp mh [] = H at *
    simp [evI, ev, evs, hp, itsOf]
  have full : exs (callM T (k + 33)) mh.length d_is_linear.body [some t, none, none, none] mh = some (.rt (.bl (linGo [] ((pls t).filterMap (stG t)))), [some t, some (.loc mh.length), o2, o3], nHp mh acc') := by
    refine ex_go s1 ?_
    rw [exs, ex_for, ei]
    simp only
    rw [e1]
    cases linGo [] ((pls t).filterMap (stG t)) with
    | true => simp [exs, ex, ev]
    | false => rfl
  have := run_of (C := callM T (k + 33)) (d := d_is_linear) (args := [t]) rfl rfl full rfl rfl
  rw [take_top] at this
  exact this
/-- the law counts those that stood before -/
theorem linGo_take : ∀ (ws acc W : List MV), W = acc ++ ws → (((List.range W.length).filter fun k => decide (acc.length ≤ k) && hasV (W.take k) (W.getD k .non)).length = 0 ↔ linGo acc ws = true)
  | [], acc, W, h => by
    rw [List.append_nil] at h
    subst h
    simp only [linGo, iff_true, List.length_eq_zero_iff, List.filter_eq_nil_iff]
    intro k hk
    have := List.mem_range.mp hk
    simp
    omega
  | w :: ws, acc, W, h => by
    have ih := linGo_take ws (acc ++ [w]) W (by rw [h]; simp)
    have ht : W.take acc.length = acc := by rw [h]; simp
    have hg : W.getD acc.length .non = w := by rw [h]; simp
    have hlt : acc.length < W.length := by rw [h]; simp
    simp only [linGo]
    rw [List.length_eq_zero_iff, List.filter_eq_nil_iff] at ih ⊢
    by_cases hv : hasV acc w = true
    · rw [if_pos hv]
      simp only [Bool.false_eq_true, iff_false]
      intro hh
      exact hh acc.length (List.mem_range.mpr hlt) (by rw [ht, hg, hv]; simp)
    · rw [if_neg hv, ← ih]
      constructor
      · intro hh k hk hc
        refine hh k hk ?_
        simp only [List.length_append, List.length_cons, List.length_nil, Bool.and_eq_true, decide_eq_true_eq] at hc ⊢
        exact ⟨by omega, hc.2⟩
      · intro hh k hk hc
        by_cases hkl : k = acc.length
        · subst hkl
          rw [ht, hg] at hc
          simp at hc
          exact hv hc
        · refine hh k hk ?_
          simp only [List.length_append, List.length_cons, List.length_nil, Bool.and_eq_true, decide_eq_true_eq] at hc ⊢
          exact ⟨by omega, hc.2⟩
end
end L2.Mi.k08

set_option Elab.async false
set_option linter.all false
set_option maxRecDepth 100000
set_option maxHeartbeats 4000000
namespace L2.Mi.k08
open PySem PySem.Spec PyProof.Rows L2.Mi
/-! ### the tongues -/
def arOf (ps : List MV) (s : Sx) : Option Nat := match ps.find? fun p => (match p with | .tup [.str u, .int _] => decide (u = s) | _ => false) with
  | some (.tup [.str _, .int i]) => some i.toNat
  | _ => none
def tokOk (ps : List MV) : Bool := ps.all (fun p => match p with | .tup [.str s, .int i] => decide (arOf ps s = some i.toNat) && headB ps (.str s) i.toNat && decide (0 ≤ i) && decide (i ≤ 3) | _ => false) && ps.all pairB && !good ps (.tup [.str [102], .str [81]]) && !good ps (.tup [.str [122, 122, 122]]) && decide (ps.length ≤ 4) && decide (ps ≠ [])
theorem tok_all : tongues.all tokOk = true := by decide +kernel
structure TokP (ps : List MV) : Prop where
  ar : ∀ {s : Sx} {i : Nat}, pr s i ∈ ps → arOf ps s = some i ∧ headB ps (.str s) i = true ∧ i ≤ 3
  pair : ∀ p ∈ ps, pairB p = true
  fq : good ps (.tup [.str [102], .str [81]]) = false
  zz : good ps (.tup [.str [122, 122, 122]]) = false
theorem tokP_of {ps : List MV} (h : ps ∈ tongues) : TokP ps := by
  have h1 := List.all_eq_true.mp tok_all ps h
  unfold tokOk at h1
  simp only [Bool.and_eq_true] at h1
  obtain ⟨⟨⟨⟨⟨a1, a2⟩, a3⟩, a4⟩, a5⟩, a6⟩ := h1
  refine ⟨fun {s i} hp => ?_, fun p hp => List.all_eq_true.mp a2 p hp, by simpa using a3, by simpa using a4⟩
  have := List.all_eq_true.mp a1 _ hp
  simp [pr] at this
  exact ⟨this.1.1, this.1.2, by omega⟩
mutual
theorem good_tm {ps : List MV} : ∀ t, good ps t = true → tm t = true
  | .str _, _ => rfl
  | .tup [], h => by simp [good, goodT] at h
  | .tup (y :: xs), h => by
    simp only [good, goodT, Bool.and_eq_true] at h
    simp only [tm, tmT, Bool.and_eq_true]
    refine ⟨?_, goods_tms xs h.2⟩
    have h1 := h.1
    unfold headB at h1
    cases y with
    | str s => rfl
    | _ => simp at h1
  | .non, h => by simp [good] at h
  | .bl _, h => by simp [good] at h
  | .int _, h => by simp [good] at h
  | .fn _, h => by simp [good] at h
  | .lst _, h => by simp [good] at h
  | .loc _, h => by simp [good] at h
  | .dct _ _, h => by simp [good] at h
  | .scr _, h => by simp [good] at h
theorem goods_tms {ps : List MV} : ∀ xs, goods ps xs = true → tms xs = true
  | [], _ => rfl
  | x :: xs, h => by
    simp only [goods, Bool.and_eq_true] at h
    simp only [tms, Bool.and_eq_true]
    exact ⟨good_tm x h.1, goods_tms xs h.2⟩
end
theorem goods_iff {ps : List MV} : ∀ {xs : List MV}, goods ps xs = true ↔ ∀ x ∈ xs, good ps x = true
  | [] => by simp [goods]
  | x :: xs => by simp [goods, goods_iff (xs := xs)]
theorem varsL_mem : ∀ {xs acc : List MV} {v : MV}, v ∈ varsL acc xs → v ∈ acc ∨ ∃ x ∈ xs, v ∈ vars x
  | [], acc, v, h => by simp only [varsL] at h; exact .inl h
  | x :: xs, acc, v, h => by
    simp only [varsL] at h
    rcases varsL_mem h with h | ⟨y, hy, h⟩
    · rcases List.mem_append.mp h with h | h
      · exact .inl h
      · exact .inr ⟨x, by simp, (List.mem_filter.mp h).1⟩
    · exact .inr ⟨y, List.mem_cons_of_mem _ hy, h⟩
theorem vars_sub {s : Sx} {ys : List MV} {nl : List MV} (h : ∀ y ∈ ys, ∀ v ∈ vars y, v ∈ nl) : ∀ v ∈ vars (.tup (.str s :: ys)), v ∈ nl := fun v hv => by
  simp only [vars, varsT] at hv
  rcases varsL_mem hv with h1 | ⟨x, hx, h1⟩
  · simp at h1
  · exact h x hx v h1
theorem good_tup {ps : List MV} {s : Sx} {i : Nat} {ys : List MV} (hp : TokP ps) (h : pr s i ∈ ps) (hl : ys.length = i) (hy : ∀ y ∈ ys, good ps y = true) : good ps (.tup (.str s :: ys)) = true := by
  simp only [good, goodT, Bool.and_eq_true]
  exact ⟨by rw [hl]; exact (hp.ar h).2.1, goods_iff.mpr hy⟩
theorem vars_upper {ps : List MV} : ∀ (D : Nat) (t : MV), dep t ≤ D → tm t = true → dat t = true → good ps t = true → ∀ v ∈ vars t, ∃ s, v = .str s ∧ wordB upper (.str s) = true := by
  intro D
  induction D with
  | zero =>
    intro t hD ht hd hg v hv
    rcases tm_cases ht hd with ⟨s, rfl⟩ | ⟨s, xs, rfl, hds, hx⟩
    · simp only [vars, List.mem_singleton] at hv
      subst hv
      exact ⟨s, rfl, by simpa [good] using hg⟩
    · simp [dep] at hD
  | succ D ih =>
    intro t hD ht hd hg v hv
    rcases tm_cases ht hd with ⟨s, rfl⟩ | ⟨s, xs, rfl, hds, hx⟩
    · simp only [vars, List.mem_singleton] at hv
      subst hv
      exact ⟨s, rfl, by simpa [good] using hg⟩
    · simp only [vars, varsT] at hv
      rcases varsL_mem hv with h1 | ⟨x, hxm, h1⟩
      · simp at h1
      · simp only [good, goodT, Bool.and_eq_true] at hg
        exact ih x (by have := dep_mem (h := .str s) hxm; omega) (hx x hxm).1 (hx x hxm).2 (goods_iff.mp hg.2 x hxm) v h1
theorem hasV_mem {nl : List MV} {v : MV} (h : v ∈ nl) (hd : dat v = true) : hasV nl v = true := by
  unfold hasV
  exact List.any_eq_true.mpr ⟨v, h, eqD_refl v hd⟩
/-- a drawn term -/
structure Dr (ps nl : List MV) (c e : Nat) (t : MV) : Prop where
  bd : Bd (arOf ps) c e t
  good : good ps t = true
  sub : ∀ v ∈ vars t, v ∈ nl
theorem Dr.up {ps nl : List MV} {c e c' e' : Nat} {t : MV} (h : Dr ps nl c e t) (h1 : c ≤ c') (h2 : e ≤ e') : Dr ps nl c' e' t := ⟨h.bd.up h1 h2, h.good, h.sub⟩
theorem draw {l n : Nat} {mh : MHp} {ps : List MV} (hps : ps ∈ tongues) {nl : List MV} (hnl : nl.length ≤ 1000) (hnd : dats nl = true) (hns : ∀ x ∈ nl, ∃ s, x = .str s ∧ wordB upper (.str s) = true) (m k : Nat) (S : St l n mh) : ∃ t mh', callM T (k + m + 3) 27 [.loc l, .tup ps, .lst nl, .int ((m + 1 : Nat) : Int)] mh = some (t, mh') ∧ St l n mh' ∧ Dr ps nl (bnd m) (m + 1) t := by
  have hp := tokP_of hps
  obtain ⟨t, mh', e, S', d⟩ := term_ok hTake hPick hTerm (P0 := fun t => tmA (arOf ps) t = true ∧ good ps t = true ∧ ∀ v ∈ vars t, v ∈ nl) (tokG_of hps) (fun s i ys h1 h2 h3 => ⟨tmA_tup (by rw [(hp.ar h1).1, h2]) fun y hy => (h3 y hy).1, good_tup hp h1 h2 fun y hy => (h3 y hy).2.1, vars_sub fun y hy => (h3 y hy).2.2⟩) hnl hnd (fun x hx => by
    obtain ⟨s, rfl, hw⟩ := hns x hx
    exact ⟨s, rfl, by simp [tmA], by simpa [good] using hw, fun v hv => by simp only [vars, List.mem_singleton] at hv; subst hv; exact hx⟩) m k S
  exact ⟨t, mh', e, S', ⟨⟨d.good.1, d.dat, d.cnt, d.dep⟩, d.good.2.1, d.good.2.2⟩⟩
/-! ### rules: the program's judge -/
def ruleB (ps : List MV) (a b : MV) : Bool := termB ps a && termB ps b && !isS a && (vars b).all (hasV (vars a))
theorem fm_map {α β : Type} (f : α → β) : ∀ xs : List α, xs.filterMap (fun x => some (f x)) = xs.map f
  | [] => rfl
  | x :: xs => by rw [List.filterMap_cons]; simp [fm_map f xs]
section
variable {ps : List MV} {mh : MHp}
theorem sp_isrule (hps : ps ∈ tongues) {a b : MV} (da : dat a = true) (db : dat b = true) (ca : cnt a ≤ 13) (cb : cnt b ≤ 13) (k : Nat) : callM T (k + 16) 15 [.tup [a, b], .tup ps] mh = some (.bl (ruleB ps a b), mh) := by
  have hp := tokP_of hps
  have hpd := (tokG_of hps).dat
  have z : ∀ v, cnt v ≤ 13 → cnt v ≤ line := fun v h => by unfold line; omega
  have ta : callM T (k + 15) 7 [a, .tup ps] mh = some (.bl (termB ps a), mh) := sp_term (k := k + 12) hp.pair hpd da (z a ca)
  have tb : callM T (k + 15) 7 [b, .tup ps] mh = some (.bl (termB ps b), mh) := sp_term (k := k + 12) hp.pair hpd db (z b cb)
  have l2 : eqV mh (.int 2) (.int 2) = some true := by rw [eqV_int]; simp
  have w0 : subV mh (.tup [a, b]) (.int 0) = some a := rfl
  have w1 : subV mh (.tup [a, b]) (.int 1) = some b := rfl
  have hcomp : ev (callM T (k + 15)) mh.length (.comp (.nm 4) [4] (.var 0) (.c (.bl true)) (.call 7 [(.var 4), (.var 1)])) [some (.tup [a, b]), some (.tup ps), none, none, none] mh = some (.lst ([termB ps a, termB ps b].map .bl), mh) := by
    have ei : evI (callM T (k + 15)) mh.length (.var 0) [some (.tup [a, b]), some (.tup ps), none, none, none] mh = some (⟨[a, b], none⟩, mh) := by simp [evI, ev, itsOf]
    have hz : ([a, b] : List MV).length ≤ line := by unfold line; simp
    rw [ev_compq, ei]
    simp only [hz, if_true]
    rw [compGo_pure rfl (g := fun v => some (.bl (termB ps v)))]
    · rw [fm_map]; rfl
    · intro v hv
      simp only [List.mem_cons, List.not_mem_nil, or_false] at hv
      rcases hv with rfl | rfl
      · simp [compF, asg, wipeE, ev, evs, ta]
      · simp [compF, asg, wipeE, ev, evs, tb]
  have hbl := bls_map (mh := mh) [termB ps a, termB ps b]
  rw [callM_eq (d := d_is_rule) rfl]
  by_cases ht : termB ps a = true ∧ termB ps b = true
  · obtain ⟨t1, t2⟩ := ht
    have ga : good ps a = true := by unfold termB at t1; simp at t1; exact t1.2
    have gb : good ps b = true := by unfold termB at t2; simp at t2; exact t2.2
    have iv : callM T (k + 15) 5 [a] mh = some (.bl (isS a), mh) := sp_isvar (k + 14) a mh da
    have s1 : ex (callM T (k + 15)) mh.length (.ite (.or (.not (.isi (.var 0) .tuple)) (.or (.cmp .ne (.bi .len [(.var 0)]) (.c (.int (2)))) (.not (.bi .all [(.comp (.nm 4) [4] (.var 0) (.c (.bl true)) (.call 7 [(.var 4), (.var 1)]))])))) [(.ret (.c (.bl false)))] []) [some (.tup [a, b]), some (.tup ps), none, none, none] mh = some (.nx, [some (.tup [a, b]), some (.tup ps), none, none, none], mh) := by
      rw [t1, t2] at hcomp hbl
      simp [ex, exs, ev, evs, isTy, biV, one1, lenV, cmpV, l2, ↓hcomp]
      simp at hbl
      simp [hbl]
    cases hs : isS a with
    | true =>
      rw [hs] at iv
      have hr : ruleB ps a b = false := by simp [ruleB, hs]
      rw [hr]
      refine run_of' rfl rfl (ρ := [some (.tup [a, b]), some (.tup ps), none, none, none]) (fl := .rt (.bl false)) ?_ rfl rfl rfl
      refine ex_go s1 (ex_end ?_)
      simp [ex, exs, ev, evs, w0, iv]
    | false =>
      rw [hs] at iv
      have hr : ruleB ps a b = (vars b).all (hasV (vars a)) := by simp [ruleB, hs, t1, t2]
      rw [hr]
      have va : callM T (k + 15) 8 [a] mh = some (.lst (vars a), mh) := sp_vars 13 (k + 1) a mh ca (by omega) (good_tm a ga) da
      have vb : callM T (k + 15) 8 [b] mh = some (.lst (vars b), mh) := sp_vars 13 (k + 1) b mh cb (by omega) (good_tm b gb) db
      obtain ⟨aa, la⟩ := vars_all a (good_tm a ga) da
      obtain ⟨ab, lb⟩ := vars_all b (good_tm b gb) db
      have hcomp2 : ev (callM T (k + 15)) mh.length (.comp (.nm 3) [3] (.call 8 [(.sub (.var 0) (.c (.int (1))))]) (.c (.bl true)) (.cmp .mem (.var 3) (.var 2))) [some (.tup [a, b]), some (.tup ps), some (.lst (vars a)), none, none] mh = some (.lst ((vars b).map fun x => .bl (hasV (vars a) x)), mh) := by
        have ei : evI (callM T (k + 15)) mh.length (.call 8 [(.sub (.var 0) (.c (.int (1))))]) [some (.tup [a, b]), some (.tup ps), some (.lst (vars a)), none, none] mh = some (⟨vars b, none⟩, mh) := by simp [evI, ev, evs, w1, vb, itsOf]
        have hz : (vars b).length ≤ line := by unfold line; omega
        rw [ev_compq, ei]
        simp only [hz, if_true]
        rw [compGo_pure rfl (g := fun v => some (.bl (hasV (vars a) v)))]
        · rw [fm_map]
        · intro v hv
          have := mem_str (mh := mh) aa (ab v hv)
          simp [compF, asg, wipeE, ev, cmpV, this]
      have hb2 := bls_map' (mh := mh) (vars b) (hasV (vars a))
      refine run_of' rfl rfl (ρ := [some (.tup [a, b]), some (.tup ps), some (.lst (vars a)), none, none]) (fl := .rt (.bl ((vars b).all (hasV (vars a))))) ?_ rfl rfl rfl
      refine ex_go s1 ?_
      have s2 : ex (callM T (k + 15)) mh.length (.ite (.call 5 [(.sub (.var 0) (.c (.int (0))))]) [(.ret (.c (.bl false)))] []) [some (.tup [a, b]), some (.tup ps), none, none, none] mh = some (.nx, [some (.tup [a, b]), some (.tup ps), none, none, none], mh) := by
        simp [ex, exs, ev, evs, w0, iv]
      have s3 : ex (callM T (k + 15)) mh.length (.set (.nm 2) (.call 8 [(.sub (.var 0) (.c (.int (0))))])) [some (.tup [a, b]), some (.tup ps), none, none, none] mh = some (.nx, [some (.tup [a, b]), some (.tup ps), some (.lst (vars a)), none, none], mh) := by
        simp [ex, ev, evs, w0, va, asg]
      refine ex_go s2 (ex_go s3 ?_)
      have hall : ((vars b).map (hasV (vars a))).all id = (vars b).all (hasV (vars a)) := by simp
      generalize (vars b).map (fun x => MV.bl (hasV (vars a) x)) = L at *
      simp [exs, ex, ev, evs, ↓hcomp2, biV, one1, hb2]
  · have hr : ruleB ps a b = false := by
      unfold ruleB
      cases h1 : termB ps a with
      | false => simp
      | true =>
        cases h2 : termB ps b with
        | false => simp
        | true => exact absurd ⟨h1, h2⟩ ht
    have hal : ([termB ps a, termB ps b].all id) = false := by
      cases h1 : termB ps a with
      | false => simp
      | true =>
        cases h2 : termB ps b with
        | false => simp
        | true => exact absurd ⟨h1, h2⟩ ht
    rw [hr]
    refine run_of' rfl rfl (ρ := [some (.tup [a, b]), some (.tup ps), none, none, none]) (fl := .rt (.bl false)) ?_ rfl rfl rfl
    show exs (callM T (k + 15)) mh.length d_is_rule.body [some (.tup [a, b]), some (.tup ps), none, none, none] mh = _
    refine ex_end ?_
    generalize [termB ps a, termB ps b] = TT at *
    generalize TT.map MV.bl = L at *
    simp [ex, exs, ev, evs, isTy, biV, one1, lenV, cmpV, l2, ↓hcomp, hbl, hal]
theorem sp_issys {K : Nat} {f : MV → Bool} {vs : List MV} (hf : ∀ v ∈ vs, callM T K 15 [v, .tup ps] mh = some (.bl (f v), mh)) (hl : vs.length ≤ 1000) : callM T (K + 1) 16 [.tup vs, .tup ps] mh = some (.bl (decide (vs.length ≤ 20) && vs.all f), mh) := by
  rw [callM_eq (d := d_is_system) rfl]
  refine run_of' rfl rfl (ρ := [some (.tup vs), some (.tup ps), none]) (fl := .rt (.bl (decide (vs.length ≤ 20) && vs.all f))) ?_ rfl rfl rfl
  by_cases h : vs.length ≤ 20
  · have h' : ¬ ((20 : Int) < (vs.length : Int)) := by omega
    have hcomp : ev (callM T K) mh.length (.comp (.nm 2) [2] (.var 0) (.c (.bl true)) (.call 15 [(.var 2), (.var 1)])) [some (.tup vs), some (.tup ps), none] mh = some (.lst (vs.map fun x => .bl (f x)), mh) := by
      have ei : evI (callM T K) mh.length (.var 0) [some (.tup vs), some (.tup ps), none] mh = some (⟨vs, none⟩, mh) := by simp [evI, ev, itsOf]
      have hz : vs.length ≤ line := by unfold line; omega
      rw [ev_compq, ei]
      simp only [hz, if_true]
      rw [compGo_pure rfl (g := fun v => some (.bl (f v)))]
      · rw [fm_map]
      · intro v hv
        simp [compF, asg, wipeE, ev, evs, hf v hv]
    have hb2 := bls_map' (mh := mh) vs f
    have hall : (vs.map f).all id = vs.all f := by simp
    rw [decide_eq_true h, Bool.true_and]
    generalize vs.map (fun x => MV.bl (f x)) = L at *
    simp [d_is_system, exs, ex, ev, evs, isTy, biV, one1, lenV, cmpV, ordV, h', ↓hcomp, hb2]
  · have h' : (20 : Int) < (vs.length : Int) := by omega
    rw [decide_eq_false h, Bool.false_and]
    simp [d_is_system, exs, ex, ev, evs, isTy, biV, one1, lenV, cmpV, ordV, h']
theorem sp_issys_lst (k : Nat) (vs : List MV) : callM T (k + 1) 16 [.lst vs, .tup ps] mh = some (.bl false, mh) := by
  rw [callM_eq (d := d_is_system) rfl]
  refine run_of' rfl rfl (ρ := [some (.lst vs), some (.tup ps), none]) (fl := .rt (.bl false)) ?_ rfl rfl rfl
  simp [d_is_system, exs, ex, ev, isTy]
theorem sp_isrule_no (k : Nat) {v : MV} (hd : dat v = true) (h : ∀ a b, v ≠ .tup [a, b]) : callM T (k + 1) 15 [v, .tup ps] mh = some (.bl false, mh) := by
  rw [callM_eq (d := d_is_rule) rfl]
  refine run_of' rfl rfl (ρ := [some v, some (.tup ps), none, none, none]) (fl := .rt (.bl false)) ?_ rfl rfl rfl
  cases v with
  | tup xs =>
    have hl : ¬ ((xs.length : Int) = 2) := fun e => by
      match xs, e with
      | [a, b], _ => exact h a b rfl
      | [], e => simp at e
      | [a], e => simp at e
      | a :: b :: c :: r, e => simp at e; omega
    have l2 : eqV mh (.int (xs.length : Int)) (.int 2) = some false := by rw [eqV_int]; simp [hl]
    simp [d_is_rule, exs, ex, ev, evs, isTy, biV, one1, lenV, cmpV, l2]
  | fn _ => cases hd
  | loc _ => cases hd
  | dct _ _ => cases hd
  | scr _ => cases hd
  | _ => simp [d_is_rule, exs, ex, ev, evs, isTy]
end
end L2.Mi.k08

set_option Elab.async false
set_option linter.all false
set_option maxRecDepth 100000
set_option maxHeartbeats 4000000
namespace L2.Mi.k08
open PySem PySem.Spec PyProof.Rows L2.Mi
abbrev RL0 : MS := (.set (.nm 2) (.call 27 [(.var 0), (.var 1), (.lst [(.c (.str [88])), (.c (.str [89]))]), (.c (.int (3)))]))
abbrev RL1 : MS := (.ite (.isi (.var 2) .str) [(.set (.nm 2) (.call 25 [(.var 0), (.comp (.nm 4) [4] (.var 1) (.c (.bl true)) (.bin .add (.tup [(.sub (.var 4) (.c (.int (0))))]) (.slcH (.tup [(.c (.str [88])), (.c (.str [89])), (.c (.str [88]))]) (.sub (.var 4) (.c (.int (1)))))))]))] [])
abbrev RL2 : MS := (.set (.nm 3) (.call 29 [(.var 2)]))
abbrev RL3 : MS := (.ret (.tup [(.var 2), (.call 27 [(.var 0), (.var 1), (.var 3), (.call 25 [(.var 0), (.lst [(.c (.int (1))), (.c (.int (2))), (.c (.int (3)))])])])]))
theorem RL_eq : d_l_rule.body = [RL0, RL1, RL2, RL3] := rfl
abbrev RW0 : MS := (.par 4 5 (.tup []) (.var 2))
abbrev RW1_0 : MS := (.set (.nm 6) (.call 35 [(.var 1), (.var 5)]))
abbrev RW1_1 : MS := (.ite (.cmp .gt (.bi .len [(.var 6)]) (.c (.int (0)))) [(.set (.nm 4) (.bin .add (.var 4) (.tup [(.call 25 [(.var 0), (.var 6)])]))), (.set (.nm 5) (.call 34 [(.var 1), (.var 5), (.sub (.var 4) (.neg (.c (.int (1)))))]))] [])
abbrev RW1B : List MS := [RW1_0, RW1_1]
abbrev RW1 : MS := (.for (.nm 3) (.rng1 (.call 24 [(.var 0), (.c (.int (5)))])) RW1B)
abbrev RW2 : MS := (.ret (.tup [(.var 4), (.var 5)]))
theorem RW_eq : d_l_rows.body = [RW0, RW1, RW2] := rfl
/-- a rule as the law draws one -/
structure RuleD (ps : List MV) (a b : MV) : Prop where
  la : Bd (arOf ps) 13 3 a
  lb : Bd (arOf ps) 13 3 b
  ga : good ps a = true
  gb : good ps b = true
  na : isS a = false
  sub : ∀ v ∈ vars b, v ∈ vars a
  xy : ∀ v ∈ vars a, v = .str [88] ∨ v = .str [89]
def XYX : List MV := [.str [88], .str [89], .str [88]]
def rowG (p : MV) : MV := match p with
  | .tup [.str s, .int i] => .tup (.str s :: XYX.take i.toNat)
  | _ => .non
theorem xyx_good {ps : List MV} {v : MV} (h : v ∈ XYX) : tmA (arOf ps) v = true ∧ good ps v = true ∧ cnt v = 1 ∧ dep v = 0 ∧ dat v = true ∧ ∀ x ∈ vars v, x ∈ ([.str [88], .str [89]] : List MV) := by
  simp only [XYX, List.mem_cons, List.not_mem_nil, or_false] at h
  rcases h with rfl | rfl | rfl <;> exact ⟨by simp [tmA], by simp only [good]; decide, rfl, rfl, by decide, fun x hx => by simp only [vars, List.mem_singleton] at hx; subst hx; simp⟩
theorem rowG_ok {ps : List MV} (hps : ps ∈ tongues) {p : MV} (hp : p ∈ ps) : Dr ps [.str [88], .str [89]] 13 3 (rowG p) ∧ isS (rowG p) = false := by
  have hT := tokP_of hps
  obtain ⟨s, i, rfl, hi, hds⟩ := (tokG_of hps).each p hp
  have hlen : (XYX.take i).length = i := by simp [XYX]; omega
  have hm : ∀ y ∈ XYX.take i, y ∈ XYX := fun y hy => List.mem_of_mem_take hy
  have e : rowG (pr s i) = .tup (.str s :: XYX.take i) := by simp [rowG, pr]
  rw [e]
  refine ⟨⟨⟨tmA_tup (by rw [(hT.ar hp).1, hlen]) fun y hy => (xyx_good (hm y hy)).1, ?_, ?_, ?_⟩, good_tup hT hp hlen fun y hy => (xyx_good (hm y hy)).2.1, vars_sub fun y hy => (xyx_good (ps := ps) (hm y hy)).2.2.2.2.2⟩, rfl⟩
  · rw [dat]
    exact dats_iff.mpr fun y hy => by
      rcases List.mem_cons.mp hy with rfl | hy
      · exact hds
      · exact (xyx_good (ps := ps) (hm y hy)).2.2.2.2.1
  · have := cnts_le (b := 1) (xs := XYX.take i) fun y hy => by rw [(xyx_good (ps := ps) (hm y hy)).2.2.1]; exact Nat.le_refl _
    simp only [cnt, cntT]
    omega
  · have : deps (XYX.take i) ≤ 0 := deps_leq fun y hy => by rw [(xyx_good (ps := ps) (hm y hy)).2.2.2.1]; exact Nat.le_refl _
    simp only [dep, deps]
    omega
section
variable {l n : Nat} {mh : MHp} {ps : List MV}
theorem sp_lrule (hps : ps ∈ tongues) (k : Nat) (S : St l n mh) : ∃ a b mh', callM T (k + 21) 37 [.loc l, .tup ps] mh = some (.tup [a, b], mh') ∧ St l n mh' ∧ RuleD ps a b := by
  have z2 : 2 ≤ line := by unfold line; omega
  have z1 : 1 ≤ line := by unfold line; omega
  have z3 : 3 ≤ line := by unfold line; omega
  obtain ⟨t, mh1, e1, S1, d1⟩ := draw hps (nl := [.str [88], .str [89]]) (by simp) (by decide) (fun x hx => by simp at hx; rcases hx with rfl | rfl <;> exact ⟨_, rfl, by decide⟩) 2 (k + 15) S
  simp only [show k + 15 + 2 + 3 = k + 20 by omega] at e1
  have e1 : callM T (k + 20) 27 [.loc l, .tup ps, .lst [.str [88], .str [89]], .int 3] mh = _ := e1
  have r0 : ex (callM T (k + 20)) mh.length RL0 [some (.loc l), some (.tup ps), none, none, none] mh = some (.nx, [some (.loc l), some (.tup ps), some t, none, none], mh1) := by
    simp [RL0, ex, ev, evs, z2, e1, asg]
  have r1 : ∃ a mh2, ex (callM T (k + 20)) mh.length RL1 [some (.loc l), some (.tup ps), some t, none, none] mh1 = some (.nx, [some (.loc l), some (.tup ps), some a, none, none], mh2) ∧ St l n mh2 ∧ Dr ps [.str [88], .str [89]] 13 3 a ∧ isS a = false := by
    have ty := isTy_str (mh := mh1) d1.bd.dat
    cases hs : isS t with
    | false =>
      rw [hs] at ty
      exact ⟨t, mh1, by simp [RL1, ex, exs, ev, ty], S1, d1, hs⟩
    | true =>
      rw [hs] at ty
      have hrow := tokG_of hps
      have hcomp : ev (callM T (k + 20)) mh.length (.comp (.nm 4) [4] (.var 1) (.c (.bl true)) (.bin .add (.tup [(.sub (.var 4) (.c (.int (0))))]) (.slcH (.tup [(.c (.str [88])), (.c (.str [89])), (.c (.str [88]))]) (.sub (.var 4) (.c (.int (1))))))) [some (.loc l), some (.tup ps), some t, none, none] mh1 = some (.lst (ps.map rowG), mh1) := by
        have ei : evI (callM T (k + 20)) mh.length (.var 1) [some (.loc l), some (.tup ps), some t, none, none] mh1 = some (⟨ps, none⟩, mh1) := by simp [evI, ev, itsOf]
        have hz : ps.length ≤ line := by have := hrow.l4; unfold line; omega
        rw [ev_compq, ei]
        simp only [hz, if_true]
        rw [compGo_pure rfl (g := fun v => some (rowG v))]
        · rw [fm_map]
        · intro v hv
          obtain ⟨s, i, rfl, hi, hds⟩ := hrow.each v hv
          have hc : cut XYX none (some (i : Int)) = XYX.take i := cut_take
          have hlen : (XYX.take i).length ≤ 3 := by simp [XYX]; omega
          have hz4 : 1 + (XYX.take i).length ≤ line := by unfold line; omega
          have hg : rowG (pr s i) = .tup (.str s :: XYX.take i) := by simp [rowG, pr]
          rw [hg]
          unfold XYX at hc hz4 ⊢
          generalize ([.str [88], .str [89], .str [88]] : List MV).take i = TK at *
          have w0 : subV mh1 (pr s i) (.int 0) = some (.str s) := rfl
          have w1 : subV mh1 (pr s i) (.int 1) = some (.int i) := rfl
          generalize pr s i = PR at *
          simp [compF, asg, wipeE, ev, evs, w0, w1, z1, z3, slcV, hc, binV, addV, hz4]
      have hne : ps.map rowG ≠ [] := by
        have := hrow.l2
        intro z
        rw [List.map_eq_nil_iff] at z
        rw [z] at this
        simp at this
      have hdd : dats (ps.map rowG) = true := dats_iff.mpr fun x hx => by
        obtain ⟨p, hp, rfl⟩ := List.mem_map.mp hx
        exact (rowG_ok hps hp).1.bd.dat
      obtain ⟨y, mh2, hy, e2, S2⟩ := pick_ok hTake hPick (k + 18) S1 (ps.map rowG) hne (by rw [List.length_map]; have := hrow.l4; omega) hdd
      obtain ⟨p, hp, rfl⟩ := List.mem_map.mp hy
      obtain ⟨q1, q2⟩ := rowG_ok hps hp
      have e2 : callM T (k + 20) 25 [.loc l, .lst (ps.map rowG)] mh1 = some (rowG p, mh2) := e2
      refine ⟨rowG p, mh2, ?_, S2, q1, q2⟩
      generalize ps.map rowG = RG at *
      generalize rowG p = RP at *
      simp [RL1, ex, exs, ev, evs, ty, ↓hcomp, e2, asg]
  obtain ⟨a, mh2, r1, S2, da, hs⟩ := r1
  have hta := good_tm a da.good
  obtain ⟨aa, la⟩ := vars_all a hta da.bd.dat
  have hca := da.bd.cnt
  have en : callM T (k + 20) 29 [a] mh2 = some (.lst (vars a), mh2) := sp_names 13 (k + 7) a mh2 hca (by omega) hta da.bd.dat
  have r2 : ex (callM T (k + 20)) mh.length RL2 [some (.loc l), some (.tup ps), some a, none, none] mh2 = some (.nx, [some (.loc l), some (.tup ps), some a, some (.lst (vars a)), none], mh2) := by
    simp [RL2, ex, ev, evs, en, asg]
  obtain ⟨y, mh3, hy, e3, S3⟩ := pick_ok hTake hPick (k + 18) S2 [.int 1, .int 2, .int 3] (by simp) (by simp) (by decide)
  have e3 : callM T (k + 20) 25 [.loc l, .lst [.int 1, .int 2, .int 3]] mh2 = some (y, mh3) := e3
  obtain ⟨m, hm, rfl⟩ : ∃ m : Nat, m ≤ 2 ∧ y = .int ((m + 1 : Nat) : Int) := by
    simp at hy
    rcases hy with rfl | rfl | rfl
    · exact ⟨0, by omega, rfl⟩
    · exact ⟨1, by omega, rfl⟩
    · exact ⟨2, by omega, rfl⟩
  obtain ⟨b, mh4, e4, S4, db⟩ := draw hps (nl := vars a) (by omega) aa.dats (vars_upper 30 a (by have := da.bd.dep; omega) hta da.bd.dat da.good) m (k + 17 - m) S3
  rw [show k + 17 - m + m + 3 = k + 20 by omega] at e4
  have hb : bnd m ≤ 13 := by
    match m, hm with
    | 0, _ => simp [bnd]
    | 1, _ => simp [bnd]
    | 2, _ => simp [bnd]
  have db := db.up (c' := 13) (e' := 3) hb (by omega)
  refine ⟨a, b, mh4, ?_, S4, ⟨da.bd, db.bd, da.good, db.good, hs, db.sub, fun v hv => by have := da.sub v hv; simpa using this⟩⟩
  rw [callM_eq (d := d_l_rule) rfl]
  have hdab : dat (.tup [a, b]) = true := by rw [dat, dats, dats, dats, da.bd.dat, db.bd.dat]; rfl
  refine run_of' rfl rfl (ρ := [some (.loc l), some (.tup ps), some a, some (.lst (vars a)), none]) (fl := .rt (.tup [a, b])) ?_ rfl hdab (by rw [S4.1, S.1])
  rw [RL_eq]
  refine ex_go r0 (ex_go r1 (ex_go r2 ?_))
  generalize ((m + 1 : Nat) : Int) = M at *
  generalize vars a = VA at *
  simp [RL3, exs, ex, ev, evs, z2, z3, e3, e4]
theorem behF_snoc {sys : List (MV × MV)} : ∀ (vs : List MV) (t : MV) (v u : MV), behF sys t vs = some u → behF sys t (vs ++ [v]) = stepW sys u v
  | [], t, v, u, h => by
    simp only [behF] at h
    cases h
    simp only [List.nil_append, behF]
    cases stepW sys t v <;> rfl
  | w :: vs, t, v, u, h => by
    simp only [behF, List.cons_append] at h ⊢
    cases z : stepW sys t w with
    | none => rw [z] at h; cases h
    | some x =>
      rw [z] at h
      exact behF_snoc vs x v u h
theorem mem_steps {sys : List (MV × MV)} {t : MV} {s : Stp} (h : s ∈ stepsF sys t) : s.1 < sys.length ∧ s.2 ∈ pls t ∧ ∃ u, stepF sys t s.1 s.2 = some u := by
  unfold stepsF stepsQ at h
  obtain ⟨q, hq, h⟩ := List.mem_flatMap.mp h
  split at h
  · simp at h
  · unfold hereF at h
    obtain ⟨k, hk, rfl⟩ := List.mem_map.mp h
    obtain ⟨h1, h2⟩ := List.mem_filter.mp hk
    exact ⟨List.mem_range.mp h1, hq, Option.isSome_iff_exists.mp h2⟩
theorem idx_last {α : Type} {xs : List α} {x : α} : idx (xs ++ [x]) (-1) = some x := by
  have e : (-1 + ((xs.length : Int) + 1)).toNat = xs.length := by omega
  unfold idx L2.atI L2.ixN
  simp
  rw [if_pos (by omega), Option.bind_some, e]
  simp
theorem rw_loop {ar : Sx → Option Nat} {sys : List (MV × MV)} (hs : Sys ar sys) {t : MV} {k b : Nat} {J : Its} (hJ : J.src = none) : ∀ (xs : List MV) (R : List Stp) (u : MV) (mh : MHp) (o3 o6 : Option MV), St l n mh → R.length + xs.length ≤ 4 → behF sys t (R.map sV) = some u → Bd ar (40 * 14 ^ R.length) (4 + 3 * R.length) u →
    ∃ (R' : List Stp) (u' : MV) (mh' : MHp) (o3' o6' : Option MV), forGo J (forF (callM T (k + 35)) b (.nm 3) RW1B) xs [some (.loc l), some (sysV sys), some t, o3, some (.tup (R.map sV)), some u, o6] mh = some (.nx, [some (.loc l), some (sysV sys), some t, o3', some (.tup (R'.map sV)), some u', o6'], mh') ∧ St l n mh' ∧ R'.length ≤ 4 ∧ behF sys t (R'.map sV) = some u' ∧ Bd ar (40 * 14 ^ R'.length) (4 + 3 * R'.length) u'
  | [], R, u, mh, o3, o6, S, hl, hb, hu => ⟨R, u, mh, o3, o6, forGo_nil_of hJ, S, by simpa using hl, hb, hu⟩
  | x :: xs, R, u, mh, o3, o6, S, hl, hb, hu => by
    simp only [List.length_cons] at hl
    have hp : 14 ^ R.length ≤ 14 ^ 3 := Nat.pow_le_pow_right (by omega) (by omega)
    have hN : 40 * 14 ^ R.length ≤ 109760 := by
      have : 40 * 14 ^ R.length ≤ 40 * 14 ^ 3 := Nat.mul_le_mul_left _ hp
      omega
    have es : callM T (k + 35) 35 [sysV sys, u] mh = some (.lst ((stepsF sys u).map sV), mh) := sp_lsteps hs hu (by omega) (by omega) k mh
    have s0 : ex (callM T (k + 35)) b RW1_0 [some (.loc l), some (sysV sys), some t, some x, some (.tup (R.map sV)), some u, o6] mh = some (.nx, [some (.loc l), some (sysV sys), some t, some x, some (.tup (R.map sV)), some u, some (.lst ((stepsF sys u).map sV))], mh) := by
      generalize (stepsF sys u).map sV = L at *
      generalize sysV sys = SV at *
      simp [RW1_0, ex, ev, evs, es, asg]
    have a0 : asg mh (.nm 3) x [some (.loc l), some (sysV sys), some t, o3, some (.tup (R.map sV)), some u, o6] = some [some (.loc l), some (sysV sys), some t, some x, some (.tup (R.map sV)), some u, o6] := by simp [asg]
    rw [forGo_cons_of hJ]
    by_cases h0 : stepsF sys u = []
    · have st : forF (callM T (k + 35)) b (.nm 3) RW1B x [some (.loc l), some (sysV sys), some t, o3, some (.tup (R.map sV)), some u, o6] mh = some (.nx, [some (.loc l), some (sysV sys), some t, some x, some (.tup (R.map sV)), some u, some (.lst ((stepsF sys u).map sV))], mh) := by
        unfold forF
        rw [a0]
        refine ex_go s0 ?_
        rw [h0]
        generalize sysV sys = SV at *
        simp [RW1_1, exs, ex, ev, evs, biV, one1, lenV, getL, cmpV, ordV]
      rw [st]
      exact rw_loop hs hJ xs R u mh _ _ S (by omega) hb hu
    · have hlen := stepsQ_len (sys := sys) (t := u) (pls u)
      rw [pls_len] at hlen
      have hsl := hs.len
      have hcu := hu.cnt
      have hlen2 : (stepsF sys u).length ≤ 5 * 109760 := Nat.le_trans hlen (Nat.mul_le_mul hsl (by omega))
      obtain ⟨y, mh1, hy, e2, S1⟩ := pick_ok hTake hPick (k + 33) S ((stepsF sys u).map sV) (by simpa using h0) (by rw [List.length_map]; omega) (sV_dats _)
      have e2 : callM T (k + 35) 25 [.loc l, .lst ((stepsF sys u).map sV)] mh = some (y, mh1) := e2
      obtain ⟨s, hs1, rfl⟩ := List.mem_map.mp hy
      obtain ⟨h1, h2, w, h3⟩ := mem_steps hs1
      have et : callM T (k + 35) 34 [sysV sys, u, sV s] mh1 = some (optV (stepF sys u s.1 s.2), mh1) := sp_lstep hs hu (by omega) (by omega) h1 h2 (k + 1) mh1
      rw [h3] at et
      have et : callM T (k + 35) 34 [sysV sys, u, sV s] mh1 = some (w, mh1) := et
      have hpos : 0 < ((stepsF sys u).map sV).length := by rw [List.length_map]; exact List.length_pos_iff.mpr h0
      have z1 : 1 ≤ line := by unfold line; omega
      have z5 : (R.map sV).length + 1 ≤ line := by rw [List.length_map]; unfold line; omega
      have il : idx (R.map sV ++ [sV s]) (-1) = some (sV s) := idx_last
      have st : forF (callM T (k + 35)) b (.nm 3) RW1B x [some (.loc l), some (sysV sys), some t, o3, some (.tup (R.map sV)), some u, o6] mh = some (.nx, [some (.loc l), some (sysV sys), some t, some x, some (.tup ((R ++ [s]).map sV)), some w, some (.lst ((stepsF sys u).map sV))], mh1) := by
        unfold forF
        rw [a0]
        refine ex_go s0 ?_
        rw [List.map_append, List.map_cons, List.map_nil]
        generalize (stepsF sys u).map sV = L at *
        generalize R.map sV = RM at *
        generalize sysV sys = SV at *
        generalize sV s = SS at *
        simp [RW1_1, exs, ex, ev, evs, biV, one1, lenV, getL, cmpV, ordV, hpos, e2, z1, binV, addV, z5, asg, subV, il, et]
      rw [st]
      have hb' : behF sys t ((R ++ [s]).map sV) = some w := by
        rw [List.map_append, List.map_cons, List.map_nil, behF_snoc _ _ _ _ hb, stepW_ok h1 h2, h3]
      have hw := stepF_ok hs hu (by omega) (by omega) h2 h3
      have hl1 : (R ++ [s]).length = R.length + 1 := by simp
      exact rw_loop hs hJ xs (R ++ [s]) w mh1 _ _ S1 (by omega) hb' (hw.up (by rw [hl1, Nat.pow_succ]; omega) (by omega))
theorem sp_lrows {ar : Sx → Option Nat} {sys : List (MV × MV)} (hs : Sys ar sys) {t : MV} (ht : Bd ar 40 4 t) (k : Nat) (S : St l n mh) : ∃ (R : List Stp) (u : MV) (mh' : MHp), callM T (k + 36) 38 [.loc l, sysV sys, t] mh = some (.tup [.tup (R.map sV), u], mh') ∧ St l n mh' ∧ R.length ≤ 4 ∧ behF sys t (R.map sV) = some u ∧ Bd ar (40 * 14 ^ R.length) (4 + 3 * R.length) u := by
  obtain ⟨r, mh1, e1, S1, r0, r1, _⟩ := take_ok hTake (k + 34) S 5 (by omega)
  have e1 : callM T (k + 35) 24 [.loc l, .int 5] mh = _ := e1
  have r1 := r1 (by omega)
  obtain ⟨R, u, mh2, o3, o6, e2, S2, hR, hb, hu⟩ := rw_loop (l := l) (n := n) hs (t := t) (k := k) (b := mh.length) (J := ⟨(List.range r.toNat).map fun (k : Nat) => MV.int (k : Int), none⟩) rfl ((List.range r.toNat).map fun (k : Nat) => MV.int (k : Int)) [] t mh1 none none S1 (by rw [List.length_map, List.length_range]; simp; omega) rfl (by simpa using ht)
  have z0 : 0 ≤ line := by unfold line; omega
  have z2 : 2 ≤ line := by unfold line; omega
  have s0 : ex (callM T (k + 35)) mh.length RW0 [some (.loc l), some (sysV sys), some t, none, none, none, none] mh = some (.nx, [some (.loc l), some (sysV sys), some t, none, some (.tup (([] : List Stp).map sV)), some t, none], mh) := by
    generalize sysV sys = SV at *
    simp [RW0, ex, ev, evs, z0]
  have ei : evI (callM T (k + 35)) mh.length (.rng1 (.call 24 [(.var 0), (.c (.int (5)))])) [some (.loc l), some (sysV sys), some t, none, some (.tup (([] : List Stp).map sV)), some t, none] mh = some (⟨(List.range r.toNat).map fun (k : Nat) => MV.int (k : Int), none⟩, mh1) := by
    have b2 : r < 4611686018427387904 := by omega
    have b3 : (-4611686018427387904 : Int) ≤ r := by omega
    generalize sysV sys = SV at *
    simp [evI, ev, evs, e1, b2, b3]
  have hdu : dat (.tup [.tup (R.map sV), u]) = true := by
    have : dat (.tup (R.map sV)) = true := by rw [dat]; exact sV_dats R
    rw [dat, dats, dats, dats, this, hu.dat]; rfl
  refine ⟨R, u, mh2, ?_, S2, hR, hb, hu⟩
  rw [callM_eq (d := d_l_rows) rfl]
  refine run_of' rfl rfl (ρ := [some (.loc l), some (sysV sys), some t, o3, some (.tup (R.map sV)), some u, o6]) (fl := .rt (.tup [.tup (R.map sV), u])) ?_ rfl hdu (by rw [S2.1, S.1])
  rw [RW_eq]
  refine ex_go s0 ?_
  have s1 : ex (callM T (k + 35)) mh.length RW1 [some (.loc l), some (sysV sys), some t, none, some (.tup (([] : List Stp).map sV)), some t, none] mh = some (.nx, [some (.loc l), some (sysV sys), some t, o3, some (.tup (R.map sV)), some u, o6], mh2) := by
    rw [RW1, ex_for, ei]
    exact e2
  refine ex_go s1 ?_
  generalize R.map sV = RM at *
  generalize sysV sys = SV at *
  simp [RW2, exs, ex, ev, evs, z2]
end
end L2.Mi.k08

set_option Elab.async false
set_option linter.all false
set_option maxRecDepth 100000
set_option maxHeartbeats 4000000
namespace L2.Mi.k08
open PySem PySem.Spec PyProof.Rows L2.Mi
noncomputable abbrev CC : CallF := callM T 140
abbrev LW0 : MS := (.set (.nm 1) (.call 23 [(.var 0)]))
abbrev LW1 : MS := (.set (.nm 2) (.call 26 [(.var 1)]))
abbrev LW2 : MS := (.set (.nm 3) (.bi .tuple [(.comp (.nm 17) [17] (.rng1 (.call 24 [(.var 1), (.c (.int (6)))])) (.c (.bl true)) (.call 37 [(.var 1), (.var 2)]))]))
abbrev LW3 : MS := (.ite (.or (.cmp .isn (.call 16 [(.var 3), (.var 2)]) (.c (.bl true))) (.or (.cmp .isn (.call 16 [(.bi .list [(.var 3)]), (.var 2)]) (.c (.bl false))) (.cmp .ne (.c (.int (20))) (.c (.int (20)))))) [(.ret (.c (.bl false)))] [])
abbrev LW4 : MS := (.set (.tp [(.nm 6), (.nm 7)]) (.call 37 [(.var 1), (.var 2)]))
abbrev LW5_0 : MS := (.set (.nm 8) (.and (.isi (.var 4) .tuple) (.and (.cmp .eq (.bi .len [(.var 4)]) (.c (.int (2)))) (.and (.cmp .mem (.var 4) (.lst [(.tup [(.var 6), (.var 7)]), (.tup [(.var 7), (.var 6)])])) (.not (.isi (.sub (.var 4) (.c (.int (0)))) .str))))))
abbrev LW5_1 : MS := (.set (.nm 8) (.and (.var 8) (.cmp .eq (.bi .len [(.comp (.nm 20) [20] (.call 29 [(.sub (.var 4) (.c (.int (1))))]) (.cmp .nmem (.var 20) (.call 29 [(.sub (.var 4) (.c (.int (0))))])) (.var 20))]) (.c (.int (0))))))
abbrev LW5_2 : MS := (.ite (.or (.cmp .ne (.call 15 [(.var 4), (.var 2)]) (.var 8)) (.cmp .ne (.call 16 [(.tup [(.var 4)]), (.var 2)]) (.var 8))) [(.ret (.c (.bl false)))] [])
abbrev LW5B : List MS := [LW5_0, LW5_1, LW5_2]
abbrev LW5 : MS := (.for (.nm 4) (.lst [(.tup [(.var 6), (.var 7)]), (.lst [(.var 6), (.var 7)]), (.tup [(.var 6)]), (.tup [(.c (.str [88])), (.var 7)]), (.tup [(.var 6), (.tup [(.c (.str [102])), (.c (.str [81]))])]), (.tup [(.var 6), (.c (.str [81]))]), (.tup [(.var 6), (.tup [(.c (.str [122, 122, 122]))])]), (.c .non), (.tup [(.var 7), (.var 6)])]) LW5B)
abbrev LW6 : MS := (.ite (.or (.cmp .isn (.call 16 [(.bin .mul (.tup [(.tup [(.var 6), (.var 7)])]) (.c (.int (20)))), (.var 2)]) (.c (.bl true))) (.cmp .isn (.call 16 [(.bin .mul (.tup [(.tup [(.var 6), (.var 7)])]) (.c (.int (21)))), (.var 2)]) (.c (.bl false)))) [(.ret (.c (.bl false)))] [])
abbrev LW7_0 : MS := (.set (.nm 9) (.call 27 [(.var 1), (.var 2), (.lst [(.c (.str [88])), (.c (.str [90]))]), (.c (.int (4)))]))
abbrev LW7_1 : MS := (.set (.nm 10) (.call 35 [(.var 3), (.var 9)]))
abbrev LW7_2 : MS := (.ite (.or (.cmp .ne (.call 20 [(.var 3), (.var 9)]) (.var 10)) (.cmp .ne (.call 21 [(.var 3), (.var 9)]) (.cmp .eq (.bi .len [(.var 10)]) (.c (.int (0)))))) [(.ret (.c (.bl false)))] [])
abbrev LW7_3_0 : MS := (.ite (.cmp .ne (.call 18 [(.var 3), (.var 9), (.var 11)]) (.call 34 [(.var 3), (.var 9), (.var 11)])) [(.ret (.c (.bl false)))] [])
abbrev LW7_3B : List MS := [LW7_3_0]
abbrev LW7_3 : MS := (.for (.nm 11) (.var 10) LW7_3B)
abbrev LW7_4 : MS := (.set (.nm 12) (.comp (.nm 18) [18] (.call 30 [(.var 9)]) (.c (.bl true)) (.call 31 [(.var 9), (.var 18)])))
abbrev LW7_5 : MS := (.set (.nm 13) (.comp (.nm 19) [19] (.var 12) (.isi (.var 19) .str) (.var 19)))
abbrev LW7_6 : MS := (.ite (.cmp .ne (.call 17 [(.var 9)]) (.cmp .eq (.bi .len [(.comp (.nm 17) [17] (.rng1 (.bi .len [(.var 13)])) (.cmp .mem (.sub (.var 13) (.var 17)) (.slcH (.var 13) (.var 17))) (.var 17))]) (.c (.int (0))))) [(.ret (.c (.bl false)))] [])
abbrev LW7_7 : MS := (.set (.tp [(.nm 15), (.nm 16)]) (.call 38 [(.var 1), (.var 3), (.var 9)]))
abbrev LW7_8 : MS := (.ite (.cmp .ne (.call 22 [(.var 3), (.var 9), (.var 15)]) (.var 16)) [(.ret (.c (.bl false)))] [])
abbrev LW7_9 : MS := (.set (.nm 14) (.call 25 [(.var 1), (.lst [(.tup [(.c (.int (0))), (.tup [])]), (.tup [(.c (.int (5))), (.tup [])]), (.tup [(.c (.int (0))), (.tup [(.c (.int (1)))])]), (.tup [(.c (.int (0))), (.tup [(.c (.int (9)))])]), (.tup [(.c (.bl true)), (.tup [])]), (.tup [(.c (.int (0))), (.lst [(.c (.int (1)))])]), (.c .non), (.tup [(.c (.int (0)))]), (.tup [(.c (.int (0))), (.tup []), (.c (.int (1)))]), (.tup [(.neg (.c (.int (1)))), (.tup [])])])]))
abbrev LW7_10_0 : MS := (.ite (.cmp .ne (.call 22 [(.var 3), (.var 9), (.var 4)]) (.call 36 [(.var 3), (.var 9), (.var 4)])) [(.ret (.c (.bl false)))] [])
abbrev LW7_10B : List MS := [LW7_10_0]
abbrev LW7_10 : MS := (.for (.nm 4) (.lst [(.rev (.var 15)), (.slcL (.var 15) (.c (.int (1)))), (.bin .add (.var 15) (.tup [(.var 14)])), (.bi .list [(.var 15)]), (.c .non), (.tup [(.var 14)])]) LW7_10B)
abbrev LW7_11 : MS := (.ite (.cmp .ne (.call 19 [(.var 14), (.var 3), (.var 9)]) (.cmp .isn (.call 36 [(.var 3), (.var 9), (.tup [(.var 14)])]) (.c .non))) [(.ret (.c (.bl false)))] [])
abbrev LW7B : List MS := [LW7_0, LW7_1, LW7_2, LW7_3, LW7_4, LW7_5, LW7_6, LW7_7, LW7_8, LW7_9, LW7_10, LW7_11]
abbrev LW7 : MS := (.for (.nm 5) (.rng1 (.c (.int (3)))) LW7B)
abbrev LW8 : MS := (.ret (.c (.bl true)))
theorem LW_eq : d_law.body = [LW0, LW1, LW2, LW3, LW4, LW5, LW6, LW7, LW8] := rfl
abbrev LE (sc : Option MV) (l : Nat) (o2 o3 o4 o5 o6 o7 o8 o9 o10 o11 o12 o13 o14 o15 o16 : Option MV) : Env := [sc, some (.loc l), o2, o3, o4, o5, o6, o7, o8, o9, o10, o11, o12, o13, o14, o15, o16, none, none, none, none]
def rulF (ps : List MV) (v : MV) : Bool := match v with
  | .tup [a, b] => ruleB ps a b
  | _ => false
theorem ruleD_true {ps : List MV} {a b : MV} (h : RuleD ps a b) : ruleB ps a b = true := by
  have h1 : termB ps a = true := by unfold termB; rw [h.ga, decide_eq_true (by have := h.la.cnt; omega)]; rfl
  have h2 : termB ps b = true := by unfold termB; rw [h.gb, decide_eq_true (by have := h.lb.cnt; omega)]; rfl
  have h3 : (vars b).all (hasV (vars a)) = true := List.all_eq_true.mpr fun v hv => hasV_mem (h.sub v hv) (by
    obtain ⟨s, rfl, hd⟩ := (vars_all b (good_tm b h.gb) h.lb.dat).1 v hv
    exact hd)
  unfold ruleB
  rw [h1, h2, h.na, h3]
  rfl
theorem rules_of {ps : List MV} : ∀ {ys : List MV}, (∀ y ∈ ys, ∃ a b, y = .tup [a, b] ∧ RuleD ps a b) → ∃ sys : List (MV × MV), ys = sys.map rlV ∧ (∀ r ∈ sys, RuleD ps r.1 r.2) ∧ sys.length = ys.length
  | [], _ => ⟨[], rfl, fun r h => by simp at h, rfl⟩
  | y :: ys, h => by
    obtain ⟨a, b, rfl, h1⟩ := h y (by simp)
    obtain ⟨sys, rfl, h2, h3⟩ := rules_of fun z hz => h z (List.mem_cons_of_mem _ hz)
    refine ⟨(a, b) :: sys, rfl, fun r hr => ?_, by simp⟩
    rcases List.mem_cons.mp hr with rfl | hr
    · exact h1
    · exact h2 r hr
theorem isV_bl (a b : Bool) : isV (.bl a) (.bl b) = some (decide (a = b)) := rfl
section
variable {sc : Option MV} {l n : Nat} {o2 o3 o4 o5 o6 o7 o8 o9 o10 o11 o12 o13 o14 o15 o16 : Option MV} {mh : MHp} {ps : List MV}
theorem s1_ok (S : St l n mh) : ∃ ps mh', ps ∈ tongues ∧ ex CC 0 LW1 (LE sc l o2 o3 o4 o5 o6 o7 o8 o9 o10 o11 o12 o13 o14 o15 o16) mh = some (.nx, LE sc l (some (.tup ps)) o3 o4 o5 o6 o7 o8 o9 o10 o11 o12 o13 o14 o15 o16, mh') ∧ St l n mh' := by
  obtain ⟨ps, mh', hps, e, S'⟩ := tongue_ok hTake hPick hTongue 137 S
  refine ⟨ps, mh', hps, ?_, S'⟩
  have e : CC 26 [.loc l] mh = _ := e
  simp [LW1, ex, ev, evs, e, asg]
theorem s2_ok (hps : ps ∈ tongues) (S : St l n mh) : ∃ (sys : List (MV × MV)) (mh' : MHp), ex CC 0 LW2 (LE sc l (some (.tup ps)) o3 o4 o5 o6 o7 o8 o9 o10 o11 o12 o13 o14 o15 o16) mh = some (.nx, LE sc l (some (.tup ps)) (some (sysV sys)) o4 o5 o6 o7 o8 o9 o10 o11 o12 o13 o14 o15 o16, mh') ∧ St l n mh' ∧ sys.length ≤ 5 ∧ ∀ r ∈ sys, RuleD ps r.1 r.2 := by
  obtain ⟨r, mh1, e1, S1, r0, r1, _⟩ := take_ok hTake 139 S 6 (by omega)
  have e1 : CC 24 [.loc l, .int 6] mh = _ := e1
  have r1 := r1 (by omega)
  have ei : evI CC 0 (.rng1 (.call 24 [(.var 1), (.c (.int (6)))])) (LE sc l (some (.tup ps)) o3 o4 o5 o6 o7 o8 o9 o10 o11 o12 o13 o14 o15 o16) mh = some (⟨(List.range r.toNat).map fun (k : Nat) => MV.int (k : Int), none⟩, mh1) := by
    have b2 : r < 4611686018427387904 := by omega
    have b3 : (-4611686018427387904 : Int) ≤ r := by omega
    simp [evI, ev, evs, e1, b2, b3]
  have hz : ((List.range r.toNat).map fun (k : Nat) => MV.int (k : Int)).length ≤ line := by rw [List.length_map, List.length_range]; unfold line; omega
  obtain ⟨ys, mh2, e2, S2, hl, hy⟩ := compGo_st (J := ⟨(List.range r.toNat).map fun (k : Nat) => MV.int (k : Int), none⟩) rfl (f := compF CC 0 (.nm 17) [17] (.c (.bl true)) (.call 37 [(.var 1), (.var 2)]) (LE sc l (some (.tup ps)) o3 o4 o5 o6 o7 o8 o9 o10 o11 o12 o13 o14 o15 o16)) (P := St l n) (R := fun y => ∃ a b, y = .tup [a, b] ∧ RuleD ps a b) (xs := (List.range r.toNat).map fun (k : Nat) => MV.int (k : Int)) S1 (fun x _ m Sm => by
    obtain ⟨a, b, m', e3, S3, hr⟩ := sp_lrule hps 119 Sm
    have e3 : CC 37 [.loc l, .tup ps] m = _ := e3
    exact ⟨.tup [a, b], m', by simp [compF, asg, wipeE, ev, evs, e3], S3, a, b, rfl, hr⟩)
  obtain ⟨sys, rfl, h1, h2⟩ := rules_of hy
  refine ⟨sys, mh2, ?_, S2, ?_, h1⟩
  · have hcomp : ev CC 0 (.comp (.nm 17) [17] (.rng1 (.call 24 [(.var 1), (.c (.int (6)))])) (.c (.bl true)) (.call 37 [(.var 1), (.var 2)])) (LE sc l (some (.tup ps)) o3 o4 o5 o6 o7 o8 o9 o10 o11 o12 o13 o14 o15 o16) mh = some (.lst (sys.map rlV), mh2) := by
      rw [ev_compq, ei]
      simp only [hz, if_true]
      rw [e2]
    simp [LW2, ex, ev, evs, ↓hcomp, biV, one1, tupV, getL, asg]
  · rw [h2, hl, List.length_map, List.length_range]
    omega
theorem s3_ok (hps : ps ∈ tongues) {sys : List (MV × MV)} (hl : sys.length ≤ 5) (hr : ∀ r ∈ sys, RuleD ps r.1 r.2) : ex CC 0 LW3 (LE sc l (some (.tup ps)) (some (sysV sys)) o4 o5 o6 o7 o8 o9 o10 o11 o12 o13 o14 o15 o16) mh = some (.nx, LE sc l (some (.tup ps)) (some (sysV sys)) o4 o5 o6 o7 o8 o9 o10 o11 o12 o13 o14 o15 o16, mh) := by
  have h1 : CC 16 [sysV sys, .tup ps] mh = some (.bl true, mh) := by
    have := sp_issys (ps := ps) (mh := mh) (K := 139) (f := rulF ps) (vs := sys.map rlV) (fun v hv => by
      obtain ⟨r, hr', rfl⟩ := List.mem_map.mp hv
      have hd := hr r hr'
      exact sp_isrule hps hd.la.dat hd.lb.dat hd.la.cnt hd.lb.cnt 123) (by rw [List.length_map]; omega)
    refine this.trans ?_
    rw [List.length_map, decide_eq_true (by omega), Bool.true_and]
    have : (sys.map rlV).all (rulF ps) = true := List.all_eq_true.mpr fun v hv => by
      obtain ⟨r, hr', rfl⟩ := List.mem_map.mp hv
      exact ruleD_true (hr r hr')
    rw [this]
  have h2 : CC 16 [.lst (sys.map rlV), .tup ps] mh = some (.bl false, mh) := sp_issys_lst 139 _
  have h3 : lstV mh (sysV sys) = some (.lst (sys.map rlV)) := rfl
  have q20 : eqV mh (.int 20) (.int 20) = some true := by rw [eqV_int]; simp
  generalize sysV sys = SV at *
  generalize sys.map rlV = SM at *
  simp [LW3, exs, ex, ev, evs, h1, h2, h3, cmpV, isV_bl, biV, one1, q20]
theorem s4_ok (hps : ps ∈ tongues) (S : St l n mh) : ∃ a b mh', ex CC 0 LW4 (LE sc l (some (.tup ps)) o3 o4 o5 o6 o7 o8 o9 o10 o11 o12 o13 o14 o15 o16) mh = some (.nx, LE sc l (some (.tup ps)) o3 o4 o5 (some a) (some b) o8 o9 o10 o11 o12 o13 o14 o15 o16, mh') ∧ St l n mh' ∧ RuleD ps a b := by
  obtain ⟨a, b, m', e3, S3, hr⟩ := sp_lrule hps 119 S
  have e3 : CC 37 [.loc l, .tup ps] mh = _ := e3
  exact ⟨a, b, m', by simp [LW4, ex, ev, evs, e3, asg, asgs], S3, hr⟩
/-! the values -/
variable {lf rg : MV}
/-- one value goes through -/
def StepOk (sc : Option MV) (l : Nat) (ps : List MV) (lf rg : MV) (o3 o5 o9 o10 o11 o12 o13 o14 o15 o16 : Option MV) (mh : MHp) (v : MV) : Prop := ∀ o4 o8, ∃ o8', forF CC 0 (.nm 4) LW5B v (LE sc l (some (.tup ps)) o3 o4 o5 (some lf) (some rg) o8 o9 o10 o11 o12 o13 o14 o15 o16) mh = some (.nx, LE sc l (some (.tup ps)) o3 (some v) o5 (some lf) (some rg) o8' o9 o10 o11 o12 o13 o14 o15 o16, mh)
theorem v_loop {J : Its} (hJ : J.src = none) : ∀ (vs : List MV) (o4 o8 : Option MV), (∀ v ∈ vs, StepOk sc l ps lf rg o3 o5 o9 o10 o11 o12 o13 o14 o15 o16 mh v) → ∃ o4' o8', forGo J (forF CC 0 (.nm 4) LW5B) vs (LE sc l (some (.tup ps)) o3 o4 o5 (some lf) (some rg) o8 o9 o10 o11 o12 o13 o14 o15 o16) mh = some (.nx, LE sc l (some (.tup ps)) o3 o4' o5 (some lf) (some rg) o8' o9 o10 o11 o12 o13 o14 o15 o16, mh)
  | [], o4, o8, _ => ⟨o4, o8, forGo_nil_of hJ⟩
  | v :: vs, o4, o8, h => by
    obtain ⟨o8', e⟩ := h v (by simp) o4 o8
    rw [forGo_cons_of hJ, e]
    exact v_loop hJ vs _ _ fun w hw => h w (List.mem_cons_of_mem _ hw)
theorem v_no (hps : ps ∈ tongues) {v : MV} (hd : dat v = true) (h : ∀ a b, v ≠ .tup [a, b]) : StepOk sc l ps lf rg o3 o5 o9 o10 o11 o12 o13 o14 o15 o16 mh v := fun o4 o8 => by
  have h1 : CC 15 [v, .tup ps] mh = some (.bl false, mh) := sp_isrule_no 139 hd h
  have h2 : CC 16 [.tup [v], .tup ps] mh = some (.bl false, mh) := by
    have := sp_issys (ps := ps) (mh := mh) (K := 139) (f := fun _ => false) (vs := [v]) (fun w hw => by
      simp at hw; subst hw
      exact sp_isrule_no 138 hd h) (by simp)
    exact this
  have z1 : 1 ≤ line := by unfold line; omega
  have q2 : eqV mh (.bl false) (.bl false) = some true := eqV_refl mh rfl (by simp [dep])
  refine ⟨some (.bl false), ?_⟩
  have a0 : asg mh (.nm 4) v (LE sc l (some (.tup ps)) o3 o4 o5 (some lf) (some rg) o8 o9 o10 o11 o12 o13 o14 o15 o16) = some (LE sc l (some (.tup ps)) o3 (some v) o5 (some lf) (some rg) o8 o9 o10 o11 o12 o13 o14 o15 o16) := by simp [asg]
  have s0 : ex CC 0 LW5_0 (LE sc l (some (.tup ps)) o3 (some v) o5 (some lf) (some rg) o8 o9 o10 o11 o12 o13 o14 o15 o16) mh = some (.nx, LE sc l (some (.tup ps)) o3 (some v) o5 (some lf) (some rg) (some (.bl false)) o9 o10 o11 o12 o13 o14 o15 o16, mh) := by
    cases v with
    | tup xs =>
      have hl : ¬ ((xs.length : Int) = 2) := fun e => by
        match xs, e with
        | [a, b], _ => exact h a b rfl
        | [], e => simp at e
        | [a], e => simp at e
        | a :: b :: c :: r, e => simp at e; omega
      have l2 : eqV mh (.int (xs.length : Int)) (.int 2) = some false := by rw [eqV_int]; simp [hl]
      simp [LW5_0, ex, ev, evs, isTy, biV, one1, lenV, cmpV, l2, asg]
    | fn _ => cases hd
    | loc _ => cases hd
    | dct _ _ => cases hd
    | scr _ => cases hd
    | _ => simp [LW5_0, ex, ev, isTy, asg]
  unfold forF
  rw [a0]
  refine ex_go s0 ?_
  simp [LW5_1, LW5_2, exs, ex, ev, evs, asg, h1, h2, z1, cmpV, q2]
theorem filt_all {P : MV → Bool} : ∀ {xs : List MV}, decide ((xs.filter fun x => !P x).length = 0) = xs.all P
  | [] => by simp
  | x :: xs => by
    have ih := filt_all (P := P) (xs := xs)
    rw [List.filter_cons, List.all_cons]
    cases P x with
    | true => simpa using ih
    | false => simp
def memB (lf rg a b : MV) : Bool := eqD (.tup [lf, rg]) (.tup [a, b]) || eqD (.tup [rg, lf]) (.tup [a, b])
theorem v_pair (hps : ps ∈ tongues) (hlr : RuleD ps lf rg) {a b : MV} (ta : tm a = true) (tb : tm b = true) (da : dat a = true) (db : dat b = true) (ca : cnt a ≤ 13) (cb : cnt b ≤ 13) (pa : dep a ≤ 10) (pb : dep b ≤ 10) (hg : ruleB ps a b = (memB lf rg a b && !isS a && (vars b).all (hasV (vars a)))) : StepOk sc l ps lf rg o3 o5 o9 o10 o11 o12 o13 o14 o15 o16 mh (.tup [a, b]) := fun o4 o8 => by
  have h1 : CC 15 [.tup [a, b], .tup ps] mh = some (.bl (ruleB ps a b), mh) := sp_isrule hps da db ca cb 124
  have h2 : CC 16 [.tup [.tup [a, b]], .tup ps] mh = some (.bl (ruleB ps a b), mh) := by
    have := sp_issys (ps := ps) (mh := mh) (K := 139) (f := rulF ps) (vs := [.tup [a, b]]) (fun w hw => by
      simp at hw; subst hw
      exact sp_isrule hps da db ca cb 123) (by simp)
    refine this.trans ?_
    simp [rulF]
  have z1 : 1 ≤ line := by unfold line; omega
  have z2 : 2 ≤ line := by unfold line; omega
  have l2 : eqV mh (.int 2) (.int 2) = some true := by rw [eqV_int]; simp
  have w0 : subV mh (.tup [a, b]) (.int 0) = some a := rfl
  have w1 : subV mh (.tup [a, b]) (.int 1) = some b := rfl
  have hdab : dat (.tup [a, b]) = true := by rw [dat, dats, dats, dats, da, db]; rfl
  have hdl : dat (.lst [.tup [lf, rg], .tup [rg, lf]]) = true := by simp only [dat, dats, hlr.la.dat, hlr.lb.dat, Bool.and_self]
  have hm : memV mh (.tup [a, b]) (.lst [.tup [lf, rg], .tup [rg, lf]]) = some (memB lf rg a b) := by
    have k1 := okD_dat hdab (by simp only [dep, deps]; omega)
    have k2 := okD_dat hdl (by have := hlr.la.dep; have := hlr.lb.dep; simp only [dep, deps]; omega)
    unfold memV
    split
    · rename_i e _; cases e
    · rw [frz_dat _ hdab, frz_dat _ hdl]
      simp only [k1, k2, and_self, if_true, memB]
      simp
  have ty := isTy_str (mh := mh) da
  have a0 : asg mh (.nm 4) (.tup [a, b]) (LE sc l (some (.tup ps)) o3 o4 o5 (some lf) (some rg) o8 o9 o10 o11 o12 o13 o14 o15 o16) = some (LE sc l (some (.tup ps)) o3 (some (.tup [a, b])) o5 (some lf) (some rg) o8 o9 o10 o11 o12 o13 o14 o15 o16) := by simp [asg]
  have s0 : ex CC 0 LW5_0 (LE sc l (some (.tup ps)) o3 (some (.tup [a, b])) o5 (some lf) (some rg) o8 o9 o10 o11 o12 o13 o14 o15 o16) mh = some (.nx, LE sc l (some (.tup ps)) o3 (some (.tup [a, b])) o5 (some lf) (some rg) (some (.bl (memB lf rg a b && !isS a))) o9 o10 o11 o12 o13 o14 o15 o16, mh) := by
    have ty0 : isTy (.tup [a, b]) .tuple mh = some true := rfl
    cases hb : memB lf rg a b <;> rw [hb] at hm <;> simp [LW5_0, ex, ev, evs, ty0, biV, one1, lenV, cmpV, l2, z2, hm, w0, ty, asg]
  have s1 : ex CC 0 LW5_1 (LE sc l (some (.tup ps)) o3 (some (.tup [a, b])) o5 (some lf) (some rg) (some (.bl (memB lf rg a b && !isS a))) o9 o10 o11 o12 o13 o14 o15 o16) mh = some (.nx, LE sc l (some (.tup ps)) o3 (some (.tup [a, b])) o5 (some lf) (some rg) (some (.bl (ruleB ps a b))) o9 o10 o11 o12 o13 o14 o15 o16, mh) := by
    rw [hg]
    cases hb : (memB lf rg a b && !isS a) with
    | false => simp [LW5_1, ex, ev, asg]
    | true =>
      obtain ⟨aa, la⟩ := vars_all a ta da
      obtain ⟨ab, lb⟩ := vars_all b tb db
      have na : CC 29 [a] mh = some (.lst (vars a), mh) := sp_names 13 127 a mh ca (by omega) ta da
      have nb : CC 29 [b] mh = some (.lst (vars b), mh) := sp_names 13 127 b mh cb (by omega) tb db
      have hcomp : ev CC 0 (.comp (.nm 20) [20] (.call 29 [(.sub (.var 4) (.c (.int (1))))]) (.cmp .nmem (.var 20) (.call 29 [(.sub (.var 4) (.c (.int (0))))])) (.var 20)) (LE sc l (some (.tup ps)) o3 (some (.tup [a, b])) o5 (some lf) (some rg) (some (.bl true)) o9 o10 o11 o12 o13 o14 o15 o16) mh = some (.lst ((vars b).filter fun x => !hasV (vars a) x), mh) := by
        have ei : evI CC 0 (.call 29 [(.sub (.var 4) (.c (.int (1))))]) (LE sc l (some (.tup ps)) o3 (some (.tup [a, b])) o5 (some lf) (some rg) (some (.bl true)) o9 o10 o11 o12 o13 o14 o15 o16) mh = some (⟨vars b, none⟩, mh) := by simp [evI, ev, evs, w1, nb, itsOf]
        have hz : (vars b).length ≤ line := by unfold line; omega
        rw [ev_compq, ei]
        simp only [hz, if_true]
        rw [compGo_pure rfl (g := fun v => if (!hasV (vars a) v) = true then some v else none)]
        · rw [fm_filter (fun v => !hasV (vars a) v)]
        · intro v hv
          have hmm := mem_str (mh := mh) aa (ab v hv)
          cases hb : hasV (vars a) v <;> rw [hb] at hmm <;> simp [compF, asg, wipeE, ev, evs, w0, na, cmpV, hmm]
      have q0 : ∀ F : List MV, eqV mh (.int (F.length : Int)) (.int 0) = some (decide (F.length = 0)) := fun F => by rw [eqV_int]; simp
      rw [← filt_all]
      generalize (vars b).filter (fun x => !hasV (vars a) x) = F at *
      simp [LW5_1, ex, ev, evs, ↓hcomp, biV, one1, lenV, getL, cmpV, q0, asg]
  refine ⟨some (.bl (ruleB ps a b)), ?_⟩
  unfold forF
  rw [a0]
  refine ex_go s0 (ex_go s1 ?_)
  have q2 : eqV mh (.bl (ruleB ps a b)) (.bl (ruleB ps a b)) = some true := eqV_refl mh rfl (by simp [dep])
  generalize ruleB ps a b = RB at *
  simp [LW5_2, exs, ex, ev, evs, h1, h2, z1, cmpV, q2]
theorem noQ (hlr : RuleD ps lf rg) : hasV (vars lf) (.str [81]) = false := by
  unfold hasV
  rw [List.any_eq_false]
  intro v hv
  rcases hlr.xy v hv with rfl | rfl <;> decide
theorem eqD_pair (a b c d : MV) : eqD (.tup [a, b]) (.tup [c, d]) = (eqD a c && eqD b d) := by
  simp [eqD, toD, toDs, PyData.eqv, PyData.eqvAll]
theorem s5_ok (hps : ps ∈ tongues) (hlr : RuleD ps lf rg) : ∃ o4' o8', ex CC 0 LW5 (LE sc l (some (.tup ps)) o3 o4 o5 (some lf) (some rg) o8 o9 o10 o11 o12 o13 o14 o15 o16) mh = some (.nx, LE sc l (some (.tup ps)) o3 o4' o5 (some lf) (some rg) o8' o9 o10 o11 o12 o13 o14 o15 o16, mh) := by
  have hT := tokP_of hps
  have z1 : 1 ≤ line := by unfold line; omega
  have z2 : 2 ≤ line := by unfold line; omega
  have z9 : 9 ≤ line := by unfold line; omega
  have tl := good_tm lf hlr.ga
  have tr := good_tm rg hlr.gb
  have dl := hlr.la.dat
  have dr := hlr.lb.dat
  have b1 := hlr.la.cnt
  have b2 := hlr.lb.cnt
  have b3 := hlr.la.dep
  have b4 := hlr.lb.dep
  have t1 : termB ps lf = true := by unfold termB; rw [hlr.ga, decide_eq_true (by omega)]; rfl
  have t2 : termB ps rg = true := by unfold termB; rw [hlr.gb, decide_eq_true (by omega)]; rfl
  have el := eqD_refl lf dl
  have er := eqD_refl rg dr
  let V : List MV := [.tup [lf, rg], .lst [lf, rg], .tup [lf], .tup [.str [88], rg], .tup [lf, .tup [.str [102], .str [81]]], .tup [lf, .str [81]], .tup [lf, .tup [.str [122, 122, 122]]], .non, .tup [rg, lf]]
  have hV : ∀ v ∈ V, StepOk sc l ps lf rg o3 o5 o9 o10 o11 o12 o13 o14 o15 o16 mh v := by
    intro v hv
    simp only [V, List.mem_cons, List.not_mem_nil, or_false] at hv
    rcases hv with rfl | rfl | rfl | rfl | rfl | rfl | rfl | rfl | rfl
    · exact v_pair hps hlr tl tr dl dr b1 b2 (by omega) (by omega) (by
        unfold ruleB memB
        rw [t1, t2, eqD_pair, el, er]; rfl)
    · exact v_no hps (by simp only [dat, dats, dl, dr, Bool.and_self]) (fun a b e => by cases e)
    · exact v_no hps (by simp only [dat, dats, dl, Bool.and_self]) (fun a b e => by cases e)
    · exact v_pair hps hlr rfl tr (by decide) dr (by simp [cnt]) b2 (by simp [dep]) (by omega) (by
        unfold ruleB
        simp [isS])
    · exact v_pair hps hlr tl (by simp [tm, tmT, tms, isS]) dl (by decide) b1 (by simp [cnt, cntT, cnts]) (by omega) (by simp [dep, deps]) (by
        have : vars (.tup [.str [102], .str [81]]) = [.str [81]] := by simp [vars, varsT, varsL, hasV]
        unfold ruleB
        rw [this]
        simp [noQ hlr])
    · exact v_pair hps hlr tl rfl dl (by decide) b1 (by simp [cnt]) (by omega) (by simp [dep]) (by
        have : vars (.str [81]) = [.str [81]] := by simp [vars]
        unfold ruleB
        rw [this]
        simp [noQ hlr])
    · exact v_pair hps hlr tl (by simp [tm, tmT, tms, isS]) dl (by decide) b1 (by simp [cnt, cntT, cnts]) (by omega) (by simp [dep, deps]) (by
        have tz : tm (.tup [.str [122, 122, 122]]) = true := by simp [tm, tmT, tms, isS]
        have hz : termB ps (.tup [.str [122, 122, 122]]) = false := by unfold termB; rw [hT.zz]; simp
        have n1 : eqD rg (.tup [.str [122, 122, 122]]) = false := by
          cases z : eqD rg (.tup [.str [122, 122, 122]]) with
          | false => rfl
          | true =>
            have := eqD_tm rg _ tr tz z
            have hg := hlr.gb
            rw [this, hT.zz] at hg
            cases hg
        have n2 : eqD lf (.tup [.str [122, 122, 122]]) = false := by
          cases z : eqD lf (.tup [.str [122, 122, 122]]) with
          | false => rfl
          | true =>
            have := eqD_tm lf _ tl tz z
            have hg := hlr.ga
            rw [this, hT.zz] at hg
            cases hg
        unfold ruleB memB
        rw [hz, eqD_pair, eqD_pair, n1, n2]
        simp)
    · exact v_no hps rfl (fun a b e => by cases e)
    · exact v_pair hps hlr tr tl dr dl b2 b1 (by omega) (by omega) (by
        unfold ruleB memB
        rw [t1, t2, eqD_pair, eqD_pair, el, er]; simp)
  obtain ⟨o4', o8', e⟩ := v_loop (sc := sc) (l := l) (ps := ps) (lf := lf) (rg := rg) (o3 := o3) (o5 := o5) (o9 := o9) (o10 := o10) (o11 := o11) (o12 := o12) (o13 := o13) (o14 := o14) (o15 := o15) (o16 := o16) (mh := mh) (J := ⟨V, none⟩) rfl V o4 o8 hV
  refine ⟨o4', o8', ?_⟩
  rw [LW5, ex_for]
  have ei : evI CC 0 (.lst [(.tup [(.var 6), (.var 7)]), (.lst [(.var 6), (.var 7)]), (.tup [(.var 6)]), (.tup [(.c (.str [88])), (.var 7)]), (.tup [(.var 6), (.tup [(.c (.str [102])), (.c (.str [81]))])]), (.tup [(.var 6), (.c (.str [81]))]), (.tup [(.var 6), (.tup [(.c (.str [122, 122, 122]))])]), (.c .non), (.tup [(.var 7), (.var 6)])]) (LE sc l (some (.tup ps)) o3 o4 o5 (some lf) (some rg) o8 o9 o10 o11 o12 o13 o14 o15 o16) mh = some (⟨V, none⟩, mh) := by
    simp [evI, ev, evs, z1, z2, z9, itsOf, V]
  rw [ei]
  exact e
theorem rep_flat {α : Type} (x : α) : ∀ k : Nat, (List.replicate k [x]).flatten = List.replicate k x
  | 0 => rfl
  | k + 1 => by rw [List.replicate_succ, List.flatten_cons, rep_flat x k, List.replicate_succ]; rfl
theorem s6_ok (hps : ps ∈ tongues) (hlr : RuleD ps lf rg) : ex CC 0 LW6 (LE sc l (some (.tup ps)) o3 o4 o5 (some lf) (some rg) o8 o9 o10 o11 o12 o13 o14 o15 o16) mh = some (.nx, LE sc l (some (.tup ps)) o3 o4 o5 (some lf) (some rg) o8 o9 o10 o11 o12 o13 o14 o15 o16, mh) := by
  have key : ∀ k : Nat, k ≤ 100 → CC 16 [.tup (List.replicate k (.tup [lf, rg])), .tup ps] mh = some (.bl (decide (k ≤ 20)), mh) := fun k hk => by
    have := sp_issys (ps := ps) (mh := mh) (K := 139) (f := rulF ps) (vs := List.replicate k (.tup [lf, rg])) (fun v hv => by
      have := List.eq_of_mem_replicate hv
      subst this
      exact sp_isrule hps hlr.la.dat hlr.lb.dat hlr.la.cnt hlr.lb.cnt 123) (by rw [List.length_replicate]; omega)
    refine this.trans ?_
    have h2 : (List.replicate k (MV.tup [lf, rg])).all (rulF ps) = true := List.all_eq_true.mpr fun v hv => by
      have := List.eq_of_mem_replicate hv
      subst this
      exact ruleD_true hlr
    rw [h2, List.length_replicate, Bool.and_true]
  have k20 := key 20 (by omega)
  have k21 := key 21 (by omega)
  have z1 : 1 ≤ line := by unfold line; omega
  have z2 : 2 ≤ line := by unfold line; omega
  have m20 : mulV (.tup [.tup [lf, rg]]) (.int 20) = some (.tup (List.replicate 20 (.tup [lf, rg]))) := by
    have := rep_flat (MV.tup [lf, rg]) 20
    simp only [mulV]
    rw [if_pos (by simp)]
    exact congrArg (fun z => some (MV.tup z)) this
  have m21 : mulV (.tup [.tup [lf, rg]]) (.int 21) = some (.tup (List.replicate 21 (.tup [lf, rg]))) := by
    have := rep_flat (MV.tup [lf, rg]) 21
    simp only [mulV]
    rw [if_pos (by simp)]
    exact congrArg (fun z => some (MV.tup z)) this
  rw [show decide (20 ≤ 20) = true from rfl] at k20
  rw [show decide (21 ≤ 20) = false from rfl] at k21
  generalize List.replicate 20 (MV.tup [lf, rg]) = R20 at *
  generalize List.replicate 21 (MV.tup [lf, rg]) = R21 at *
  simp [LW6, exs, ex, ev, evs, z1, z2, binV, m20, m21, k20, k21, cmpV, isV_bl]
end
end L2.Mi.k08

set_option Elab.async false
set_option linter.all false
set_option maxRecDepth 100000
set_option maxHeartbeats 4000000
namespace L2.Mi.k08
open PySem PySem.Spec PyProof.Rows L2.Mi
def OD : List MV := [.tup [.int 0, .tup []], .tup [.int 5, .tup []], .tup [.int 0, .tup [.int 1]], .tup [.int 0, .tup [.int 9]], .tup [.bl true, .tup []], .tup [.int 0, .lst [.int 1]], .non, .tup [.int 0], .tup [.int 0, .tup [], .int 1], .tup [.int (-1), .tup []]]
theorem OD_ok : ∀ v ∈ OD, dat v = true ∧ dep v ≤ 3 := by
  have h : OD.all (fun v => dat v && decide (dep v ≤ 3)) = true := by decide +kernel
  intro v hv
  have := List.all_eq_true.mp h v hv
  simpa using this
theorem sV_dep (s : Stp) : dep (sV s) ≤ 2 := by
  have := pV_dep s.2
  simp only [sV, dep, deps] at this ⊢
  omega
theorem rows_dep {vs : List MV} (h : ∀ v ∈ vs, dep v ≤ 3) : dep (.tup vs) ≤ 4 ∧ dep (.lst vs) ≤ 4 := by
  have := deps_leq (d := 3) h
  simp only [dep]
  omega
section
variable {ar : Sx → Option Nat} {sys : List (MV × MV)} {sc : Option MV} {l n : Nat} {o2 o3 o4 o5 o6 o7 o8 o9 o10 o11 o12 o13 o14 o15 o16 : Option MV} {mh : MHp} {ps : List MV} {t : MV}
theorem t0_ok (hps : ps ∈ tongues) (S : St l n mh) : ∃ t mh', ex CC 0 LW7_0 (LE sc l (some (.tup ps)) o3 o4 o5 o6 o7 o8 o9 o10 o11 o12 o13 o14 o15 o16) mh = some (.nx, LE sc l (some (.tup ps)) o3 o4 o5 o6 o7 o8 (some t) o10 o11 o12 o13 o14 o15 o16, mh') ∧ St l n mh' ∧ Bd (arOf ps) 40 4 t := by
  obtain ⟨t, mh', e, S', d⟩ := draw hps (nl := [.str [88], .str [90]]) (by simp) (by decide) (fun x hx => by simp at hx; rcases hx with rfl | rfl <;> exact ⟨_, rfl, by decide⟩) 3 134 S
  have e : CC 27 [.loc l, .tup ps, .lst [.str [88], .str [90]], .int 4] mh = _ := e
  have z2 : 2 ≤ line := by unfold line; omega
  exact ⟨t, mh', by simp [LW7_0, ex, ev, evs, z2, e, asg], S', d.bd⟩
theorem t1_ok (hs : Sys ar sys) (ht : Bd ar 40 4 t) : ex CC 0 LW7_1 (LE sc l o2 (some (sysV sys)) o4 o5 o6 o7 o8 (some t) o10 o11 o12 o13 o14 o15 o16) mh = some (.nx, LE sc l o2 (some (sysV sys)) o4 o5 o6 o7 o8 (some t) (some (.lst ((stepsF sys t).map sV))) o11 o12 o13 o14 o15 o16, mh) := by
  have e : CC 35 [sysV sys, t] mh = some (.lst ((stepsF sys t).map sV), mh) := sp_lsteps hs ht (by omega) (by omega) 105 mh
  generalize (stepsF sys t).map sV = L at *
  generalize sysV sys = SV at *
  simp [LW7_1, ex, ev, evs, e, asg]
theorem t2_ok (hs : Sys ar sys) (ht : Bd ar 40 4 t) : ex CC 0 LW7_2 (LE sc l o2 (some (sysV sys)) o4 o5 o6 o7 o8 (some t) (some (.lst ((stepsF sys t).map sV))) o11 o12 o13 o14 o15 o16) mh = some (.nx, LE sc l o2 (some (sysV sys)) o4 o5 o6 o7 o8 (some t) (some (.lst ((stepsF sys t).map sV))) o11 o12 o13 o14 o15 o16, mh) := by
  have e1 : CC 20 [sysV sys, t] mh = some (.lst ((stepsF sys t).map sV), mh) := sp_steps hs ht (by omega) (by omega) 106 mh
  have e2 : CC 21 [sysV sys, t] mh = some (.bl (decide ((stepsF sys t).length = 0)), mh) := sp_isnormal hs ht (by omega) (by omega) 105 mh
  have hd : dat (.lst ((stepsF sys t).map sV)) = true := by rw [dat]; exact sV_dats _
  have hp : dep (.lst ((stepsF sys t).map sV)) ≤ 4 := (rows_dep fun v hv => by
    obtain ⟨s, _, rfl⟩ := List.mem_map.mp hv
    have := sV_dep s; omega).2
  have q1 := eqV_refl mh hd (by omega)
  have q2 : eqV mh (.bl (decide ((stepsF sys t).length = 0))) (.bl (decide ((stepsF sys t).length = 0))) = some true := eqV_refl mh rfl (by simp [dep])
  have q0 : eqV mh (.int (((stepsF sys t).map sV).length : Int)) (.int 0) = some (decide ((stepsF sys t).length = 0)) := by rw [eqV_int, List.length_map]; simp
  generalize decide ((stepsF sys t).length = 0) = B at *
  generalize (stepsF sys t).map sV = L at *
  generalize sysV sys = SV at *
  simp [LW7_2, exs, ex, ev, evs, e1, e2, cmpV, q1, biV, one1, lenV, getL, q0, q2]
theorem t3_loop (hs : Sys ar sys) (ht : Bd ar 40 4 t) {J : Its} (hJ : J.src = none) : ∀ (ss : List Stp) (o11 : Option MV), (∀ s ∈ ss, s ∈ stepsF sys t) → ∃ o11', forGo J (forF CC 0 (.nm 11) LW7_3B) (ss.map sV) (LE sc l o2 (some (sysV sys)) o4 o5 o6 o7 o8 (some t) o10 o11 o12 o13 o14 o15 o16) mh = some (.nx, LE sc l o2 (some (sysV sys)) o4 o5 o6 o7 o8 (some t) o10 o11' o12 o13 o14 o15 o16, mh)
  | [], o11, _ => ⟨o11, forGo_nil_of hJ⟩
  | s :: ss, o11, h => by
    obtain ⟨h1, h2, u, h3⟩ := mem_steps (h s (by simp))
    have e1 : CC 18 [sysV sys, t, sV s] mh = some (optV (stepF sys t s.1 s.2), mh) := sp_turned hs ht (by omega) (by omega) h1 h2 106 mh
    have e2 : CC 34 [sysV sys, t, sV s] mh = some (optV (stepF sys t s.1 s.2), mh) := sp_lstep hs ht (by omega) (by omega) h1 h2 106 mh
    have hu := stepF_ok hs ht (by omega) (by omega) h2 h3
    rw [h3] at e1 e2
    have q := eqV_refl mh hu.dat (by have := hu.dep; omega)
    have e1 : CC 18 [sysV sys, t, sV s] mh = some (u, mh) := e1
    have e2 : CC 34 [sysV sys, t, sV s] mh = some (u, mh) := e2
    have st : forF CC 0 (.nm 11) LW7_3B (sV s) (LE sc l o2 (some (sysV sys)) o4 o5 o6 o7 o8 (some t) o10 o11 o12 o13 o14 o15 o16) mh = some (.nx, LE sc l o2 (some (sysV sys)) o4 o5 o6 o7 o8 (some t) o10 (some (sV s)) o12 o13 o14 o15 o16, mh) := by
      generalize sysV sys = SV at *
      generalize sV s = SS at *
      simp [forF, LW7_3_0, asg, exs, ex, ev, evs, e1, e2, cmpV, q]
    rw [List.map_cons, forGo_cons_of hJ, st]
    exact t3_loop hs ht hJ ss _ fun x hx => h x (List.mem_cons_of_mem _ hx)
theorem t3_ok (hs : Sys ar sys) (ht : Bd ar 40 4 t) : ∃ o11', ex CC 0 LW7_3 (LE sc l o2 (some (sysV sys)) o4 o5 o6 o7 o8 (some t) (some (.lst ((stepsF sys t).map sV))) o11 o12 o13 o14 o15 o16) mh = some (.nx, LE sc l o2 (some (sysV sys)) o4 o5 o6 o7 o8 (some t) (some (.lst ((stepsF sys t).map sV))) o11' o12 o13 o14 o15 o16, mh) := by
  obtain ⟨o11', e⟩ := t3_loop (sc := sc) (l := l) (o2 := o2) (o4 := o4) (o5 := o5) (o6 := o6) (o7 := o7) (o8 := o8) (o10 := some (.lst ((stepsF sys t).map sV))) (o12 := o12) (o13 := o13) (o14 := o14) (o15 := o15) (o16 := o16) (mh := mh) hs ht (J := ⟨(stepsF sys t).map sV, none⟩) rfl (stepsF sys t) o11 fun s h => h
  refine ⟨o11', ?_⟩
  rw [LW7_3, ex_for]
  have ei : evI CC 0 (.var 10) (LE sc l o2 (some (sysV sys)) o4 o5 o6 o7 o8 (some t) (some (.lst ((stepsF sys t).map sV))) o11 o12 o13 o14 o15 o16) mh = some (⟨(stepsF sys t).map sV, none⟩, mh) := by simp [evI, ev, itsOf]
  rw [ei]
  exact e
def atL (t : MV) (q : List Int) : MV := (atF t q).getD .non
def stands (t : MV) : List MV := (pls t).map (atL t)
theorem atL_dat (ht : Bd ar 40 4 t) {q : List Int} (hq : q ∈ pls t) : dat (atL t q) = true ∧ atF t q = some (atL t q) := by
  obtain ⟨x, hx⟩ := pls_at q t hq
  have : atL t q = x := by unfold atL; rw [hx]; rfl
  rw [this]
  exact ⟨(atF_Tm q (ht.Tm (by omega)) hq hx).dat, hx⟩
theorem t4_ok (ht : Bd ar 40 4 t) : ex CC 0 LW7_4 (LE sc l o2 o3 o4 o5 o6 o7 o8 (some t) o10 o11 o12 o13 o14 o15 o16) mh = some (.nx, LE sc l o2 o3 o4 o5 o6 o7 o8 (some t) o10 o11 (some (.lst (stands t))) o13 o14 o15 o16, mh) := by
  have hp : CC 30 [t] mh = some (.lst ((pls t).map pV), mh) := places_ok hPlaces 30 109 t mh (by have := ht.dep; omega) (by have := ht.cnt; omega) ht.tm' ht.dat
  have hcomp : ev CC 0 (.comp (.nm 18) [18] (.call 30 [(.var 9)]) (.c (.bl true)) (.call 31 [(.var 9), (.var 18)])) (LE sc l o2 o3 o4 o5 o6 o7 o8 (some t) o10 o11 o12 o13 o14 o15 o16) mh = some (.lst (stands t), mh) := by
    have ei : evI CC 0 (.call 30 [(.var 9)]) (LE sc l o2 o3 o4 o5 o6 o7 o8 (some t) o10 o11 o12 o13 o14 o15 o16) mh = some (⟨(pls t).map pV, none⟩, mh) := by
      generalize (pls t).map pV = PP at *
      simp [evI, ev, evs, hp, itsOf]
    have hz : ((pls t).map pV).length ≤ line := by rw [List.length_map, pls_len]; have := ht.cnt; unfold line; omega
    rw [ev_compq, ei]
    simp only [hz, if_true]
    rw [compGo_pure rfl (g := fun v => match v with | .tup vs => (vs.mapM intOf).map fun q => atL t q | _ => none)]
    · simp only
      congr 3
      rw [List.filterMap_map]
      unfold stands
      rw [← List.filterMap_eq_map]
      congr 1
      funext q
      simp only [Function.comp, ints_mapM, Option.map_some]
    · intro v hv
      obtain ⟨q, hq, rfl⟩ := List.mem_map.mp hv
      obtain ⟨hd, hx⟩ := atL_dat ht hq
      have e1 : CC 31 [t, pV q] mh = some (atL t q, mh) := at_ok hAt 139 mh ht.dat hx
      simp only [ints_mapM, Option.map_some]
      generalize pV q = QV at *
      generalize atL t q = AL at *
      simp [compF, asg, wipeE, ev, evs, e1]
  generalize stands t = SD at *
  simp [LW7_4, ex, ↓hcomp, asg]
theorem stands_names (ht : Bd ar 40 4 t) : (stands t).filter isS = (pls t).filterMap (stG t) := by
  have gen : ∀ Q : List (List Int), (∀ q ∈ Q, q ∈ pls t) → (Q.map (atL t)).filter isS = Q.filterMap (stG t) := by
    intro Q
    induction Q with
    | nil => intro _; rfl
    | cons q Q ih =>
      intro h
      have e := ih fun p hp => h p (List.mem_cons_of_mem _ hp)
      have hqp := h q (by simp)
      obtain ⟨x, hx⟩ := pls_at q t hqp
      have ha : atL t q = x := by unfold atL; rw [hx]; rfl
      have hxt := atF_Tm q (ht.Tm (by omega)) hqp hx
      rw [List.map_cons, ha, List.filter_cons, List.filterMap_cons, e]
      rcases hxt.cases with ⟨s, rfl⟩ | ⟨a, xs, rfl, _⟩
      · simp [isS, stG, hx]
      · simp [isS, stG, hx]
  exact gen (pls t) fun q h => h
theorem t5_ok (ht : Bd ar 40 4 t) : ex CC 0 LW7_5 (LE sc l o2 o3 o4 o5 o6 o7 o8 o9 o10 o11 (some (.lst (stands t))) o13 o14 o15 o16) mh = some (.nx, LE sc l o2 o3 o4 o5 o6 o7 o8 o9 o10 o11 (some (.lst (stands t))) (some (.lst ((pls t).filterMap (stG t)))) o14 o15 o16, mh) := by
  rw [← stands_names ht]
  have hcomp : ev CC 0 (.comp (.nm 19) [19] (.var 12) (.isi (.var 19) .str) (.var 19)) (LE sc l o2 o3 o4 o5 o6 o7 o8 o9 o10 o11 (some (.lst (stands t))) o13 o14 o15 o16) mh = some (.lst ((stands t).filter isS), mh) := by
    have ei : evI CC 0 (.var 12) (LE sc l o2 o3 o4 o5 o6 o7 o8 o9 o10 o11 (some (.lst (stands t))) o13 o14 o15 o16) mh = some (⟨stands t, none⟩, mh) := by simp [evI, ev, itsOf]
    have hz : (stands t).length ≤ line := by unfold stands; rw [List.length_map, pls_len]; have := ht.cnt; unfold line; omega
    rw [ev_compq, ei]
    simp only [hz, if_true]
    rw [compGo_pure rfl (g := fun p => if isS p = true then some p else none)]
    · rw [fm_filter isS]
    · intro v hv
      obtain ⟨q, hq, rfl⟩ := List.mem_map.mp hv
      have ty := isTy_str (mh := mh) (atL_dat ht hq).1
      generalize atL t q = AL at *
      cases hb : isS AL <;> rw [hb] at ty <;> simp [compF, asg, wipeE, ev, ty]
  generalize (stands t).filter isS = F at *
  generalize stands t = SD at *
  simp [LW7_5, ex, ↓hcomp, asg]
theorem t6_ok (ht : Bd ar 40 4 t) : ex CC 0 LW7_6 (LE sc l o2 o3 o4 o5 o6 o7 o8 (some t) o10 o11 o12 (some (.lst ((pls t).filterMap (stG t)))) o14 o15 o16) mh = some (.nx, LE sc l o2 o3 o4 o5 o6 o7 o8 (some t) o10 o11 o12 (some (.lst ((pls t).filterMap (stG t)))) o14 o15 o16, mh) := by
  have e1 : CC 17 [t] mh = some (.bl (linGo [] ((pls t).filterMap (stG t))), mh) := sp_linear ht (by omega) (by omega) 106 mh
  have hA := stG_all ht (by omega) (Q := pls t) fun q h => h
  have hlW : ((pls t).filterMap (stG t)).length ≤ 40 := Nat.le_trans (List.length_filterMap_le _ _) (by rw [pls_len]; exact ht.cnt)
  have hlin := linGo_take ((pls t).filterMap (stG t)) [] ((pls t).filterMap (stG t)) rfl
  generalize (pls t).filterMap (stG t) = W at *
  have hcomp : ev CC 0 (.comp (.nm 17) [17] (.rng1 (.bi .len [(.var 13)])) (.cmp .mem (.sub (.var 13) (.var 17)) (.slcH (.var 13) (.var 17))) (.var 17)) (LE sc l o2 o3 o4 o5 o6 o7 o8 (some t) o10 o11 o12 (some (.lst W)) o14 o15 o16) mh = some (.lst (((List.range W.length).filter fun k => hasV (W.take k) (W.getD k .non)).map fun (k : Nat) => MV.int (k : Int)), mh) := by
    have ei : evI CC 0 (.rng1 (.bi .len [(.var 13)])) (LE sc l o2 o3 o4 o5 o6 o7 o8 (some t) o10 o11 o12 (some (.lst W)) o14 o15 o16) mh = some (⟨(List.range W.length).map fun (k : Nat) => MV.int (k : Int), none⟩, mh) := by
      have b2 : (W.length : Int) < 4611686018427387904 := by omega
      have b3 : (-4611686018427387904 : Int) ≤ (W.length : Int) := by omega
      simp [evI, ev, evs, biV, one1, lenV, getL, b2, b3]
    have hz : ((List.range W.length).map fun (k : Nat) => MV.int (k : Int)).length ≤ line := by rw [List.length_map, List.length_range]; unfold line; omega
    rw [ev_compq, ei]
    simp only [hz, if_true]
    rw [compGo_pure rfl (g := fun v => match v with | .int i => if hasV (W.take i.toNat) (W.getD i.toNat .non) = true then some (.int i) else none | _ => none)]
    · simp only
      congr 3
      generalize List.range W.length = R
      induction R with
      | nil => rfl
      | cons k R ih =>
        rw [List.map_cons, List.filterMap_cons, List.filter_cons, ih]
        simp only [Int.toNat_natCast]
        by_cases h : hasV (W.take k) (W.getD k .non) = true
        · simp only [h, if_true, List.map_cons]
        · simp only [h, if_false, Bool.false_eq_true]
    · intro v hv
      obtain ⟨i, hi, rfl⟩ := range_mem hv
      have hg : W[i]? = some W[i] := List.getElem?_eq_getElem hi
      have hgd : W.getD i .non = W[i] := by rw [List.getD_eq_getElem?_getD, hg]; rfl
      have hx := hA _ (List.getElem_mem hi)
      have hm := mem_str (mh := mh) (acc := W.take i) (fun y hy => hA y (List.mem_of_mem_take hy)) hx
      have hidx := idx_nat hg
      simp only [Int.toNat_natCast, hgd]
      have hc : cut W none (some (i : Int)) = W.take i := cut_take
      generalize W[i] = WI at *
      generalize W.take i = TK at *
      cases hb : hasV TK WI <;> rw [hb] at hm <;> simp [compF, asg, wipeE, ev, subV, getL, hidx, slcV, hc, cmpV, hm]
  have hfe : ((List.range W.length).filter fun k => decide (([] : List MV).length ≤ k) && hasV (W.take k) (W.getD k .non)) = (List.range W.length).filter fun k => hasV (W.take k) (W.getD k .non) := by
    simp
  rw [hfe] at hlin
  generalize (List.range W.length).filter (fun k => hasV (W.take k) (W.getD k .non)) = F at *
  have hb : linGo [] W = decide (F.length = 0) := by
    cases h : linGo [] W with
    | true => exact (decide_eq_true (hlin.mpr h)).symm
    | false =>
      refine (decide_eq_false fun z => ?_).symm
      rw [hlin.mp z] at h
      cases h
  rw [hb] at e1
  have q0 : eqV mh (.int ((F.map fun (k : Nat) => MV.int (k : Int)).length : Int)) (.int 0) = some (decide (F.length = 0)) := by rw [eqV_int, List.length_map]; simp
  have q2 : eqV mh (.bl (decide (F.length = 0))) (.bl (decide (F.length = 0))) = some true := eqV_refl mh rfl (by simp [dep])
  generalize decide (F.length = 0) = B at *
  generalize F.map (fun (k : Nat) => MV.int (k : Int)) = FM at *
  simp [LW7_6, exs, ex, ev, evs, e1, ↓hcomp, biV, one1, lenV, getL, cmpV, q0, q2]
theorem t7_ok (hs : Sys ar sys) (ht : Bd ar 40 4 t) (S : St l n mh) : ∃ (R : List Stp) (u : MV) (mh' : MHp), ex CC 0 LW7_7 (LE sc l o2 (some (sysV sys)) o4 o5 o6 o7 o8 (some t) o10 o11 o12 o13 o14 o15 o16) mh = some (.nx, LE sc l o2 (some (sysV sys)) o4 o5 o6 o7 o8 (some t) o10 o11 o12 o13 o14 (some (.tup (R.map sV))) (some u), mh') ∧ St l n mh' ∧ R.length ≤ 4 ∧ behF sys t (R.map sV) = some u ∧ Bd ar (40 * 14 ^ R.length) (4 + 3 * R.length) u := by
  obtain ⟨R, u, mh', e, S', h1, h2, h3⟩ := sp_lrows hs ht 104 S
  have e : CC 38 [.loc l, sysV sys, t] mh = some (.tup [.tup (R.map sV), u], mh') := e
  refine ⟨R, u, mh', ?_, S', h1, h2, h3⟩
  generalize R.map sV = RM at *
  generalize sysV sys = SV at *
  simp [LW7_7, ex, ev, evs, e, asg, asgs]
theorem lim {vs : List MV} (h : vs.length ≤ 5) : 40 * 14 ^ vs.length ≤ 56000000 ∧ 4 + 3 * vs.length ≤ 29 := by
  have hp : 14 ^ vs.length ≤ 14 ^ 5 := Nat.pow_le_pow_right (by omega) h
  have : 40 * 14 ^ vs.length ≤ 40 * 14 ^ 5 := Nat.mul_le_mul_left _ hp
  omega
theorem t8_ok (hs : Sys ar sys) (ht : Bd ar 40 4 t) {R : List Stp} {u : MV} (hR : R.length ≤ 4) (hb : behF sys t (R.map sV) = some u) (hu : Bd ar (40 * 14 ^ R.length) (4 + 3 * R.length) u) : ex CC 0 LW7_8 (LE sc l o2 (some (sysV sys)) o4 o5 o6 o7 o8 (some t) o10 o11 o12 o13 o14 (some (.tup (R.map sV))) (some u)) mh = some (.nx, LE sc l o2 (some (sysV sys)) o4 o5 o6 o7 o8 (some t) o10 o11 o12 o13 o14 (some (.tup (R.map sV))) (some u), mh) := by
  have e : CC 22 [sysV sys, t, .tup (R.map sV)] mh = some (optV (behV sys t (.tup (R.map sV))), mh) := sp_behind hs ht (row := .tup (R.map sV)) (fun vs h => by cases h; exact lim (by rw [List.length_map]; omega)) (by rw [dat]; exact sV_dats R) 104 mh
  simp only [behV, hb] at e
  have e : CC 22 [sysV sys, t, .tup (R.map sV)] mh = some (u, mh) := e
  have q := eqV_refl mh hu.dat (by have := hu.dep; omega)
  generalize R.map sV = RM at *
  generalize sysV sys = SV at *
  simp [LW7_8, exs, ex, ev, evs, e, cmpV, q]
theorem t9_ok (S : St l n mh) : ∃ v mh', v ∈ OD ∧ ex CC 0 LW7_9 (LE sc l o2 o3 o4 o5 o6 o7 o8 o9 o10 o11 o12 o13 o14 o15 o16) mh = some (.nx, LE sc l o2 o3 o4 o5 o6 o7 o8 o9 o10 o11 o12 o13 (some v) o15 o16, mh') ∧ St l n mh' := by
  obtain ⟨y, mh', hy, e, S'⟩ := pick_ok hTake hPick 138 S OD (by simp [OD]) (by simp [OD]) (dats_iff.mpr fun v hv => (OD_ok v hv).1)
  have e : CC 25 [.loc l, .lst OD] mh = _ := e
  refine ⟨y, mh', hy, ?_, S'⟩
  have z0 : 0 ≤ line := by unfold line; omega
  have z1 : 1 ≤ line := by unfold line; omega
  have z2 : 2 ≤ line := by unfold line; omega
  have z3 : 3 ≤ line := by unfold line; omega
  have z10 : 10 ≤ line := by unfold line; omega
  unfold OD at e
  simp [LW7_9, ex, ev, evs, z0, z1, z2, z3, z10, e, asg]
theorem t10_loop (hs : Sys ar sys) (ht : Bd ar 40 4 t) {J : Its} (hJ : J.src = none) : ∀ (vs : List MV) (o4 : Option MV), (∀ v ∈ vs, dat v = true ∧ dep v ≤ 10 ∧ ∀ ws, v = .tup ws → ws.length ≤ 5) → ∃ o4', forGo J (forF CC 0 (.nm 4) LW7_10B) vs (LE sc l o2 (some (sysV sys)) o4 o5 o6 o7 o8 (some t) o10 o11 o12 o13 o14 o15 o16) mh = some (.nx, LE sc l o2 (some (sysV sys)) o4' o5 o6 o7 o8 (some t) o10 o11 o12 o13 o14 o15 o16, mh)
  | [], o4, _ => ⟨o4, forGo_nil_of hJ⟩
  | v :: vs, o4, h => by
    obtain ⟨h1, h2, h3⟩ := h v (by simp)
    have hl : ∀ ws, v = .tup ws → 40 * 14 ^ ws.length ≤ 56000000 ∧ 4 + 3 * ws.length ≤ 29 := fun ws e => lim (h3 ws e)
    have e1 : CC 22 [sysV sys, t, v] mh = some (optV (behV sys t v), mh) := sp_behind hs ht hl h1 104 mh
    have e2 : CC 36 [sysV sys, t, v] mh = some (optV (behV sys t v), mh) := sp_lbehind hs ht hl h1 (by omega) 105 mh
    obtain ⟨q, _, _⟩ := beh_eqV (H := mh) hs ht hl
    have st : forF CC 0 (.nm 4) LW7_10B v (LE sc l o2 (some (sysV sys)) o4 o5 o6 o7 o8 (some t) o10 o11 o12 o13 o14 o15 o16) mh = some (.nx, LE sc l o2 (some (sysV sys)) (some v) o5 o6 o7 o8 (some t) o10 o11 o12 o13 o14 o15 o16, mh) := by
      generalize optV (behV sys t v) = OV at *
      generalize sysV sys = SV at *
      simp [forF, LW7_10_0, asg, exs, ex, ev, evs, e1, e2, cmpV, q]
    rw [forGo_cons_of hJ, st]
    exact t10_loop hs ht hJ vs _ fun x hx => h x (List.mem_cons_of_mem _ hx)
theorem cut_one {xs : List MV} : cut xs (some 1) none = xs.drop 1 := by
  have := cut_drop (xs := xs) (k := 1)
  simpa using this
theorem t10_ok (hs : Sys ar sys) (ht : Bd ar 40 4 t) {R : List Stp} (hR : R.length ≤ 4) {v : MV} (hv : v ∈ OD) : ∃ o4', ex CC 0 LW7_10 (LE sc l o2 (some (sysV sys)) o4 o5 o6 o7 o8 (some t) o10 o11 o12 o13 (some v) (some (.tup (R.map sV))) o16) mh = some (.nx, LE sc l o2 (some (sysV sys)) o4' o5 o6 o7 o8 (some t) o10 o11 o12 o13 (some v) (some (.tup (R.map sV))) o16, mh) := by
  obtain ⟨dv, pv⟩ := OD_ok v hv
  have dR := sV_dats R
  have each : ∀ w ∈ R.map sV, dat w = true ∧ dep w ≤ 3 := fun w hw => by
    refine ⟨dats_iff.mp dR w hw, ?_⟩
    obtain ⟨s, _, rfl⟩ := List.mem_map.mp hw
    have := sV_dep s
    omega
  have hRl : (R.map sV).length ≤ 4 := by rw [List.length_map]; exact hR
  generalize R.map sV = RM at *
  let V : List MV := [.tup RM.reverse, .tup (RM.drop 1), .tup (RM ++ [v]), .lst RM, .non, .tup [v]]
  have mk : ∀ ws : List MV, ws.length ≤ 5 → (∀ w ∈ ws, dat w = true ∧ dep w ≤ 3) → dat (.tup ws) = true ∧ dep (.tup ws) ≤ 10 ∧ ∀ us, MV.tup ws = .tup us → us.length ≤ 5 := fun ws hl h => by
    refine ⟨by rw [dat]; exact dats_iff.mpr fun w hw => (h w hw).1, ?_, fun us e => by cases e; exact hl⟩
    have := (rows_dep fun w hw => (h w hw).2).1
    omega
  have hV : ∀ w ∈ V, dat w = true ∧ dep w ≤ 10 ∧ ∀ ws, w = .tup ws → ws.length ≤ 5 := by
    intro w hw
    simp only [V, List.mem_cons, List.not_mem_nil, or_false] at hw
    rcases hw with rfl | rfl | rfl | rfl | rfl | rfl
    · exact mk _ (by rw [List.length_reverse]; omega) fun w hw => each w (List.mem_reverse.mp hw)
    · exact mk _ (by rw [List.length_drop]; omega) fun w hw => each w (List.mem_of_mem_drop hw)
    · exact mk _ (by rw [List.length_append]; simp; omega) fun w hw => by
        rcases List.mem_append.mp hw with h | h
        · exact each w h
        · simp at h; subst h; exact ⟨dv, pv⟩
    · refine ⟨by rw [dat]; exact dR, ?_, fun ws e => by cases e⟩
      have := (rows_dep fun w hw => (each w hw).2).2
      omega
    · exact ⟨rfl, by simp [dep], fun ws e => by cases e⟩
    · exact mk _ (by simp) fun w hw => by simp at hw; subst hw; exact ⟨dv, pv⟩
  obtain ⟨o4', e⟩ := t10_loop (sc := sc) (l := l) (o2 := o2) (o5 := o5) (o6 := o6) (o7 := o7) (o8 := o8) (o10 := o10) (o11 := o11) (o12 := o12) (o13 := o13) (o14 := some v) (o15 := some (.tup RM)) (o16 := o16) (mh := mh) hs ht (J := ⟨V, none⟩) rfl V o4 hV
  refine ⟨o4', ?_⟩
  rw [LW7_10, ex_for]
  have z1 : 1 ≤ line := by unfold line; omega
  have z6 : 6 ≤ line := by unfold line; omega
  have z5 : RM.length + 1 ≤ line := by unfold line; omega
  have ei : evI CC 0 (.lst [(.rev (.var 15)), (.slcL (.var 15) (.c (.int (1)))), (.bin .add (.var 15) (.tup [(.var 14)])), (.bi .list [(.var 15)]), (.c .non), (.tup [(.var 14)])]) (LE sc l o2 (some (sysV sys)) o4 o5 o6 o7 o8 (some t) o10 o11 o12 o13 (some v) (some (.tup RM)) o16) mh = some (⟨V, none⟩, mh) := by
    generalize sysV sys = SV at *
    simp [evI, ev, evs, z1, z6, slcV, cut_one, binV, addV, z5, biV, one1, lstV, itsOf, V]
  rw [ei]
  exact e
theorem t11_ok (hs : Sys ar sys) (ht : Bd ar 40 4 t) {v : MV} (hv : v ∈ OD) : ex CC 0 LW7_11 (LE sc l o2 (some (sysV sys)) o4 o5 o6 o7 o8 (some t) o10 o11 o12 o13 (some v) o15 o16) mh = some (.nx, LE sc l o2 (some (sysV sys)) o4 o5 o6 o7 o8 (some t) o10 o11 o12 o13 (some v) o15 o16, mh) := by
  obtain ⟨dv, pv⟩ := OD_ok v hv
  have e1 : CC 19 [v, sysV sys, t] mh = some (.bl (stepW sys t v).isSome, mh) := sp_isstep hs ht (by omega) (by omega) dv 105 mh
  have hl : ∀ ws, MV.tup [v] = .tup ws → 40 * 14 ^ ws.length ≤ 56000000 ∧ 4 + 3 * ws.length ≤ 29 := fun ws e => by cases e; exact lim (by simp)
  have hd1 : dat (.tup [v]) = true := by rw [dat, dats, dats, dv]; rfl
  have e2 : CC 36 [sysV sys, t, .tup [v]] mh = some (optV (behV sys t (.tup [v])), mh) := sp_lbehind hs ht hl hd1 (by simp only [dep, deps]; omega) 105 mh
  obtain ⟨_, i, _⟩ := beh_eqV (H := mh) hs ht hl
  have hb : (behV sys t (.tup [v])).isNone = !(stepW sys t v).isSome := by
    simp only [behV, behF]
    cases stepW sys t v <;> rfl
  rw [hb] at i
  have z1 : 1 ≤ line := by unfold line; omega
  have q2 : eqV mh (.bl (stepW sys t v).isSome) (.bl (stepW sys t v).isSome) = some true := eqV_refl mh rfl (by simp [dep])
  generalize (stepW sys t v).isSome = B at *
  generalize optV (behV sys t (.tup [v])) = OV at *
  generalize sysV sys = SV at *
  simp [LW7_11, exs, ex, ev, evs, e1, e2, z1, cmpV, i, q2]
theorem turn_ok (hps : ps ∈ tongues) {sys : List (MV × MV)} (hs : Sys (arOf ps) sys) {x : MV} (S : St l n mh) : ∃ p4 p9 p10 p11 p12 p13 p14 p15 p16 mh', forF CC 0 (.nm 5) LW7B x (LE sc l (some (.tup ps)) (some (sysV sys)) o4 o5 o6 o7 o8 o9 o10 o11 o12 o13 o14 o15 o16) mh = some (.nx, LE sc l (some (.tup ps)) (some (sysV sys)) p4 (some x) o6 o7 o8 p9 p10 p11 p12 p13 p14 p15 p16, mh') ∧ St l n mh' := by
  obtain ⟨t, mh1, e0, S1, ht⟩ := t0_ok (sc := sc) (o3 := some (sysV sys)) (o4 := o4) (o5 := some x) (o6 := o6) (o7 := o7) (o8 := o8) (o9 := o9) (o10 := o10) (o11 := o11) (o12 := o12) (o13 := o13) (o14 := o14) (o15 := o15) (o16 := o16) hps S
  have e1 := t1_ok (sc := sc) (l := l) (o2 := some (.tup ps)) (o4 := o4) (o5 := some x) (o6 := o6) (o7 := o7) (o8 := o8) (o10 := o10) (o11 := o11) (o12 := o12) (o13 := o13) (o14 := o14) (o15 := o15) (o16 := o16) (mh := mh1) hs ht
  have e2 := t2_ok (sc := sc) (l := l) (o2 := some (.tup ps)) (o4 := o4) (o5 := some x) (o6 := o6) (o7 := o7) (o8 := o8) (o11 := o11) (o12 := o12) (o13 := o13) (o14 := o14) (o15 := o15) (o16 := o16) (mh := mh1) hs ht
  obtain ⟨p11, e3⟩ := t3_ok (sc := sc) (l := l) (o2 := some (.tup ps)) (o4 := o4) (o5 := some x) (o6 := o6) (o7 := o7) (o8 := o8) (o11 := o11) (o12 := o12) (o13 := o13) (o14 := o14) (o15 := o15) (o16 := o16) (mh := mh1) hs ht
  have e4 := t4_ok (sc := sc) (l := l) (o2 := some (.tup ps)) (o3 := some (sysV sys)) (o4 := o4) (o5 := some x) (o6 := o6) (o7 := o7) (o8 := o8) (o10 := some (.lst ((stepsF sys t).map sV))) (o11 := p11) (o12 := o12) (o13 := o13) (o14 := o14) (o15 := o15) (o16 := o16) (mh := mh1) ht
  have e5 := t5_ok (sc := sc) (l := l) (o2 := some (.tup ps)) (o3 := some (sysV sys)) (o4 := o4) (o5 := some x) (o6 := o6) (o7 := o7) (o8 := o8) (o9 := some t) (o10 := some (.lst ((stepsF sys t).map sV))) (o11 := p11) (o13 := o13) (o14 := o14) (o15 := o15) (o16 := o16) (mh := mh1) ht
  have e6 := t6_ok (sc := sc) (l := l) (o2 := some (.tup ps)) (o3 := some (sysV sys)) (o4 := o4) (o5 := some x) (o6 := o6) (o7 := o7) (o8 := o8) (o10 := some (.lst ((stepsF sys t).map sV))) (o11 := p11) (o12 := some (.lst (stands t))) (o14 := o14) (o15 := o15) (o16 := o16) (mh := mh1) ht
  obtain ⟨R, u, mh2, e7, S2, hR, hb, hu⟩ := t7_ok (sc := sc) (o2 := some (.tup ps)) (o4 := o4) (o5 := some x) (o6 := o6) (o7 := o7) (o8 := o8) (o10 := some (.lst ((stepsF sys t).map sV))) (o11 := p11) (o12 := some (.lst (stands t))) (o13 := some (.lst ((pls t).filterMap (stG t)))) (o14 := o14) (o15 := o15) (o16 := o16) hs ht S1
  have e8 := t8_ok (sc := sc) (l := l) (o2 := some (.tup ps)) (o4 := o4) (o5 := some x) (o6 := o6) (o7 := o7) (o8 := o8) (o10 := some (.lst ((stepsF sys t).map sV))) (o11 := p11) (o12 := some (.lst (stands t))) (o13 := some (.lst ((pls t).filterMap (stG t)))) (o14 := o14) (mh := mh2) hs ht hR hb hu
  obtain ⟨v, mh3, hv, e9, S3⟩ := t9_ok (sc := sc) (o2 := some (.tup ps)) (o3 := some (sysV sys)) (o4 := o4) (o5 := some x) (o6 := o6) (o7 := o7) (o8 := o8) (o9 := some t) (o10 := some (.lst ((stepsF sys t).map sV))) (o11 := p11) (o12 := some (.lst (stands t))) (o13 := some (.lst ((pls t).filterMap (stG t)))) (o14 := o14) (o15 := some (.tup (R.map sV))) (o16 := some u) S2
  obtain ⟨p4, e10⟩ := t10_ok (sc := sc) (l := l) (o2 := some (.tup ps)) (o4 := o4) (o5 := some x) (o6 := o6) (o7 := o7) (o8 := o8) (o10 := some (.lst ((stepsF sys t).map sV))) (o11 := p11) (o12 := some (.lst (stands t))) (o13 := some (.lst ((pls t).filterMap (stG t)))) (o16 := some u) (mh := mh3) hs ht hR hv
  have e11 := t11_ok (sc := sc) (l := l) (o2 := some (.tup ps)) (o4 := p4) (o5 := some x) (o6 := o6) (o7 := o7) (o8 := o8) (o10 := some (.lst ((stepsF sys t).map sV))) (o11 := p11) (o12 := some (.lst (stands t))) (o13 := some (.lst ((pls t).filterMap (stG t)))) (o15 := some (.tup (R.map sV))) (o16 := some u) (mh := mh3) hs ht hv
  refine ⟨p4, some t, some (.lst ((stepsF sys t).map sV)), p11, some (.lst (stands t)), some (.lst ((pls t).filterMap (stG t))), some v, some (.tup (R.map sV)), some u, mh3, ?_, S3⟩
  have a0 : asg mh (.nm 5) x (LE sc l (some (.tup ps)) (some (sysV sys)) o4 o5 o6 o7 o8 o9 o10 o11 o12 o13 o14 o15 o16) = some (LE sc l (some (.tup ps)) (some (sysV sys)) o4 (some x) o6 o7 o8 o9 o10 o11 o12 o13 o14 o15 o16) := by simp [asg]
  unfold forF
  rw [a0]
  exact ex_go e0 (ex_go e1 (ex_go e2 (ex_go e3 (ex_go e4 (ex_go e5 (ex_go e6 (ex_go e7 (ex_go e8 (ex_go e9 (ex_go e10 (ex_go e11 rfl)))))))))))
theorem turns (hps : ps ∈ tongues) {sys : List (MV × MV)} (hs : Sys (arOf ps) sys) {J : Its} (hJ : J.src = none) : ∀ (xs : List MV) (o4 o5 o9 o10 o11 o12 o13 o14 o15 o16 : Option MV) (mh : MHp), St l n mh →
    ∃ p4 p5 p9 p10 p11 p12 p13 p14 p15 p16 mh', forGo J (forF CC 0 (.nm 5) LW7B) xs (LE sc l (some (.tup ps)) (some (sysV sys)) o4 o5 o6 o7 o8 o9 o10 o11 o12 o13 o14 o15 o16) mh = some (.nx, LE sc l (some (.tup ps)) (some (sysV sys)) p4 p5 o6 o7 o8 p9 p10 p11 p12 p13 p14 p15 p16, mh') ∧ St l n mh'
  | [], _, _, _, _, _, _, _, _, _, _, mh, S => ⟨_, _, _, _, _, _, _, _, _, _, _, forGo_nil_of hJ, S⟩
  | x :: xs, o4, o5, o9, o10, o11, o12, o13, o14, o15, o16, mh, S => by
    obtain ⟨p4, p9, p10, p11, p12, p13, p14, p15, p16, mh1, e, S1⟩ := turn_ok (sc := sc) (o4 := o4) (o5 := o5) (o6 := o6) (o7 := o7) (o8 := o8) (o9 := o9) (o10 := o10) (o11 := o11) (o12 := o12) (o13 := o13) (o14 := o14) (o15 := o15) (o16 := o16) hps hs (x := x) S
    rw [forGo_cons_of hJ, e]
    exact turns hps hs hJ xs _ _ _ _ _ _ _ _ _ _ mh1 S1
end
theorem law_true (ns : List Int) : ∃ mh, callM T 141 39 [.scr ns] [] = some (.bl true, mh) := by
  obtain ⟨l, n, mh0, e0, S0⟩ := state_ok hState 139 ns
  have a0 : ex CC 0 LW0 [some (.scr ns), none, none, none, none, none, none, none, none, none, none, none, none, none, none, none, none, none, none, none, none] [] = some (.nx, LE (some (.scr ns)) l none none none none none none none none none none none none none none none, mh0) := by
    have e0 : callM T 140 23 [.scr ns] [] = some (.loc l, mh0) := e0
    simp [LW0, ex, ev, evs, e0, asg, LE]
  obtain ⟨ps, mh1, hps, e1, S1⟩ := s1_ok (sc := some (.scr ns)) (o2 := none) (o3 := none) (o4 := none) (o5 := none) (o6 := none) (o7 := none) (o8 := none) (o9 := none) (o10 := none) (o11 := none) (o12 := none) (o13 := none) (o14 := none) (o15 := none) (o16 := none) S0
  obtain ⟨sys, mh2, e2, S2, hl, hr⟩ := s2_ok (sc := some (.scr ns)) (o3 := none) (o4 := none) (o5 := none) (o6 := none) (o7 := none) (o8 := none) (o9 := none) (o10 := none) (o11 := none) (o12 := none) (o13 := none) (o14 := none) (o15 := none) (o16 := none) hps S1
  have hs : Sys (arOf ps) sys := ⟨hl, fun r h => ⟨(hr r h).la, (hr r h).lb⟩⟩
  have e3 := s3_ok (sc := some (.scr ns)) (l := l) (o4 := none) (o5 := none) (o6 := none) (o7 := none) (o8 := none) (o9 := none) (o10 := none) (o11 := none) (o12 := none) (o13 := none) (o14 := none) (o15 := none) (o16 := none) (mh := mh2) hps hl hr
  obtain ⟨lf, rg, mh3, e4, S3, hlr⟩ := s4_ok (sc := some (.scr ns)) (o3 := some (sysV sys)) (o4 := none) (o5 := none) (o6 := none) (o7 := none) (o8 := none) (o9 := none) (o10 := none) (o11 := none) (o12 := none) (o13 := none) (o14 := none) (o15 := none) (o16 := none) hps S2
  obtain ⟨q4, q8, e5⟩ := s5_ok (sc := some (.scr ns)) (l := l) (o3 := some (sysV sys)) (o4 := none) (o5 := none) (o8 := none) (o9 := none) (o10 := none) (o11 := none) (o12 := none) (o13 := none) (o14 := none) (o15 := none) (o16 := none) (mh := mh3) hps hlr
  have e6 := s6_ok (sc := some (.scr ns)) (l := l) (o3 := some (sysV sys)) (o4 := q4) (o5 := none) (o8 := q8) (o9 := none) (o10 := none) (o11 := none) (o12 := none) (o13 := none) (o14 := none) (o15 := none) (o16 := none) (mh := mh3) hps hlr
  obtain ⟨p4, p5, p9, p10, p11, p12, p13, p14, p15, p16, mh4, e7, S4⟩ := turns (sc := some (.scr ns)) (o6 := some lf) (o7 := some rg) (o8 := q8) hps hs (J := ⟨(List.range 3).map fun (k : Nat) => .int (k : Int), none⟩) rfl ((List.range 3).map fun (k : Nat) => MV.int (k : Int)) q4 none none none none none none none none none mh3 S3
  have a7 : ex CC 0 LW7 (LE (some (.scr ns)) l (some (.tup ps)) (some (sysV sys)) q4 none (some lf) (some rg) q8 none none none none none none none none) mh3 = some (.nx, LE (some (.scr ns)) l (some (.tup ps)) (some (sysV sys)) p4 p5 (some lf) (some rg) q8 p9 p10 p11 p12 p13 p14 p15 p16, mh4) := by
    rw [LW7, ex_for]
    have : evI CC 0 (.rng1 (.c (.int (3)))) (LE (some (.scr ns)) l (some (.tup ps)) (some (sysV sys)) q4 none (some lf) (some rg) q8 none none none none none none none none) mh3 = some (⟨(List.range 3).map fun (k : Nat) => .int (k : Int), none⟩, mh3) := by simp [evI, ev]
    rw [this]
    exact e7
  have body : exs CC 0 d_law.body [some (.scr ns), none, none, none, none, none, none, none, none, none, none, none, none, none, none, none, none, none, none, none, none] [] = some (.rt (.bl true), LE (some (.scr ns)) l (some (.tup ps)) (some (sysV sys)) p4 p5 (some lf) (some rg) q8 p9 p10 p11 p12 p13 p14 p15 p16, mh4) := by
    rw [LW_eq]
    refine ex_go a0 (ex_go e1 (ex_go e2 (ex_go e3 (ex_go e4 (ex_go e5 (ex_go e6 (ex_go a7 ?_)))))))
    simp [LW8, exs, ex, ev]
  refine ⟨mh4.take 0, ?_⟩
  rw [callM_eq (d := d_law) rfl]
  exact run_of rfl rfl body rfl rfl
end L2.Mi.k08

set_option Elab.async false
set_option linter.all false
set_option maxRecDepth 100000
set_option maxHeartbeats 4000000

namespace L2.Mi.k08
open PySem PySem.Spec PyProof.Rows L2.Mi L2
/-! the table -/
theorem bd_is_whole {P : Program} {w : World} {K : PySem.W.Frag} {mg : Str → Option Value} {base : Heap} {fd : FuncData} (F : FunD K "is_whole" "is_whole" (defArgs s_is_whole) (defBody s_is_whole) (defScope s_is_whole) [] [] (He.ga K "is_whole") fd) : Binds K fd P_is_whole [] := F.bindsN fun _ _ _ _ _ _ us hl => match us, hl with | [_, _, _], _ => rfl
theorem bd_are_signs_of_text {P : Program} {w : World} {K : PySem.W.Frag} {mg : Str → Option Value} {base : Heap} {fd : FuncData} (F : FunD K "are_signs_of_text" "are_signs_of_text" (defArgs s_are_signs_of_text) (defBody s_are_signs_of_text) (defScope s_are_signs_of_text) [] [] (He.ga K "are_signs_of_text") fd) : Binds K fd P_are_signs_of_text [] := F.bindsN fun _ _ _ _ _ _ us hl => match us, hl with | [_, _], _ => rfl
theorem bd_is_sign {P : Program} {w : World} {K : PySem.W.Frag} {mg : Str → Option Value} {base : Heap} {fd : FuncData} (F : FunD K "is_sign" "is_sign" (defArgs s_is_sign) (defBody s_is_sign) (defScope s_is_sign) [] [] (He.ga K "is_sign") fd) : Binds K fd P_is_sign [] := F.bindsN fun _ _ _ _ _ _ us hl => match us, hl with | [_], _ => rfl
theorem bd_is_variable {P : Program} {w : World} {K : PySem.W.Frag} {mg : Str → Option Value} {base : Heap} {fd : FuncData} (F : FunD K "is_variable" "is_variable" (defArgs s_is_variable) (defBody s_is_variable) (defScope s_is_variable) [] [] (He.ga K "is_variable") fd) : Binds K fd P_is_variable [] := F.bindsN fun _ _ _ _ _ _ us hl => match us, hl with | [_], _ => rfl
theorem bd_places_of {P : Program} {w : World} {K : PySem.W.Frag} {mg : Str → Option Value} {base : Heap} {fd : FuncData} (F : FunD K "places_of" "places_of" (defArgs s_places_of) (defBody s_places_of) (defScope s_places_of) [] [] (He.ga K "places_of") fd) : Binds K fd P_places_of [] := F.bindsN fun _ _ _ _ _ _ us hl => match us, hl with | [_, _], _ => rfl
theorem bd_is_var {P : Program} {w : World} {K : PySem.W.Frag} {mg : Str → Option Value} {base : Heap} {fd : FuncData} (F : FunD K "is_var" "is_var" (defArgs s_is_var) (defBody s_is_var) (defScope s_is_var) [] [] (He.ga K "is_var") fd) : Binds K fd P_is_var [] := F.bindsN fun _ _ _ _ _ _ us hl => match us, hl with | [_], _ => rfl
theorem bd_nodes {P : Program} {w : World} {K : PySem.W.Frag} {mg : Str → Option Value} {base : Heap} {fd : FuncData} (F : FunD K "nodes" "nodes" (defArgs s_nodes) (defBody s_nodes) (defScope s_nodes) [] [] (He.ga K "nodes") fd) : Binds K fd P_nodes [] := F.bindsN fun _ _ _ _ _ _ us hl => match us, hl with | [_], _ => rfl
theorem bd_is_term {P : Program} {w : World} {K : PySem.W.Frag} {mg : Str → Option Value} {base : Heap} {fd : FuncData} (F : FunD K "is_term" "is_term" (defArgs s_is_term) (defBody s_is_term) (defScope s_is_term) [] [] (He.ga K "is_term") fd) : Binds K fd P_is_term [] := F.bindsN fun _ _ _ _ _ _ us hl => match us, hl with | [_, _], _ => rfl
theorem bd_variables {P : Program} {w : World} {K : PySem.W.Frag} {mg : Str → Option Value} {base : Heap} {fd : FuncData} (F : FunD K "variables" "variables" (defArgs s_variables) (defBody s_variables) (defScope s_variables) [] [] (He.ga K "variables") fd) : Binds K fd P_variables [] := F.bindsN fun _ _ _ _ _ _ us hl => match us, hl with | [_], _ => rfl
theorem bd_positions {P : Program} {w : World} {K : PySem.W.Frag} {mg : Str → Option Value} {base : Heap} {fd : FuncData} (F : FunD K "positions" "positions" (defArgs s_positions) (defBody s_positions) (defScope s_positions) [] [] (He.ga K "positions") fd) : Binds K fd P_positions [] := F.bindsN fun _ _ _ _ _ _ us hl => match us, hl with | [_], _ => rfl
theorem bd_has_position {P : Program} {w : World} {K : PySem.W.Frag} {mg : Str → Option Value} {base : Heap} {fd : FuncData} (F : FunD K "has_position" "has_position" (defArgs s_has_position) (defBody s_has_position) (defScope s_has_position) [] [] (He.ga K "has_position") fd) : Binds K fd P_has_position [] := F.bindsN fun _ _ _ _ _ _ us hl => match us, hl with | [_, _], _ => rfl
theorem bd_at {P : Program} {w : World} {K : PySem.W.Frag} {mg : Str → Option Value} {base : Heap} {fd : FuncData} (F : FunD K "at" "at" (defArgs s_at) (defBody s_at) (defScope s_at) [] [] (He.ga K "at") fd) : Binds K fd P_at [] := F.bindsN fun _ _ _ _ _ _ us hl => match us, hl with | [_, _], _ => rfl
theorem bd_put {P : Program} {w : World} {K : PySem.W.Frag} {mg : Str → Option Value} {base : Heap} {fd : FuncData} (F : FunD K "put" "put" (defArgs s_put) (defBody s_put) (defScope s_put) [] [] (He.ga K "put") fd) : Binds K fd P_put [] := F.bindsN fun _ _ _ _ _ _ us hl => match us, hl with | [_, _, _], _ => rfl
theorem bd_put_for {P : Program} {w : World} {K : PySem.W.Frag} {mg : Str → Option Value} {base : Heap} {fd : FuncData} (F : FunD K "put_for" "put_for" (defArgs s_put_for) (defBody s_put_for) (defScope s_put_for) [] [] (He.ga K "put_for") fd) : Binds K fd P_put_for [] := F.bindsN fun _ _ _ _ _ _ us hl => match us, hl with | [_, _], _ => rfl
theorem bd_matched {P : Program} {w : World} {K : PySem.W.Frag} {mg : Str → Option Value} {base : Heap} {fd : FuncData} (F : FunD K "matched" "matched" (defArgs s_matched) (defBody s_matched) (defScope s_matched) [] [] (He.ga K "matched") fd) : Binds K fd P_matched [] := F.bindsN fun _ _ _ _ _ _ us hl => match us, hl with | [_, _], _ => rfl
theorem bd_is_rule {P : Program} {w : World} {K : PySem.W.Frag} {mg : Str → Option Value} {base : Heap} {fd : FuncData} (F : FunD K "is_rule" "is_rule" (defArgs s_is_rule) (defBody s_is_rule) (defScope s_is_rule) [] [] (He.ga K "is_rule") fd) : Binds K fd P_is_rule [] := F.bindsN fun _ _ _ _ _ _ us hl => match us, hl with | [_, _], _ => rfl
theorem bd_is_system {P : Program} {w : World} {K : PySem.W.Frag} {mg : Str → Option Value} {base : Heap} {fd : FuncData} (F : FunD K "is_system" "is_system" (defArgs s_is_system) (defBody s_is_system) (defScope s_is_system) [] [] (He.ga K "is_system") fd) : Binds K fd P_is_system [] := F.bindsN fun _ _ _ _ _ _ us hl => match us, hl with | [_, _], _ => rfl
theorem bd_is_linear {P : Program} {w : World} {K : PySem.W.Frag} {mg : Str → Option Value} {base : Heap} {fd : FuncData} (F : FunD K "is_linear" "is_linear" (defArgs s_is_linear) (defBody s_is_linear) (defScope s_is_linear) [] [] (He.ga K "is_linear") fd) : Binds K fd P_is_linear [] := F.bindsN fun _ _ _ _ _ _ us hl => match us, hl with | [_], _ => rfl
theorem bd_turned {P : Program} {w : World} {K : PySem.W.Frag} {mg : Str → Option Value} {base : Heap} {fd : FuncData} (F : FunD K "turned" "turned" (defArgs s_turned) (defBody s_turned) (defScope s_turned) [] [] (He.ga K "turned") fd) : Binds K fd P_turned [] := F.bindsN fun _ _ _ _ _ _ us hl => match us, hl with | [_, _, _], _ => rfl
theorem bd_is_step {P : Program} {w : World} {K : PySem.W.Frag} {mg : Str → Option Value} {base : Heap} {fd : FuncData} (F : FunD K "is_step" "is_step" (defArgs s_is_step) (defBody s_is_step) (defScope s_is_step) [] [] (He.ga K "is_step") fd) : Binds K fd P_is_step [] := F.bindsN fun _ _ _ _ _ _ us hl => match us, hl with | [_, _, _], _ => rfl
theorem bd_steps {P : Program} {w : World} {K : PySem.W.Frag} {mg : Str → Option Value} {base : Heap} {fd : FuncData} (F : FunD K "steps" "steps" (defArgs s_steps) (defBody s_steps) (defScope s_steps) [] [] (He.ga K "steps") fd) : Binds K fd P_steps [] := F.bindsN fun _ _ _ _ _ _ us hl => match us, hl with | [_, _], _ => rfl
theorem bd_is_normal {P : Program} {w : World} {K : PySem.W.Frag} {mg : Str → Option Value} {base : Heap} {fd : FuncData} (F : FunD K "is_normal" "is_normal" (defArgs s_is_normal) (defBody s_is_normal) (defScope s_is_normal) [] [] (He.ga K "is_normal") fd) : Binds K fd P_is_normal [] := F.bindsN fun _ _ _ _ _ _ us hl => match us, hl with | [_, _], _ => rfl
theorem bd_behind_row {P : Program} {w : World} {K : PySem.W.Frag} {mg : Str → Option Value} {base : Heap} {fd : FuncData} (F : FunD K "behind_row" "behind_row" (defArgs s_behind_row) (defBody s_behind_row) (defScope s_behind_row) [] [] (He.ga K "behind_row") fd) : Binds K fd P_behind_row [] := F.bindsN fun _ _ _ _ _ _ us hl => match us, hl with | [_, _, _], _ => rfl
theorem bd_l_state {P : Program} {w : World} {K : PySem.W.Frag} {mg : Str → Option Value} {base : Heap} {fd : FuncData} (F : FunD K "_law_state" "_law_state" (defArgs s_l_state) (defBody s_l_state) (defScope s_l_state) [] [] (He.ga K "_law_state") fd) : Binds K fd P_l_state [] := F.bindsN fun _ _ _ _ _ _ us hl => match us, hl with | [_], _ => rfl
theorem bd_l_take {P : Program} {w : World} {K : PySem.W.Frag} {mg : Str → Option Value} {base : Heap} {fd : FuncData} (F : FunD K "_law_take" "_law_take" (defArgs s_l_take) (defBody s_l_take) (defScope s_l_take) [] [] (He.ga K "_law_take") fd) : Binds K fd P_l_take [] := F.bindsN fun _ _ _ _ _ _ us hl => match us, hl with | [_, _], _ => rfl
theorem bd_l_pick {P : Program} {w : World} {K : PySem.W.Frag} {mg : Str → Option Value} {base : Heap} {fd : FuncData} (F : FunD K "_law_pick" "_law_pick" (defArgs s_l_pick) (defBody s_l_pick) (defScope s_l_pick) [] [] (He.ga K "_law_pick") fd) : Binds K fd P_l_pick [] := F.bindsN fun _ _ _ _ _ _ us hl => match us, hl with | [_, _], _ => rfl
theorem bd_l_tongue {P : Program} {w : World} {K : PySem.W.Frag} {mg : Str → Option Value} {base : Heap} {fd : FuncData} (F : FunD K "_law_tongue" "_law_tongue" (defArgs s_l_tongue) (defBody s_l_tongue) (defScope s_l_tongue) [] [] (He.ga K "_law_tongue") fd) : Binds K fd P_l_tongue [] := F.bindsN fun _ _ _ _ _ _ us hl => match us, hl with | [_], _ => rfl
theorem bd_l_term {P : Program} {w : World} {K : PySem.W.Frag} {mg : Str → Option Value} {base : Heap} {fd : FuncData} (F : FunD K "_law_term" "_law_term" (defArgs s_l_term) (defBody s_l_term) (defScope s_l_term) [] [] (He.ga K "_law_term") fd) : Binds K fd P_l_term [] := F.bindsN fun _ _ _ _ _ _ us hl => match us, hl with | [_, _, _, _], _ => rfl
theorem bd_l_put {P : Program} {w : World} {K : PySem.W.Frag} {mg : Str → Option Value} {base : Heap} {fd : FuncData} (F : FunD K "_law_put" "_law_put" (defArgs s_l_put) (defBody s_l_put) (defScope s_l_put) [] [] (He.ga K "_law_put") fd) : Binds K fd P_l_put [] := F.bindsN fun _ _ _ _ _ _ us hl => match us, hl with | [_, _], _ => rfl
theorem bd_l_names {P : Program} {w : World} {K : PySem.W.Frag} {mg : Str → Option Value} {base : Heap} {fd : FuncData} (F : FunD K "_law_names" "_law_names" (defArgs s_l_names) (defBody s_l_names) (defScope s_l_names) [] [] (He.ga K "_law_names") fd) : Binds K fd P_l_names [] := F.bindsN fun _ _ _ _ _ _ us hl => match us, hl with | [_], _ => rfl
theorem bd_l_places {P : Program} {w : World} {K : PySem.W.Frag} {mg : Str → Option Value} {base : Heap} {fd : FuncData} (F : FunD K "_law_places" "_law_places" (defArgs s_l_places) (defBody s_l_places) (defScope s_l_places) [] [] (He.ga K "_law_places") fd) : Binds K fd P_l_places [] := F.bindsN fun _ _ _ _ _ _ us hl => match us, hl with | [_], _ => rfl
theorem bd_l_at {P : Program} {w : World} {K : PySem.W.Frag} {mg : Str → Option Value} {base : Heap} {fd : FuncData} (F : FunD K "_law_at" "_law_at" (defArgs s_l_at) (defBody s_l_at) (defScope s_l_at) [] [] (He.ga K "_law_at") fd) : Binds K fd P_l_at [] := F.bindsN fun _ _ _ _ _ _ us hl => match us, hl with | [_, _], _ => rfl
theorem bd_l_with {P : Program} {w : World} {K : PySem.W.Frag} {mg : Str → Option Value} {base : Heap} {fd : FuncData} (F : FunD K "_law_with" "_law_with" (defArgs s_l_with) (defBody s_l_with) (defScope s_l_with) [] [] (He.ga K "_law_with") fd) : Binds K fd P_l_with [] := F.bindsN fun _ _ _ _ _ _ us hl => match us, hl with | [_, _, _], _ => rfl
theorem bd_l_match {P : Program} {w : World} {K : PySem.W.Frag} {mg : Str → Option Value} {base : Heap} {fd : FuncData} (F : FunD K "_law_match" "_law_match" (defArgs s_l_match) (defBody s_l_match) (defScope s_l_match) [] [] (He.ga K "_law_match") fd) : Binds K fd P_l_match [] := F.bindsN fun _ _ _ _ _ _ us hl => match us, hl with | [_, _], _ => rfl
theorem bd_l_step {P : Program} {w : World} {K : PySem.W.Frag} {mg : Str → Option Value} {base : Heap} {fd : FuncData} (F : FunD K "_law_step" "_law_step" (defArgs s_l_step) (defBody s_l_step) (defScope s_l_step) [] [] (He.ga K "_law_step") fd) : Binds K fd P_l_step [] := F.bindsN fun _ _ _ _ _ _ us hl => match us, hl with | [_, _, _], _ => rfl
theorem bd_l_steps {P : Program} {w : World} {K : PySem.W.Frag} {mg : Str → Option Value} {base : Heap} {fd : FuncData} (F : FunD K "_law_steps" "_law_steps" (defArgs s_l_steps) (defBody s_l_steps) (defScope s_l_steps) [] [] (He.ga K "_law_steps") fd) : Binds K fd P_l_steps [] := F.bindsN fun _ _ _ _ _ _ us hl => match us, hl with | [_, _], _ => rfl
theorem bd_l_behind {P : Program} {w : World} {K : PySem.W.Frag} {mg : Str → Option Value} {base : Heap} {fd : FuncData} (F : FunD K "_law_behind" "_law_behind" (defArgs s_l_behind) (defBody s_l_behind) (defScope s_l_behind) [] [] (He.ga K "_law_behind") fd) : Binds K fd P_l_behind [] := F.bindsN fun _ _ _ _ _ _ us hl => match us, hl with | [_, _, _], _ => rfl
theorem bd_l_rule {P : Program} {w : World} {K : PySem.W.Frag} {mg : Str → Option Value} {base : Heap} {fd : FuncData} (F : FunD K "_law_rule" "_law_rule" (defArgs s_l_rule) (defBody s_l_rule) (defScope s_l_rule) [] [] (He.ga K "_law_rule") fd) : Binds K fd P_l_rule [] := F.bindsN fun _ _ _ _ _ _ us hl => match us, hl with | [_, _], _ => rfl
theorem bd_l_rows {P : Program} {w : World} {K : PySem.W.Frag} {mg : Str → Option Value} {base : Heap} {fd : FuncData} (F : FunD K "_law_rows" "_law_rows" (defArgs s_l_rows) (defBody s_l_rows) (defScope s_l_rows) [] [] (He.ga K "_law_rows") fd) : Binds K fd P_l_rows [] := F.bindsN fun _ _ _ _ _ _ us hl => match us, hl with | [_, _, _], _ => rfl
theorem bd_law {P : Program} {w : World} {K : PySem.W.Frag} {mg : Str → Option Value} {base : Heap} {fd : FuncData} (F : FunD K "law" "law" (defArgs s_law) (defBody s_law) (defScope s_law) [] [] (He.ga K "law") fd) : Binds K fd P_law [] := F.bindsN fun _ _ _ _ _ _ us hl => match us, hl with | [_], _ => rfl
abbrev DD (K : PySem.W.Frag) (x : Str) (st : Stmt) : Prop := ∃ fd, FunD K x x (defArgs st) (defBody st) (defScope st) [] [] (He.ga K x) fd
structure DF (K : PySem.W.Frag) : Prop where
  d_is_whole : DD K "is_whole" s_is_whole
  d_are_signs_of_text : DD K "are_signs_of_text" s_are_signs_of_text
  d_is_sign : DD K "is_sign" s_is_sign
  d_is_variable : DD K "is_variable" s_is_variable
  d_places_of : DD K "places_of" s_places_of
  d_is_var : DD K "is_var" s_is_var
  d_nodes : DD K "nodes" s_nodes
  d_is_term : DD K "is_term" s_is_term
  d_variables : DD K "variables" s_variables
  d_positions : DD K "positions" s_positions
  d_has_position : DD K "has_position" s_has_position
  d_at : DD K "at" s_at
  d_put : DD K "put" s_put
  d_put_for : DD K "put_for" s_put_for
  d_matched : DD K "matched" s_matched
  d_is_rule : DD K "is_rule" s_is_rule
  d_is_system : DD K "is_system" s_is_system
  d_is_linear : DD K "is_linear" s_is_linear
  d_turned : DD K "turned" s_turned
  d_is_step : DD K "is_step" s_is_step
  d_steps : DD K "steps" s_steps
  d_is_normal : DD K "is_normal" s_is_normal
  d_behind_row : DD K "behind_row" s_behind_row
  d_l_state : DD K "_law_state" s_l_state
  d_l_take : DD K "_law_take" s_l_take
  d_l_pick : DD K "_law_pick" s_l_pick
  d_l_tongue : DD K "_law_tongue" s_l_tongue
  d_l_term : DD K "_law_term" s_l_term
  d_l_put : DD K "_law_put" s_l_put
  d_l_names : DD K "_law_names" s_l_names
  d_l_places : DD K "_law_places" s_l_places
  d_l_at : DD K "_law_at" s_l_at
  d_l_with : DD K "_law_with" s_l_with
  d_l_match : DD K "_law_match" s_l_match
  d_l_step : DD K "_law_step" s_l_step
  d_l_steps : DD K "_law_steps" s_l_steps
  d_l_behind : DD K "_law_behind" s_l_behind
  d_l_rule : DD K "_law_rule" s_l_rule
  d_l_rows : DD K "_law_rows" s_l_rows
  d_law : DD K "law" s_law
theorem table {P : Program} {w : World} {K : PySem.W.Frag} {mg : Str → Option Value} {base : Heap} (g : GF K mg) (D : DF K) : ∀ f a, (gb K).fa f = some a → DefOk P w K mg base (gb K) T f a := by
  intro f a h
  by_cases h0 : f = 0
  · subst h0
    have e : some (He.ga K "is_whole") = some a := h
    cases e
    obtain ⟨fd, F⟩ := D.d_is_whole
    exact ⟨d_is_whole, "is_whole", "is_whole", s_is_whole, fd, N_is_whole, P_is_whole, rfl, F, sc_is_whole, rfl, rfl, bd_is_whole (P := P) (w := w) (mg := mg) (base := base) F, fun k C cdv A outer s H E FF hr => b_is_whole g _ cdv A outer s H E FF hr⟩
  by_cases h1 : f = 1
  · subst h1
    have e : some (He.ga K "are_signs_of_text") = some a := h
    cases e
    obtain ⟨fd, F⟩ := D.d_are_signs_of_text
    exact ⟨d_are_signs_of_text, "are_signs_of_text", "are_signs_of_text", s_are_signs_of_text, fd, N_are_signs_of_text, P_are_signs_of_text, rfl, F, sc_are_signs_of_text, rfl, rfl, bd_are_signs_of_text (P := P) (w := w) (mg := mg) (base := base) F, fun k C cdv A outer s H E FF hr => b_are_signs_of_text g _ cdv A outer s H E FF hr⟩
  by_cases h2 : f = 2
  · subst h2
    have e : some (He.ga K "is_sign") = some a := h
    cases e
    obtain ⟨fd, F⟩ := D.d_is_sign
    exact ⟨d_is_sign, "is_sign", "is_sign", s_is_sign, fd, N_is_sign, P_is_sign, rfl, F, sc_is_sign, rfl, rfl, bd_is_sign (P := P) (w := w) (mg := mg) (base := base) F, fun k C cdv A outer s H E FF hr => b_is_sign g _ cdv A outer s H E FF hr⟩
  by_cases h3 : f = 3
  · subst h3
    have e : some (He.ga K "is_variable") = some a := h
    cases e
    obtain ⟨fd, F⟩ := D.d_is_variable
    exact ⟨d_is_variable, "is_variable", "is_variable", s_is_variable, fd, N_is_variable, P_is_variable, rfl, F, sc_is_variable, rfl, rfl, bd_is_variable (P := P) (w := w) (mg := mg) (base := base) F, fun k C cdv A outer s H E FF hr => b_is_variable g _ cdv A outer s H E FF hr⟩
  by_cases h4 : f = 4
  · subst h4
    have e : some (He.ga K "places_of") = some a := h
    cases e
    obtain ⟨fd, F⟩ := D.d_places_of
    exact ⟨d_places_of, "places_of", "places_of", s_places_of, fd, N_places_of, P_places_of, rfl, F, sc_places_of, rfl, rfl, bd_places_of (P := P) (w := w) (mg := mg) (base := base) F, fun k C cdv A outer s H E FF hr => b_places_of g _ cdv A outer s H E FF hr⟩
  by_cases h5 : f = 5
  · subst h5
    have e : some (He.ga K "is_var") = some a := h
    cases e
    obtain ⟨fd, F⟩ := D.d_is_var
    exact ⟨d_is_var, "is_var", "is_var", s_is_var, fd, N_is_var, P_is_var, rfl, F, sc_is_var, rfl, rfl, bd_is_var (P := P) (w := w) (mg := mg) (base := base) F, fun k C cdv A outer s H E FF hr => b_is_var g _ cdv A outer s H E FF hr⟩
  by_cases h6 : f = 6
  · subst h6
    have e : some (He.ga K "nodes") = some a := h
    cases e
    obtain ⟨fd, F⟩ := D.d_nodes
    exact ⟨d_nodes, "nodes", "nodes", s_nodes, fd, N_nodes, P_nodes, rfl, F, sc_nodes, rfl, rfl, bd_nodes (P := P) (w := w) (mg := mg) (base := base) F, fun k C cdv A outer s H E FF hr => b_nodes g _ cdv A outer s H E FF hr⟩
  by_cases h7 : f = 7
  · subst h7
    have e : some (He.ga K "is_term") = some a := h
    cases e
    obtain ⟨fd, F⟩ := D.d_is_term
    exact ⟨d_is_term, "is_term", "is_term", s_is_term, fd, N_is_term, P_is_term, rfl, F, sc_is_term, rfl, rfl, bd_is_term (P := P) (w := w) (mg := mg) (base := base) F, fun k C cdv A outer s H E FF hr => b_is_term g _ cdv A outer s H E FF hr⟩
  by_cases h8 : f = 8
  · subst h8
    have e : some (He.ga K "variables") = some a := h
    cases e
    obtain ⟨fd, F⟩ := D.d_variables
    exact ⟨d_variables, "variables", "variables", s_variables, fd, N_variables, P_variables, rfl, F, sc_variables, rfl, rfl, bd_variables (P := P) (w := w) (mg := mg) (base := base) F, fun k C cdv A outer s H E FF hr => b_variables g _ cdv A outer s H E FF hr⟩
  by_cases h9 : f = 9
  · subst h9
    have e : some (He.ga K "positions") = some a := h
    cases e
    obtain ⟨fd, F⟩ := D.d_positions
    exact ⟨d_positions, "positions", "positions", s_positions, fd, N_positions, P_positions, rfl, F, sc_positions, rfl, rfl, bd_positions (P := P) (w := w) (mg := mg) (base := base) F, fun k C cdv A outer s H E FF hr => b_positions g _ cdv A outer s H E FF hr⟩
  by_cases h10 : f = 10
  · subst h10
    have e : some (He.ga K "has_position") = some a := h
    cases e
    obtain ⟨fd, F⟩ := D.d_has_position
    exact ⟨d_has_position, "has_position", "has_position", s_has_position, fd, N_has_position, P_has_position, rfl, F, sc_has_position, rfl, rfl, bd_has_position (P := P) (w := w) (mg := mg) (base := base) F, fun k C cdv A outer s H E FF hr => b_has_position g _ cdv A outer s H E FF hr⟩
  by_cases h11 : f = 11
  · subst h11
    have e : some (He.ga K "at") = some a := h
    cases e
    obtain ⟨fd, F⟩ := D.d_at
    exact ⟨d_at, "at", "at", s_at, fd, N_at, P_at, rfl, F, sc_at, rfl, rfl, bd_at (P := P) (w := w) (mg := mg) (base := base) F, fun k C cdv A outer s H E FF hr => b_at g _ cdv A outer s H E FF hr⟩
  by_cases h12 : f = 12
  · subst h12
    have e : some (He.ga K "put") = some a := h
    cases e
    obtain ⟨fd, F⟩ := D.d_put
    exact ⟨d_put, "put", "put", s_put, fd, N_put, P_put, rfl, F, sc_put, rfl, rfl, bd_put (P := P) (w := w) (mg := mg) (base := base) F, fun k C cdv A outer s H E FF hr => b_put g _ cdv A outer s H E FF hr⟩
  by_cases h13 : f = 13
  · subst h13
    have e : some (He.ga K "put_for") = some a := h
    cases e
    obtain ⟨fd, F⟩ := D.d_put_for
    exact ⟨d_put_for, "put_for", "put_for", s_put_for, fd, N_put_for, P_put_for, rfl, F, sc_put_for, rfl, rfl, bd_put_for (P := P) (w := w) (mg := mg) (base := base) F, fun k C cdv A outer s H E FF hr => b_put_for g _ cdv A outer s H E FF hr⟩
  by_cases h14 : f = 14
  · subst h14
    have e : some (He.ga K "matched") = some a := h
    cases e
    obtain ⟨fd, F⟩ := D.d_matched
    exact ⟨d_matched, "matched", "matched", s_matched, fd, N_matched, P_matched, rfl, F, sc_matched, rfl, rfl, bd_matched (P := P) (w := w) (mg := mg) (base := base) F, fun k C cdv A outer s H E FF hr => b_matched g _ cdv A outer s H E FF hr⟩
  by_cases h15 : f = 15
  · subst h15
    have e : some (He.ga K "is_rule") = some a := h
    cases e
    obtain ⟨fd, F⟩ := D.d_is_rule
    exact ⟨d_is_rule, "is_rule", "is_rule", s_is_rule, fd, N_is_rule, P_is_rule, rfl, F, sc_is_rule, rfl, rfl, bd_is_rule (P := P) (w := w) (mg := mg) (base := base) F, fun k C cdv A outer s H E FF hr => b_is_rule g _ cdv A outer s H E FF hr⟩
  by_cases h16 : f = 16
  · subst h16
    have e : some (He.ga K "is_system") = some a := h
    cases e
    obtain ⟨fd, F⟩ := D.d_is_system
    exact ⟨d_is_system, "is_system", "is_system", s_is_system, fd, N_is_system, P_is_system, rfl, F, sc_is_system, rfl, rfl, bd_is_system (P := P) (w := w) (mg := mg) (base := base) F, fun k C cdv A outer s H E FF hr => b_is_system g _ cdv A outer s H E FF hr⟩
  by_cases h17 : f = 17
  · subst h17
    have e : some (He.ga K "is_linear") = some a := h
    cases e
    obtain ⟨fd, F⟩ := D.d_is_linear
    exact ⟨d_is_linear, "is_linear", "is_linear", s_is_linear, fd, N_is_linear, P_is_linear, rfl, F, sc_is_linear, rfl, rfl, bd_is_linear (P := P) (w := w) (mg := mg) (base := base) F, fun k C cdv A outer s H E FF hr => b_is_linear g _ cdv A outer s H E FF hr⟩
  by_cases h18 : f = 18
  · subst h18
    have e : some (He.ga K "turned") = some a := h
    cases e
    obtain ⟨fd, F⟩ := D.d_turned
    exact ⟨d_turned, "turned", "turned", s_turned, fd, N_turned, P_turned, rfl, F, sc_turned, rfl, rfl, bd_turned (P := P) (w := w) (mg := mg) (base := base) F, fun k C cdv A outer s H E FF hr => b_turned g _ cdv A outer s H E FF hr⟩
  by_cases h19 : f = 19
  · subst h19
    have e : some (He.ga K "is_step") = some a := h
    cases e
    obtain ⟨fd, F⟩ := D.d_is_step
    exact ⟨d_is_step, "is_step", "is_step", s_is_step, fd, N_is_step, P_is_step, rfl, F, sc_is_step, rfl, rfl, bd_is_step (P := P) (w := w) (mg := mg) (base := base) F, fun k C cdv A outer s H E FF hr => b_is_step g _ cdv A outer s H E FF hr⟩
  by_cases h20 : f = 20
  · subst h20
    have e : some (He.ga K "steps") = some a := h
    cases e
    obtain ⟨fd, F⟩ := D.d_steps
    exact ⟨d_steps, "steps", "steps", s_steps, fd, N_steps, P_steps, rfl, F, sc_steps, rfl, rfl, bd_steps (P := P) (w := w) (mg := mg) (base := base) F, fun k C cdv A outer s H E FF hr => b_steps g _ cdv A outer s H E FF hr⟩
  by_cases h21 : f = 21
  · subst h21
    have e : some (He.ga K "is_normal") = some a := h
    cases e
    obtain ⟨fd, F⟩ := D.d_is_normal
    exact ⟨d_is_normal, "is_normal", "is_normal", s_is_normal, fd, N_is_normal, P_is_normal, rfl, F, sc_is_normal, rfl, rfl, bd_is_normal (P := P) (w := w) (mg := mg) (base := base) F, fun k C cdv A outer s H E FF hr => b_is_normal g _ cdv A outer s H E FF hr⟩
  by_cases h22 : f = 22
  · subst h22
    have e : some (He.ga K "behind_row") = some a := h
    cases e
    obtain ⟨fd, F⟩ := D.d_behind_row
    exact ⟨d_behind_row, "behind_row", "behind_row", s_behind_row, fd, N_behind_row, P_behind_row, rfl, F, sc_behind_row, rfl, rfl, bd_behind_row (P := P) (w := w) (mg := mg) (base := base) F, fun k C cdv A outer s H E FF hr => b_behind_row g _ cdv A outer s H E FF hr⟩
  by_cases h23 : f = 23
  · subst h23
    have e : some (He.ga K "_law_state") = some a := h
    cases e
    obtain ⟨fd, F⟩ := D.d_l_state
    exact ⟨d_l_state, "_law_state", "_law_state", s_l_state, fd, N_l_state, P_l_state, rfl, F, sc_l_state, rfl, rfl, bd_l_state (P := P) (w := w) (mg := mg) (base := base) F, fun k C cdv A outer s H E FF hr => b_l_state g _ cdv A outer s H E FF hr⟩
  by_cases h24 : f = 24
  · subst h24
    have e : some (He.ga K "_law_take") = some a := h
    cases e
    obtain ⟨fd, F⟩ := D.d_l_take
    exact ⟨d_l_take, "_law_take", "_law_take", s_l_take, fd, N_l_take, P_l_take, rfl, F, sc_l_take, rfl, rfl, bd_l_take (P := P) (w := w) (mg := mg) (base := base) F, fun k C cdv A outer s H E FF hr => b_l_take g _ cdv A outer s H E FF hr⟩
  by_cases h25 : f = 25
  · subst h25
    have e : some (He.ga K "_law_pick") = some a := h
    cases e
    obtain ⟨fd, F⟩ := D.d_l_pick
    exact ⟨d_l_pick, "_law_pick", "_law_pick", s_l_pick, fd, N_l_pick, P_l_pick, rfl, F, sc_l_pick, rfl, rfl, bd_l_pick (P := P) (w := w) (mg := mg) (base := base) F, fun k C cdv A outer s H E FF hr => b_l_pick g _ cdv A outer s H E FF hr⟩
  by_cases h26 : f = 26
  · subst h26
    have e : some (He.ga K "_law_tongue") = some a := h
    cases e
    obtain ⟨fd, F⟩ := D.d_l_tongue
    exact ⟨d_l_tongue, "_law_tongue", "_law_tongue", s_l_tongue, fd, N_l_tongue, P_l_tongue, rfl, F, sc_l_tongue, rfl, rfl, bd_l_tongue (P := P) (w := w) (mg := mg) (base := base) F, fun k C cdv A outer s H E FF hr => b_l_tongue g _ cdv A outer s H E FF hr⟩
  by_cases h27 : f = 27
  · subst h27
    have e : some (He.ga K "_law_term") = some a := h
    cases e
    obtain ⟨fd, F⟩ := D.d_l_term
    exact ⟨d_l_term, "_law_term", "_law_term", s_l_term, fd, N_l_term, P_l_term, rfl, F, sc_l_term, rfl, rfl, bd_l_term (P := P) (w := w) (mg := mg) (base := base) F, fun k C cdv A outer s H E FF hr => b_l_term g _ cdv A outer s H E FF hr⟩
  by_cases h28 : f = 28
  · subst h28
    have e : some (He.ga K "_law_put") = some a := h
    cases e
    obtain ⟨fd, F⟩ := D.d_l_put
    exact ⟨d_l_put, "_law_put", "_law_put", s_l_put, fd, N_l_put, P_l_put, rfl, F, sc_l_put, rfl, rfl, bd_l_put (P := P) (w := w) (mg := mg) (base := base) F, fun k C cdv A outer s H E FF hr => b_l_put g _ cdv A outer s H E FF hr⟩
  by_cases h29 : f = 29
  · subst h29
    have e : some (He.ga K "_law_names") = some a := h
    cases e
    obtain ⟨fd, F⟩ := D.d_l_names
    exact ⟨d_l_names, "_law_names", "_law_names", s_l_names, fd, N_l_names, P_l_names, rfl, F, sc_l_names, rfl, rfl, bd_l_names (P := P) (w := w) (mg := mg) (base := base) F, fun k C cdv A outer s H E FF hr => b_l_names g _ cdv A outer s H E FF hr⟩
  by_cases h30 : f = 30
  · subst h30
    have e : some (He.ga K "_law_places") = some a := h
    cases e
    obtain ⟨fd, F⟩ := D.d_l_places
    exact ⟨d_l_places, "_law_places", "_law_places", s_l_places, fd, N_l_places, P_l_places, rfl, F, sc_l_places, rfl, rfl, bd_l_places (P := P) (w := w) (mg := mg) (base := base) F, fun k C cdv A outer s H E FF hr => b_l_places g _ cdv A outer s H E FF hr⟩
  by_cases h31 : f = 31
  · subst h31
    have e : some (He.ga K "_law_at") = some a := h
    cases e
    obtain ⟨fd, F⟩ := D.d_l_at
    exact ⟨d_l_at, "_law_at", "_law_at", s_l_at, fd, N_l_at, P_l_at, rfl, F, sc_l_at, rfl, rfl, bd_l_at (P := P) (w := w) (mg := mg) (base := base) F, fun k C cdv A outer s H E FF hr => b_l_at g _ cdv A outer s H E FF hr⟩
  by_cases h32 : f = 32
  · subst h32
    have e : some (He.ga K "_law_with") = some a := h
    cases e
    obtain ⟨fd, F⟩ := D.d_l_with
    exact ⟨d_l_with, "_law_with", "_law_with", s_l_with, fd, N_l_with, P_l_with, rfl, F, sc_l_with, rfl, rfl, bd_l_with (P := P) (w := w) (mg := mg) (base := base) F, fun k C cdv A outer s H E FF hr => b_l_with g _ cdv A outer s H E FF hr⟩
  by_cases h33 : f = 33
  · subst h33
    have e : some (He.ga K "_law_match") = some a := h
    cases e
    obtain ⟨fd, F⟩ := D.d_l_match
    exact ⟨d_l_match, "_law_match", "_law_match", s_l_match, fd, N_l_match, P_l_match, rfl, F, sc_l_match, rfl, rfl, bd_l_match (P := P) (w := w) (mg := mg) (base := base) F, fun k C cdv A outer s H E FF hr => b_l_match g _ cdv A outer s H E FF hr⟩
  by_cases h34 : f = 34
  · subst h34
    have e : some (He.ga K "_law_step") = some a := h
    cases e
    obtain ⟨fd, F⟩ := D.d_l_step
    exact ⟨d_l_step, "_law_step", "_law_step", s_l_step, fd, N_l_step, P_l_step, rfl, F, sc_l_step, rfl, rfl, bd_l_step (P := P) (w := w) (mg := mg) (base := base) F, fun k C cdv A outer s H E FF hr => b_l_step g _ cdv A outer s H E FF hr⟩
  by_cases h35 : f = 35
  · subst h35
    have e : some (He.ga K "_law_steps") = some a := h
    cases e
    obtain ⟨fd, F⟩ := D.d_l_steps
    exact ⟨d_l_steps, "_law_steps", "_law_steps", s_l_steps, fd, N_l_steps, P_l_steps, rfl, F, sc_l_steps, rfl, rfl, bd_l_steps (P := P) (w := w) (mg := mg) (base := base) F, fun k C cdv A outer s H E FF hr => b_l_steps g _ cdv A outer s H E FF hr⟩
  by_cases h36 : f = 36
  · subst h36
    have e : some (He.ga K "_law_behind") = some a := h
    cases e
    obtain ⟨fd, F⟩ := D.d_l_behind
    exact ⟨d_l_behind, "_law_behind", "_law_behind", s_l_behind, fd, N_l_behind, P_l_behind, rfl, F, sc_l_behind, rfl, rfl, bd_l_behind (P := P) (w := w) (mg := mg) (base := base) F, fun k C cdv A outer s H E FF hr => b_l_behind g _ cdv A outer s H E FF hr⟩
  by_cases h37 : f = 37
  · subst h37
    have e : some (He.ga K "_law_rule") = some a := h
    cases e
    obtain ⟨fd, F⟩ := D.d_l_rule
    exact ⟨d_l_rule, "_law_rule", "_law_rule", s_l_rule, fd, N_l_rule, P_l_rule, rfl, F, sc_l_rule, rfl, rfl, bd_l_rule (P := P) (w := w) (mg := mg) (base := base) F, fun k C cdv A outer s H E FF hr => b_l_rule g _ cdv A outer s H E FF hr⟩
  by_cases h38 : f = 38
  · subst h38
    have e : some (He.ga K "_law_rows") = some a := h
    cases e
    obtain ⟨fd, F⟩ := D.d_l_rows
    exact ⟨d_l_rows, "_law_rows", "_law_rows", s_l_rows, fd, N_l_rows, P_l_rows, rfl, F, sc_l_rows, rfl, rfl, bd_l_rows (P := P) (w := w) (mg := mg) (base := base) F, fun k C cdv A outer s H E FF hr => b_l_rows g _ cdv A outer s H E FF hr⟩
  by_cases h39 : f = 39
  · subst h39
    have e : some (He.ga K "law") = some a := h
    cases e
    obtain ⟨fd, F⟩ := D.d_law
    exact ⟨d_law, "law", "law", s_law, fd, N_law, P_law, rfl, F, sc_law, rfl, rfl, bd_law (P := P) (w := w) (mg := mg) (base := base) F, fun k C cdv A outer s H E FF hr => b_law g _ cdv A outer s H E FF hr⟩
  exfalso
  have : faO K f = none := by
    unfold faO
    split <;> first | contradiction | rfl
  rw [show (gb K).fa f = faO K f from rfl, this] at h
  cases h
/-! the head -/
def h_is_whole : He.DefD := ⟨("is_whole", none), "is_whole", "is_whole", defArgs s_is_whole, defBody s_is_whole, defScope s_is_whole, [], []⟩
def h_are_signs_of_text : He.DefD := ⟨("are_signs_of_text", none), "are_signs_of_text", "are_signs_of_text", defArgs s_are_signs_of_text, defBody s_are_signs_of_text, defScope s_are_signs_of_text, [], []⟩
def h_is_sign : He.DefD := ⟨("is_sign", none), "is_sign", "is_sign", defArgs s_is_sign, defBody s_is_sign, defScope s_is_sign, [], []⟩
def h_is_variable : He.DefD := ⟨("is_variable", none), "is_variable", "is_variable", defArgs s_is_variable, defBody s_is_variable, defScope s_is_variable, [], []⟩
def h_places_of : He.DefD := ⟨("places_of", none), "places_of", "places_of", defArgs s_places_of, defBody s_places_of, defScope s_places_of, [], []⟩
def h_is_var : He.DefD := ⟨("is_var", none), "is_var", "is_var", defArgs s_is_var, defBody s_is_var, defScope s_is_var, [], []⟩
def h_nodes : He.DefD := ⟨("nodes", none), "nodes", "nodes", defArgs s_nodes, defBody s_nodes, defScope s_nodes, [], []⟩
def h_is_term : He.DefD := ⟨("is_term", none), "is_term", "is_term", defArgs s_is_term, defBody s_is_term, defScope s_is_term, [], []⟩
def h_variables : He.DefD := ⟨("variables", none), "variables", "variables", defArgs s_variables, defBody s_variables, defScope s_variables, [], []⟩
def h_positions : He.DefD := ⟨("positions", none), "positions", "positions", defArgs s_positions, defBody s_positions, defScope s_positions, [], []⟩
def h_has_position : He.DefD := ⟨("has_position", none), "has_position", "has_position", defArgs s_has_position, defBody s_has_position, defScope s_has_position, [], []⟩
def h_at : He.DefD := ⟨("at", none), "at", "at", defArgs s_at, defBody s_at, defScope s_at, [], []⟩
def h_put : He.DefD := ⟨("put", none), "put", "put", defArgs s_put, defBody s_put, defScope s_put, [], []⟩
def h_put_for : He.DefD := ⟨("put_for", none), "put_for", "put_for", defArgs s_put_for, defBody s_put_for, defScope s_put_for, [], []⟩
def h_matched : He.DefD := ⟨("matched", none), "matched", "matched", defArgs s_matched, defBody s_matched, defScope s_matched, [], []⟩
def h_is_rule : He.DefD := ⟨("is_rule", none), "is_rule", "is_rule", defArgs s_is_rule, defBody s_is_rule, defScope s_is_rule, [], []⟩
def h_is_system : He.DefD := ⟨("is_system", none), "is_system", "is_system", defArgs s_is_system, defBody s_is_system, defScope s_is_system, [], []⟩
def h_is_linear : He.DefD := ⟨("is_linear", none), "is_linear", "is_linear", defArgs s_is_linear, defBody s_is_linear, defScope s_is_linear, [], []⟩
def h_turned : He.DefD := ⟨("turned", none), "turned", "turned", defArgs s_turned, defBody s_turned, defScope s_turned, [], []⟩
def h_is_step : He.DefD := ⟨("is_step", none), "is_step", "is_step", defArgs s_is_step, defBody s_is_step, defScope s_is_step, [], []⟩
def h_steps : He.DefD := ⟨("steps", none), "steps", "steps", defArgs s_steps, defBody s_steps, defScope s_steps, [], []⟩
def h_is_normal : He.DefD := ⟨("is_normal", none), "is_normal", "is_normal", defArgs s_is_normal, defBody s_is_normal, defScope s_is_normal, [], []⟩
def h_behind_row : He.DefD := ⟨("behind_row", none), "behind_row", "behind_row", defArgs s_behind_row, defBody s_behind_row, defScope s_behind_row, [], []⟩
def h_l_state : He.DefD := ⟨("_law_state", none), "_law_state", "_law_state", defArgs s_l_state, defBody s_l_state, defScope s_l_state, [], []⟩
def h_l_take : He.DefD := ⟨("_law_take", none), "_law_take", "_law_take", defArgs s_l_take, defBody s_l_take, defScope s_l_take, [], []⟩
def h_l_pick : He.DefD := ⟨("_law_pick", none), "_law_pick", "_law_pick", defArgs s_l_pick, defBody s_l_pick, defScope s_l_pick, [], []⟩
def h_l_tongue : He.DefD := ⟨("_law_tongue", none), "_law_tongue", "_law_tongue", defArgs s_l_tongue, defBody s_l_tongue, defScope s_l_tongue, [], []⟩
def h_l_term : He.DefD := ⟨("_law_term", none), "_law_term", "_law_term", defArgs s_l_term, defBody s_l_term, defScope s_l_term, [], []⟩
def h_l_put : He.DefD := ⟨("_law_put", none), "_law_put", "_law_put", defArgs s_l_put, defBody s_l_put, defScope s_l_put, [], []⟩
def h_l_names : He.DefD := ⟨("_law_names", none), "_law_names", "_law_names", defArgs s_l_names, defBody s_l_names, defScope s_l_names, [], []⟩
def h_l_places : He.DefD := ⟨("_law_places", none), "_law_places", "_law_places", defArgs s_l_places, defBody s_l_places, defScope s_l_places, [], []⟩
def h_l_at : He.DefD := ⟨("_law_at", none), "_law_at", "_law_at", defArgs s_l_at, defBody s_l_at, defScope s_l_at, [], []⟩
def h_l_with : He.DefD := ⟨("_law_with", none), "_law_with", "_law_with", defArgs s_l_with, defBody s_l_with, defScope s_l_with, [], []⟩
def h_l_match : He.DefD := ⟨("_law_match", none), "_law_match", "_law_match", defArgs s_l_match, defBody s_l_match, defScope s_l_match, [], []⟩
def h_l_step : He.DefD := ⟨("_law_step", none), "_law_step", "_law_step", defArgs s_l_step, defBody s_l_step, defScope s_l_step, [], []⟩
def h_l_steps : He.DefD := ⟨("_law_steps", none), "_law_steps", "_law_steps", defArgs s_l_steps, defBody s_l_steps, defScope s_l_steps, [], []⟩
def h_l_behind : He.DefD := ⟨("_law_behind", none), "_law_behind", "_law_behind", defArgs s_l_behind, defBody s_l_behind, defScope s_l_behind, [], []⟩
def h_l_rule : He.DefD := ⟨("_law_rule", none), "_law_rule", "_law_rule", defArgs s_l_rule, defBody s_l_rule, defScope s_l_rule, [], []⟩
def h_l_rows : He.DefD := ⟨("_law_rows", none), "_law_rows", "_law_rows", defArgs s_l_rows, defBody s_l_rows, defScope s_l_rows, [], []⟩
def h_law : He.DefD := ⟨("law", none), "law", "law", defArgs s_law, defBody s_law, defScope s_law, [], []⟩
def fn : List He.DefD := [h_is_whole, h_are_signs_of_text, h_is_sign, h_is_variable, h_places_of, h_is_var, h_nodes, h_is_term, h_variables, h_positions, h_has_position, h_at, h_put, h_put_for, h_matched, h_is_rule, h_is_system, h_is_linear, h_turned, h_is_step, h_steps, h_is_normal, h_behind_row, h_l_state, h_l_take, h_l_pick, h_l_tongue, h_l_term, h_l_put, h_l_names, h_l_places, h_l_at, h_l_with, h_l_match, h_l_step, h_l_steps, h_l_behind, h_l_rule, h_l_rows, h_law]
def fa : List He.Fa := [.free "abs", .free "all", .free "bool", .free "int", .free "isinstance", .free "len", .free "list", .free "range", .free "sorted", .free "str", .free "tuple", .free "zip", .glo "_law_at", .glo "_law_behind", .glo "_law_match", .glo "_law_names", .glo "_law_pick", .glo "_law_places", .glo "_law_put", .glo "_law_rows", .glo "_law_rule", .glo "_law_state", .glo "_law_step", .glo "_law_steps", .glo "_law_take", .glo "_law_term", .glo "_law_tongue", .glo "_law_with", .glo "are_signs_of_text", .glo "at", .glo "behind_row", .glo "has_position", .glo "is_linear", .glo "is_normal", .glo "is_rule", .glo "is_sign", .glo "is_step", .glo "is_system", .glo "is_term", .glo "is_var", .glo "is_variable", .glo "is_whole", .glo "matched", .glo "nodes", .glo "places_of", .glo "positions", .glo "put", .glo "put_for", .glo "steps", .glo "turned", .glo "variables", .int "MOST_LETTERS" (8), .int "MOST_NODES" (400), .int "MOST_RULES" (20), .glo "is_whole", .glo "are_signs_of_text", .glo "is_sign", .glo "is_variable", .glo "places_of", .glo "is_var", .glo "nodes", .glo "is_term", .glo "variables", .glo "positions", .glo "has_position", .glo "at", .glo "put", .glo "put_for", .glo "matched", .glo "is_rule", .glo "is_system", .glo "is_linear", .glo "turned", .glo "is_step", .glo "steps", .glo "is_normal", .glo "behind_row", .glo "_law_state", .glo "_law_take", .glo "_law_pick", .glo "_law_tongue", .glo "_law_term", .glo "_law_put", .glo "_law_names", .glo "_law_places", .glo "_law_at", .glo "_law_with", .glo "_law_match", .glo "_law_step", .glo "_law_steps", .glo "_law_behind", .glo "_law_rule", .glo "_law_rows", .glo "law"]
abbrev R : PySem.W.OpenRow := PySem.W.OpenLaw.row PySem.Challenge.rw_termwright_k08_rules_and_steps
abbrev hk : PySem.W.Hook := He.hookD 4 fa fn
def ob (s : PySem.W.SharedT) : He.AlD := He.obsDG 4 fa fn (HandSHeadRun.getT s)
theorem ob_eq (s : PySem.W.SharedT) : ob s = hk.obs s.abs := He.obsDG_eq (HandSHeadRun.getT_eq s)
theorem run (w : World) : HandSHeadRun.RunEq R (PySem.W.view R.prog [47]) hk ob 4000 (("MOST_NODES" : PySem.Str) :: ("MOST_LETTERS" : PySem.Str) :: ("is_whole" : PySem.Str) :: ("are_signs_of_text" : PySem.Str) :: ("is_sign" : PySem.Str) :: ("is_variable" : PySem.Str) :: ("places_of" : PySem.Str) :: ("is_var" : PySem.Str) :: ("nodes" : PySem.Str) :: ("is_term" : PySem.Str) :: ("variables" : PySem.Str) :: ("positions" : PySem.Str) :: ("has_position" : PySem.Str) :: ("at" : PySem.Str) :: ("put" : PySem.Str) :: ("put_for" : PySem.Str) :: ("matched" : PySem.Str) :: ("MOST_RULES" : PySem.Str) :: ("is_rule" : PySem.Str) :: ("is_system" : PySem.Str) :: ("is_linear" : PySem.Str) :: ("turned" : PySem.Str) :: ("is_step" : PySem.Str) :: ("steps" : PySem.Str) :: ("is_normal" : PySem.Str) :: ("behind_row" : PySem.Str) :: ("_law_state" : PySem.Str) :: ("_law_take" : PySem.Str) :: ("_law_pick" : PySem.Str) :: ("_law_tongue" : PySem.Str) :: ("_law_term" : PySem.Str) :: ("_law_put" : PySem.Str) :: ("_law_names" : PySem.Str) :: ("_law_places" : PySem.Str) :: ("_law_at" : PySem.Str) :: ("_law_with" : PySem.Str) :: ("_law_match" : PySem.Str) :: ("_law_step" : PySem.Str) :: ("_law_steps" : PySem.Str) :: ("_law_behind" : PySem.Str) :: ("_law_rule" : PySem.Str) :: ("_law_rows" : PySem.Str) :: []) w := by
  intro os
  kernel_rfl
theorem facts {K : PySem.W.Frag} {h : Heap} {mg : Str → Option Value} (X : K.In h) (G : h.Ns mainGlobals mg) (c : He.SaysD fa fn K) : GF K mg ∧ DF K := by
  refine ⟨⟨He.free_ok X G (c.fact 0 (f := .free "abs") rfl), He.free_ok X G (c.fact 1 (f := .free "all") rfl), He.free_ok X G (c.fact 2 (f := .free "bool") rfl), He.free_ok X G (c.fact 3 (f := .free "int") rfl), He.free_ok X G (c.fact 4 (f := .free "isinstance") rfl), He.free_ok X G (c.fact 5 (f := .free "len") rfl), He.free_ok X G (c.fact 6 (f := .free "list") rfl), He.free_ok X G (c.fact 7 (f := .free "range") rfl), He.free_ok X G (c.fact 8 (f := .free "sorted") rfl), He.free_ok X G (c.fact 9 (f := .free "str") rfl), He.free_ok X G (c.fact 10 (f := .free "tuple") rfl), He.free_ok X G (c.fact 11 (f := .free "zip") rfl), He.glo_ok X G (c.fact 12 (f := .glo "_law_at") rfl), He.glo_ok X G (c.fact 13 (f := .glo "_law_behind") rfl), He.glo_ok X G (c.fact 14 (f := .glo "_law_match") rfl), He.glo_ok X G (c.fact 15 (f := .glo "_law_names") rfl), He.glo_ok X G (c.fact 16 (f := .glo "_law_pick") rfl), He.glo_ok X G (c.fact 17 (f := .glo "_law_places") rfl), He.glo_ok X G (c.fact 18 (f := .glo "_law_put") rfl), He.glo_ok X G (c.fact 19 (f := .glo "_law_rows") rfl), He.glo_ok X G (c.fact 20 (f := .glo "_law_rule") rfl), He.glo_ok X G (c.fact 21 (f := .glo "_law_state") rfl), He.glo_ok X G (c.fact 22 (f := .glo "_law_step") rfl), He.glo_ok X G (c.fact 23 (f := .glo "_law_steps") rfl), He.glo_ok X G (c.fact 24 (f := .glo "_law_take") rfl), He.glo_ok X G (c.fact 25 (f := .glo "_law_term") rfl), He.glo_ok X G (c.fact 26 (f := .glo "_law_tongue") rfl), He.glo_ok X G (c.fact 27 (f := .glo "_law_with") rfl), He.glo_ok X G (c.fact 28 (f := .glo "are_signs_of_text") rfl), He.glo_ok X G (c.fact 29 (f := .glo "at") rfl), He.glo_ok X G (c.fact 30 (f := .glo "behind_row") rfl), He.glo_ok X G (c.fact 31 (f := .glo "has_position") rfl), He.glo_ok X G (c.fact 32 (f := .glo "is_linear") rfl), He.glo_ok X G (c.fact 33 (f := .glo "is_normal") rfl), He.glo_ok X G (c.fact 34 (f := .glo "is_rule") rfl), He.glo_ok X G (c.fact 35 (f := .glo "is_sign") rfl), He.glo_ok X G (c.fact 36 (f := .glo "is_step") rfl), He.glo_ok X G (c.fact 37 (f := .glo "is_system") rfl), He.glo_ok X G (c.fact 38 (f := .glo "is_term") rfl), He.glo_ok X G (c.fact 39 (f := .glo "is_var") rfl), He.glo_ok X G (c.fact 40 (f := .glo "is_variable") rfl), He.glo_ok X G (c.fact 41 (f := .glo "is_whole") rfl), He.glo_ok X G (c.fact 42 (f := .glo "matched") rfl), He.glo_ok X G (c.fact 43 (f := .glo "nodes") rfl), He.glo_ok X G (c.fact 44 (f := .glo "places_of") rfl), He.glo_ok X G (c.fact 45 (f := .glo "positions") rfl), He.glo_ok X G (c.fact 46 (f := .glo "put") rfl), He.glo_ok X G (c.fact 47 (f := .glo "put_for") rfl), He.glo_ok X G (c.fact 48 (f := .glo "steps") rfl), He.glo_ok X G (c.fact 49 (f := .glo "turned") rfl), He.glo_ok X G (c.fact 50 (f := .glo "variables") rfl), He.int_ok X G (c.fact 51 (f := .int "MOST_LETTERS" (8)) rfl), He.int_ok X G (c.fact 52 (f := .int "MOST_NODES" (400)) rfl), He.int_ok X G (c.fact 53 (f := .int "MOST_RULES" (20)) rfl)⟩, ⟨c.def_ 0 (d := h_is_whole) rfl, c.def_ 1 (d := h_are_signs_of_text) rfl, c.def_ 2 (d := h_is_sign) rfl, c.def_ 3 (d := h_is_variable) rfl, c.def_ 4 (d := h_places_of) rfl, c.def_ 5 (d := h_is_var) rfl, c.def_ 6 (d := h_nodes) rfl, c.def_ 7 (d := h_is_term) rfl, c.def_ 8 (d := h_variables) rfl, c.def_ 9 (d := h_positions) rfl, c.def_ 10 (d := h_has_position) rfl, c.def_ 11 (d := h_at) rfl, c.def_ 12 (d := h_put) rfl, c.def_ 13 (d := h_put_for) rfl, c.def_ 14 (d := h_matched) rfl, c.def_ 15 (d := h_is_rule) rfl, c.def_ 16 (d := h_is_system) rfl, c.def_ 17 (d := h_is_linear) rfl, c.def_ 18 (d := h_turned) rfl, c.def_ 19 (d := h_is_step) rfl, c.def_ 20 (d := h_steps) rfl, c.def_ 21 (d := h_is_normal) rfl, c.def_ 22 (d := h_behind_row) rfl, c.def_ 23 (d := h_l_state) rfl, c.def_ 24 (d := h_l_take) rfl, c.def_ 25 (d := h_l_pick) rfl, c.def_ 26 (d := h_l_tongue) rfl, c.def_ 27 (d := h_l_term) rfl, c.def_ 28 (d := h_l_put) rfl, c.def_ 29 (d := h_l_names) rfl, c.def_ 30 (d := h_l_places) rfl, c.def_ 31 (d := h_l_at) rfl, c.def_ 32 (d := h_l_with) rfl, c.def_ 33 (d := h_l_match) rfl, c.def_ 34 (d := h_l_step) rfl, c.def_ 35 (d := h_l_steps) rfl, c.def_ 36 (d := h_l_behind) rfl, c.def_ 37 (d := h_l_rule) rfl, c.def_ 38 (d := h_l_rows) rfl, c.def_ 39 (d := h_law) rfl⟩⟩
theorem holds_of (LT : ∀ ns : List Int, ns.length ≤ 63 → ∃ mh, callM T 141 39 [.scr ns] [] = some (.bl true, mh)) : PySem.Challenge.rw_termwright_k08_rules_and_steps.Holds := by
  open PySem.W PySem.Calls in
  w_on; o_law
  refine HandSHeadRun.head_any (r := PySem.W.OpenLaw.row PySem.Challenge.rw_termwright_k08_rules_and_steps) (q := PySem.W.view (PySem.W.OpenLaw.row PySem.Challenge.rw_termwright_k08_rules_and_steps).prog [47]) (H := hk) (ob := ob) (M := 4000) (loose := (("MOST_NODES" : PySem.Str) :: ("MOST_LETTERS" : PySem.Str) :: ("is_whole" : PySem.Str) :: ("are_signs_of_text" : PySem.Str) :: ("is_sign" : PySem.Str) :: ("is_variable" : PySem.Str) :: ("places_of" : PySem.Str) :: ("is_var" : PySem.Str) :: ("nodes" : PySem.Str) :: ("is_term" : PySem.Str) :: ("variables" : PySem.Str) :: ("positions" : PySem.Str) :: ("has_position" : PySem.Str) :: ("at" : PySem.Str) :: ("put" : PySem.Str) :: ("put_for" : PySem.Str) :: ("matched" : PySem.Str) :: ("MOST_RULES" : PySem.Str) :: ("is_rule" : PySem.Str) :: ("is_system" : PySem.Str) :: ("is_linear" : PySem.Str) :: ("turned" : PySem.Str) :: ("is_step" : PySem.Str) :: ("steps" : PySem.Str) :: ("is_normal" : PySem.Str) :: ("behind_row" : PySem.Str) :: ("_law_state" : PySem.Str) :: ("_law_take" : PySem.Str) :: ("_law_pick" : PySem.Str) :: ("_law_tongue" : PySem.Str) :: ("_law_term" : PySem.Str) :: ("_law_put" : PySem.Str) :: ("_law_names" : PySem.Str) :: ("_law_places" : PySem.Str) :: ("_law_at" : PySem.Str) :: ("_law_with" : PySem.Str) :: ("_law_match" : PySem.Str) :: ("_law_step" : PySem.Str) :: ("_law_steps" : PySem.Str) :: ("_law_behind" : PySem.Str) :: ("_law_rule" : PySem.Str) :: ("_law_rows" : PySem.Str) :: [])) (d := HandSHeadRun.topDef (PySem.W.OpenLaw.row PySem.Challenge.rw_termwright_k08_rules_and_steps).prog 47) (kwd := []) ob_eq
    (by kernel_rfl) (fun s => by kernel_rfl) run (by kernel_rfl) (by kernel_rfl) (by kernel_rfl) (by rfl) (by first | assumption | decide +kernel) (by decide +kernel) ⟨rfl, rfl, rfl, rfl, rfl, by decide +kernel⟩ ?hw ?hc
  case hw => w_witness2
  case hc =>
    refine L2.walk_ofE (l := PySem.Challenge.rw_termwright_k08_rules_and_steps) (n := 63) (k := 141) (x := "script") (CX := L2.CX0) rfl (by decide) (by kernel_rfl) ⟨rfl, by decide, by decide⟩ ?F (fun _ _ _ _ z => z)
    intro w mg fa h Y G hmg0
    obtain ⟨K, KX, c⟩ := Y
    have hmg : mg ("law" : PySem.Str) = some (.ref fa) := by
      have e : (HandSHeadRun.topDef (PySem.W.OpenLaw.row PySem.Challenge.rw_termwright_k08_rules_and_steps).prog 47).name = ("law" : PySem.Str) := by kernel_rfl
      rw [← e]
      exact hmg0
    obtain ⟨g, D⟩ := facts KX G c
    have e := hmg.symm.trans (He.glo_ok KX G (c.fact 93 (f := .glo "law") rfl))
    cases e
    obtain ⟨fd, F⟩ := D.d_law
    have b := FunD.bindsA (ps := P_law) F fun _ _ _ _ _ _ us hl => match us, hl with | [_], _ => rfl
    refine ⟨K, fd, spC (gb K) (callM T 141) 39 1, KX, fun s v => b s [v] rfl, fun H a ns hl _ hS => ?_, fun base _ _ => ?_⟩
    · obtain ⟨mh, e⟩ := LT ns hl
      exact sp_law (G := gb K) e hS
    · exact fnOk_of (fnC_of (table g D) 140) rfl F sc_law rfl fun k C cdv A outer s H E FF hr => b_law g _ cdv A outer s H E FF hr
end L2.Mi.k08

theorem PySem.Challenge.cw_termwright_k08_rules_and_steps_holds : PySem.Challenge.rw_termwright_k08_rules_and_steps.Holds := by
  exact L2.Mi.k08.holds_of fun ns _ => L2.Mi.k08.law_true ns
