import PyProof.Rows.All
import Wide.All
import OpenK.AllK
import Wide.FinOn
import KE.KStateDown
import HandS.ForMost
import HandS.IsInst
import HandS.Deep
import HandS.TupAny
import HandS.DictComp
import HandS.CallLocal
import HandS.Wide
import HandS.Defaults
import HandS.WordsExc
import HandS.Head0
import HandS.Head1
import HandS.Head2
import HandS.HeadEnd
import HandS.HeadHook1
import HandS.HeadHook2
import KE.DataCmp
import HandS.DeepEq
import HandS.TupLe
import HandS.TupMul
import KE.KEqNest
import PyProof.NeKinds
import PyProof.AutoSeq1
import PyProof.ListStr
import HandS.Conv
import HandS.Walk
import HandS.Comp
import HandS.Words
import HandS.List
import HandS.Style
import KE.KRevSl
import HandS.SortInts
import HandS.NamedTupSort
import HandS.SortRule
import HandS.More
import HandS.Zip
import KE.KDictZip
import KE.KDictList
import HandS.DictTup
import HandS.Keys
import HandS.Flow
import HandS.Text
import HandS.StrMore
import PySem.Challenge.RW_termwright_k55_words_and_their_rules
set_option Elab.async false
set_option linter.all false
set_option maxRecDepth 100000
set_option maxHeartbeats 4000000
/-! Mini1: tree values, the little heap, the evaluator of the little language. -/
namespace L2.Mi
open PySem PySem.Spec PyProof.Rows

abbrev Sx := List Nat
abbrev MKey := Sum Int Sx
/-- a value: a tree; loc: a live (changeable) object; fn: a def of the text; scr: the law's script -/
inductive MV where
  | non | bl (b : Bool) | int (i : Int) | str (s : Sx) | fn (f : Nat)
  | tup (xs : List MV) | lst (xs : List MV) | loc (l : Nat) | dct (ks : List MKey) (vs : List MV) | scr (ns : List Int)
inductive MO where
  | lst (xs : List MV) | dct (ks : List MKey) (vs : List MV)
abbrev MHp := List (Option MO)
abbrev Env := List (Option MV)

inductive Op | add | sub | mul | fdiv | mod
inductive Cop | eq | ne | lt | le | gt | ge | mem | nmem | is | isn
inductive Ty | int | bool | str | tuple | list | dict
inductive Bi | len | abs | int | strI | tuple | list | all | any | sum | max | min | sorted | dict
inductive Me | append | extend | pop | popAt | upper | get2 | start2 | join
inductive Tg | nm (i : Nat) | tp (ts : List Tg)
inductive ME where
  | var (i : Nat)
  | c (v : MV)
  | bin (o : Op) (a b : ME)
  | neg (a : ME)
  | cmp (o : Cop) (a b : ME)
  | chn (o o' : Cop) (a b c : ME)
  | and (a b : ME) | or (a b : ME) | not (a : ME) | ite (c a b : ME)
  | tup (es : List ME) | lst (es : List ME) | dnew
  | call (f : Nat) (es : List ME) | callv (i : Nat) (es : List ME)
  | bi (f : Bi) (es : List ME) | isi (e : ME) (t : Ty)
  | meth (m : Me) (o : ME) (es : List ME)
  | sub (a i : ME) | slcL (a lo : ME) | slcH (a hi : ME) | slcB (a lo hi : ME) | rev (a : ME)
  | comp (tg : Tg) (own : List Nat) (it : ME) (cond : ME) (e : ME)
  | dcomp (tg : Tg) (own : List Nat) (it : ME) (cond : ME) (k e : ME)
  | rng1 (a : ME) | rng2 (a b : ME) | zip (a b : ME)
  | al (e : ME)
  | disp1 (k v : ME)
  | lzip (a b : ME)
  | orv (a b : ME)
inductive MS where
  | ex (e : ME)
  | set (t : Tg) (e : ME)
  | par (i j : Nat) (a b : ME)
  | par3 (i j l : Nat) (a b c : ME)
  | ret (e : ME)
  | ite (c : ME) (a b : List MS)
  | for (t : Tg) (it : ME) (body : List MS)
  | while (c : ME) (body : List MS)
  | sti (o i e : ME)
  | aug (i : Nat) (o : Op) (e : ME)
  | pass | brk | cnt

/-- a call: the def's number, its arguments, the heap -/
abbrev CallF := Nat → List MV → MHp → Option (MV × MHp)

/-! ### values -/
abbrev line : Nat := 16777216
/-- the items of a list -/
def getL (mh : MHp) : MV → Option (List MV)
  | .lst xs => some xs
  | .loc l => match mh[l]? with
    | some (some (.lst xs)) => some xs
    | _ => none
  | _ => none
def getD (mh : MHp) : MV → Option (List MKey × List MV)
  | .dct ks vs => some (ks, vs)
  | .loc l => match mh[l]? with
    | some (some (.dct ks vs)) => some (ks, vs)
    | _ => none
  | _ => none
def kyV : MV → Option MKey
  | .int i => some (.inl i)
  | .str s => some (.inr s)
  | _ => none
def kM : MKey → MV
  | .inl i => .int i
  | .inr s => .str s
/-- what a dict holds at a key -/
def dLook : List MKey → List MV → MKey → Option MV
  | k' :: ks, m :: ms, k => if k' = k then some m else dLook ks ms k
  | _, _, _ => none
/-- d[k] = m: the keys, the values -/
def dPutK (ks : List MKey) (k : MKey) : List MKey := if (ks.any fun k' => decide (k' = k)) = true then ks else ks ++ [k]
def dPutV (ks : List MKey) (ms : List MV) (k : MKey) (m : MV) : List MV := if (ks.any fun k' => decide (k' = k)) = true then List.zipWith (fun k' m' => if k' = k then m else m') ks ms else ms ++ [m]
def dFold : List (MKey × MV) → List MKey → List MV → List MKey × List MV
  | [], ks, ms => (ks, ms)
  | p :: ps, ks, ms => dFold ps (dPutK ks p.1) (dPutV ks ms p.1 p.2)
def pairK : MV → Option (MKey × MV)
  | .tup [k, v] => (kyV k).map (·, v)
  | _ => none
def strOf : MV → Option Sx
  | .str s => some s
  | _ => none
def sortS (xs : List Sx) : List Sx := xs.mergeSort fun a b => decide (a ≤ b)
mutual
/-- live objects with numbers from n on are read out -/
def frz (n : Nat) (mh : MHp) : Nat → MV → Option MV
  | k, .tup xs => (frzs n mh k xs).map .tup
  | k, .lst xs => (frzs n mh k xs).map .lst
  | k, .dct ks vs => (frzs n mh k vs).map (.dct ks)
  | k, .loc l => if l < n then some (.loc l) else match k with
    | 0 => none
    | k + 1 => match mh[l]? with
      | some (some (.lst xs)) => (frzs n mh k xs).map .lst
      | some (some (.dct ks vs)) => (frzs n mh k vs).map (.dct ks)
      | _ => none
  | _, .non => some .non
  | _, .bl b => some (.bl b)
  | _, .int i => some (.int i)
  | _, .str s => some (.str s)
  | _, .fn f => some (.fn f)
  | _, .scr ns => some (.scr ns)
def frzs (n : Nat) (mh : MHp) : Nat → List MV → Option (List MV)
  | _, [] => some []
  | k, x :: xs => match frz n mh k x with
    | none => none
    | some y => (frzs n mh k xs).map (y :: ·)
end

mutual
/-- plain data -/
def toD : MV → PyData
  | .non => .none
  | .bl b => .bool b
  | .int i => .int i
  | .str s => .str ⟨s.toArray⟩
  | .tup xs => .tuple (toDs xs)
  | .lst xs => .list (toDs xs)
  | .scr ns => .list (ns.map .int)
  | .fn _ => .dict []
  | .loc _ => .dict []
  | .dct _ _ => .dict []
def toDs : List MV → List PyData
  | [] => []
  | x :: xs => toD x :: toDs xs
end
/-- data that == serves -/
def okD (x : MV) : Bool := SeqAt.shaped (toD x)
def eqD (x y : MV) : Bool := PyData.eqv (toD x) (toD y)
mutual
/-- how deep eqT goes -/
def hgt : MV → Nat
  | .tup xs => hgts xs + 1
  | .lst xs => hgts xs + 1
  | .dct _ ms => hgts ms + 1
  | _ => 0
def hgts : List MV → Nat
  | [] => 0
  | x :: xs => max (hgt x) (hgts xs)
end
def notTup : MV → Bool
  | .tup _ => false
  | _ => true
mutual
/-- the two are equal; dicts may stand within -/
def eqT : MV → MV → Bool
  | .dct ks ms, .dct ls ns => decide (ks.length = ls.length) && eqKs ms ks ls ns
  | .tup xs, .tup ys => eqTs xs ys
  | .lst xs, .lst ys => eqTs xs ys
  | x, y => okD x && okD y && eqD x y && decide (PyData.depth (toD x) = 0)
def eqTs : List MV → List MV → Bool
  | [], [] => true
  | x :: xs, y :: ys => eqT x y && eqTs xs ys
  | _, _ => false
def eqKs : List MV → List MKey → List MKey → List MV → Bool
  | m :: ms, k :: ks, ls, ns => (match dLook ls ns k with
    | some n => eqT m n
    | none => false) && eqKs ms ks ls ns
  | _, _, _, _ => true
end
def idx {α : Type} (xs : List α) (i : Int) : Option α := L2.atI xs i
def cut {α : Type} (xs : List α) (lo hi : Option Int) : List α := (xs.drop (HT.sIx xs.length 0 lo)).take (HT.sIx xs.length xs.length hi - HT.sIx xs.length 0 lo)

/-! ### operations -/
def addV (mh : MHp) (x y : MV) : Option MV := match x, y with
  | .int i, .int j => some (.int (i + j))
  | .str s, .str t => if s.length + t.length ≤ line then some (.str (s ++ t)) else none
  | .tup xs, .tup ys => if xs.length + ys.length ≤ line then some (.tup (xs ++ ys)) else none
  | x, y => match getL mh x with
    | none => none
    | some xs => match getL mh y with
      | none => none
      | some ys => if xs.length + ys.length ≤ line then some (.lst (xs ++ ys)) else none
def mulV (x y : MV) : Option MV := match x, y with
  | .int i, .int j => if (-(2 ^ 64) < i ∧ i < 2 ^ 64) ∨ (-(2 ^ 64) < j ∧ j < 2 ^ 64) then some (.int (i * j)) else none
  | .str s, .int j => if 0 ≤ j ∧ j ≤ 1000000 ∧ s.length * j.toNat ≤ line then some (.str (List.replicate j.toNat s).flatten) else none
  | .tup xs, .int j => if xs.isEmpty = false ∧ 2 ≤ j ∧ j ≤ 1000 ∧ xs.length ≤ 1000 then some (.tup (List.replicate j.toNat xs).flatten) else none
  | _, _ => none
def intV (f : Int → Int → Option Int) (x y : MV) : Option MV := match x, y with
  | .int i, .int j => (f i j).map .int
  | _, _ => none
def binV (mh : MHp) : Op → MV → MV → Option MV
  | .add, x, y => addV mh x y
  | .mul, x, y => mulV x y
  | .sub, x, y => intV (fun i j => some (i - j)) x y
  | .fdiv, x, y => intV (fun i j => if j ≠ 0 ∧ j.natAbs < 1073741824 then some (i.fdiv j) else none) x y
  | .mod, x, y => intV (fun i j => if j ≠ 0 then some (i.fmod j) else none) x y
def eqV (mh : MHp) (x y : MV) : Option Bool := match frz 0 mh 8 x with
  | none => none
  | some x' => match frz 0 mh 8 y with
    | none => none
    | some y' => if okD x' = true ∧ okD y' = true then some (eqD x' y') else if eqT x' y' = true ∧ hgt x' ≤ 60 ∧ notTup x' = true then some true else none
def memV (mh : MHp) (x y : MV) : Option Bool := match x, y with
  | .str [c], .str t => some (decide (c ∈ t))
  | x, y => match frz 0 mh 8 x with
    | none => none
    | some x' => match frz 0 mh 8 y with
      | some (.lst ys) => if okD x' = true ∧ okD (.lst ys) = true then some (ys.any fun z => eqD z x') else none
      | some (.tup ys) => if okD x' = true ∧ okD (.tup ys) = true then some (ys.any fun z => eqD z x') else none
      | some (.dct ks ms) => (kyV x).map fun k => (dLook ks ms k).isSome
      | _ => none
def ordV (x y : MV) : Option (Bool × Bool) := match x, y with
  | .int i, .int j => some (decide (i < j), decide (j < i))
  | .str s, .str t => some (decide (s < t), decide (t < s))
  | _, _ => none
def isV : MV → MV → Option Bool
  | .non, .non => some true
  | _, .non => some false
  | .bl a, .bl b => some (decide (a = b))
  | _, _ => none
def notNon : MV → Bool
  | .non => false
  | _ => true
/-- < of alike data -/
def ltD (mh : MHp) (x y : MV) : Option Bool := match frz 0 mh 8 x with
  | none => none
  | some x' => match frz 0 mh 8 y with
    | none => none
    | some y' => if okD x' = true ∧ okD y' = true ∧ PySem.W.alike (toD x') (toD y') = true ∧ notNon x' = true then some (PySem.W.dataLt (toD x') (toD y')) else none
def cmpV (mh : MHp) : Cop → MV → MV → Option Bool
  | .eq, x, y => eqV mh x y
  | .ne, x, y => (eqV mh x y).map (!·)
  | .mem, x, y => memV mh x y
  | .nmem, x, y => (memV mh x y).map (!·)
  | .lt, .tup xs, .tup ys => ltD mh (.tup xs) (.tup ys)
  | .lt, x, y => (ordV x y).map fun p => p.1
  | .gt, x, y => (ordV x y).map fun p => p.2
  | .le, x, y => (ordV x y).map fun p => !p.2
  | .ge, x, y => (ordV x y).map fun p => !p.1
  | .is, x, y => isV x y
  | .isn, x, y => (isV x y).map (!·)
def subD (mh : MHp) (x y : MV) : Option MV := match getD mh x with
  | some (ks, ms) => (kyV y).bind fun k => dLook ks ms k
  | none => none
def subV (mh : MHp) : MV → MV → Option MV
  | .tup xs, .int i => idx xs i
  | .str s, .int i => if s.length ≤ line then (idx s i).map fun c => .str [c] else none
  | x, .int i => match getL mh x with
    | some xs => idx xs i
    | none => subD mh x (.int i)
  | x, y => subD mh x y
def slcV (mh : MHp) (x : MV) (lo hi : Option Int) : Option MV := match x with
  | .tup xs => some (.tup (cut xs lo hi))
  | .str s => if s.length ≤ line then some (.str (cut s lo hi)) else none
  | .scr ns => some (.lst (cut (ns.map .int) lo hi))
  | x => (getL mh x).map fun xs => .lst (cut xs lo hi)
def isTy : MV → Ty → MHp → Option Bool
  | .non, _, _ => some false
  | .bl _, t, _ => some (match t with | .bool => true | .int => true | _ => false)
  | .int _, t, _ => some (match t with | .int => true | _ => false)
  | .str _, t, _ => some (match t with | .str => true | _ => false)
  | .tup _, t, _ => some (match t with | .tuple => true | _ => false)
  | .lst _, t, _ => some (match t with | .list => true | _ => false)
  | .dct _ _, t, _ => some (match t with | .dict => true | _ => false)
  | .loc l, t, mh => match mh[l]? with
    | some (some (.lst _)) => some (match t with | .list => true | _ => false)
    | some (some (.dct _ _)) => some (match t with | .dict => true | _ => false)
    | _ => none
  | .fn _, _, _ => none
  | .scr _, _, _ => none
def blOf : MV → Option Bool
  | .bl b => some b
  | _ => none
def intOf : MV → Option Int
  | .int i => some i
  | _ => none
def one1 (f : MV → Option MV) : List MV → Option MV
  | [x] => f x
  | _ => none
def lenV (mh : MHp) (x : MV) : Option MV := match x with
  | .str s => if s.length ≤ line then some (.int s.length) else none
  | .tup xs => some (.int xs.length)
  | x => match getL mh x with
    | some xs => some (.int xs.length)
    | none => (getD mh x).map fun d => .int d.1.length
def absV (x : MV) : Option MV := match x with
  | .int i => some (.int (if i < 0 then -i else i))
  | _ => none
def intV1 (x : MV) : Option MV := match x with
  | .int i => some (.int i)
  | .bl b => some (.int (if b = true then 1 else 0))
  | _ => none
def strV (x : MV) : Option MV := match x with
  | .int i => if i.natAbs.log2 < 1920 then some (.str (toString i : Str).cps.toList) else none
  | _ => none
def tupV (mh : MHp) (x : MV) : Option MV := match x with
  | .tup xs => some (.tup xs)
  | x => (getL mh x).map .tup
def lstV (mh : MHp) (x : MV) : Option MV := match x with
  | .tup xs => some (.lst xs)
  | .str s => if s.length ≤ line then some (.lst (s.map fun c => .str [c])) else none
  | x => match getL mh x with
    | some xs => some (.lst xs)
    | none => (getD mh x).map fun d => .lst (d.1.map kM)
def bls (mh : MHp) (x : MV) : Option (List Bool) := (getL mh x).bind fun xs => xs.mapM blOf
def intsM (mh : MHp) (x : MV) : Option (List Int) := (getL mh x).bind fun xs => xs.mapM intOf
def tupI (x : MV) : Option (List Int) := match x with
  | .tup ys => ys.mapM intOf
  | _ => none
/-- sorted: whole numbers; or tuples of whole numbers that stand in order already, the first of them empty -/
def sortedV (mh : MHp) (x : MV) : Option MV := match getL mh x with
  | none => match getD mh x with
    | none => none
    | some d => match (d.1.map kM).mapM strOf with
      | some ss => if ss.length < 64 then some (.lst ((sortS ss).map .str)) else none
      | none => none
  | some xs => match xs.mapM intOf with
    | some ns => some (.lst ((ns.mergeSort fun a b => decide (a ≤ b)).map .int))
    | none => match xs.mapM tupI with
      | some nss => if nss.head? = some [] ∧ nss.Pairwise (fun a b => HT.lexLt b a = false) then some (.lst xs) else none
      | none => match xs.mapM strOf with
        | some ss => if ss.length < 64 then some (.lst ((sortS ss).map .str)) else none
        | none => none
def dictV (mh : MHp) (x : MV) : Option MV := match getL mh x with
  | none => none
  | some xs => match xs.mapM pairK with
    | some ps => some (.dct (dFold ps [] []).1 (dFold ps [] []).2)
    | none => none
def minV (mh : MHp) : List MV → Option MV
  | [x, y] => match x, y with
    | .int i, .int j => some (.int (if j < i then j else i))
    | _, _ => none
  | xs => one1 (fun x => (intsM mh x).bind fun ns => ns.min?.map .int) xs
def biV (mh : MHp) : Bi → List MV → Option MV
  | .len, xs => one1 (lenV mh) xs
  | .abs, xs => one1 absV xs
  | .int, xs => one1 intV1 xs
  | .strI, xs => one1 strV xs
  | .tuple, xs => one1 (tupV mh) xs
  | .list, xs => one1 (lstV mh) xs
  | .all, xs => one1 (fun x => (bls mh x).map fun bs => .bl (bs.all id)) xs
  | .any, xs => one1 (fun x => (bls mh x).map fun bs => .bl (bs.any id)) xs
  | .sum, xs => one1 (fun x => (intsM mh x).map fun ns => .int ns.sum) xs
  | .max, xs => one1 (fun x => (intsM mh x).bind fun ns => ns.max?.map .int) xs
  | .min, xs => minV mh xs
  | .sorted, xs => one1 (sortedV mh) xs
  | .dict, xs => one1 (dictV mh) xs
mutual
/-- all live objects within have numbers below n -/
def bd (n : Nat) : MV → Bool
  | .tup xs => bds n xs
  | .lst xs => bds n xs
  | .dct _ vs => bds n vs
  | .loc l => decide (l < n)
  | .non => true
  | .bl _ => true
  | .int _ => true
  | .str _ => true
  | .fn _ => true
  | .scr _ => true
def bds (n : Nat) : List MV → Bool
  | [] => true
  | x :: xs => bd n x && bds n xs
end
/-- what may be written into the object l while a frame that began at base runs -/
def wr (base l : Nat) (x : MV) : Bool := decide (base ≤ l) || bd l x
def upperC (s : Sx) : Sx := (Txt.upper ⟨s.toArray⟩).cps.toList
/-- the live list l -/
def liveL (mh : MHp) (x : MV) : Option (Nat × List MV) := match x with
  | .loc l => match mh[l]? with
    | some (some (.lst xs)) => some (l, xs)
    | _ => none
  | _ => none
/-- the receiver's kind, ahead of the arguments -/
def tyM (mh : MHp) : Me → MV → Bool
  | .upper, .str _ => true
  | .append, x => (liveL mh x).isSome
  | .extend, x => (liveL mh x).isSome
  | .pop, x => (liveL mh x).isSome
  | .popAt, x => (liveL mh x).isSome
  | .get2, x => (getD mh x).isSome
  | .start2, .str _ => true
  | .join, .str _ => true
  | _, _ => false
/-- the items of a list or a tuple -/
def seqOf (mh : MHp) (x : MV) : Option (List MV) := match x with
  | .tup ys => some ys
  | x => getL mh x
def appV (base : Nat) (mh : MHp) (o : MV) (es : List MV) : Option (MV × MHp) := match liveL mh o, es with
  | some (l, xs), [x] => if wr base l x = true ∧ xs.length < line then some (.non, mh.set l (some (.lst (xs ++ [x])))) else none
  | _, _ => none
def extV (base : Nat) (mh : MHp) (o : MV) (es : List MV) : Option (MV × MHp) := match liveL mh o, es with
  | some (l, xs), [x] => match seqOf mh x with
    | some ys => if (ys.all (wr base l)) = true ∧ xs.length + ys.length ≤ line then some (.non, mh.set l (some (.lst (xs ++ ys)))) else none
    | none => none
  | _, _ => none
def popV (mh : MHp) (o : MV) (es : List MV) : Option (MV × MHp) := match liveL mh o, es with
  | some (l, xs), [] => (xs[xs.length - 1]?).map fun y => (y, mh.set l (some (.lst xs.dropLast)))
  | _, _ => none
def popAtV (mh : MHp) (o : MV) (es : List MV) : Option (MV × MHp) := match liveL mh o, es with
  | some (l, xs), [.int i] => if -(2 ^ 63) ≤ i ∧ i < 2 ^ 63 then (match seqIndex? i xs.length with
      | none => none
      | some k => (xs[k]?).map fun y => (y, mh.set l (some (.lst (xs.eraseIdx k))))) else none
  | _, _ => none
def uppV (mh : MHp) (o : MV) (es : List MV) : Option (MV × MHp) := match o, es with
  | .str s, [] => if s.length ≤ 5592405 then some (.str (upperC s), mh) else none
  | _, _ => none
def getV (mh : MHp) (o : MV) (es : List MV) : Option (MV × MHp) := match getD mh o, es with
  | some (ks, ms), [y, d] => (kyV y).map fun k => ((dLook ks ms k).getD d, mh)
  | _, _ => none
def startV (mh : MHp) (o : MV) (es : List MV) : Option (MV × MHp) := match o, es with
  | .str s, [.str t, .int i] => some (.bl (Txt.startswith3 ⟨s.toArray⟩ ⟨t.toArray⟩ i), mh)
  | _, _ => none
def joinV (mh : MHp) (o : MV) (es : List MV) : Option (MV × MHp) := match o, es with
  | .str s, [x] => match getL mh x with
    | some xs => match xs.mapM strOf with
      | some ss => if (ss.map List.length).sum + ss.length * s.length ≤ line then some (.str (Txt.join ⟨s.toArray⟩ (ss.map fun t => ⟨t.toArray⟩)).cps.toList, mh) else none
      | none => none
    | none => none
  | _, _ => none
/-- a list's truth, None's -/
def truM (mh : MHp) (x : MV) : Option Bool := match x with
  | .non => some false
  | x => (getL mh x).map fun xs => !xs.isEmpty
def methV (base : Nat) (mh : MHp) : Me → MV → List MV → Option (MV × MHp)
  | .append, o, es => appV base mh o es
  | .extend, o, es => extV base mh o es
  | .pop, o, es => popV mh o es
  | .popAt, o, es => popAtV mh o es
  | .upper, o, es => uppV mh o es
  | .get2, o, es => getV mh o es
  | .start2, o, es => startV mh o es
  | .join, o, es => joinV mh o es
mutual
def asg (mh : MHp) : Tg → MV → Env → Option Env
  | .nm i, v, ρ => if i < ρ.length then some (ρ.set i (some v)) else none
  | .tp ts, v, ρ => match v with
    | .tup xs => asgs mh ts xs ρ
    | _ => none
def asgs (mh : MHp) : List Tg → List MV → Env → Option Env
  | [], [], ρ => some ρ
  | t :: ts, x :: xs, ρ => match asg mh t x ρ with
    | none => none
    | some ρ' => asgs mh ts xs ρ'
  | _, _, _ => none
end
def wipeE (ρ : Env) : List Nat → Env
  | [] => ρ
  | v :: vs => (wipeE ρ vs).set v none
/-- what a loop walks: the items; the live list that they are read from -/
structure Its where
  items : List MV
  src : Option Nat := none
def Its.ok (J : Its) (mh : MHp) : Prop := match J.src with
  | none => True
  | some l => mh[l]? = some (some (.lst J.items))
def itsOf (mh : MHp) : MV → Option Its
  | .tup xs => some ⟨xs, none⟩
  | .lst xs => some ⟨xs, none⟩
  | .str s => some ⟨s.map fun c => .str [c], none⟩
  | .dct ks _ => some ⟨ks.map kM, none⟩
  | .loc l => match mh[l]? with
    | some (some (.lst xs)) => some ⟨xs, some l⟩
    | _ => none
  | _ => none
open Classical in
noncomputable def compGo (J : Its) (f : MV → MHp → Option (Option MV × MHp)) : List MV → MHp → Option (List MV × MHp)
  | [], mh => if J.ok mh then some ([], mh) else none
  | x :: xs, mh => if J.ok mh then (match f x mh with
    | none => none
    | some (r, mh1) => match compGo J f xs mh1 with
      | none => none
      | some (rs, mh2) => some (r.toList ++ rs, mh2)) else none

inductive Fl where
  | nx | bk | ct | rt (v : MV)
open Classical in
noncomputable def forGo (J : Its) (f : MV → Env → MHp → Option (Fl × Env × MHp)) : List MV → Env → MHp → Option (Fl × Env × MHp)
  | [], ρ, mh => if J.ok mh then some (.nx, ρ, mh) else none
  | x :: xs, ρ, mh => if J.ok mh then (match f x ρ mh with
    | none => none
    | some (.nx, ρ1, mh1) => forGo J f xs ρ1 mh1
    | some (.ct, ρ1, mh1) => forGo J f xs ρ1 mh1
    | some (.bk, ρ1, mh1) => some (.nx, ρ1, mh1)
    | some (.rt v, ρ1, mh1) => some (.rt v, ρ1, mh1)) else none
def whileN (c : Env → MHp → Option (Bool × MHp)) (f : Env → MHp → Option (Fl × Env × MHp)) : Nat → Env → MHp → Option (Fl × Env × MHp)
  | 0, _, _ => none
  | n + 1, ρ, mh => match c ρ mh with
    | none => none
    | some (false, mh1) => some (.nx, ρ, mh1)
    | some (true, mh1) => match f ρ mh1 with
      | none => none
      | some (.nx, ρ1, mh2) => whileN c f n ρ1 mh2
      | some (.ct, ρ1, mh2) => whileN c f n ρ1 mh2
      | some (.bk, ρ1, mh2) => some (.nx, ρ1, mh2)
      | some (.rt v, ρ1, mh2) => some (.rt v, ρ1, mh2)
open Classical in
noncomputable def whileM (c : Env → MHp → Option (Bool × MHp)) (f : Env → MHp → Option (Fl × Env × MHp)) (ρ : Env) (mh : MHp) : Option (Fl × Env × MHp) :=
  if h : ∃ n, whileN c f n ρ mh ≠ none then whileN c f (Classical.choose h) ρ mh else none

/-! ### the evaluator -/
section
variable (C : CallF) (base : Nat)
mutual
noncomputable def ev : ME → Env → MHp → Option (MV × MHp)
  | .var i, ρ, mh => match ρ[i]? with
    | some (some v) => some (v, mh)
    | _ => none
  | .c v, _, mh => some (v, mh)
  | .bin o a b, ρ, mh => match ev a ρ mh with
    | none => none
    | some (x, mh1) => match ev b ρ mh1 with
      | none => none
      | some (y, mh2) => (binV mh2 o x y).map (·, mh2)
  | .neg a, ρ, mh => match ev a ρ mh with
    | some (.int i, mh1) => some (.int (-i), mh1)
    | _ => none
  | .cmp o a b, ρ, mh => match ev a ρ mh with
    | none => none
    | some (x, mh1) => match ev b ρ mh1 with
      | none => none
      | some (y, mh2) => (cmpV mh2 o x y).map (.bl ·, mh2)
  | .chn o o' a b c, ρ, mh => match ev a ρ mh with
    | none => none
    | some (x, mh1) => match ev b ρ mh1 with
      | none => none
      | some (y, mh2) => match cmpV mh2 o x y with
        | none => none
        | some false => some (.bl false, mh2)
        | some true => match ev c ρ mh2 with
          | none => none
          | some (z, mh3) => (cmpV mh3 o' y z).map (.bl ·, mh3)
  | .and a b, ρ, mh => match ev a ρ mh with
    | some (.bl true, mh1) => ev b ρ mh1
    | some (.bl false, mh1) => some (.bl false, mh1)
    | _ => none
  | .or a b, ρ, mh => match ev a ρ mh with
    | some (.bl false, mh1) => ev b ρ mh1
    | some (.bl true, mh1) => some (.bl true, mh1)
    | _ => none
  | .not a, ρ, mh => match ev a ρ mh with
    | some (.bl b, mh1) => some (.bl (!b), mh1)
    | _ => none
  | .ite c a b, ρ, mh => match ev c ρ mh with
    | some (.bl true, mh1) => ev a ρ mh1
    | some (.bl false, mh1) => ev b ρ mh1
    | _ => none
  | .tup es, ρ, mh => match evs es ρ mh with
    | none => none
    | some (xs, mh1) => if xs.length ≤ line then some (.tup xs, mh1) else none
  | .lst es, ρ, mh => match evs es ρ mh with
    | none => none
    | some (xs, mh1) => if xs.length ≤ line then some (.lst xs, mh1) else none
  | .dnew, _, mh => some (.dct [] [], mh)
  | .call f es, ρ, mh => match evs es ρ mh with
    | none => none
    | some (xs, mh1) => C f xs mh1
  | .callv i es, ρ, mh => match ρ[i]? with
    | some (some (.fn f)) => match evs es ρ mh with
      | none => none
      | some (xs, mh1) => C f xs mh1
    | _ => none
  | .bi f es, ρ, mh => match evs es ρ mh with
    | none => none
    | some (xs, mh1) => (biV mh1 f xs).map (·, mh1)
  | .isi e t, ρ, mh => match ev e ρ mh with
    | none => none
    | some (x, mh1) => (isTy x t mh1).map (.bl ·, mh1)
  | .meth m o es, ρ, mh => match ev o ρ mh with
    | none => none
    | some (x, mh1) => if tyM mh1 m x = true then (match evs es ρ mh1 with
      | none => none
      | some (xs, mh2) => methV base mh2 m x xs) else none
  | .sub a i, ρ, mh => match ev a ρ mh with
    | none => none
    | some (x, mh1) => match ev i ρ mh1 with
      | none => none
      | some (y, mh2) => (subV mh2 x y).map (·, mh2)
  | .slcL a lo, ρ, mh => match ev a ρ mh with
    | none => none
    | some (x, mh1) => match ev lo ρ mh1 with
      | some (.int l, mh2) => (slcV mh2 x (some l) none).map (·, mh2)
      | _ => none
  | .slcH a hi, ρ, mh => match ev a ρ mh with
    | none => none
    | some (x, mh1) => match ev hi ρ mh1 with
      | some (.int l, mh2) => (slcV mh2 x none (some l)).map (·, mh2)
      | _ => none
  | .slcB a lo hi, ρ, mh => match ev a ρ mh with
    | none => none
    | some (x, mh1) => match ev lo ρ mh1 with
      | some (.int l, mh2) => match ev hi ρ mh2 with
        | some (.int h, mh3) => (slcV mh3 x (some l) (some h)).map (·, mh3)
        | _ => none
      | _ => none
  | .rev a, ρ, mh => match ev a ρ mh with
    | some (.tup xs, mh1) => some (.tup xs.reverse, mh1)
    | some (.lst xs, mh1) => some (.lst xs.reverse, mh1)
    | _ => none
  | .comp tg own it cond e, ρ, mh => match evI it ρ mh with
    | none => none
    | some (J, mh1) => if J.items.length ≤ line then (match compGo J (fun x mh2 => match asg mh2 tg x (wipeE ρ own) with
        | none => none
        | some ρ' => match ev cond ρ' mh2 with
          | some (.bl true, mh3) => match ev e ρ' mh3 with
            | none => none
            | some (y, mh4) => some (some y, mh4)
          | some (.bl false, mh3) => some (none, mh3)
          | _ => none) J.items mh1 with
      | none => none
      | some (ys, mh5) => some (.lst ys, mh5)) else none
  | .al e, ρ, mh => match ev e ρ mh with
    | some (.lst xs, mh1) => some (.loc mh1.length, mh1 ++ [some (.lst xs)])
    | some (.dct ks vs, mh1) => some (.loc mh1.length, mh1 ++ [some (.dct ks vs)])
    | _ => none
  | .disp1 k v, ρ, mh => match ev k ρ mh with
    | none => none
    | some (x, mh1) => match ev v ρ mh1 with
      | none => none
      | some (y, mh2) => (kyV x).map fun k => (.dct [k] [y], mh2)
  | .orv a b, ρ, mh => match ev a ρ mh with
    | none => none
    | some (x, mh1) => match truM mh1 x with
      | some true => some (x, mh1)
      | some false => ev b ρ mh1
      | none => none
  | .lzip a b, ρ, mh => match ev a ρ mh with
    | some (.tup xs, mh1) => match ev b ρ mh1 with
      | some (.tup ys, mh2) => if xs.length ≤ 1000000 ∧ ys.length ≤ 1000000 then some (.lst (List.zipWith (fun x y => .tup [x, y]) xs ys), mh2) else none
      | _ => none
    | _ => none
  | .dcomp tg own it cond k e, ρ, mh => match evI it ρ mh with
    | none => none
    | some (J, mh1) => if J.items.length ≤ line then (match compGo J (fun x mh2 => match asg mh2 tg x (wipeE ρ own) with
        | none => none
        | some ρ' => match ev cond ρ' mh2 with
          | some (.bl true, mh3) => match ev k ρ' mh3 with
            | none => none
            | some (z, mh4) => match ev e ρ' mh4 with
              | none => none
              | some (y, mh5) => some (some (.tup [z, y]), mh5)
          | some (.bl false, mh3) => some (none, mh3)
          | _ => none) J.items mh1 with
      | none => none
      | some (ys, mh5) => match ys.mapM pairK with
        | some ps => some (.dct (dFold ps [] []).1 (dFold ps [] []).2, mh5)
        | none => none) else none
  | .rng1 _, _, _ => none
  | .rng2 .., _, _ => none
  | .zip .., _, _ => none
noncomputable def evs : List ME → Env → MHp → Option (List MV × MHp)
  | [], _, mh => some ([], mh)
  | e :: es, ρ, mh => match ev e ρ mh with
    | none => none
    | some (x, mh1) => match evs es ρ mh1 with
      | none => none
      | some (xs, mh2) => some (x :: xs, mh2)
noncomputable def evI : ME → Env → MHp → Option (Its × MHp)
  | .rng1 a, ρ, mh => match ev a ρ mh with
    | some (.int n, mh1) => if -(2 ^ 62) ≤ n ∧ n < 2 ^ 62 then some (⟨(List.range n.toNat).map fun (k : Nat) => .int (k : Int), none⟩, mh1) else none
    | _ => none
  | .rng2 a b, ρ, mh => match ev a ρ mh with
    | some (.int i, mh1) => match ev b ρ mh1 with
      | some (.int j, mh2) => if -(2 ^ 62) ≤ i ∧ i < 2 ^ 62 ∧ -(2 ^ 62) ≤ j ∧ j < 2 ^ 62 then some (⟨(List.range (j - i).toNat).map fun (k : Nat) => .int (i + (k : Int)), none⟩, mh2) else none
      | _ => none
    | _ => none
  | e, ρ, mh => match ev e ρ mh with
    | none => none
    | some (v, mh1) => (itsOf mh1 v).map (·, mh1)
end
mutual
noncomputable def ex : MS → Env → MHp → Option (Fl × Env × MHp)
  | .ex e, ρ, mh => match ev C base e ρ mh with
    | none => none
    | some (_, mh1) => some (.nx, ρ, mh1)
  | .set t e, ρ, mh => match ev C base e ρ mh with
    | none => none
    | some (v, mh1) => match asg mh1 t v ρ with
      | none => none
      | some ρ' => some (.nx, ρ', mh1)
  | .par i j a b, ρ, mh => match ev C base a ρ mh with
    | none => none
    | some (x, mh1) => match ev C base b ρ mh1 with
      | none => none
      | some (y, mh2) => if i < ρ.length ∧ j < ρ.length then some (.nx, (ρ.set i (some x)).set j (some y), mh2) else none
  | .par3 i j l a b c, ρ, mh => match ev C base a ρ mh with
    | none => none
    | some (x, mh1) => match ev C base b ρ mh1 with
      | none => none
      | some (y, mh2) => match ev C base c ρ mh2 with
        | none => none
        | some (z, mh3) => if i < ρ.length ∧ j < ρ.length ∧ l < ρ.length then some (.nx, ((ρ.set i (some x)).set j (some y)).set l (some z), mh3) else none
  | .ret e, ρ, mh => match ev C base e ρ mh with
    | none => none
    | some (v, mh1) => some (.rt v, ρ, mh1)
  | .ite c a b, ρ, mh => match ev C base c ρ mh with
    | some (.bl true, mh1) => exs a ρ mh1
    | some (.bl false, mh1) => exs b ρ mh1
    | _ => none
  | .for t it body, ρ, mh => match evI C base it ρ mh with
    | none => none
    | some (J, mh1) => forGo J (fun x ρ1 mh2 => match asg mh2 t x ρ1 with
      | none => none
      | some ρ2 => exs body ρ2 mh2) J.items ρ mh1
  | .while c body, ρ, mh => whileM (fun ρ1 mh1 => match ev C base c ρ1 mh1 with
      | some (.bl b, mh2) => some (b, mh2)
      | _ => none) (fun ρ1 mh1 => exs body ρ1 mh1) ρ mh
  | .sti o i e, ρ, mh => match ev C base e ρ mh with
    | none => none
    | some (v, mh1) => match ev C base o ρ mh1 with
      | some (.loc l, mh2) => match ev C base i ρ mh2 with
        | some (.int k, mh3) => match mh3[l]? with
          | some (some (.lst xs)) => match L2.ixN xs.length k with
            | none => none
            | some j => if wr base l v = true then some (.nx, ρ, mh3.set l (some (.lst (xs.set j v)))) else none
          | some (some (.dct ks ms)) => if wr base l v = true ∧ ks.length < line then some (.nx, ρ, mh3.set l (some (.dct (dPutK ks (.inl k)) (dPutV ks ms (.inl k) v)))) else none
          | _ => none
        | some (.str s, mh3) => match mh3[l]? with
          | some (some (.dct ks ms)) => if wr base l v = true ∧ ks.length < line then some (.nx, ρ, mh3.set l (some (.dct (dPutK ks (.inr s)) (dPutV ks ms (.inr s) v)))) else none
          | _ => none
        | _ => none
      | _ => none
  | .aug i o e, ρ, mh => match ρ[i]? with
    | some (some (.int x)) => match ev C base e ρ mh with
      | some (.int y, mh1) => match o with
        | .add => some (.nx, ρ.set i (some (.int (x + y))), mh1)
        | .sub => some (.nx, ρ.set i (some (.int (x - y))), mh1)
        | _ => none
      | _ => none
    | _ => none
  | .pass, ρ, mh => some (.nx, ρ, mh)
  | .brk, ρ, mh => some (.bk, ρ, mh)
  | .cnt, ρ, mh => some (.ct, ρ, mh)
noncomputable def exs : List MS → Env → MHp → Option (Fl × Env × MHp)
  | [], ρ, mh => some (.nx, ρ, mh)
  | s :: ss, ρ, mh => match ex s ρ mh with
    | some (.nx, ρ1, mh1) => exs ss ρ1 mh1
    | r => r
end
end
/-- a def: its parameters' number, its names' number, whether what it makes stays live, its body -/
structure Df where
  np : Nat
  ns : Nat
  live : Bool
  body : List MS
def endV : Fl → Option MV
  | .nx => some .non
  | .rt v => some v
  | _ => none
noncomputable def runD (C : CallF) (d : Df) (args : List MV) (mh : MHp) : Option (MV × MHp) :=
  if args.length = d.np then
    match exs C mh.length d.body (args.map some ++ List.replicate (d.ns - d.np) none) mh with
    | none => none
    | some (fl, _, mh1) => match endV fl with
      | none => none
      | some v => if d.live = true then some (v, mh1) else (frz mh.length mh1 8 v).map (·, mh1.take mh.length)
  else none
noncomputable def callM (T : List Df) : Nat → CallF
  | 0, _, _, _ => none
  | k + 1, f, args, mh => match T[f]? with
    | none => none
    | some d => runD (callM T k) d args mh
end L2.Mi

set_option Elab.async false
set_option linter.all false
set_option maxRecDepth 100000
set_option maxHeartbeats 4000000
/-! Mini2: how values and the little heap stand for the layer's; what is kept. -/
namespace L2.Mi
open PySem PySem.Spec PyProof.Rows

structure Wd where
  H : Hp
  β : List Addr
  mh : MHp
  ex : List Addr
  bs : List Nat
def Wd.base (W : Wd) : Nat := W.bs.headD 0
structure Gb where
  K : PySem.W.Frag
  fa : Nat → Option Addr
def Wd.live (W : Wd) (a : Addr) : Prop := ∃ (l : Nat) (o : MO), W.mh[l]? = some (some o) ∧ W.β[l]? = some a
def kOf : MKey → Key
  | .inl i => .inl i
  | .inr s => .inr ⟨s.toArray⟩
abbrev noH : Hp := fun _ => none
mutual
def Rep (G : Gb) (W : Wd) : MV → V → Prop
  | .non, v => v = .non
  | .bl b, v => v = .bl b
  | .int i, v => v = .int i
  | .str s, v => v = .str ⟨s.toArray⟩
  | .fn f, v => ∃ a, G.fa f = some a ∧ v = .ref a
  | .tup xs, v => ∃ a vs, v = .ref a ∧ SqT G.K W.H a vs ∧ Reps G W xs vs
  | .lst xs, v => ∃ a vs, v = .ref a ∧ W.H a = some (.lst vs) ∧ (¬ W.live a ∧ a ∉ W.ex) ∧ Reps G W xs vs
  | .dct ks ms, v => ∃ a vs, v = .ref a ∧ Rd W.H a (.dK ((ks.map kOf).zip vs)) ∧ (¬ W.live a ∧ a ∉ W.ex) ∧ ks.length = ms.length ∧ Reps G W ms vs
  | .loc l, v => ∃ a, v = .ref a ∧ W.β[l]? = some a
  | .scr ns, v => ∃ a, v = .ref a ∧ ((Rd W.H a (.lst (ns.map .int)) ∧ ¬ W.live a ∧ a ∉ W.ex) ∨ SqL G.K noH a (ns.map .int))
def Reps (G : Gb) (W : Wd) : List MV → List V → Prop
  | [], vs => vs = []
  | x :: xs, vs => ∃ v r, vs = v :: r ∧ Rep G W x v ∧ Reps G W xs r
end
def ORep (G : Gb) (W : Wd) : MO → Addr → Prop
  | .lst xs, a => ∃ vs, W.H a = some (.lst vs) ∧ Reps G W xs vs
  | .dct ks ms, a => ∃ vs, W.H a = some (.dK ((ks.map kOf).zip vs)) ∧ ks.length = ms.length ∧ Reps G W ms vs
def obd (n : Nat) : MO → Bool
  | .lst xs => bds n xs
  | .dct _ vs => bds n vs
def NoTup (u : HO) : Prop := (∀ xs, u ≠ .tup xs) ∧ ∀ o v, u ≠ .frz o v
structure Sim (G : Gb) (W : Wd) : Prop where
  len : W.β.length = W.mh.length
  ble : ∀ b ∈ W.bs, b ≤ W.mh.length
  top : ∀ b ∈ W.bs, b ≤ W.base
  obj : ∀ (l : Nat) (o : MO), W.mh[l]? = some (some o) → ∀ a, W.β[l]? = some a → ORep G W o a
  inj : ∀ (l l' : Nat) (a : Addr) (o o' : MO), W.mh[l]? = some (some o) → W.mh[l']? = some (some o') → W.β[l]? = some a → W.β[l']? = some a → l = l'
  exo : ∀ a ∈ W.ex, ∃ u, W.H a = some u ∧ NoTup u
  exl : ∀ a ∈ W.ex, ¬ W.live a
  bnd : ∀ b ∈ W.bs, ∀ (l : Nat) (o : MO), l < b → W.mh[l]? = some (some o) → obd b o = true
/-- what stands at a place stays; a dict may be locked -/
def Sm (o u : HO) : Prop := u = o ∨ ∃ q kvs, o = .dK kvs ∧ u = .frz q (.dK kvs)
structure Keep (A B : Wd) : Prop where
  ex : ∀ a ∈ A.ex, a ∈ B.ex
  exn : ∀ a ∈ B.ex, a ∈ A.ex ∨ A.H a = none
  dom : ∀ a, A.H a ≠ none → B.H a ≠ none
  bs : B.bs = A.bs
  pre : ∃ t, B.β = A.β ++ t
  obj : ∀ a o, A.H a = some o → ¬ A.live a → ∃ u, B.H a = some u ∧ Sm o u
  liv : ∀ a, B.live a → A.live a ∨ A.H a = none
  exk : ∀ a ∈ A.ex, ∀ o, A.H a = some o → ¬ A.live a → B.H a = some o

theorem ORep.at {G : Gb} {W : Wd} {o : MO} {a : Addr} (h : ORep G W o a) : ∃ u, W.H a = some u ∧ NoTup u := by
  cases o with
  | lst xs => obtain ⟨vs, e, _⟩ := h; exact ⟨_, e, ⟨(fun _ z => nomatch z), (fun _ _ z => nomatch z)⟩⟩
  | dct ks ms => obtain ⟨vs, e, _⟩ := h; exact ⟨_, e, ⟨(fun _ z => nomatch z), (fun _ _ z => nomatch z)⟩⟩
theorem Sim.liveAt {G : Gb} {W : Wd} (S : Sim G W) {a : Addr} (h : W.live a) : ∃ u, W.H a = some u ∧ NoTup u := by
  obtain ⟨l, o, e1, e2⟩ := h
  exact (S.obj l o e1 a e2).at
theorem SqT_cases {K : PySem.W.Frag} {H H' : Hp} {a : Addr} {vs : List V} (h : SqT K H a vs) (k : ∀ u, H a = some u → ¬ NoTup u → H' a = some u) : SqT K H' a vs := by
  rcases h with (h | ⟨o, h⟩) | h
  · exact .inl (.inl (k _ h fun z => z.1 _ rfl))
  · exact .inl (.inr ⟨o, k _ h fun z => z.2 _ _ rfl⟩)
  · exact .inr h
theorem Keep.obj' {A B : Wd} (k : Keep A B) {a : Addr} {o : HO} (e : A.H a = some o) (n : ¬ A.live a) (hd : ∀ kvs, o ≠ .dK kvs) : B.H a = some o := by
  obtain ⟨u, e', rfl | ⟨q, kvs, z, _⟩⟩ := k.obj a o e n
  · exact e'
  · exact absurd z (hd kvs)
theorem Keep.tup {G : Gb} {A B : Wd} (S : Sim G A) (k : Keep A B) {a : Addr} {vs : List V} (h : SqT G.K A.H a vs) : SqT G.K B.H a vs :=
  SqT_cases h fun u e n => k.obj' e (fun z => by
    obtain ⟨w, e', n'⟩ := S.liveAt z
    rw [e] at e'; cases e'
    exact n n') fun kvs z => n (by subst z; exact ⟨(fun _ z => nomatch z), (fun _ _ z => nomatch z)⟩)
theorem Keep.off1 {A B : Wd} (k : Keep A B) {a : Addr} {u : HO} (e : A.H a = some u) (n : ¬ A.live a ∧ a ∉ A.ex) : ¬ B.live a ∧ a ∉ B.ex := by
  refine ⟨fun z => ?_, fun z => (k.exn a z).elim n.2 fun z => by rw [e] at z; cases z⟩
  rcases k.liv a z with z | z
  · exact n.1 z
  · rw [e] at z; cases z
theorem Keep.off {A B : Wd} (k : Keep A B) {a : Addr} {u : HO} (e : A.H a = some u) (n : ¬ A.live a ∧ a ∉ A.ex) (hd : ∀ kvs, u ≠ .dK kvs) : B.H a = some u ∧ ¬ B.live a ∧ a ∉ B.ex := ⟨k.obj' e n.1 hd, k.off1 e n⟩
theorem Keep.dct {A B : Wd} (k : Keep A B) {a : Addr} {kvs : List (Key × V)} (e : Rd A.H a (.dK kvs)) (n : ¬ A.live a ∧ a ∉ A.ex) : Rd B.H a (.dK kvs) ∧ ¬ B.live a ∧ a ∉ B.ex := by
  rcases e with e | ⟨o, e⟩
  · refine ⟨?_, k.off1 e n⟩
    obtain ⟨u, e', rfl | ⟨q, kvs', z, rfl⟩⟩ := k.obj a _ e n.1
    · exact .inl e'
    · cases z; exact .inr ⟨q, e'⟩
  · obtain ⟨q1, q2⟩ := k.off e n (fun _ z => nomatch z)
    exact ⟨.inr ⟨o, q1⟩, q2⟩
theorem pre_get {α : Type} {xs t : List α} {l : Nat} {a : α} (h : xs[l]? = some a) : (xs ++ t)[l]? = some a := by
  rw [List.getElem?_append_left (List.getElem?_eq_some_iff.mp h).1]; exact h
mutual
theorem Rep.keep {G : Gb} {A B : Wd} (S : Sim G A) (k : Keep A B) : ∀ (x : MV) (v : V), Rep G A x v → Rep G B x v
  | .non, v, h => h
  | .bl b, v, h => h
  | .int i, v, h => h
  | .str s, v, h => h
  | .fn f, v, h => h
  | .tup xs, v, h => by
    unfold Rep at h ⊢
    obtain ⟨a, vs, e, h1, h2⟩ := h
    exact ⟨a, vs, e, k.tup S h1, Reps.keep S k xs vs h2⟩
  | .lst xs, v, h => by
    unfold Rep at h ⊢
    obtain ⟨a, vs, e, h1, h2, h3⟩ := h
    obtain ⟨q1, q2⟩ := k.off h1 h2 (fun _ z => nomatch z)
    exact ⟨a, vs, e, q1, q2, Reps.keep S k xs vs h3⟩
  | .dct ks ms, v, h => by
    unfold Rep at h ⊢
    obtain ⟨a, vs, e, h1, h2, h3, h4⟩ := h
    obtain ⟨q1, q2⟩ := k.dct h1 h2
    exact ⟨a, vs, e, q1, q2, h3, Reps.keep S k ms vs h4⟩
  | .loc l, v, h => by
    unfold Rep at h ⊢
    obtain ⟨a, e, h1⟩ := h
    obtain ⟨t, ht⟩ := k.pre
    exact ⟨a, e, by rw [ht]; exact pre_get h1⟩
  | .scr ns, v, h => by
    unfold Rep at h ⊢
    obtain ⟨a, e, h1⟩ := h
    refine ⟨a, e, ?_⟩
    rcases h1 with ⟨h1, h2⟩ | h1
    · rcases h1 with h1 | ⟨o, h1⟩
      · obtain ⟨q1, q2⟩ := k.off h1 h2 (fun _ z => nomatch z)
        exact .inl ⟨.inl q1, q2⟩
      · obtain ⟨q1, q2⟩ := k.off h1 h2 (fun _ z => nomatch z)
        exact .inl ⟨.inr ⟨o, q1⟩, q2⟩
    · exact .inr h1
theorem Reps.keep {G : Gb} {A B : Wd} (S : Sim G A) (k : Keep A B) : ∀ (xs : List MV) (vs : List V), Reps G A xs vs → Reps G B xs vs
  | [], vs, h => h
  | x :: xs, vs, h => by
    unfold Reps at h ⊢
    obtain ⟨v, r, e, h1, h2⟩ := h
    exact ⟨v, r, e, Rep.keep S k x v h1, Reps.keep S k xs r h2⟩
end
theorem Reps.len {G : Gb} {W : Wd} : ∀ {xs : List MV} {vs : List V}, Reps G W xs vs → xs.length = vs.length
  | [], vs, h => by unfold Reps at h; subst h; rfl
  | x :: xs, vs, h => by
    unfold Reps at h
    obtain ⟨v, r, rfl, _, h2⟩ := h
    rw [List.length_cons, List.length_cons, Reps.len h2]
theorem Reps.app {G : Gb} {W : Wd} : ∀ {xs ys : List MV} {vs ws : List V}, Reps G W xs vs → Reps G W ys ws → Reps G W (xs ++ ys) (vs ++ ws)
  | [], ys, vs, ws, h, h' => by unfold Reps at h; subst h; exact h'
  | x :: xs, ys, vs, ws, h, h' => by
    unfold Reps at h
    obtain ⟨v, r, rfl, h1, h2⟩ := h
    show Reps G W (x :: (xs ++ ys)) (v :: (r ++ ws))
    unfold Reps
    exact ⟨v, _, rfl, h1, Reps.app h2 h'⟩
theorem Reps.one {G : Gb} {W : Wd} {x : MV} {v : V} (h : Rep G W x v) : Reps G W [x] [v] := by
  unfold Reps
  exact ⟨v, [], rfl, h, by unfold Reps; rfl⟩
theorem Reps.get {G : Gb} {W : Wd} : ∀ {xs : List MV} {vs : List V} {i : Nat} {x : MV}, Reps G W xs vs → xs[i]? = some x → ∃ v, vs[i]? = some v ∧ Rep G W x v
  | [], vs, i, x, h, e => by simp at e
  | y :: xs, vs, i, x, h, e => by
    unfold Reps at h
    obtain ⟨v, r, rfl, h1, h2⟩ := h
    cases i with
    | zero => simp at e; subst e; exact ⟨v, rfl, h1⟩
    | succ i =>
      simp only [List.getElem?_cons_succ] at e ⊢
      exact Reps.get h2 e
theorem Reps.all {G : Gb} {W : Wd} : ∀ {xs : List MV} {vs : List V} (f : MV → MV → Prop), Reps G W xs vs → True := fun _ _ => trivial
theorem Reps.of {G : Gb} {W : Wd} : ∀ {xs : List MV} {vs : List V}, xs.length = vs.length → (∀ (i : Nat) x v, xs[i]? = some x → vs[i]? = some v → Rep G W x v) → Reps G W xs vs
  | [], vs, hl, _ => by
    unfold Reps
    cases vs with
    | nil => rfl
    | cons => simp at hl
  | x :: xs, [], hl, _ => by simp at hl
  | x :: xs, v :: vs, hl, h => by
    unfold Reps
    exact ⟨v, vs, rfl, h 0 x v rfl rfl, Reps.of (by simpa using hl) fun i x' v' e1 e2 => h (i + 1) x' v' (by simpa using e1) (by simpa using e2)⟩
theorem Reps.at {G : Gb} {W : Wd} {xs : List MV} {vs : List V} (h : Reps G W xs vs) {i : Nat} {x : MV} {v : V} (e1 : xs[i]? = some x) (e2 : vs[i]? = some v) : Rep G W x v := by
  obtain ⟨v', q, r⟩ := h.get e1
  have : v = v' := Option.some.inj (e2.symm.trans q)
  subst this
  exact r
theorem Reps.set {G : Gb} {W : Wd} {xs : List MV} {vs : List V} (h : Reps G W xs vs) {x : MV} {v : V} (r : Rep G W x v) (j : Nat) : Reps G W (xs.set j x) (vs.set j v) := by
  refine Reps.of (by rw [List.length_set, List.length_set]; exact h.len) fun i y w e1 e2 => ?_
  by_cases hij : j = i
  · subst hij
    have l1 := (List.getElem?_eq_some_iff.mp e1).1
    have l2 := (List.getElem?_eq_some_iff.mp e2).1
    rw [List.length_set] at l1 l2
    rw [List.getElem?_set_self l1] at e1
    rw [List.getElem?_set_self l2] at e2
    cases e1; cases e2; exact r
  · rw [List.getElem?_set_ne hij] at e1 e2
    exact h.at e1 e2
theorem Reps.take {G : Gb} {W : Wd} {xs : List MV} {vs : List V} (h : Reps G W xs vs) (n : Nat) : Reps G W (xs.take n) (vs.take n) := by
  refine Reps.of (by rw [List.length_take, List.length_take, h.len]) fun i y w e1 e2 => ?_
  rw [List.getElem?_take] at e1 e2
  by_cases hn : i < n
  · rw [if_pos hn] at e1 e2
    exact h.at e1 e2
  · rw [if_neg hn] at e1
    cases e1
theorem Reps.drop {G : Gb} {W : Wd} {xs : List MV} {vs : List V} (h : Reps G W xs vs) (n : Nat) : Reps G W (xs.drop n) (vs.drop n) := by
  refine Reps.of (by rw [List.length_drop, List.length_drop, h.len]) fun i y w e1 e2 => ?_
  rw [List.getElem?_drop] at e1 e2
  exact h.at e1 e2
theorem Reps.eraseIdx {G : Gb} {W : Wd} {xs : List MV} {vs : List V} (h : Reps G W xs vs) (n : Nat) : Reps G W (xs.eraseIdx n) (vs.eraseIdx n) := by
  rw [List.eraseIdx_eq_take_drop_succ, List.eraseIdx_eq_take_drop_succ]
  exact (h.take n).app (h.drop (n + 1))
theorem Reps.dropLast {G : Gb} {W : Wd} {xs : List MV} {vs : List V} (h : Reps G W xs vs) : Reps G W xs.dropLast vs.dropLast := by
  rw [List.dropLast_eq_take, List.dropLast_eq_take, h.len]
  exact h.take _

/-! ### what is kept -/
theorem Keep.refl (A : Wd) : Keep A A := ⟨fun _ h => h, fun _ h => .inl h, fun _ h => h, rfl, ⟨[], by simp⟩, fun _ _ h _ => ⟨_, h, .inl rfl⟩, fun _ h => .inl h, fun _ _ _ h _ => h⟩
theorem Keep.trans {A B C : Wd} (k : Keep A B) (k' : Keep B C) : Keep A C where
  ex := fun a h => k'.ex a (k.ex a h)
  exn := fun a h => (k'.exn a h).elim (fun h => k.exn a h) fun h => .inr (Classical.byContradiction fun n => k.dom a n h)
  dom := fun a h => k'.dom a (k.dom a h)
  bs := k'.bs.trans k.bs
  pre := by
    obtain ⟨t, e⟩ := k.pre
    obtain ⟨t', e'⟩ := k'.pre
    exact ⟨t ++ t', by rw [e', e, List.append_assoc]⟩
  obj := fun a o h n => by
    have nl : ¬ B.live a := fun z => (k.liv a z).elim n fun z => by rw [h] at z; cases z
    obtain ⟨u, e1, s1⟩ := k.obj a o h n
    obtain ⟨u', e2, s2⟩ := k'.obj a u e1 nl
    refine ⟨u', e2, ?_⟩
    rcases s1 with rfl | ⟨q, kvs, rfl, rfl⟩
    · exact s2
    · rcases s2 with rfl | ⟨q', kvs', z, _⟩
      · exact .inr ⟨q, kvs, rfl, rfl⟩
      · cases z
  liv := fun a z => (k'.liv a z).elim (fun z => k.liv a z) fun z => by
    cases e : A.H a with
    | none => exact .inr rfl
    | some o =>
      refine .inl (Classical.byContradiction fun n => ?_)
      obtain ⟨u, this, _⟩ := k.obj a o e n
      rw [z] at this; cases this
  exk := fun a ha o h n => k'.exk a (k.ex a ha) o (k.exk a ha o h n) fun z => (k.liv a z).elim n fun z => by rw [h] at z; cases z
abbrev Wd.up (W : Wd) (p : Addr) (o : HO) : Wd := { W with H := upd W.H p o }
theorem upd_dom {H : Hp} {p : Addr} {o : HO} : ∀ a, H a ≠ none → upd H p o a ≠ none := fun a h => by
  by_cases e : a = p
  · subst e; rw [upd_same]; exact fun z => nomatch z
  · rw [upd_ne e]; exact h
theorem keep_new {W : Wd} {p : Addr} {o : HO} (h : W.H p = none) : Keep W (W.up p o) :=
  ⟨fun _ h => h, fun _ h => .inl h, upd_dom, rfl, ⟨[], by simp⟩, fun a u e _ => ⟨u, by show upd W.H p o a = _; rw [upd_ne (ne_of_none e h)]; exact e, .inl rfl⟩, fun a z => .inl z, fun a _ u e _ => by show upd W.H p o a = _; rw [upd_ne (ne_of_none e h)]; exact e⟩
theorem ORep.keep {G : Gb} {A B : Wd} (S : Sim G A) (k : Keep A B) {o : MO} {a : Addr} (h : ORep G A o a) (e : B.H a = A.H a) : ORep G B o a := by
  cases o with
  | lst xs => obtain ⟨vs, q, r⟩ := h; exact ⟨vs, e.trans q, Reps.keep S k _ _ r⟩
  | dct ks ms => obtain ⟨vs, q, l, r⟩ := h; exact ⟨vs, e.trans q, l, Reps.keep S k _ _ r⟩
theorem Sim.new {G : Gb} {W : Wd} (S : Sim G W) {p : Addr} {o : HO} (h : W.H p = none) : Sim G (W.up p o) where
  len := S.len
  ble := S.ble
  top := S.top
  obj := fun l u e a q => by
    have r := S.obj l u e a q
    refine r.keep S (keep_new h) ?_
    obtain ⟨v, e', _⟩ := r.at
    exact upd_ne (ne_of_none e' h)
  inj := S.inj
  exo := fun a ha => by
    obtain ⟨u, e, n⟩ := S.exo a ha
    exact ⟨u, by show upd W.H p o a = _; rw [upd_ne (ne_of_none e h)]; exact e, n⟩
  exl := S.exl
  bnd := S.bnd
theorem off_new {G : Gb} {W : Wd} (S : Sim G W) {p : Addr} (h : W.H p = none) : ¬ W.live p ∧ p ∉ W.ex :=
  ⟨(fun z => by obtain ⟨u, e, _⟩ := S.liveAt z; rw [h] at e; exact nomatch e), (fun z => by obtain ⟨u, e, _⟩ := S.exo p z; rw [h] at e; exact nomatch e)⟩
/-- a new tuple, a new list that never changes -/
theorem rep_tup {G : Gb} {W : Wd} (S : Sim G W) {p : Addr} {xs : List MV} {vs : List V} (h : W.H p = none) (r : Reps G W xs vs) : Rep G (W.up p (.tup vs)) (.tup xs) (.ref p) := by
  unfold Rep
  exact ⟨p, vs, rfl, .inl (.inl upd_same), Reps.keep S (keep_new h) _ _ r⟩
theorem rep_lst {G : Gb} {W : Wd} (S : Sim G W) {p : Addr} {xs : List MV} {vs : List V} (h : W.H p = none) (r : Reps G W xs vs) : Rep G (W.up p (.lst vs)) (.lst xs) (.ref p) := by
  unfold Rep
  exact ⟨p, vs, rfl, upd_same, off_new S h, Reps.keep S (keep_new h) _ _ r⟩
theorem rep_dct {G : Gb} {W : Wd} (S : Sim G W) {p : Addr} {ks : List MKey} {ms : List MV} {vs : List V} (h : W.H p = none) (hl : ks.length = ms.length) (r : Reps G W ms vs) : Rep G (W.up p (.dK ((ks.map kOf).zip vs))) (.dct ks ms) (.ref p) := by
  unfold Rep
  exact ⟨p, vs, rfl, .inl upd_same, off_new S h, hl, Reps.keep S (keep_new h) _ _ r⟩
/-- the live object l is written -/
abbrev Wd.wr (W : Wd) (l : Nat) (a : Addr) (o : HO) (u : MO) : Wd := { W with H := upd W.H a o, mh := W.mh.set l (some u) }
theorem set_get {mh : MHp} {l l' : Nat} {u v : MO} (h : (mh.set l (some u))[l']? = some (some v)) : (l' = l ∧ v = u ∧ l < mh.length) ∨ (l' ≠ l ∧ mh[l']? = some (some v)) := by
  by_cases e : l = l'
  · subst e
    have l1 := (List.getElem?_eq_some_iff.mp h).1
    rw [List.length_set] at l1
    rw [List.getElem?_set_self l1] at h
    cases h; exact .inl ⟨rfl, rfl, l1⟩
  · rw [List.getElem?_set_ne e] at h
    exact .inr ⟨fun z => e z.symm, h⟩
theorem keep_wr {G : Gb} {W : Wd} {l : Nat} {a : Addr} {o : HO} {u v : MO} (S : Sim G W) (h1 : W.mh[l]? = some (some v)) (h2 : W.β[l]? = some a) : Keep W (W.wr l a o u) := by
  refine ⟨fun _ h => h, fun _ h => .inl h, upd_dom, rfl, ⟨[], by simp⟩, fun c w e n => ?_, fun c z => .inl ?_, fun c _ w e n => by show upd W.H a o c = _; rw [upd_ne fun z => n (by rw [z]; exact ⟨l, v, h1, h2⟩)]; exact e⟩
  · refine ⟨w, ?_, .inl rfl⟩
    show upd W.H a o c = _
    rw [upd_ne fun z => n (by rw [z]; exact ⟨l, v, h1, h2⟩)]; exact e
  · obtain ⟨l', o', e1, e2⟩ := z
    rcases set_get e1 with ⟨rfl, _, _⟩ | ⟨_, e1⟩
    · rw [h2] at e2; cases e2; exact ⟨_, v, h1, h2⟩
    · exact ⟨l', o', e1, e2⟩
theorem Sim.wr {G : Gb} {W : Wd} {l : Nat} {a : Addr} {o : HO} {u v : MO} (S : Sim G W) (h1 : W.mh[l]? = some (some v)) (h2 : W.β[l]? = some a) (hr : ORep G (W.wr l a o u) u a) (nt : NoTup o) (hb : ∀ b ∈ W.bs, l < b → obd b u = true) : Sim G (W.wr l a o u) where
  len := by show W.β.length = (W.mh.set l (some u)).length; rw [List.length_set]; exact S.len
  ble := fun b hb => by show b ≤ (W.mh.set l (some u)).length; rw [List.length_set]; exact S.ble b hb
  top := S.top
  obj := fun l' w e c q => by
    rcases set_get e with ⟨rfl, rfl, _⟩ | ⟨ne, e⟩
    · have q' : W.β[l']? = some c := q
      rw [h2] at q'; cases q'; exact hr
    · have r := S.obj l' w e c q
      refine r.keep S (keep_wr S h1 h2) ?_
      exact upd_ne fun z => ne (S.inj l' l a w v e h1 (by rw [← z]; exact q) h2)
  inj := fun l1 l2 c o1 o2 e1 e2 q1 q2 => by
    have f : ∀ {l' o'}, (W.mh.set l (some u))[l']? = some (some o') → ∃ o'', W.mh[l']? = some (some o'') := fun {l' o'} e => by
      rcases set_get e with ⟨rfl, _, _⟩ | ⟨_, e⟩
      · exact ⟨v, h1⟩
      · exact ⟨_, e⟩
    obtain ⟨_, e1'⟩ := f e1
    obtain ⟨_, e2'⟩ := f e2
    exact S.inj l1 l2 c _ _ e1' e2' q1 q2
  exo := fun c hc => by
    obtain ⟨w, e, n⟩ := S.exo c hc
    have hn : c ≠ a := fun z => S.exl c hc (by rw [z]; exact ⟨l, v, h1, h2⟩)
    exact ⟨w, by show upd W.H a o c = _; rw [upd_ne hn]; exact e, n⟩
  exl := fun c hc z => S.exl c hc (by
    obtain ⟨l', o', e1, e2⟩ := z
    rcases set_get e1 with ⟨rfl, _, _⟩ | ⟨_, e1⟩
    · exact ⟨_, v, h1, e2⟩
    · exact ⟨l', o', e1, e2⟩)
  bnd := fun b hbs l' w hl e => by
    rcases set_get e with ⟨rfl, rfl, _⟩ | ⟨_, e⟩
    · exact hb b hbs hl
    · exact S.bnd b hbs l' w hl e
/-- a new live object -/
abbrev Wd.al (W : Wd) (p : Addr) (o : HO) (u : MO) : Wd := { W with H := upd W.H p o, β := W.β ++ [p], mh := W.mh ++ [some u] }
theorem app_get {α : Type} {xs : List α} {x y : α} {l : Nat} (h : (xs ++ [x])[l]? = some y) : xs[l]? = some y ∨ (l = xs.length ∧ y = x) := by
  by_cases hl : l < xs.length
  · rw [List.getElem?_append_left hl] at h; exact .inl h
  · rw [List.getElem?_append_right (by omega)] at h
    have : l - xs.length = 0 := by
      have := (List.getElem?_eq_some_iff.mp h).1
      simp at this; omega
    rw [this] at h
    simp at h
    exact .inr ⟨by omega, h.symm⟩
theorem keep_al {G : Gb} {W : Wd} (S : Sim G W) {p : Addr} {o : HO} {u : MO} (h : W.H p = none) : Keep W (W.al p o u) := by
  refine ⟨fun _ h => h, fun _ h => .inl h, upd_dom, rfl, ⟨[p], rfl⟩, fun c w e n => ?_, fun c z => ?_, fun c _ w e n => by show upd W.H p o c = _; rw [upd_ne (ne_of_none e h)]; exact e⟩
  · refine ⟨w, ?_, .inl rfl⟩
    show upd W.H p o c = _
    rw [upd_ne (ne_of_none e h)]; exact e
  · obtain ⟨l, o', e1, e2⟩ := z
    rcases app_get e1 with e1 | ⟨rfl, _⟩
    · have hl : l < W.β.length := by rw [S.len]; exact (List.getElem?_eq_some_iff.mp e1).1
      have e2' : (W.β ++ [p])[l]? = some c := e2
      rw [List.getElem?_append_left hl] at e2'
      exact .inl ⟨l, o', e1, e2'⟩
    · have e2' : (W.β ++ [p])[W.mh.length]? = some c := e2
      rw [← S.len, List.getElem?_append_right (Nat.le_refl _)] at e2'
      simp at e2'
      subst e2'
      exact .inr h
theorem Sim.al {G : Gb} {W : Wd} (S : Sim G W) {p : Addr} {o : HO} {u : MO} (h : W.H p = none) (hr : ORep G (W.al p o u) u p) (nt : NoTup o) : Sim G (W.al p o u) where
  len := by show (W.β ++ [p]).length = (W.mh ++ [some u]).length; rw [List.length_append, List.length_append, S.len]; rfl
  ble := fun b hb => by show b ≤ (W.mh ++ [some u]).length; rw [List.length_append]; exact Nat.le_trans (S.ble b hb) (Nat.le_add_right _ _)
  top := S.top
  obj := fun l w e c q => by
    have q' : (W.β ++ [p])[l]? = some c := q
    rcases app_get e with e | ⟨rfl, e9⟩
    · have hl : l < W.β.length := by rw [S.len]; exact (List.getElem?_eq_some_iff.mp e).1
      rw [List.getElem?_append_left hl] at q'
      have r := S.obj l w e c q'
      refine r.keep S (keep_al S h) ?_
      obtain ⟨v, e', _⟩ := r.at
      exact upd_ne (ne_of_none e' h)
    · have e' : w = u := Option.some.inj e9
      subst e'
      rw [← S.len, List.getElem?_append_right (Nat.le_refl _)] at q'
      simp at q'
      subst q'
      exact hr
  inj := fun l1 l2 c o1 o2 e1 e2 q1 q2 => by
    have key : ∀ {l o'}, (W.mh ++ [some u])[l]? = some (some o') → (W.β ++ [p])[l]? = some c → (W.mh[l]? = some (some o') ∧ W.β[l]? = some c ∧ c ≠ p) ∨ (l = W.mh.length ∧ c = p) := fun {l o'} e q => by
      rcases app_get e with e | ⟨rfl, _⟩
      · have hl : l < W.β.length := by rw [S.len]; exact (List.getElem?_eq_some_iff.mp e).1
        rw [List.getElem?_append_left hl] at q
        refine .inl ⟨e, q, ?_⟩
        obtain ⟨v, e', _⟩ := (S.obj l _ e c q).at
        exact ne_of_none e' h
      · rw [← S.len, List.getElem?_append_right (Nat.le_refl _)] at q
        simp at q
        exact .inr ⟨rfl, q.symm⟩
    rcases key e1 q1 with ⟨a1, a2, a3⟩ | ⟨a1, a2⟩
    · rcases key e2 q2 with ⟨b1, b2, b3⟩ | ⟨b1, b2⟩
      · exact S.inj l1 l2 c _ _ a1 b1 a2 b2
      · exact absurd b2 a3
    · rcases key e2 q2 with ⟨b1, b2, b3⟩ | ⟨b1, b2⟩
      · exact absurd a2 b3
      · rw [a1, b1]
  exo := fun c hc => by
    obtain ⟨w, e, n⟩ := S.exo c hc
    exact ⟨w, by show upd W.H p o c = _; rw [upd_ne (ne_of_none e h)]; exact e, n⟩
  exl := fun c hc z => by
    rcases (keep_al S h).liv c z with z | z
    · exact S.exl c hc z
    · obtain ⟨w, e, n⟩ := S.exo c hc
      rw [z] at e; cases e
  bnd := fun b hbs l w hl e => by
    rcases app_get e with e | ⟨rfl, _⟩
    · exact S.bnd b hbs l w hl e
    · exact absurd (Nat.lt_of_lt_of_le hl (S.ble b hbs)) (Nat.lt_irrefl _)
/-! ### names -/
def Envs (G : Gb) (W : Wd) (ρ : Env) (σ : L2.St) : Prop := ρ.length = σ.length ∧ ∀ (i : Nat) (v : MV), ρ[i]? = some (some v) → ∃ x, σ[i]? = some (some x) ∧ Rep G W v x
theorem Envs.keep {G : Gb} {A B : Wd} {ρ : Env} {σ : St} (h : Envs G A ρ σ) (S : Sim G A) (k : Keep A B) : Envs G B ρ σ :=
  ⟨h.1, fun i v e => let ⟨x, q, r⟩ := h.2 i v e; ⟨x, q, Rep.keep S k _ _ r⟩⟩
theorem Envs.set {G : Gb} {W : Wd} {ρ : Env} {σ : St} (h : Envs G W ρ σ) {v : MV} {x : V} (r : Rep G W v x) (i : Nat) : Envs G W (ρ.set i (some v)) (σ.set i (some x)) := by
  refine ⟨by rw [List.length_set, List.length_set]; exact h.1, fun j u e => ?_⟩
  by_cases hij : i = j
  · subst hij
    have l1 := (List.getElem?_eq_some_iff.mp e).1
    rw [List.length_set] at l1
    rw [List.getElem?_set_self l1] at e
    cases e
    exact ⟨x, List.getElem?_set_self (by rw [← h.1]; exact l1), r⟩
  · rw [List.getElem?_set_ne hij] at e ⊢
    exact h.2 j u e
theorem Envs.wipe {G : Gb} {W : Wd} {ρ : Env} {σ : St} (h : Envs G W ρ σ) : ∀ vs : List Nat, Envs G W (wipeE ρ vs) (L2.wipe σ vs)
  | [] => h
  | v :: vs => by
    have ih := Envs.wipe h vs
    refine ⟨by unfold wipeE L2.wipe; rw [List.length_set, List.length_set]; exact ih.1, fun j u e => ?_⟩
    unfold wipeE at e
    unfold L2.wipe
    by_cases hij : v = j
    · subst hij
      have l1 := (List.getElem?_eq_some_iff.mp e).1
      rw [List.length_set] at l1
      rw [List.getElem?_set_self l1] at e
      cases e
    · rw [List.getElem?_set_ne hij] at e ⊢
      exact ih.2 j u e
end L2.Mi

set_option Elab.async false
set_option linter.all false
set_option maxRecDepth 100000
set_option maxHeartbeats 4000000
/-! Mini3: the operations of the evaluator are the layer's. -/
namespace L2.Mi
open PySem PySem.Spec PyProof.Rows

/-- what is wanted behind an evaluation that began in A -/
def Post (G : Gb) (A : Wd) (mh' : MHp) (v : MV) (Q : VK) : Prop := ∀ (B : Wd) (x : V), Keep A B → B.mh = mh' → Sim G B → Rep G B v x → Q x B.H
theorem Post.here {G : Gb} {A : Wd} {v : MV} {x : V} {Q : VK} (h : Post G A A.mh v Q) (S : Sim G A) (r : Rep G A v x) : Q x A.H := h A x (Keep.refl A) rfl S r
theorem Post.step {G : Gb} {A B : Wd} {mh' : MHp} {v : MV} {Q : VK} (h : Post G A mh' v Q) (k : Keep A B) : Post G B mh' v Q := fun C x k' e S r => h C x (k.trans k') e S r
theorem Post.newTup {G : Gb} {A : Wd} {xs : List MV} {vs : List V} {Q : VK} {p : Addr} (h : Post G A A.mh (.tup xs) Q) (S : Sim G A) (r : Reps G A xs vs) (hp : A.H p = none) : Q (.ref p) (upd A.H p (.tup vs)) :=
  h (A.up p (.tup vs)) (.ref p) (keep_new hp) rfl (S.new hp) (rep_tup S hp r)
theorem Post.newLst {G : Gb} {A : Wd} {xs : List MV} {vs : List V} {Q : VK} {p : Addr} (h : Post G A A.mh (.lst xs) Q) (S : Sim G A) (r : Reps G A xs vs) (hp : A.H p = none) : Q (.ref p) (upd A.H p (.lst vs)) :=
  h (A.up p (.lst vs)) (.ref p) (keep_new hp) rfl (S.new hp) (rep_lst S hp r)

theorem OpR.or {X : Cx} {f : Value → Value → Sem Value} {r r' : R2} (h : OpR X f r) (h' : OpR X f r') : OpR X f (fun x y H Q => r x y H Q ∨ r' x y H Q) := by
  intro pins s σ H x y v u Q I rx ry q
  rcases q with q | q
  · exact h pins s σ H x y v u Q I rx ry q
  · exact h' pins s σ H x y v u Q I rx ry q
theorem CallR.or {X : Cx} {f : Value} {r r' : List V → Hp → VK → Prop} (h : CallR X f r) (h' : CallR X f r') : CallR X f (fun xs H Q => r xs H Q ∨ r' xs H Q) := by
  intro pins s σ H xs us Q I r q
  rcases q with q | q
  · exact h pins s σ H xs us Q I r q
  · exact h' pins s σ H xs us Q I r q
theorem MtR.or' {X : Cx} {id : String} {r r' : V → List V → Hp → VK → Prop} (h : MtR X id r) (h' : MtR X id r') : MtR X id (fun x xs H Q => r x xs H Q ∨ r' x xs H Q) := MtR.or h h'

/-! ### shapes -/
section
variable {G : Gb} {A : Wd}
theorem Rep.int_ {i : Int} {v : V} (h : Rep G A (.int i) v) : v = .int i := by unfold Rep at h; exact h
theorem Rep.str_ {s : Sx} {v : V} (h : Rep G A (.str s) v) : v = .str ⟨s.toArray⟩ := by unfold Rep at h; exact h
theorem Rep.bl_ {b : Bool} {v : V} (h : Rep G A (.bl b) v) : v = .bl b := by unfold Rep at h; exact h
theorem Rep.non_ {v : V} (h : Rep G A .non v) : v = .non := by unfold Rep at h; exact h
theorem Rep.tup_ {xs : List MV} {v : V} (h : Rep G A (.tup xs) v) : ∃ a vs, v = .ref a ∧ SqT G.K A.H a vs ∧ Reps G A xs vs := by unfold Rep at h; exact h
theorem Rep.loc_ {l : Nat} {v : V} (h : Rep G A (.loc l) v) : ∃ a, v = .ref a ∧ A.β[l]? = some a := by unfold Rep at h; exact h
theorem rep_int (i : Int) : Rep G A (.int i) (.int i) := by unfold Rep; rfl
theorem rep_str (s : Sx) : Rep G A (.str s) (.str ⟨s.toArray⟩) := by unfold Rep; rfl
theorem rep_bl (b : Bool) : Rep G A (.bl b) (.bl b) := by unfold Rep; rfl
theorem rep_non : Rep G A .non .non := by unfold Rep; rfl
/-- a list that is read: its items -/
theorem getL_rep (S : Sim G A) {x : MV} {v : V} {xs : List MV} (e : getL A.mh x = some xs) (h : Rep G A x v) : ∃ a vs, v = .ref a ∧ A.H a = some (.lst vs) ∧ Reps G A xs vs := by
  cases x with
  | lst ys =>
    cases e
    unfold Rep at h
    obtain ⟨a, vs, e1, e2, _, r⟩ := h
    exact ⟨a, vs, e1, e2, r⟩
  | loc l =>
    simp only [getL] at e
    split at e
    · rename_i ys hl
      cases e
      obtain ⟨a, e1, e2⟩ := h.loc_
      obtain ⟨vs, e3, r⟩ := S.obj l _ hl a e2
      exact ⟨a, vs, e1, e3, r⟩
    · cases e
  | _ => exact absurd e (by simp [getL])
/-! dicts -/
theorem kOf_inj {a b : MKey} (h : kOf a = kOf b) : a = b := by
  cases a with
  | inl i => cases b with
    | inl j => cases h; rfl
    | inr t => cases h
  | inr s => cases b with
    | inl j => cases h
    | inr t =>
      have h2 : (⟨s.toArray⟩ : Str) = ⟨t.toArray⟩ := by unfold kOf at h; exact Sum.inr.inj h
      have h3 := congrArg (fun z : Str => z.cps.toList) h2
      simp at h3
      rw [h3]
theorem kyV_rep {x : MV} {v : V} {k : MKey} (e : kyV x = some k) (h : Rep G A x v) : v = kV (kOf k) := by
  cases x with
  | int i => cases e; exact h.int_
  | str s => cases e; exact h.str_
  | _ => cases e
theorem kM_rep (k : MKey) : Rep G A (kM k) (kV (kOf k)) := by
  cases k with
  | inl i => exact rep_int i
  | inr s => exact rep_str s
theorem kMs_rep (ks : List MKey) : Reps G A (ks.map kM) (ks.map fun k => kV (kOf k)) := by
  induction ks with
  | nil => unfold Reps; rfl
  | cons k ks ih => rw [List.map_cons, List.map_cons]; unfold Reps; exact ⟨_, _, rfl, kM_rep k, ih⟩
theorem getD_rep (S : Sim G A) {x : MV} {v : V} {ks : List MKey} {ms : List MV} (e : getD A.mh x = some (ks, ms)) (h : Rep G A x v) : ∃ a vs, v = .ref a ∧ Rd A.H a (.dK ((ks.map kOf).zip vs)) ∧ ks.length = ms.length ∧ Reps G A ms vs := by
  cases x with
  | dct ls ns =>
    cases e
    unfold Rep at h
    obtain ⟨a, vs, e1, e2, _, l, r⟩ := h
    exact ⟨a, vs, e1, e2, l, r⟩
  | loc l =>
    simp only [getD] at e
    split at e
    · rename_i ls ns hl
      cases e
      obtain ⟨a, e1, e2⟩ := h.loc_
      obtain ⟨vs, e3, l, r⟩ := S.obj l _ hl a e2
      exact ⟨a, vs, e1, .inl e3, l, r⟩
    · cases e
  | _ => exact absurd e (by simp [getD])
theorem look_rep : ∀ {ks : List MKey} {ms : List MV} {vs : List V} (k : MKey), ks.length = ms.length → Reps G A ms vs → match dLook ks ms k with
    | some m => ∃ v, valV ((ks.map kOf).zip vs) (kOf k) = some v ∧ Rep G A m v
    | none => valV ((ks.map kOf).zip vs) (kOf k) = none
  | [], ms, vs, k, hl, r => by
    have : dLook [] ms k = none := by unfold dLook; rfl
    rw [this]
    rfl
  | k' :: ks, [], vs, k, hl, r => by simp at hl
  | k' :: ks, m :: ms, vs, k, hl, r => by
    unfold Reps at r
    obtain ⟨v, t, rfl, h1, h2⟩ := r
    unfold dLook
    by_cases h : k' = k
    · subst h
      rw [if_pos rfl]
      exact ⟨v, valV_pos (p := (kOf k', v)) rfl, h1⟩
    · rw [if_neg h]
      have ih := look_rep k (by simpa using hl) h2
      have e : valV (((k' :: ks).map kOf).zip (v :: t)) (kOf k) = valV ((ks.map kOf).zip t) (kOf k) := valV_neg (p := (kOf k', v)) fun z => h (kOf_inj z)
      rw [e]
      exact ih
theorem look_some {ks : List MKey} {ms : List MV} {vs : List V} {k : MKey} {m : MV} (hl : ks.length = ms.length) (r : Reps G A ms vs) (e : dLook ks ms k = some m) : ∃ v, valV ((ks.map kOf).zip vs) (kOf k) = some v ∧ Rep G A m v := by
  have := look_rep k hl r
  rw [e] at this
  exact this
theorem look_none {ks : List MKey} {ms : List MV} {vs : List V} {k : MKey} (hl : ks.length = ms.length) (r : Reps G A ms vs) (e : dLook ks ms k = none) : valV ((ks.map kOf).zip vs) (kOf k) = none := by
  have := look_rep k hl r
  rw [e] at this
  exact this
theorem any_rep (k : MKey) : ∀ {ks : List MKey} {vs : List V}, ks.length = vs.length → (((ks.map kOf).zip vs).any fun kv => decide (kv.1 = kOf k)) = ks.any fun k' => decide (k' = k)
  | [], vs, _ => rfl
  | k' :: ks, [], h => by simp at h
  | k' :: ks, v :: vs, h => by
    rw [List.map_cons, List.zip_cons_cons, List.any_cons, List.any_cons, any_rep k (by simpa using h)]
    congr 1
    by_cases e : k' = k
    · subst e; simp
    · rw [decide_eq_false e, decide_eq_false fun z => e (kOf_inj z)]
theorem dput_len {ks : List MKey} {ms : List MV} (k : MKey) (m : MV) (hl : ks.length = ms.length) : (dPutK ks k).length = (dPutV ks ms k m).length := by
  unfold dPutK dPutV
  split
  · rw [List.length_zipWith]; omega
  · simp [hl]
theorem dput_rep {ks : List MKey} {ms : List MV} {vs : List V} {k : MKey} {m : MV} {v : V} (hl : ks.length = ms.length) (r : Reps G A ms vs) (rv : Rep G A m v) :
    ∃ ws, putK ((ks.map kOf).zip vs) (kOf k) v = ((dPutK ks k).map kOf).zip ws ∧ Reps G A (dPutV ks ms k m) ws := by
  have hv : ks.length = vs.length := by rw [hl]; exact r.len
  unfold putK dPutK dPutV
  rw [any_rep k hv]
  split
  · refine ⟨List.zipWith (fun k' v' => if k' = k then v else v') ks vs, ?_, ?_⟩
    · clear r hl
      induction ks generalizing vs with
      | nil => rfl
      | cons k' ks ih =>
        cases vs with
        | nil => simp at hv
        | cons v' vs =>
          rename_i hc
          rw [List.map_cons, List.zip_cons_cons, List.map_cons, List.zipWith_cons_cons, List.zip_cons_cons]
          have e : (if kOf k' = kOf k then (kOf k', v) else (kOf k', v')) = (kOf k', if k' = k then v else v') := by
            by_cases h : k' = k
            · subst h; simp
            · rw [if_neg h, if_neg fun z => h (kOf_inj z)]
          simp only [e]
          congr 1
          have gen : ∀ (ks : List MKey) (vs : List V), ks.length = vs.length → ((ks.map kOf).zip vs).map (fun kv => if kv.1 = kOf k then (kv.1, v) else kv) = (ks.map kOf).zip (List.zipWith (fun k' v' => if k' = k then v else v') ks vs) := by
            intro ks
            induction ks with
            | nil => intro vs _; rfl
            | cons k' ks ih2 =>
              intro vs h
              cases vs with
              | nil => simp at h
              | cons v' vs =>
                rw [List.map_cons, List.zip_cons_cons, List.map_cons, List.zipWith_cons_cons, List.zip_cons_cons, ih2 vs (by simpa using h)]
                congr 1
                by_cases h : k' = k
                · subst h; simp
                · simp only [if_neg h, if_neg fun z => h (kOf_inj z)]
          exact gen ks vs (by simpa using hv)
    · have gen : ∀ (ks : List MKey) (ms : List MV) (vs : List V), ks.length = ms.length → Reps G A ms vs → Reps G A (List.zipWith (fun k' m' => if k' = k then m else m') ks ms) (List.zipWith (fun k' v' => if k' = k then v else v') ks vs) := by
        intro ks
        induction ks with
        | nil => intro ms vs h r; unfold Reps; rfl
        | cons k' ks ih =>
          intro ms vs h r
          cases ms with
          | nil => simp at h
          | cons m' ms =>
            unfold Reps at r
            obtain ⟨v', t, rfl, h1, h2⟩ := r
            rw [List.zipWith_cons_cons, List.zipWith_cons_cons]
            unfold Reps
            refine ⟨_, _, rfl, ?_, ih ms t (by simpa using h) h2⟩
            split
            · exact rv
            · exact h1
      exact gen ks ms vs hl r
  · refine ⟨vs ++ [v], ?_, r.app (Reps.one rv)⟩
    rw [List.map_append, List.zip_append (by simpa using hv)]
    rfl
theorem dfold_len : ∀ (ps : List (MKey × MV)) (ks : List MKey) (ms : List MV), ks.length = ms.length → (dFold ps ks ms).1.length = (dFold ps ks ms).2.length
  | [], ks, ms, h => h
  | p :: ps, ks, ms, h => dfold_len ps _ _ (dput_len p.1 p.2 h)
theorem Reps.map_int {ns : List Int} : Reps G A (ns.map .int) (ns.map .int) := by
  induction ns with
  | nil => unfold Reps; rfl
  | cons n ns ih => rw [List.map_cons, List.map_cons]; unfold Reps; exact ⟨_, _, rfl, rep_int n, ih⟩
theorem Reps.blOf : ∀ {xs : List MV} {vs : List V} {bs : List Bool}, Reps G A xs vs → xs.mapM blOf = some bs → vs = bs.map .bl
  | [], vs, bs, h, e => by
    unfold Reps at h
    simp at e
    subst e h
    rfl
  | x :: xs, vs, bs, h, e => by
    unfold Reps at h
    obtain ⟨v, r, rfl, h1, h2⟩ := h
    simp only [List.mapM_cons, Option.bind_eq_bind, Option.bind_eq_some_iff] at e
    obtain ⟨b, e1, cs, e2, e3⟩ := e
    cases x with
    | bl b' =>
      cases e1
      cases e3
      rw [h1.bl_, Reps.blOf h2 e2]
      rfl
    | _ => exact absurd e1 (by simp [Mi.blOf])
theorem Reps.intOf : ∀ {xs : List MV} {vs : List V} {bs : List Int}, Reps G A xs vs → xs.mapM intOf = some bs → vs = bs.map .int
  | [], vs, bs, h, e => by
    unfold Reps at h
    simp at e
    subst e h
    rfl
  | x :: xs, vs, bs, h, e => by
    unfold Reps at h
    obtain ⟨v, r, rfl, h1, h2⟩ := h
    simp only [List.mapM_cons, Option.bind_eq_bind, Option.bind_eq_some_iff] at e
    obtain ⟨b, e1, cs, e2, e3⟩ := e
    cases x with
    | int i' =>
      cases e1
      cases e3
      rw [h1.int_, Reps.intOf h2 e2]
      rfl
    | _ => exact absurd e1 (by simp [Mi.intOf])
theorem str_len (s : Sx) : (⟨s.toArray⟩ : Str).length = s.length := by simp [Str.length]
theorem str_app (s t : Sx) : (⟨s.toArray⟩ : Str) ++ ⟨t.toArray⟩ = ⟨(s ++ t).toArray⟩ := by
  show (Str.mk (s.toArray ++ t.toArray) : Str) = _
  rw [List.append_toArray]
end

/-! ### data -/
section
variable {G : Gb} {A : Wd}
theorem canLay_dct {xs : List MV} : PyData.canLay0 (.dict []) = false := rfl
mutual
theorem frz_dp (S : Sim G A) : ∀ (k : Nat) (x x' : MV) (v : V), frz 0 A.mh k x = some x' → PyData.canLay0 (toD x') = true → Rep G A x v → Dp G.K A.H v (toD x')
  | k, .non, x', v, e, c, h => by
    unfold frz at e; cases e; rw [h.non_]; unfold toD; exact .non
  | k, .bl b, x', v, e, c, h => by
    unfold frz at e; cases e; rw [h.bl_]; unfold toD; exact .bl b
  | k, .int i, x', v, e, c, h => by
    unfold frz at e; cases e; rw [h.int_]; unfold toD; exact .int i
  | k, .str s, x', v, e, c, h => by
    unfold frz at e; cases e; rw [h.str_]; unfold toD; exact .str _
  | k, .fn f, x', v, e, c, h => by
    unfold frz at e; cases e; unfold toD at c; exact absurd c (by decide)
  | k, .scr ns, x', v, e, c, h => by
    unfold frz at e; cases e
    unfold Rep at h
    obtain ⟨a, rfl, h⟩ := h
    unfold toD
    have sq : SqL G.K A.H a (ns.map .int) := by
      rcases h with ⟨h, _⟩ | (h | h)
      · exact .inl h
      · rcases h with h | ⟨o, h⟩ <;> exact nomatch h
      · exact .inr h
    exact .lst sq (DpAll_ints ns)
  | k, .dct ks vs, x', v, e, c, h => by
    unfold frz at e
    cases q : frzs 0 A.mh k vs with
    | none => rw [q] at e; exact nomatch e
    | some ys => rw [q] at e; cases e; unfold toD at c; exact absurd c (by decide)
  | k, .tup xs, x', v, e, c, h => by
    unfold frz at e
    cases q : frzs 0 A.mh k xs with
    | none => rw [q] at e; exact nomatch e
    | some ys =>
      rw [q] at e; cases e
      obtain ⟨a, vs, rfl, h1, h2⟩ := h.tup_
      unfold toD at c ⊢
      exact .tup h1 (frzs_dp S k xs ys vs q c h2)
  | k, .lst xs, x', v, e, c, h => by
    unfold frz at e
    cases q : frzs 0 A.mh k xs with
    | none => rw [q] at e; exact nomatch e
    | some ys =>
      rw [q] at e; cases e
      unfold Rep at h
      obtain ⟨a, vs, rfl, h1, _, h2⟩ := h
      unfold toD at c ⊢
      exact .lst (SqL.of h1) (frzs_dp S k xs ys vs q c h2)
  | 0, .loc l, x', v, e, c, h => by
    unfold frz at e
    simp at e
  | k + 1, .loc l, x', v, e, c, h => by
    unfold frz at e
    simp only [Nat.not_lt_zero, if_false] at e
    obtain ⟨a, rfl, e2⟩ := h.loc_
    split at e
    · rename_i xs hl
      cases q : frzs 0 A.mh k xs with
      | none => rw [q] at e; exact nomatch e
      | some ys =>
        rw [q] at e; cases e
        obtain ⟨vs, e3, r⟩ := S.obj l _ hl a e2
        unfold toD at c ⊢
        exact .lst (SqL.of e3) (frzs_dp S k xs ys vs q c r)
    · rename_i ks vs hl
      cases q : frzs 0 A.mh k vs with
      | none => rw [q] at e; exact nomatch e
      | some ys => rw [q] at e; cases e; unfold toD at c; exact absurd c (by decide)
    · exact nomatch e
  termination_by k x => (k, sizeOf x)
theorem frzs_dp (S : Sim G A) : ∀ (k : Nat) (xs ys : List MV) (vs : List V), frzs 0 A.mh k xs = some ys → PyData.canLayAll0 (toDs ys) = true → Reps G A xs vs → DpAll G.K A.H vs (toDs ys)
  | k, [], ys, vs, e, c, h => by
    unfold frzs at e; cases e
    unfold Reps at h; subst h
    unfold toDs; exact .nil
  | k, x :: xs, ys, vs, e, c, h => by
    unfold frzs at e
    unfold Reps at h
    obtain ⟨v, r, rfl, h1, h2⟩ := h
    cases q : frz 0 A.mh k x with
    | none => rw [q] at e; exact nomatch e
    | some y =>
      rw [q] at e
      simp only at e
      cases q2 : frzs 0 A.mh k xs with
      | none => rw [q2] at e; exact nomatch e
      | some ys' =>
        rw [q2] at e; cases e
        unfold toDs at c ⊢
        unfold PyData.canLayAll0 at c
        rw [Bool.and_eq_true] at c
        exact .cons (frz_dp S k x y v q c.1 h1) (frzs_dp S k xs ys' r q2 c.2 h2)
  termination_by k xs => (k, sizeOf xs)
theorem DpAll_ints {K : PySem.W.Frag} {H : Hp} : ∀ ns : List Int, DpAll K H (ns.map .int) (ns.map .int)
  | [] => .nil
  | n :: ns => .cons (.int n) (DpAll_ints ns)
end
theorem okD_can {x : MV} (h : okD x = true) : PyData.canLay0 (toD x) = true := SeqAt.canLay_of_shaped h

/-! ### equal, dicts within -/
/-- x == y is True, by what stands in them -/
inductive EqU (K : PySem.W.Frag) (H : Hp) : Nat → V → V → Prop
  | leaf {n : Nat} {x y : V} {d d' : PyData} : Dp K H x d → Dp K H y d' → SeqAt.shaped d = true → SeqAt.shaped d' = true → PyData.eqv d d' = true → d.depth = 0 → EqU K H n x y
  | tup {n : Nat} {a b : Addr} {vs ws : List V} : SqT K H a vs → SqT K H b ws → vs.length = ws.length → (∀ (i : Nat) x y, vs[i]? = some x → ws[i]? = some y → EqU K H n x y) → EqU K H (n + 1) (.ref a) (.ref b)
  | lst {n : Nat} {a b : Addr} {vs ws : List V} : SqL K H a vs → SqL K H b ws → vs.length = ws.length → (∀ (i : Nat) x y, vs[i]? = some x → ws[i]? = some y → EqU K H n x y) → EqU K H (n + 1) (.ref a) (.ref b)
  | dct {n : Nat} {a b : Addr} {ks ls : List (Key × V)} : Rd H a (.dK ks) → Rd H b (.dK ls) → ks.length = ls.length → (∀ p ∈ ks, (valV ls p.1).isSome = true) → (∀ p y, p ∈ ks → valV ls p.1 = some y → EqU K H n p.2 y) → EqU K H (n + 1) (.ref a) (.ref b)
theorem hgts_mem {x : MV} {xs : List MV} (h : x ∈ xs) : hgt x ≤ hgts xs := by
  induction xs with
  | nil => simp at h
  | cons y xs ih =>
    simp only [hgts]
    rcases List.mem_cons.mp h with rfl | h
    · omega
    · have := ih h; omega
theorem EqU.mono {K : PySem.W.Frag} {H : Hp} {n : Nat} {x y : V} (h : EqU K H n x y) : ∀ m, n ≤ m → EqU K H m x y := by
  induction h with
  | leaf h1 h2 h3 h4 h5 h6 => exact fun m _ => .leaf h1 h2 h3 h4 h5 h6
  | tup h1 h2 h3 _ ih =>
    intro m hm
    obtain ⟨m', rfl⟩ : ∃ m', m = m' + 1 := ⟨m - 1, by omega⟩
    exact .tup h1 h2 h3 fun i x y e1 e2 => ih i x y e1 e2 m' (by omega)
  | lst h1 h2 h3 _ ih =>
    intro m hm
    obtain ⟨m', rfl⟩ : ∃ m', m = m' + 1 := ⟨m - 1, by omega⟩
    exact .lst h1 h2 h3 fun i x y e1 e2 => ih i x y e1 e2 m' (by omega)
  | dct h1 h2 h3 h4 _ ih =>
    intro m hm
    obtain ⟨m', rfl⟩ : ∃ m', m = m' + 1 := ⟨m - 1, by omega⟩
    exact .dct h1 h2 h3 h4 fun p y hp e => ih p y hp e m' (by omega)
/-- a value with its live objects read out stands for the same -/
theorem frz_rep0 {G : Gb} {A : Wd} (S : Sim G A) : True := trivial
section
variable {G : Gb} {A : Wd}
/-- as Rep, where nothing is asked of who may write -/
inductive Rd' (G : Gb) (A : Wd) : MV → V → Prop
  | dat {x : MV} {v : V} : (PyData.canLay0 (toD x) = true → Dp G.K A.H v (toD x)) → (∀ xs, x ≠ .tup xs) → (∀ xs, x ≠ .lst xs) → (∀ ks ms, x ≠ .dct ks ms) → Rd' G A x v
  | tup {xs : List MV} {a : Addr} {vs : List V} : SqT G.K A.H a vs → xs.length = vs.length → (∀ (i : Nat) x v, xs[i]? = some x → vs[i]? = some v → Rd' G A x v) → Rd' G A (.tup xs) (.ref a)
  | lst {xs : List MV} {a : Addr} {vs : List V} : SqL G.K A.H a vs → xs.length = vs.length → (∀ (i : Nat) x v, xs[i]? = some x → vs[i]? = some v → Rd' G A x v) → Rd' G A (.lst xs) (.ref a)
  | dct {ks : List MKey} {ms : List MV} {a : Addr} {vs : List V} : Rd A.H a (.dK ((ks.map kOf).zip vs)) → ks.length = vs.length → ms.length = vs.length → (∀ (i : Nat) x v, ms[i]? = some x → vs[i]? = some v → Rd' G A x v) → Rd' G A (.dct ks ms) (.ref a)
mutual
theorem frz_rd (S : Sim G A) : ∀ (k : Nat) (x x' : MV) (v : V), frz 0 A.mh k x = some x' → Rep G A x v → Rd' G A x' v
  | k, .non, x', v, e, h => by
    have e' := e
    unfold frz at e; cases e
    exact .dat (fun c => frz_dp S k _ _ v e' c h) (fun _ z => nomatch z) (fun _ z => nomatch z) (fun _ _ z => nomatch z)
  | k, .bl b, x', v, e, h => by
    have e' := e
    unfold frz at e; cases e
    exact .dat (fun c => frz_dp S k _ _ v e' c h) (fun _ z => nomatch z) (fun _ z => nomatch z) (fun _ _ z => nomatch z)
  | k, .int i, x', v, e, h => by
    have e' := e
    unfold frz at e; cases e
    exact .dat (fun c => frz_dp S k _ _ v e' c h) (fun _ z => nomatch z) (fun _ z => nomatch z) (fun _ _ z => nomatch z)
  | k, .str s, x', v, e, h => by
    have e' := e
    unfold frz at e; cases e
    exact .dat (fun c => frz_dp S k _ _ v e' c h) (fun _ z => nomatch z) (fun _ z => nomatch z) (fun _ _ z => nomatch z)
  | k, .fn f, x', v, e, h => by
    have e' := e
    unfold frz at e; cases e
    exact .dat (fun c => frz_dp S k _ _ v e' c h) (fun _ z => nomatch z) (fun _ z => nomatch z) (fun _ _ z => nomatch z)
  | k, .scr ns, x', v, e, h => by
    have e' := e
    unfold frz at e; cases e
    exact .dat (fun c => frz_dp S k _ _ v e' c h) (fun _ z => nomatch z) (fun _ z => nomatch z) (fun _ _ z => nomatch z)
  | k, .dct ks ms, x', v, e, h => by
    unfold frz at e
    cases q : frzs 0 A.mh k ms with
    | none => rw [q] at e; exact nomatch e
    | some ys =>
      rw [q] at e; cases e
      unfold Rep at h
      obtain ⟨a, vs, rfl, h1, _, hl, h2⟩ := h
      obtain ⟨hl2, hh⟩ := frzs_rd S k ms ys vs q h2
      exact .dct h1 (by rw [hl, h2.len]) hl2 hh
  | k, .tup xs, x', v, e, h => by
    unfold frz at e
    cases q : frzs 0 A.mh k xs with
    | none => rw [q] at e; exact nomatch e
    | some ys =>
      rw [q] at e; cases e
      obtain ⟨a, vs, rfl, h1, h2⟩ := h.tup_
      obtain ⟨hl2, hh⟩ := frzs_rd S k xs ys vs q h2
      exact .tup h1 hl2 hh
  | k, .lst xs, x', v, e, h => by
    unfold frz at e
    cases q : frzs 0 A.mh k xs with
    | none => rw [q] at e; exact nomatch e
    | some ys =>
      rw [q] at e; cases e
      unfold Rep at h
      obtain ⟨a, vs, rfl, h1, _, h2⟩ := h
      obtain ⟨hl2, hh⟩ := frzs_rd S k xs ys vs q h2
      exact .lst (SqL.of h1) hl2 hh
  | 0, .loc l, x', v, e, h => by
    unfold frz at e
    simp at e
  | k + 1, .loc l, x', v, e, h => by
    unfold frz at e
    simp only [Nat.not_lt_zero, if_false] at e
    obtain ⟨a, rfl, e2⟩ := h.loc_
    split at e
    · rename_i xs hl
      cases q : frzs 0 A.mh k xs with
      | none => rw [q] at e; exact nomatch e
      | some ys =>
        rw [q] at e; cases e
        obtain ⟨vs, e3, r⟩ := S.obj l _ hl a e2
        obtain ⟨hl2, hh⟩ := frzs_rd S k xs ys vs q r
        exact .lst (SqL.of e3) hl2 hh
    · rename_i ks ms hl
      cases q : frzs 0 A.mh k ms with
      | none => rw [q] at e; exact nomatch e
      | some ys =>
        rw [q] at e; cases e
        obtain ⟨vs, e3, l1, r⟩ := S.obj l _ hl a e2
        obtain ⟨hl2, hh⟩ := frzs_rd S k ms ys vs q r
        exact .dct (.inl e3) (by rw [l1, r.len]) hl2 hh
    · exact nomatch e
  termination_by k x => (k, sizeOf x)
theorem frzs_rd (S : Sim G A) : ∀ (k : Nat) (xs ys : List MV) (vs : List V), frzs 0 A.mh k xs = some ys → Reps G A xs vs → ys.length = vs.length ∧ ∀ (i : Nat) y v, ys[i]? = some y → vs[i]? = some v → Rd' G A y v
  | k, [], ys, vs, e, h => by
    unfold frzs at e; cases e
    unfold Reps at h; subst h
    exact ⟨rfl, fun i y v e => by simp at e⟩
  | k, x :: xs, ys, vs, e, h => by
    unfold frzs at e
    unfold Reps at h
    obtain ⟨v, r, rfl, h1, h2⟩ := h
    cases q : frz 0 A.mh k x with
    | none => rw [q] at e; exact nomatch e
    | some y =>
      rw [q] at e
      simp only at e
      cases q2 : frzs 0 A.mh k xs with
      | none => rw [q2] at e; exact nomatch e
      | some ys' =>
        rw [q2] at e; cases e
        obtain ⟨hl, hh⟩ := frzs_rd S k xs ys' r q2 h2
        have h0 := frz_rd S k x y v q h1
        refine ⟨by simp [hl], fun i z w e1 e2 => ?_⟩
        cases i with
        | zero => simp at e1 e2; subst e1 e2; exact h0
        | succ i => exact hh i z w (by simpa using e1) (by simpa using e2)
  termination_by k xs => (k, sizeOf xs)
end
theorem Rd'.dp {x : MV} {v : V} (h : Rd' G A x v) : PyData.canLay0 (toD x) = true → Dp G.K A.H v (toD x) := by
  induction h with
  | dat h _ _ _ => exact h
  | @tup xs a vs h1 h2 _ ih =>
    intro c
    unfold toD at c ⊢
    refine .tup h1 ?_
    unfold PyData.canLay0 at c
    clear h1
    induction xs generalizing vs with
    | nil =>
      cases vs with
      | nil => unfold toDs; exact .nil
      | cons => simp at h2
    | cons x xs ihx =>
      cases vs with
      | nil => simp at h2
      | cons v vs =>
        unfold toDs at c ⊢
        unfold PyData.canLayAll0 at c
        rw [Bool.and_eq_true] at c
        exact .cons (ih 0 x v rfl rfl c.1) (ihx (vs := vs) (by simpa using h2) (fun i x' v' e1 e2 => by rename_i hh; exact hh (i + 1) x' v' (by simpa using e1) (by simpa using e2)) (fun i x' v' e1 e2 => ih (i + 1) x' v' (by simpa using e1) (by simpa using e2)) c.2)
  | @lst xs a vs h1 h2 _ ih =>
    intro c
    unfold toD at c ⊢
    refine .lst h1 ?_
    unfold PyData.canLay0 at c
    clear h1
    induction xs generalizing vs with
    | nil =>
      cases vs with
      | nil => unfold toDs; exact .nil
      | cons => simp at h2
    | cons x xs ihx =>
      cases vs with
      | nil => simp at h2
      | cons v vs =>
        unfold toDs at c ⊢
        unfold PyData.canLayAll0 at c
        rw [Bool.and_eq_true] at c
        exact .cons (ih 0 x v rfl rfl c.1) (ihx (vs := vs) (by simpa using h2) (fun i x' v' e1 e2 => by rename_i hh; exact hh (i + 1) x' v' (by simpa using e1) (by simpa using e2)) (fun i x' v' e1 e2 => ih (i + 1) x' v' (by simpa using e1) (by simpa using e2)) c.2)
  | dct _ _ _ _ _ =>
    intro c
    unfold toD at c
    exact absurd c (by decide)
end
section
variable {G : Gb} {A : Wd}
theorem look_idx : ∀ {ls : List MKey} {ns : List MV} {k : MKey} {m : MV} (ws : List V), ls.length = ws.length → dLook ls ns k = some m → ∃ (j : Nat) (w : V), ns[j]? = some m ∧ ws[j]? = some w ∧ valV ((ls.map kOf).zip ws) (kOf k) = some w
  | [], ns, k, m, ws, hl, e => by unfold dLook at e; cases e
  | k' :: ls, [], k, m, ws, hl, e => by unfold dLook at e; cases e
  | k' :: ls, n :: ns, k, m, [], hl, e => by simp at hl
  | k' :: ls, n :: ns, k, m, w :: ws, hl, e => by
    unfold dLook at e
    by_cases h : k' = k
    · subst h
      rw [if_pos rfl] at e
      cases e
      exact ⟨0, w, rfl, rfl, valV_pos (p := (kOf k', w)) rfl⟩
    · rw [if_neg h] at e
      obtain ⟨j, w', h1, h2, h3⟩ := look_idx ws (by simpa using hl) e
      refine ⟨j + 1, w', by simpa using h1, by simpa using h2, ?_⟩
      have e2 : valV (((k' :: ls).map kOf).zip (w :: ws)) (kOf k) = valV ((ls.map kOf).zip ws) (kOf k) := valV_neg (p := (kOf k', w)) fun z => h (kOf_inj z)
      rw [e2]
      exact h3
mutual
theorem eqT_rep : ∀ (x y : MV) (vx vy : V), eqT x y = true → Rd' G A x vx → Rd' G A y vy → EqU G.K A.H (hgt x) vx vy
  | x, y, vx, vy, e, rx, ry => by
    unfold eqT at e
    split at e
    · rename_i ks ms ls ns
      rw [Bool.and_eq_true] at e
      cases rx with
      | dat _ _ _ h => exact absurd rfl (h _ _)
      | dct a1 a2 a3 a4 =>
        rename_i a vs
        cases ry with
        | dat _ _ _ h => exact absurd rfl (h _ _)
        | dct b1 b2 b3 b4 =>
          rename_i b ws
          have hk := eqKs_rep ms ks ls ns e.2
          have hl : ks.length = ls.length := of_decide_eq_true e.1
          have find : ∀ p ∈ (ks.map kOf).zip vs, ∃ (i : Nat) (k : MKey) (m : MV), ks[i]? = some k ∧ ms[i]? = some m ∧ vs[i]? = some p.2 ∧ p.1 = kOf k := fun p hp => by
            obtain ⟨i, hi, e1⟩ := List.mem_iff_getElem.mp hp
            rw [List.length_zip, List.length_map] at hi
            have i1 : i < ks.length := by omega
            have i2 : i < vs.length := by omega
            have i3 : i < ms.length := by omega
            rw [List.getElem_zip] at e1
            refine ⟨i, ks[i], ms[i], List.getElem?_eq_getElem i1, List.getElem?_eq_getElem i3, ?_, ?_⟩
            · rw [← e1]; exact List.getElem?_eq_getElem i2
            · rw [← e1]; simp
          unfold hgt
          refine .dct a1 b1 ?_ (fun p hp => ?_) fun p y hp ey => ?_
          · rw [List.length_zip, List.length_zip, List.length_map, List.length_map]; omega
          · obtain ⟨i, k, m, h1, h2, h3, h4⟩ := find p hp
            obtain ⟨n', q1, q2⟩ := hk i m k h2 h1
            obtain ⟨j, w', _, _, q3⟩ := look_idx ws (by omega) q1
            rw [h4, q3]; rfl
          · obtain ⟨i, k, m, h1, h2, h3, h4⟩ := find p hp
            obtain ⟨n', q1, q2⟩ := hk i m k h2 h1
            obtain ⟨j, w', q3, q4, q5⟩ := look_idx ws (by omega) q1
            rw [h4, q5] at ey
            cases ey
            exact q2 _ _ (a4 i m _ h2 h3) (b4 j n' _ q3 q4)
    · rename_i xs ys
      obtain ⟨hl, hi⟩ := eqTs_rep xs ys e
      cases rx with
      | dat _ h _ _ => exact absurd rfl (h _)
      | tup a1 a2 a3 =>
        cases ry with
        | dat _ h _ _ => exact absurd rfl (h _)
        | tup b1 b2 b3 =>
          unfold hgt
          refine .tup a1 b1 (by omega) fun i u v e1 e2 => ?_
          have i1 : i < xs.length := by rw [a2]; exact (List.getElem?_eq_some_iff.mp e1).1
          have i2 : i < ys.length := by omega
          exact hi i _ _ _ _ (List.getElem?_eq_getElem i1) (List.getElem?_eq_getElem i2) (a3 i _ _ (List.getElem?_eq_getElem i1) e1) (b3 i _ _ (List.getElem?_eq_getElem i2) e2)
    · rename_i xs ys
      obtain ⟨hl, hi⟩ := eqTs_rep xs ys e
      cases rx with
      | dat _ _ h _ => exact absurd rfl (h _)
      | lst a1 a2 a3 =>
        cases ry with
        | dat _ _ h _ => exact absurd rfl (h _)
        | lst b1 b2 b3 =>
          unfold hgt
          refine .lst a1 b1 (by omega) fun i u v e1 e2 => ?_
          have i1 : i < xs.length := by rw [a2]; exact (List.getElem?_eq_some_iff.mp e1).1
          have i2 : i < ys.length := by omega
          exact hi i _ _ _ _ (List.getElem?_eq_getElem i1) (List.getElem?_eq_getElem i2) (a3 i _ _ (List.getElem?_eq_getElem i1) e1) (b3 i _ _ (List.getElem?_eq_getElem i2) e2)
    · simp only [Bool.and_eq_true, decide_eq_true_eq] at e
      obtain ⟨⟨⟨e1, e2⟩, e3⟩, e4⟩ := e
      exact .leaf (rx.dp (okD_can e1)) (ry.dp (okD_can e2)) e1 e2 e3 e4
  termination_by x => sizeOf x
theorem eqTs_rep : ∀ (xs ys : List MV), eqTs xs ys = true → xs.length = ys.length ∧ ∀ (i : Nat) x y vx vy, xs[i]? = some x → ys[i]? = some y → Rd' G A x vx → Rd' G A y vy → EqU G.K A.H (hgts xs) vx vy
  | [], [], _ => ⟨rfl, fun i x y vx vy e => by simp at e⟩
  | [], _ :: _, e => by unfold eqTs at e; cases e
  | _ :: _, [], e => by unfold eqTs at e; cases e
  | x :: xs, y :: ys, e => by
    unfold eqTs at e
    rw [Bool.and_eq_true] at e
    obtain ⟨hl, hi⟩ := eqTs_rep xs ys e.2
    refine ⟨by simp [hl], fun i x' y' vx vy e1 e2 rx ry => ?_⟩
    unfold hgts
    cases i with
    | zero =>
      simp at e1 e2
      subst e1 e2
      exact (eqT_rep x y vx vy e.1 rx ry).mono _ (Nat.le_max_left _ _)
    | succ i => exact (hi i x' y' vx vy (by simpa using e1) (by simpa using e2) rx ry).mono _ (Nat.le_max_right _ _)
  termination_by xs => sizeOf xs
theorem eqKs_rep : ∀ (ms : List MV) (ks ls : List MKey) (ns : List MV), eqKs ms ks ls ns = true → ∀ (i : Nat) m k, ms[i]? = some m → ks[i]? = some k → ∃ n', dLook ls ns k = some n' ∧ ∀ vx vy, Rd' G A m vx → Rd' G A n' vy → EqU G.K A.H (hgts ms) vx vy
  | [], _, _, _, _ => fun i m k e1 _ => by simp at e1
  | _ :: _, [], _, _, _ => fun i m k _ e2 => by simp at e2
  | m :: ms, k :: ks, ls, ns, e => by
    unfold eqKs at e
    rw [Bool.and_eq_true] at e
    intro i m' k' e1 e2
    unfold hgts
    cases i with
    | zero =>
      simp at e1 e2
      subst e1 e2
      cases q : dLook ls ns k with
      | none => rw [q] at e; cases e.1
      | some n' =>
        rw [q] at e
        exact ⟨n', rfl, fun vx vy rx ry => (eqT_rep m n' vx vy e.1 rx ry).mono _ (Nat.le_max_left _ _)⟩
    | succ i =>
      obtain ⟨n', q1, q2⟩ := eqKs_rep ms ks ls ns e.2 i m' k' (by simpa using e1) (by simpa using e2)
      exact ⟨n', q1, fun vx vy rx ry => (q2 vx vy rx ry).mono _ (Nat.le_max_right _ _)⟩
  termination_by ms => sizeOf ms
end
/-- equal lists, equal dicts -/
def EqTop (K : PySem.W.Frag) (H : Hp) (x y : V) : Prop :=
  (∃ n a b vs ws, n ≤ 60 ∧ x = .ref a ∧ y = .ref b ∧ SqL K H a vs ∧ SqL K H b ws ∧ vs.length = ws.length ∧ ∀ (i : Nat) u w, vs[i]? = some u → ws[i]? = some w → EqU K H n u w) ∨
  ∃ n a b ks ls, n ≤ 60 ∧ x = .ref a ∧ y = .ref b ∧ Rd H a (.dK ks) ∧ Rd H b (.dK ls) ∧ ks.length = ls.length ∧ (∀ p ∈ ks, (valV ls p.1).isSome = true) ∧ ∀ p u, p ∈ ks → valV ls p.1 = some u → EqU K H n p.2 u
theorem eqTop_rep {x y : MV} {vx vy : V} (e : eqT x y = true) (nd : ¬ (okD x = true ∧ okD y = true)) (hg : hgt x ≤ 60) (nt : notTup x = true) (rx : Rd' G A x vx) (ry : Rd' G A y vy) : EqTop G.K A.H vx vy := by
  unfold eqT at e
  split at e
  · rename_i ks ms ls ns
    rw [Bool.and_eq_true] at e
    cases rx with
    | dat _ _ _ h => exact absurd rfl (h _ _)
    | dct a1 a2 a3 a4 =>
      rename_i a vs
      cases ry with
      | dat _ _ _ h => exact absurd rfl (h _ _)
      | dct b1 b2 b3 b4 =>
        rename_i b ws
        have hk := eqKs_rep (G := G) (A := A) ms ks ls ns e.2
        have hl : ks.length = ls.length := of_decide_eq_true e.1
        have find : ∀ p ∈ (ks.map kOf).zip vs, ∃ (i : Nat) (k : MKey) (m : MV), ks[i]? = some k ∧ ms[i]? = some m ∧ vs[i]? = some p.2 ∧ p.1 = kOf k := fun p hp => by
          obtain ⟨i, hi, e1⟩ := List.mem_iff_getElem.mp hp
          rw [List.length_zip, List.length_map] at hi
          have i1 : i < ks.length := by omega
          have i2 : i < vs.length := by omega
          have i3 : i < ms.length := by omega
          rw [List.getElem_zip] at e1
          refine ⟨i, ks[i], ms[i], List.getElem?_eq_getElem i1, List.getElem?_eq_getElem i3, ?_, ?_⟩
          · rw [← e1]; exact List.getElem?_eq_getElem i2
          · rw [← e1]; simp
        unfold hgt at hg
        refine .inr ⟨hgts ms, a, b, _, _, by omega, rfl, rfl, a1, b1, ?_, fun p hp => ?_, fun p y hp ey => ?_⟩
        · rw [List.length_zip, List.length_zip, List.length_map, List.length_map]; omega
        · obtain ⟨i, k, m, h1, h2, h3, h4⟩ := find p hp
          obtain ⟨n', q1, q2⟩ := hk i m k h2 h1
          obtain ⟨j, w', _, _, q3⟩ := look_idx ws (by omega) q1
          rw [h4, q3]; rfl
        · obtain ⟨i, k, m, h1, h2, h3, h4⟩ := find p hp
          obtain ⟨n', q1, q2⟩ := hk i m k h2 h1
          obtain ⟨j, w', q3, q4, q5⟩ := look_idx ws (by omega) q1
          rw [h4, q5] at ey
          cases ey
          exact q2 _ _ (a4 i m _ h2 h3) (b4 j n' _ q3 q4)
  · cases nt
  · rename_i xs ys
    obtain ⟨hl, hi⟩ := eqTs_rep (G := G) (A := A) xs ys e
    cases rx with
    | dat _ _ h _ => exact absurd rfl (h _)
    | lst a1 a2 a3 =>
      cases ry with
      | dat _ _ h _ => exact absurd rfl (h _)
      | lst b1 b2 b3 =>
        unfold hgt at hg
        refine .inl ⟨hgts xs, _, _, _, _, by omega, rfl, rfl, a1, b1, by omega, fun i u v e1 e2 => ?_⟩
        have i1 : i < xs.length := by rw [a2]; exact (List.getElem?_eq_some_iff.mp e1).1
        have i2 : i < ys.length := by omega
        exact hi i _ _ _ _ (List.getElem?_eq_getElem i1) (List.getElem?_eq_getElem i2) (a3 i _ _ (List.getElem?_eq_getElem i1) e1) (b3 i _ _ (List.getElem?_eq_getElem i2) e2)
  · simp only [Bool.and_eq_true, decide_eq_true_eq] at e
    exact absurd ⟨e.1.1.1, e.1.1.2⟩ nd
end
/-! ### readings of the operations -/
theorem eqV_dp {G : Gb} {A : Wd} (S : Sim G A) {x y : MV} {vx vy : V} {c : Bool} (e : eqV A.mh x y = some c) (rx : Rep G A x vx) (ry : Rep G A y vy) :
    (∃ d d', Dp G.K A.H vx d ∧ Dp G.K A.H vy d' ∧ SeqAt.shaped d = true ∧ SeqAt.shaped d' = true ∧ PyData.eqv d d' = c) ∨ (c = true ∧ EqTop G.K A.H vx vy) := by
  unfold eqV at e
  cases q : frz 0 A.mh 8 x with
  | none => rw [q] at e; exact nomatch e
  | some x' =>
    rw [q] at e
    simp only at e
    cases q2 : frz 0 A.mh 8 y with
    | none => rw [q2] at e; exact nomatch e
    | some y' =>
      rw [q2] at e
      simp only at e
      split at e
      · rename_i hk
        cases e
        exact .inl ⟨_, _, frz_dp S 8 x x' vx q (okD_can hk.1) rx, frz_dp S 8 y y' vy q2 (okD_can hk.2) ry, hk.1, hk.2, rfl⟩
      · rename_i nd
        split at e
        · rename_i hk
          cases e
          exact .inr ⟨rfl, eqTop_rep hk.1 nd hk.2.1 hk.2.2 (frz_rd S 8 x x' vx q rx) (frz_rd S 8 y y' vy q2 ry)⟩
        · exact nomatch e
end
end L2.Mi

set_option Elab.async false
set_option linter.all false
set_option maxRecDepth 100000
set_option maxHeartbeats 4000000
/-! Mini4: operators and comparisons. -/
namespace PySem.SeqAt
open AutoSeq1 (wpAny_loadPart')
open MeetsSeq MeetsSeq2 MeetsSeq3
section
variable {prog : Program} {w : World}
abbrev miL (us : Array Value) (n : Nat) (d : Option Addr) (sl : Array (Option Value)) : Obj := { cls := .type "list", dict := d, data := .seq us n, slots := sl }
/-- the loop of != over two lists whose items are equal -/
theorem mi_ne_loop (p q : Addr) (us ws : Array Value) (n m : Nat) (d1 d2 : Option Addr) (s1 s2 : Array (Option Value)) (hz : us.size = ws.size) (r : Nat) :
    ∀ i : Nat, us.size - i = r → MeetsIn prog w (Builtin.«list.__eq__.loop» ⟨[.ref p, .ref q, rawInt i, rawInt 3], []⟩)
      (fun A R st => st.heap.get? p = some (miL us n d1 s1) ∧ st.heap.get? q = some (miL ws m d2 s2) ∧ (∀ j (a : j < us.size) (b : j < ws.size), EqIn prog w A.in1 st us[j] ws[j] true) ∧ R (.ok (.ret (.bool false))) st) := by
  induction r with
  | zero =>
    intro i hr A R st hy
    obtain ⟨hp, g, d, tk, os⟩ := st
    obtain ⟨e1, e2, e3, fin⟩ := hy
    wp_walk using wpAny_loadPart' e1, wpAny_loadPart' e2
    have o1 : us[((i : Nat) : Int).toNat]? = none := by simp; omega
    have o2 : ws[((i : Nat) : Int).toNat]? = none := by simp; omega
    rw [o1, o2]
    wp_walk using wpAny_loadPart' e1, wpAny_loadPart' e2
    show R (.ok (.ret (.bool (us.size != ws.size)))) _
    rw [hz]
    simpa using fin
  | succ r ih =>
    intro i hr A R st hy
    obtain ⟨hp, g, d, tk, os⟩ := st
    obtain ⟨e1, e2, e3, fin⟩ := hy
    wp_walk using wpAny_loadPart' e1, wpAny_loadPart' e2
    have l1 : i < us.size := by omega
    have l2 : i < ws.size := by omega
    have o1 : us[((i : Nat) : Int).toNat]? = some us[i] := by simp [l1]
    have o2 : ws[((i : Nat) : Int).toNat]? = some ws[i] := by simp [l2]
    have next : ((i : Int) + 1) = ((i + 1 : Nat) : Int) := by push_cast; rfl
    rw [o1, o2]
    refine wpAny_bind (e3 i l1 l2 _ _ ?_)
    wp_walk
    rw [next]
    refine ⟨plainId_quiet plain_eq_loop _, codeAny_builtin entry_eq_loop ?_⟩
    rw [Around.under_plainId plain_eq_loop _]
    exact ih (i + 1) (by omega) A R _ ⟨e1, e2, e3, fin⟩
theorem mi_ne_list (p q : Addr) (us ws : Array Value) (n m : Nat) (d1 d2 : Option Addr) (s1 s2 : Array (Option Value)) (hz : us.size = ws.size) :
    MeetsIn prog w (Builtin.«list.__ne__» ⟨[.ref p, .ref q], []⟩)
      (fun A R st => st.heap.get? p = some (miL us n d1 s1) ∧ st.heap.get? q = some (miL ws m d2 s2) ∧ (∀ j (a : j < us.size) (b : j < ws.size), EqIn prog w A.in1 st us[j] ws[j] true) ∧ R (.ok (.ret (.bool false))) st) := by
  intro A R st hy
  obtain ⟨hp, g, d, tk, os⟩ := st
  obtain ⟨e1, e2, e3, fin⟩ := hy
  have f3 := AutoSeq1.sub_list_list
  have same : ¬ (us.size != ws.size) = true := by simp [hz]
  wp_walk using wpAny_loadPart' e1, wpAny_loadPart' e2
  refine ⟨plainId_quiet plain_eq_loop _, codeAny_builtin entry_eq_loop ?_⟩
  rw [Around.under_plainId plain_eq_loop _]
  exact mi_ne_loop p q us ws n m d1 d2 s1 s2 hz _ 0 rfl A R _ ⟨e1, e2, e3, fin⟩
theorem mi_ne_lists {A : Around} {st : Shared} {E Q : Value → Shared → Prop} {p q : Addr} {us ws : Array Value} (hp : st.heap.IsList p us) (hq : st.heap.IsList q ws) (hz : us.size = ws.size) (hu : A.units < cLine)
    (he : ∀ j (a : j < us.size) (b : j < ws.size), EqIn prog w A.in1 st us[j] ws[j] true) (fin : Q (.bool false) st) : wpAny (model prog w) A (richCompare .NotEq (.ref p) (.ref q)) Q E st := by
  obtain ⟨⟨c1, d1, da1, s1⟩, o1, k1, n, z1⟩ := id hp
  obtain ⟨⟨c2, d2, da2, s2⟩, o2, k2, m, z2⟩ := id hq
  simp only at k1 z1 k2 z2
  subst k1 z1 k2 z2
  have t1 : st.TypeIs (.ref p) "list" := ⟨_, o1, rfl⟩
  have t2 : st.TypeIs (.ref q) "list" := ⟨_, o2, rfl⟩
  refine wpAny_richCompare_same_room (op := .NotEq) t1 t2 F.slot_list_ne (call_meetsIn F.slot_list_ne t1 F.entry_list_ne (F.args_list_ne_2 _ _) (mi_ne_list p q us ws n m d1 d2 s1 s2 hz) ⟨o1, o2, he, ?_⟩) hu
  exact show Value.bool false ≠ Value.notImplemented ∧ Q (.bool false) st from ⟨(fun x => nomatch x), fin⟩
end
end PySem.SeqAt
namespace PySem.W
open PySem PySem.Calls PyProof.Rows PyProof.V PySem.Spec
open PySem.SeqAt (EqIn)
theorem mi_ne_dicts {prog : Program} {w : World} {K : Type} [DecidableEq K] {knd : KeyKind prog w K} {A : Around} {E Q : Value → Shared → Prop} {st : Shared} {p q : Addr} {kp kq : List (K × Value)} (hp : (p == sysModules) = false) (hq : (q == sysModules) = false)
    (dp : st.heap.DictOf knd p kp) (dq : st.heap.DictOf knd q kq) (hu : A.units < cLine) (hl : kp.length = kq.length) (hits : KeqHitsIn prog w A.in1 st kq kp true) (fin : Q (.bool false) st) :
    wpAny (model prog w) A (compareOp .NotEq (.ref p) (.ref q)) Q E st := by
  refine wpAny_richCompare_same_room (op := .NotEq) dp.typeIs dq.typeIs PySem.F.slot_dict_ne ?_ hu
  refine wpAny_call_entry PySem.F.slot_dict_ne dp.typeIs PySem.F.entry_dict_ne ?_ (PySem.F.args_dict_ne_2 _ _)
  show wpAny _ _ (Builtin.Dict.dictSlotArgs "__ne__" ⟨[.ref p, .ref q], []⟩ >>= _) _ _ st
  refine wpAny_bind ?_
  unfold Builtin.Dict.dictSlotArgs
  refine wpAny_bind (wpAny_notOrdered_dict dp.typeIs ?_)
  show wpAny _ _ (pure (Value.ref p, Value.ref q)) _ _ st
  refine wpAny_pure (wpAny_bind (wpAny_isInstance (T := "dict") dq.typeIs PySem.F.sub_dict_dict ?_))
  simp only [Bool.not_true, Bool.false_eq_true, if_false]
  refine wpAny_bind (wpAny_pure (wpAny_bind (wpAny_pure ?_)))
  refine wpAny_bind (keq_samePairsIn hp hq dp dq (fun _ => hits) (wpAny_pure ⟨_, rfl, ?_, ?_⟩))
  · exact fun x => nomatch x
  · simpa [hl] using fin
end PySem.W
namespace L2.Mi
open PySem PySem.Spec PyProof.Rows

/-! ### a text so many times -/
theorem foldl_app (x : Array Nat) : ∀ (n : Nat) (a : Array Nat), ((List.replicate n x).foldl (· ++ ·) a).toList = a.toList ++ (List.replicate n x.toList).flatten
  | 0, a => by simp
  | n + 1, a => by
    rw [List.replicate_succ, List.foldl_cons, foldl_app x n, List.replicate_succ, List.flatten_cons]
    simp
theorem str_toList_eq {x y : Str} (h : x.cps.toList = y.cps.toList) : x = y := by
  cases x; cases y
  simp only at h
  exact congrArg Str.mk (Array.toList_inj.mp h)
def rMulS : R2 := fun x y H Q => ∃ (s : Str) (n : Int), x = .str s ∧ y = .int n ∧ 0 ≤ n ∧ n ≤ 1000000 ∧ s.length * n.toNat ≤ sizeLine ∧ Q (.str ⟨(List.replicate n.toNat s.cps.toList).flatten.toArray⟩) H
theorem op_mulS {X : Cx} : OpR X (binaryOp .Mult) rMulS := by
  intro pins s σ H x y v u Q I rx ry h
  obtain ⟨z, n, rfl, rfl, h0, h1, h2, q⟩ := h
  obtain ⟨t, rfl⟩ := rx
  obtain ⟨t', rfl⟩ := ry
  refine PySem.P.mul_str ?_ (fun h => ?_) (fun h _ => ?_) ?_
  · rw [decide_eq_false (by omega), decide_eq_false (by omega)]; rfl
  · intro hz hh
    have e1 : (z.length : Int) ≤ 16777216 := by
      have : z.length * 1 ≤ z.length * n.toNat := Nat.mul_le_mul_left _ (by omega)
      have h2' : z.length * n.toNat ≤ 16777216 := h2
      omega
    have e2 : (16777216 : Int) ≤ (2 ^ 63 - 1) / n := by
      have : 0 < n := by omega
      rw [Int.le_ediv_iff_mul_le this]
      omega
    omega
  · have h2' : z.length * n.toNat ≤ sizeLine := h2
    exact decide_eq_false (by omega)
  · split
    · rename_i hn
      have e : n.toNat = 0 := by omega
      refine ⟨by decide, .str Str.empty, H, I.tok _, ⟨_, rfl⟩, ?_⟩
      rw [e] at q
      exact q
    · split
      · rename_i hn hb
        refine ⟨.str z, H, I, ⟨_, rfl⟩, ?_⟩
        have e : (⟨(List.replicate n.toNat z.cps.toList).flatten.toArray⟩ : Str) = z := by
          apply str_toList_eq
          rw [Bool.or_eq_true] at hb
          rcases hb with hb | hb
          · have e : n.toNat = 1 := by
              have : n = 1 := by simpa using hb
              omega
            rw [e]; simp
          · have e : z.cps.toList = [] := by
              have : z.length = 0 := by simpa using hb
              have : z.cps.toList.length = 0 := by simpa [Str.length] using this
              exact List.length_eq_zero_iff.mp this
            rw [e]; simp
        rw [e] at q
        exact q
      · refine ⟨?_, .str _, H, I.tok _, ⟨_, rfl⟩, ?_⟩
        · show (⟨(List.replicate n.toNat z.cps).foldl (· ++ ·) #[]⟩ : Str).length ≤ _
          have : (⟨(List.replicate n.toNat z.cps).foldl (· ++ ·) #[]⟩ : Str).length = z.length * n.toNat := by
            show Array.size _ = _
            rw [← Array.length_toList, foldl_app]
            simp [Str.length, Nat.mul_comm]
          rw [this]
          exact h2
        · have e : (⟨(List.replicate n.toNat z.cps).foldl (· ++ ·) #[]⟩ : Str) = ⟨(List.replicate n.toNat z.cps.toList).flatten.toArray⟩ := by
            apply str_toList_eq
            rw [foldl_app]
            simp
          rw [e]
          exact q

def opOf : Op → Operator
  | .add => .Add
  | .sub => .Sub
  | .mul => .Mult
  | .fdiv => .FloorDiv
  | .mod => .Mod
def rAddS : R2 := fun x y H Q => ∃ i j, x = .str i ∧ y = .str j ∧ i.length + j.length ≤ sizeLine ∧ Q (.str (i ++ j)) H
def opR (K : PySem.W.Frag) : Op → R2
  | .add => fun x y H Q => rI0 (fun i j => .int (i + j)) x y H Q ∨ rAddS x y H Q ∨ rCatA K x y H Q ∨ rCat x y H Q
  | .sub => rI0 fun i j => .int (i - j)
  | .mul => fun x y H Q => rI CMul (fun i j => .int (i * j)) x y H Q ∨ rMulS x y H Q ∨ L2.rRepT K x y H Q
  | .fdiv => rI CDivN fun i j => .int (i.fdiv j)
  | .mod => rI (fun _ j => j ≠ 0) fun i j => .int (i.fmod j)
theorem op_ok {X : Cx} : ∀ o : Op, OpR X (binaryOp (opOf o)) (opR X.K o)
  | .add => op_add.or (op_add_str.or (op_catA.or op_cat))
  | .sub => op_sub
  | .mul => op_mul.or (op_mulS.or L2.op_repT)
  | .fdiv => op_fdivN
  | .mod => op_modN
section
variable {G : Gb} {A : Wd}
theorem opR_of (S : Sim G A) {o : Op} {x y v : MV} {vx vy : V} {Q : VK} (e : binV A.mh o x y = some v) (rx : Rep G A x vx) (ry : Rep G A y vy) (h : Post G A A.mh v Q) : opR G.K o vx vy A.H Q := by
  have lists : ∀ {xs ys : List MV}, getL A.mh x = some xs → getL A.mh y = some ys → xs.length + ys.length ≤ line → v = .lst (xs ++ ys) → rCat vx vy A.H Q := by
    intro xs ys e1 e2 hz ev
    subst ev
    obtain ⟨a, vs, rfl, h1, r1⟩ := getL_rep S e1 rx
    obtain ⟨b, ws, rfl, h2, r2⟩ := getL_rep S e2 ry
    refine ⟨a, b, vs, ws, rfl, rfl, h1, h2, ?_, fun p hp => h.newLst S (r1.app r2) hp⟩
    rw [← r1.len, ← r2.len]
    exact hz
  cases o with
  | add =>
    simp only [binV, addV] at e
    split at e
    · rename_i i j
      cases e
      exact .inl ⟨i, j, rx.int_, ry.int_, h.here S (rep_int _)⟩
    · rename_i s t
      split at e
      · rename_i hz
        cases e
        refine .inr (.inl ⟨⟨s.toArray⟩, ⟨t.toArray⟩, rx.str_, ry.str_, by rw [str_len, str_len]; exact hz, ?_⟩)
        rw [str_app]
        exact h.here S (rep_str _)
      · cases e
    · rename_i xs ys
      split at e
      · rename_i hz
        cases e
        obtain ⟨a, vs, rfl, h1, r1⟩ := rx.tup_
        obtain ⟨b, ws, rfl, h2, r2⟩ := ry.tup_
        refine .inr (.inr (.inl ⟨a, b, vs, ws, rfl, rfl, h1, h2, by rw [← r1.len, ← r2.len]; exact hz, fun e => ?_, fun _ e => ?_, fun _ _ p hp => h.newTup S (r1.app r2) hp⟩))
        · subst e
          have : xs = [] := List.length_eq_zero_iff.mp r1.len
          subst this
          exact h.here S ry
        · subst e
          have : ys = [] := List.length_eq_zero_iff.mp r2.len
          subst this
          rw [List.append_nil] at h
          exact h.here S rx
      · cases e
    · split at e
      · cases e
      · rename_i xs e1
        split at e
        · cases e
        · rename_i ys e2
          split at e
          · rename_i hz
            cases e
            exact .inr (.inr (.inr (lists e1 e2 hz rfl)))
          · cases e
  | sub =>
    simp only [binV, intV] at e
    split at e
    · rename_i i j
      cases e
      exact ⟨i, j, rx.int_, ry.int_, h.here S (rep_int _)⟩
    · cases e
  | mul =>
    simp only [binV, mulV] at e
    split at e
    · rename_i i j
      split at e
      · rename_i hz
        cases e
        exact .inl ⟨i, j, rx.int_, ry.int_, hz, h.here S (rep_int _)⟩
      · cases e
    · rename_i s j
      split at e
      · rename_i hz
        cases e
        exact .inr (.inl ⟨⟨s.toArray⟩, j, rx.str_, ry.int_, hz.1, hz.2.1, by rw [str_len]; exact hz.2.2, h.here S (rep_str _)⟩)
      · cases e
    · rename_i xs j
      split at e
      · rename_i hz
        cases e
        obtain ⟨a, vs, rfl, h1, r1⟩ := rx.tup_
        have rr : ∀ n : Nat, Reps G A (List.replicate n xs).flatten (List.replicate n vs).flatten := by
          intro n
          induction n with
          | zero => simp only [List.replicate_zero, List.flatten_nil]; unfold Reps; rfl
          | succ n ih => rw [List.replicate_succ, List.replicate_succ, List.flatten_cons, List.flatten_cons]; exact r1.app ih
        refine .inr (.inr ⟨a, j, vs, rfl, ry.int_, h1, fun z => ?_, hz.2.1, hz.2.2.1, by rw [← r1.len]; exact hz.2.2.2, fun p hp => h.newTup S (rr j.toNat) hp⟩)
        subst z
        have : xs = [] := List.length_eq_zero_iff.mp r1.len
        subst this
        simp at hz
      · cases e
    · cases e
  | fdiv =>
    simp only [binV, intV] at e
    split at e
    · rename_i i j
      split at e
      · rename_i hz
        cases e
        exact ⟨i, j, rx.int_, ry.int_, hz, h.here S (rep_int _)⟩
      · cases e
    · cases e
  | mod =>
    simp only [binV, intV] at e
    split at e
    · rename_i i j
      split at e
      · rename_i hz
        cases e
        exact ⟨i, j, rx.int_, ry.int_, hz, h.here S (rep_int _)⟩
      · cases e
    · cases e

/-! ### comparisons -/
theorem any_toDs (d : PyData) : ∀ ys : List MV, (toDs ys).any (fun z => PyData.eqv z d) = ys.any fun z => PyData.eqv (toD z) d
  | [] => rfl
  | y :: ys => by
    unfold toDs
    rw [List.any_cons, List.any_cons, any_toDs d ys]
end
def copOf : Cop → CmpOp
  | .eq => .Eq
  | .ne => .NotEq
  | .lt => .Lt
  | .le => .LtE
  | .gt => .Gt
  | .ge => .GtE
  | .mem => .In
  | .nmem => .NotIn
  | .is => .Is
  | .isn => .IsNot
def rInS1 (f : Bool → Bool) : R2 := fun x y H Q => ∃ (c : Nat) (z : Str), x = .str ⟨#[c]⟩ ∧ y = .str z ∧ Q (.bl (f (decide (c ∈ z.cps.toList)))) H
def rStr (f : List Nat → List Nat → Bool) : R2 := fun x y H Q => ∃ i j, x = .str i ∧ y = .str j ∧ Q (.bl (f i.cps.toList j.cps.toList)) H
def rIsM (f : Bool → Bool) : R2 := fun x y H Q => (y = .non ∧ Q (.bl (f (decide (x = .non)))) H) ∨ ∃ a b, x = .bl a ∧ y = .bl b ∧ Q (.bl (f (decide (a = b)))) H
theorem look_idxN : ∀ {ls : List MKey} {ns : List MV} {k : MKey} (ws : List V), ls.length = ws.length → ls.length = ns.length → dLook ls ns k = none → valV ((ls.map kOf).zip ws) (kOf k) = none
  | [], ns, k, ws, _, _, _ => rfl
  | k' :: ls, [], k, ws, _, h, _ => by simp at h
  | k' :: ls, n :: ns, k, [], h, _, _ => by simp at h
  | k' :: ls, n :: ns, k, w :: ws, h1, h2, e => by
    unfold dLook at e
    by_cases h : k' = k
    · rw [if_pos h] at e; cases e
    · rw [if_neg h] at e
      have e2 : valV (((k' :: ls).map kOf).zip (w :: ws)) (kOf k) = valV ((ls.map kOf).zip ws) (kOf k) := valV_neg (p := (kOf k', w)) fun z => h (kOf_inj z)
      rw [e2]
      exact look_idxN ws (by simpa using h1) (by simpa using h2) e
/-! equal lists and dicts -/
theorem kv_mem {kvs : List (Key × V)} {vs : List (Key × Value)} (r : KV kvs vs) : ∀ {k : Key} {v : Value}, (k, v) ∈ vs → ∃ p ∈ kvs, p.1 = k ∧ RelV p.2 v := by
  unfold KV at r
  induction r with
  | nil => intro k v h; simp at h
  | @cons p q ps qs h t ih =>
    intro k v hm
    rcases List.mem_cons.mp hm with e | hm
    · subst e
      exact ⟨p, List.mem_cons_self, h.1, h.2⟩
    · obtain ⟨p', h1, h2⟩ := ih hm
      exact ⟨p', List.mem_cons_of_mem _ h1, h2⟩
theorem relO_some {o : Option V} {u : Value} (r : RelO o (some u)) : ∃ y, o = some y ∧ RelV y u := by
  cases o with
  | none => cases r
  | some y => exact ⟨y, rfl, r⟩
theorem eqU_tree {X : Cx} {pins : List (Addr × Obj)} {σ : L2.St} {H : Hp} {s : Shared} (I : Inv X pins σ H s) {n : Nat} {x y : V} (h : EqU X.K H n x y) : ∀ {v u : Value}, RelV x v → RelV y u → PySem.W.EqTree X.prog X.w s n v u true := by
  induction h with
  | @leaf n x y d d' h1 h2 h3 h4 h5 h6 =>
    intro v u rx ry
    obtain ⟨as, r1⟩ := Dp.reads I d x v h1 rx
    obtain ⟨bs, r2⟩ := Dp.reads I d' y u h2 ry
    refine .leaf fun A hu => ?_
    have := SeqAt.eqAt_reads d d' A s v u as bs r1 r2 (SeqAt.canLay_of_shaped h3) (SeqAt.canLay_of_shaped h4) (by rw [h6, Nat.zero_min]; omega)
    rw [h5] at this
    exact this
  | @tup n a b vs ws h1 h2 h3 _ ih =>
    intro v u rx ry
    obtain rfl : v = Value.ref a := rx
    obtain rfl : u = Value.ref b := ry
    obtain ⟨us, r1, p1, _⟩ := I.tuple h1
    obtain ⟨zs, r2, p2, _⟩ := I.tuple h2
    by_cases e : a = b
    · subst e; exact .same
    · have l1 := r1.length
      have l2 := r2.length
      have t := PySem.W.EqTree.tuples (prog := X.prog) (w := X.w) (s := s) (n := n) (e := fun _ => true) e p1 p2 fun j j1 j2 => by
        have k1 : j < vs.length := by rw [l1]; simpa using j1
        have k2 : j < ws.length := by rw [l2]; simpa using j2
        obtain ⟨v', q1, q2⟩ := r1.get (List.getElem?_eq_getElem k1)
        obtain ⟨u', q3, q4⟩ := r2.get (List.getElem?_eq_getElem k2)
        have e1 : us.toArray[j] = v' := by
          have := List.getElem?_eq_some_iff.mp q1
          obtain ⟨_, e⟩ := this
          simpa using e
        have e2 : zs.toArray[j] = u' := by
          have := List.getElem?_eq_some_iff.mp q3
          obtain ⟨_, e⟩ := this
          simpa using e
        rw [e1, e2]
        exact ih j _ _ (List.getElem?_eq_getElem k1) (List.getElem?_eq_getElem k2) q2 q4
      have e3 : ((List.range (min us.toArray.size zs.toArray.size)).all (fun _ => true) && us.toArray.size == zs.toArray.size) = true := by
        rw [List.size_toArray, List.size_toArray, ← l1, ← l2, h3]
        simp
      rw [e3] at t
      exact t
  | @lst n a b vs ws h1 h2 h3 _ ih =>
    intro v u rx ry
    obtain rfl : v = Value.ref a := rx
    obtain rfl : u = Value.ref b := ry
    obtain ⟨us, r1, p1, _⟩ := I.list h1
    obtain ⟨zs, r2, p2, _⟩ := I.list h2
    by_cases e : a = b
    · subst e; exact .same
    · have l1 := r1.length
      have l2 := r2.length
      have t := PySem.W.EqTree.lists (prog := X.prog) (w := X.w) (s := s) (n := n) (e := fun _ => true) e p1.isList p2.isList (by rw [List.size_toArray, List.size_toArray]; omega) fun j j1 j2 => by
        have k1 : j < vs.length := by rw [l1]; simpa using j1
        have k2 : j < ws.length := by rw [l2]; simpa using j2
        obtain ⟨v', q1, q2⟩ := r1.get (List.getElem?_eq_getElem k1)
        obtain ⟨u', q3, q4⟩ := r2.get (List.getElem?_eq_getElem k2)
        have e1 : us.toArray[j] = v' := by
          have := List.getElem?_eq_some_iff.mp q1
          obtain ⟨_, e⟩ := this
          simpa using e
        have e2 : zs.toArray[j] = u' := by
          have := List.getElem?_eq_some_iff.mp q3
          obtain ⟨_, e⟩ := this
          simpa using e
        rw [e1, e2]
        exact ih j _ _ (List.getElem?_eq_getElem k1) (List.getElem?_eq_getElem k2) q2 q4
      have e3 : ((List.range us.toArray.size).all fun _ => true) = true := List.all_eq_true.mpr fun _ _ => rfl
      rw [e3] at t
      exact t
  | @dct n a b ks ls h1 h2 h3 h4 _ ih =>
    intro v u rx ry
    obtain rfl : v = Value.ref a := rx
    obtain rfl : u = Value.ref b := ry
    obtain ⟨_, ya, va, ra, da⟩ := dk_rd I.hok h1
    obtain ⟨_, yb, vb, rb, db⟩ := dk_rd I.hok h2
    by_cases e : a = b
    · subst e; exact .same
    · have t := PySem.W.EqTree.dicts (prog := X.prog) (w := X.w) (s := s) (n := n) (e := fun _ => true) e ya yb da db fun k v' y' hm hv => by
        obtain ⟨p, hp, e1, e2⟩ := kv_mem ra hm
        have o := rb.val k
        rw [hv] at o
        obtain ⟨y, ey, ry'⟩ := relO_some o
        have ey' : valV ls p.1 = some y := by rw [e1]; exact ey
        exact ih p y hp ey' e2 ry'
      have e3 : (va.length == vb.length && va.all fun p => (valueAt vb p.1).isSome && true) = true := by
        rw [← ra.length, ← rb.length, h3]
        simp only [beq_self_eq_true, Bool.true_and, Bool.and_true, List.all_eq_true]
        intro p hp
        obtain ⟨q, hq, e1, _⟩ := kv_mem ra (k := p.1) (v := p.2) hp
        rw [← (rb.val p.1).isSome_eq, ← e1]
        exact h4 q hq
      rw [e3] at t
      exact t
def rEqM (K : PySem.W.Frag) : R2 := fun x y H Q => EqTop K H x y ∧ Q (.bl true) H
def rNeM (K : PySem.W.Frag) : R2 := fun x y H Q => EqTop K H x y ∧ Q (.bl false) H
theorem items_tree {X : Cx} {pins : List (Addr × Obj)} {σ : L2.St} {H : Hp} {s : Shared} (I : Inv X pins σ H s) {n : Nat} {A : Around} (hu : A.units + n < cLine) {vs ws : List V} {us zs : List Value} (r1 : Vals vs us) (r2 : Vals ws zs)
    (h : ∀ (i : Nat) u w, vs[i]? = some u → ws[i]? = some w → EqU X.K H n u w) (j : Nat) (j1 : j < us.toArray.size) (j2 : j < zs.toArray.size) : SeqAt.EqIn X.prog X.w A s us.toArray[j] zs.toArray[j] true := by
  have k1 : j < vs.length := by rw [r1.length]; simpa using j1
  have k2 : j < ws.length := by rw [r2.length]; simpa using j2
  obtain ⟨v', q1, q2⟩ := r1.get (List.getElem?_eq_getElem k1)
  obtain ⟨u', q3, q4⟩ := r2.get (List.getElem?_eq_getElem k2)
  have e1 : us.toArray[j] = v' := by
    obtain ⟨_, e⟩ := List.getElem?_eq_some_iff.mp q1
    simpa using e
  have e2 : zs.toArray[j] = u' := by
    obtain ⟨_, e⟩ := List.getElem?_eq_some_iff.mp q3
    simpa using e
  rw [e1, e2]
  exact (eqU_tree I (h j _ _ (List.getElem?_eq_getElem k1) (List.getElem?_eq_getElem k2)) q2 q4).at A hu
theorem hits_tree {X : Cx} {pins : List (Addr × Obj)} {σ : L2.St} {H : Hp} {s : Shared} (I : Inv X pins σ H s) {n : Nat} {A : Around} (hu : A.units + n < cLine) {ks ls : List (Key × V)} {va vb : List (Key × Value)} (ra : KV ks va) (rb : KV ls vb)
    (h4 : ∀ p ∈ ks, (valV ls p.1).isSome = true) (h5 : ∀ p u, p ∈ ks → valV ls p.1 = some u → EqU X.K H n p.2 u) : PySem.W.KeqHitsIn X.prog X.w A s vb va true := by
  have t := PySem.W.KeqHitsIn.of (prog := X.prog) (w := X.w) (A := A) (s := s) (kb := vb) (e := fun _ => true) va fun k v' y' hm hv => by
    obtain ⟨p, hp, e1, e2⟩ := kv_mem ra hm
    have o := rb.val k
    rw [hv] at o
    obtain ⟨y, ey, ry'⟩ := relO_some o
    have ey' : valV ls p.1 = some y := by rw [e1]; exact ey
    exact (eqU_tree I (h5 p y hp ey') e2 ry').at A hu
  have e3 : (va.all fun p => (valueAt vb p.1).isSome && true) = true := by
    simp only [Bool.and_true, List.all_eq_true]
    intro p hp
    obtain ⟨q, hq, e1, _⟩ := kv_mem ra (k := p.1) (v := p.2) hp
    rw [← (rb.val p.1).isSome_eq, ← e1]
    exact h4 q hq
  rw [e3] at t
  exact t
theorem op_eqM {X : Cx} (hu : X.A.units + 64 < cLine) : OpR X (compareOp .Eq) (rEqM X.K) := by
  intro pins s σ H x y v u Q I rx ry h
  obtain ⟨⟨n, a, b, vs, ws, hn, rfl, rfl, h1, h2, h3, h4⟩ | ⟨n, a, b, ks, ls, hn, rfl, rfl, h1, h2, h3, h4, h5⟩, q⟩ := h
  · obtain rfl : v = Value.ref a := rx
    obtain rfl : u = Value.ref b := ry
    obtain ⟨us, r1, p1, _⟩ := I.list h1
    obtain ⟨zs, r2, p2, _⟩ := I.list h2
    have l1 := r1.length
    have l2 := r2.length
    refine SeqAt.rcIn_lists (e := fun _ => true) p1.isList p2.isList (by rw [List.size_toArray, List.size_toArray]; omega) (by omega) (fun j j1 j2 => items_tree I (A := X.A.in1) (by show X.A.units + 1 + n < cLine; omega) r1 r2 h4 j j1 j2) ?_
    have e3 : ((List.range us.toArray.size).all fun _ => true) = true := List.all_eq_true.mpr fun _ _ => rfl
    rw [e3]
    exact ⟨.bl true, H, I, rfl, q⟩
  · obtain rfl : v = Value.ref a := rx
    obtain rfl : u = Value.ref b := ry
    obtain ⟨_, ya, va, ra, da⟩ := dk_rd I.hok h1
    obtain ⟨_, yb, vb, rb, db⟩ := dk_rd I.hok h2
    refine PySem.W.keq_eqIn (r := true) ya yb da db (by omega) (fun _ => hits_tree I (A := X.A.in1) (by show X.A.units + 1 + n < cLine; omega) ra rb h4 h5) ?_
    have e3 : (va.length == vb.length && true) = true := by rw [← ra.length, ← rb.length, h3]; simp
    rw [e3]
    exact ⟨.bl true, H, I, rfl, q⟩
theorem op_neM {X : Cx} (hu : X.A.units + 64 < cLine) : OpR X (compareOp .NotEq) (rNeM X.K) := by
  intro pins s σ H x y v u Q I rx ry h
  obtain ⟨⟨n, a, b, vs, ws, hn, rfl, rfl, h1, h2, h3, h4⟩ | ⟨n, a, b, ks, ls, hn, rfl, rfl, h1, h2, h3, h4, h5⟩, q⟩ := h
  · obtain rfl : v = Value.ref a := rx
    obtain rfl : u = Value.ref b := ry
    obtain ⟨us, r1, p1, _⟩ := I.list h1
    obtain ⟨zs, r2, p2, _⟩ := I.list h2
    have l1 := r1.length
    have l2 := r2.length
    exact SeqAt.mi_ne_lists p1.isList p2.isList (by rw [List.size_toArray, List.size_toArray]; omega) (by omega) (fun j j1 j2 => items_tree I (A := X.A.in1) (by show X.A.units + 1 + n < cLine; omega) r1 r2 h4 j j1 j2) ⟨.bl false, H, I, rfl, q⟩
  · obtain rfl : v = Value.ref a := rx
    obtain rfl : u = Value.ref b := ry
    obtain ⟨_, ya, va, ra, da⟩ := dk_rd I.hok h1
    obtain ⟨_, yb, vb, rb, db⟩ := dk_rd I.hok h2
    exact PySem.W.mi_ne_dicts ya yb da db (by omega) (by rw [← ra.length, ← rb.length]; exact h3) (hits_tree I (A := X.A.in1) (by show X.A.units + 1 + n < cLine; omega) ra rb h4 h5) ⟨.bl false, H, I, rfl, q⟩
def rDIn (f : Bool → Bool) : R2 := fun x y H Q => ∃ a o, y = .ref a ∧ DGet H a x o ∧ Q (.bl (f o.isSome)) H
theorem op_din {X : Cx} (hu : X.A.units + 1 < cLine) : OpR X (compareOp .In) (rDIn id) := by
  intro pins s σ H x y v u Q I rx ry h
  obtain ⟨a, o, rfl, g, q⟩ := h
  obtain rfl : u = Value.ref a := ry
  exact d_in hu I g rx fun s' I' => ⟨.bl o.isSome, H, I', rfl, q⟩
theorem op_dnin {X : Cx} (hu : X.A.units + 1 < cLine) : OpR X (compareOp .NotIn) (rDIn (!·)) := by
  intro pins s σ H x y v u Q I rx ry h
  obtain ⟨a, o, rfl, g, q⟩ := h
  obtain rfl : u = Value.ref a := ry
  exact d_notIn hu I g rx fun s' I' => ⟨.bl (!o.isSome), H, I', rfl, q⟩
def rInDT (K : PySem.W.Frag) (f : Bool → Bool) : R2 := fun x y H Q => ∃ d ds, Dp K H x d ∧ Dp K H y (.tuple ds) ∧ SeqAt.shaped d = true ∧ SeqAt.shaped (.tuple ds) = true ∧ Q (.bl (f (ds.any fun z => PyData.eqv z d))) H
theorem shaped_depth {d : PyData} (h : SeqAt.shaped d = true) : d.depth ≤ 64 := by
  unfold SeqAt.shaped at h
  rw [Bool.and_eq_true] at h
  exact of_decide_eq_true h.2
theorem op_inDT {X : Cx} (hu : X.A.units + 65 < cLine) : OpR X (compareOp .In) (rInDT X.K id) := by
  intro pins s σ H x y v u Q I rx ry h
  obtain ⟨d, ds, hd, he, sd, se, q⟩ := h
  obtain ⟨as, r1⟩ := Dp.reads I d x v hd rx
  obtain ⟨bs, r2⟩ := Dp.reads I (.tuple ds) y u he ry
  exact SeqAt.in_tuple_reads r2 r1 (SeqAt.canLay_of_shaped se) (SeqAt.canLay_of_shaped sd) (by have := shaped_depth sd; have := Nat.min_le_right (PyData.depthAll ds) d.depth; omega) ⟨.bl _, H, I, rfl, q⟩
theorem op_notInDT {X : Cx} (hu : X.A.units + 65 < cLine) : OpR X (compareOp .NotIn) (rInDT X.K (!·)) := by
  intro pins s σ H x y v u Q I rx ry h
  obtain ⟨d, ds, hd, he, sd, se, q⟩ := h
  obtain ⟨as, r1⟩ := Dp.reads I d x v hd rx
  obtain ⟨bs, r2⟩ := Dp.reads I (.tuple ds) y u he ry
  exact SeqAt.notIn_tuple_reads r2 r1 (SeqAt.canLay_of_shaped se) (SeqAt.canLay_of_shaped sd) (by have := shaped_depth sd; have := Nat.min_le_right (PyData.depthAll ds) d.depth; omega) ⟨.bl _, H, I, rfl, q⟩
def rLtD (K : PySem.W.Frag) : R2 := fun x y H Q => ∃ d d', Dp K H x d ∧ Dp K H y d' ∧ SeqAt.shaped d = true ∧ SeqAt.shaped d' = true ∧ PySem.W.alike d d' = true ∧ d ≠ .none ∧ Q (.bl (PySem.W.dataLt d d')) H
theorem op_ltD {X : Cx} (hu : X.A.units + 65 < cLine) : OpR X (compareOp .Lt) (rLtD X.K) := by
  intro pins s σ H x y v u Q I rx ry h
  obtain ⟨d, d', hd, he, sd, se, al, hn, q⟩ := h
  obtain ⟨as, r1⟩ := Dp.reads I d x v hd rx
  obtain ⟨bs, r2⟩ := Dp.reads I d' y u he ry
  exact PySem.W.lt_data r1 r2 al hn (by have := shaped_depth sd; have := Nat.min_le_left d.depth d'.depth; omega) ⟨.bl _, H, I, rfl, q⟩
def copR (K : PySem.W.Frag) : Cop → R2
  | .eq => fun x y H Q => rEqD K x y H Q ∨ rEqM K x y H Q
  | .ne => fun x y H Q => rNeD K x y H Q ∨ rNeM K x y H Q
  | .lt => fun x y H Q => rI0 (fun i j => .bl (decide (i < j))) x y H Q ∨ rStr (fun i j => decide (i < j)) x y H Q ∨ rLtD K x y H Q
  | .le => fun x y H Q => rI0 (fun i j => .bl (decide (i ≤ j))) x y H Q ∨ rStr (fun i j => !decide (j < i)) x y H Q
  | .gt => fun x y H Q => rI0 (fun i j => .bl (decide (j < i))) x y H Q ∨ rStr (fun i j => decide (j < i)) x y H Q
  | .ge => fun x y H Q => rI0 (fun i j => .bl (decide (j ≤ i))) x y H Q ∨ rStr (fun i j => !decide (i < j)) x y H Q
  | .mem => fun x y H Q => rInS1 id x y H Q ∨ rInD K x y H Q ∨ rDIn id x y H Q ∨ rInDT K id x y H Q
  | .nmem => fun x y H Q => rInS1 (!·) x y H Q ∨ rNotInD K x y H Q ∨ rDIn (!·) x y H Q ∨ rInDT K (!·) x y H Q
  | .is => rIsM id
  | .isn => rIsM (!·)
theorem cop_ok {X : Cx} (hu : X.A.units + 65 < cLine) : ∀ o : Cop, OpR X (compareOp (copOf o)) (copR X.K o)
  | .eq => (op_eqD (by omega)).or (op_eqM (by omega))
  | .ne => (op_neD (by omega)).or (op_neM (by omega))
  | .lt => op_lt.or (op_lt_str.or (op_ltD hu))
  | .le => op_le.or op_le_str
  | .gt => op_gt.or op_gt_str
  | .ge => op_ge.or op_ge_str
  | .mem => op_in_sign.or ((op_inD hu).or ((op_din (by omega)).or (op_inDT hu)))
  | .nmem => op_notIn_sign.or ((op_notInD hu).or ((op_dnin (by omega)).or (op_notInDT hu)))
  | .is => op_isN.or op_is_bl
  | .isn => op_notN.or op_isnot_bl
section
variable {G : Gb} {A : Wd}
theorem rep_one (c : Nat) : (V.str ⟨[c].toArray⟩) = .str ⟨#[c]⟩ := rfl
theorem Rep.not_non {x : MV} {v : V} (h : Rep G A x v) (hx : x ≠ .non) : v ≠ .non := by
  intro e
  subst e
  cases x with
  | non => exact hx rfl
  | bl b => exact nomatch h.bl_
  | int i => exact nomatch h.int_
  | str s => exact nomatch h.str_
  | fn f => unfold Rep at h; obtain ⟨a, _, e⟩ := h; exact nomatch e
  | tup xs => obtain ⟨a, vs, e, _⟩ := h.tup_; exact nomatch e
  | lst xs => unfold Rep at h; obtain ⟨a, vs, e, _⟩ := h; exact nomatch e
  | loc l => obtain ⟨a, e, _⟩ := h.loc_; exact nomatch e
  | dct ks vs => unfold Rep at h; obtain ⟨a, vs, e, _⟩ := h; exact nomatch e
  | scr ns => unfold Rep at h; obtain ⟨a, e, _⟩ := h; exact nomatch e
theorem mem_of (S : Sim G A) {x y : MV} {c : Bool} {vx vy : V} {f : Bool → Bool} {Q : VK} (e : memV A.mh x y = some c) (rx : Rep G A x vx) (ry : Rep G A y vy) (h : Q (.bl (f c)) A.H) :
    rInS1 f vx vy A.H Q ∨ (∃ d ds, Dp G.K A.H vx d ∧ Dp G.K A.H vy (.list ds) ∧ SeqAt.shaped d = true ∧ SeqAt.shaped (.list ds) = true ∧ Q (.bl (f (ds.any fun z => PyData.eqv z d))) A.H) ∨ rDIn f vx vy A.H Q ∨ rInDT G.K f vx vy A.H Q := by
  unfold memV at e
  split at e
  · rename_i c' t
    cases e
    refine .inl ⟨c', ⟨t.toArray⟩, rx.str_, ry.str_, ?_⟩
    exact h
  · cases q : frz 0 A.mh 8 x with
    | none => rw [q] at e; exact nomatch e
    | some x' =>
      rw [q] at e
      simp only at e
      split at e
      · rename_i ys q2
        split at e
        · rename_i hk
          cases e
          refine .inr (.inl ⟨toD x', toDs ys, frz_dp S 8 x x' vx q (okD_can hk.1) rx, ?_, hk.1, ?_, ?_⟩)
          · have := frz_dp S 8 y _ vy q2 (okD_can hk.2) ry
            unfold toD at this
            exact this
          · have := hk.2
            unfold okD toD at this
            exact this
          · rw [any_toDs]
            exact h
        · exact nomatch e
      · rename_i ys q2
        split at e
        · rename_i hk
          cases e
          refine .inr (.inr (.inr ⟨toD x', toDs ys, frz_dp S 8 x x' vx q (okD_can hk.1) rx, ?_, hk.1, ?_, ?_⟩))
          · have := frz_dp S 8 y _ vy q2 (okD_can hk.2) ry
            unfold toD at this
            exact this
          · have := hk.2
            unfold okD toD at this
            exact this
          · rw [any_toDs]
            exact h
        · exact nomatch e
      · rename_i ks ms q2
        simp only [Option.map_eq_some_iff] at e
        obtain ⟨k, e1, rfl⟩ := e
        have rd := frz_rd S 8 y _ vy q2 ry
        cases rd with
        | dat _ _ _ h => exact absurd rfl (h _ _)
        | @dct _ _ a vs a1 a2 a3 a4 =>
          refine .inr (.inr (.inl ⟨a, _, rfl, .inl ⟨_, kOf k, a1, kyV_rep e1 rx, rfl⟩, ?_⟩))
          have e2 : (valV ((ks.map kOf).zip vs) (kOf k)).isSome = (dLook ks ms k).isSome := by
            cases q : dLook ks ms k with
            | some m =>
              obtain ⟨j, w, _, _, e3⟩ := look_idx vs a2 q
              rw [e3]; rfl
            | none => rw [look_idxN vs a2 (by omega) q]; rfl
          rw [e2]
          exact h
      · exact nomatch e
theorem dec_le {i j : Int} : decide (i ≤ j) = !decide (j < i) := by
  rw [Bool.eq_iff_iff]; simp
theorem toD_notNon {x : MV} (h : notNon x = true) : toD x ≠ .none := by
  cases x <;> first | exact absurd h (by decide) | (intro e; unfold toD at e; cases e)
theorem lt_of (S : Sim G A) {x y : MV} {c : Bool} {vx vy : V} {Q : VK} (e : cmpV A.mh .lt x y = some c) (rx : Rep G A x vx) (ry : Rep G A y vy) (h : Q (.bl c) A.H)
    (ord : ∀ {p : Bool × Bool}, ordV x y = some p → (∃ i j : Int, vx = .int i ∧ vy = .int j ∧ p = (decide (i < j), decide (j < i))) ∨ ∃ s t : Str, vx = .str s ∧ vy = .str t ∧ p = (decide (s.cps.toList < t.cps.toList), decide (t.cps.toList < s.cps.toList))) : copR G.K .lt vx vy A.H Q := by
  have hT : ∀ {c : Bool}, ltD A.mh x y = some c → Q (.bl c) A.H → copR G.K .lt vx vy A.H Q := by
    intro c e h
    unfold ltD at e
    split at e
    · exact nomatch e
    · rename_i x' q1
      split at e
      · exact nomatch e
      · rename_i y' q2
        split at e
        · rename_i hk
          cases e
          exact .inr (.inr ⟨toD x', toD y', frz_dp S 8 x x' vx q1 (okD_can hk.1) rx, frz_dp S 8 y y' vy q2 (okD_can hk.2.1) ry, hk.1, hk.2.1, hk.2.2.1, toD_notNon hk.2.2.2, h⟩)
        · exact nomatch e
  have hO : ((ordV x y).map fun p => p.1) = some c → copR G.K .lt vx vy A.H Q := by
    intro e
    simp only [Option.map_eq_some_iff] at e
    obtain ⟨p, e', rfl⟩ := e
    rcases ord e' with ⟨i, j, h1, h2, rfl⟩ | ⟨i, j, h1, h2, rfl⟩
    · exact .inl ⟨i, j, h1, h2, h⟩
    · exact .inr (.inl ⟨i, j, h1, h2, h⟩)
  by_cases hx : ∃ xs ys, x = .tup xs ∧ y = .tup ys
  · obtain ⟨xs, ys, rfl, rfl⟩ := hx
    exact hT e h
  · refine hO ?_
    unfold cmpV at e
    split at e
    all_goals first | contradiction | (exfalso; exact hx ⟨_, _, rfl, rfl⟩) | exact e
theorem copR_of (S : Sim G A) {o : Cop} {x y : MV} {c : Bool} {vx vy : V} {Q : VK} (e : cmpV A.mh o x y = some c) (rx : Rep G A x vx) (ry : Rep G A y vy) (h : Q (.bl c) A.H) : copR G.K o vx vy A.H Q := by
  have ord : ∀ {p : Bool × Bool}, ordV x y = some p → (∃ i j : Int, vx = .int i ∧ vy = .int j ∧ p = (decide (i < j), decide (j < i))) ∨ ∃ s t : Str, vx = .str s ∧ vy = .str t ∧ p = (decide (s.cps.toList < t.cps.toList), decide (t.cps.toList < s.cps.toList)) := by
    intro p e
    unfold ordV at e
    split at e
    · cases e
      exact .inl ⟨_, _, rx.int_, ry.int_, rfl⟩
    · cases e
      exact .inr ⟨_, _, rx.str_, ry.str_, rfl⟩
    · exact nomatch e
  have is : ∀ {c : Bool} {f : Bool → Bool}, isV x y = some c → Q (.bl (f c)) A.H → rIsM f vx vy A.H Q := by
    intro c f e h
    unfold isV at e
    split at e
    · cases e
      refine .inl ⟨ry.non_, ?_⟩
      rw [rx.non_, decide_eq_true rfl]
      exact h
    · cases e
      refine .inl ⟨ry.non_, ?_⟩
      rw [decide_eq_false (rx.not_non (by assumption))]
      exact h
    · cases e
      exact .inr ⟨_, _, rx.bl_, ry.bl_, h⟩
    · exact nomatch e
  cases o with
  | eq =>
    rcases eqV_dp S e rx ry with ⟨d, d', h1, h2, h3, h4, h5⟩ | ⟨rfl, h1⟩
    · exact .inl ⟨d, d', h1, h2, h3, h4, by rw [h5]; exact h⟩
    · exact .inr ⟨h1, h⟩
  | ne =>
    simp only [cmpV, Option.map_eq_some_iff] at e
    obtain ⟨c', e, rfl⟩ := e
    rcases eqV_dp S e rx ry with ⟨d, d', h1, h2, h3, h4, h5⟩ | ⟨rfl, h1⟩
    · exact .inl ⟨d, d', h1, h2, h3, h4, by rw [h5]; exact h⟩
    · exact .inr ⟨h1, h⟩
  | mem => exact mem_of (f := id) S e rx ry h
  | nmem =>
    simp only [cmpV, Option.map_eq_some_iff] at e
    obtain ⟨c', e, rfl⟩ := e
    exact mem_of (f := (!·)) S e rx ry h
  | lt =>
    exact lt_of S e rx ry h ord
  | gt =>
    simp only [cmpV, Option.map_eq_some_iff] at e
    obtain ⟨p, e, rfl⟩ := e
    rcases ord e with ⟨i, j, h1, h2, rfl⟩ | ⟨i, j, h1, h2, rfl⟩
    · exact .inl ⟨i, j, h1, h2, h⟩
    · exact .inr ⟨i, j, h1, h2, h⟩
  | le =>
    simp only [cmpV, Option.map_eq_some_iff] at e
    obtain ⟨p, e, rfl⟩ := e
    rcases ord e with ⟨i, j, h1, h2, rfl⟩ | ⟨i, j, h1, h2, rfl⟩
    · exact .inl ⟨i, j, h1, h2, by dsimp only; rw [dec_le]; exact h⟩
    · exact .inr ⟨i, j, h1, h2, h⟩
  | ge =>
    simp only [cmpV, Option.map_eq_some_iff] at e
    obtain ⟨p, e, rfl⟩ := e
    rcases ord e with ⟨i, j, h1, h2, rfl⟩ | ⟨i, j, h1, h2, rfl⟩
    · exact .inl ⟨i, j, h1, h2, by dsimp only; rw [dec_le]; exact h⟩
    · exact .inr ⟨i, j, h1, h2, h⟩
  | is => exact is (f := id) e h
  | isn =>
    simp only [cmpV, Option.map_eq_some_iff] at e
    obtain ⟨c', e, rfl⟩ := e
    exact is (f := (!·)) e h
end
end L2.Mi

set_option Elab.async false
set_option linter.all false
set_option maxRecDepth 100000
set_option maxHeartbeats 4000000
/-! Mini5: list.extend of a tuple, list of a text; subscripts, slices, built-ins, methods. -/
namespace PySem.AutoSeq1
open PySem PySem.Spec PyProof.Rows
theorem list_extend_tupAny (l : Addr) (items : Array Value) (n : Nat) (b : Addr) (dd : Option Addr) (sl : Array (Option Value)) (items2 : Array Value) (n2 : Nat) (hs0 : ¬(!items.isEmpty && Builtin.List.listTooLong (items.size + items2.size)) = true) (hs1 : items.size ≤ sizeLine) (hs2 : items.size + items2.size ≤ sizeLine + 1 := by seq_fits) :
    Meets (Builtin.«list.extend» ⟨[.ref l, .ref b], []⟩) (fun _ R s => s.heap.get? l = some { cls := .type "list", dict := none, data := .seq items n, slots := #[] } ∧ s.heap.get? b = some { cls := .type "tuple", dict := dd, data := .seq items2 n2, slots := sl } ∧ R (.ok (.ret Value.none)) { s with heap := s.heap.update l (Obj.mapSeq fun x => x ++ items2), toks := s.toks }) :=
  .of_wp fun prog w A R s h => by
    obtain ⟨hp, g, d, tk, os⟩ := s; obtain ⟨hl, hb, h⟩ := h; have f1 := idx_int; have f2 := sub_tuple_tuple; have f3 := sub_list_list; have f4 := sub_tuple_list; have f5 := sub_list_tuple;
    have hz' : (items ++ items2).size ≤ sizeLine + 1 := by rw [Array.size_append]; exact hs2
    wp_walk using (wpAny_updateSeq hl rfl (hz := hs1) (_hz' := hz')), wpAny_loadPart' hl, wpAny_loadPart' hb; exact ⟨_, rfl, h⟩
end PySem.AutoSeq1
namespace L2.Mi
open PySem PySem.Spec PyProof.Rows
def rExtT (K : PySem.W.Frag) : V → List V → Hp → VK → Prop := fun x vs H Q => ∃ l b xs zs, x = .ref l ∧ vs = [.ref b] ∧ H l = some (.lst xs) ∧ SqT K H b zs ∧ xs.length + zs.length ≤ sizeLine ∧ Q .non (upd H l (.lst (xs ++ zs)))
theorem mt_extT {X : Cx} : MtM X "list.extend" (rExtT X.K) := by
  intro pins s σ H x vs v us Q I rx rv h
  obtain ⟨l, b, xs, zs, rfl, rfl, hH, hB, hz, q⟩ := h
  cases rx
  obtain ⟨u, rfl, ru⟩ := rv.one
  cases ru
  obtain ⟨z, its, n, r, hl, e⟩ := I.lstM hH
  obtain ⟨its2, r2, pt, hz2⟩ := I.tuple hB
  obtain ⟨⟨cls, dd, data, sl⟩, e2, hc, n2, hd⟩ := id pt
  simp only at hc hd
  subst hc hd
  have hl2 := r2.length
  have hsz : its.toArray.size + its2.toArray.size ≤ sizeLine := by rw [List.size_toArray, List.size_toArray]; omega
  have hlong : ¬ (!its.toArray.isEmpty && Builtin.List.listTooLong (its.toArray.size + its2.toArray.size)) = true := by
    rw [notLongL hsz, Bool.and_false]
    exact Bool.false_ne_true
  refine call_meets F.slot_list_extend ⟨_, e, rfl⟩ F.entry_list_extend (F.args_list_extend_2 _ _)
    (AutoSeq1.list_extend_tupAny l its.toArray n b dd sl its2.toArray n2 hlong (by rw [List.size_toArray]; omega) (by omega)) ⟨e, e2, ?_⟩
  refine ⟨.non, _, I.lset (its' := its ++ its2) hH e (by simp) (r.append r2) ?_, rfl, q⟩
  rw [List.length_append]
  omega

theorem call_listS {X : Cx} (hc : X.calm = true) : CallR X (.type "list") (fun xs H Q => ∃ z : Str, xs = [.str z] ∧ z.length ≤ sizeLine ∧ ∀ p, H p = none → Q (.ref p) (upd H p (.lst (z.cps.toList.map fun c => .str ⟨#[c]⟩)))) := by
  intro pins s σ H xs us Q I r h
  obtain ⟨z, rfl, hz, q⟩ := h
  obtain ⟨u, rfl, rx⟩ := vals1 r
  obtain ⟨t, rfl⟩ := rx
  refine PySem.call_list_str (I.ok.hd hc) z t (hn := hz) fun h' tk acc' c' hk hS' hacc => ?_
  have hl : acc'.toList.length = z.cps.toList.length := by simp [hacc.1]
  have rv : Vals (z.cps.toList.map fun c => V.str ⟨#[c]⟩) acc'.toList := by
    have gen : ∀ (cs : List Nat) (us : List Value), us.length = cs.length → (∀ (j : Nat) v, us[j]? = some v → ∃ c u, cs[j]? = some c ∧ v = Value.str ⟨#[c]⟩ u) → Vals (cs.map fun c => V.str ⟨#[c]⟩) us := by
      intro cs
      induction cs with
      | nil => intro us h1 _; cases us with | nil => exact .nil | cons => simp at h1
      | cons c cs ih =>
        intro us h1 h2
        cases us with
        | nil => simp at h1
        | cons u us =>
          obtain ⟨c', t', e1, e2⟩ := h2 0 u rfl
          have : c = c' := by simpa using e1
          subst this
          exact .cons ⟨t', e2⟩ (ih us (by simpa using h1) fun j v hj => by simpa using h2 (j + 1) v (by simpa using hj))
    refine gen _ _ hl fun j v hj => ?_
    obtain ⟨c, u, e1, e2⟩ := hacc.2 j v (by simpa using hj)
    exact ⟨c, u, by simpa using e1, e2⟩
  have hf : H s.heap.objs.size = none := I.hok.fresh (Nat.le_refl _)
  refine ⟨.ref s.heap.objs.size, _, I.laid (t' := tk) hk (Nat.le_refl _) (show ObjOk X.prog X.w _ h' _ (.lst _) from ⟨?_, acc'.toList, c', rv, by simpa using hS'⟩), rfl, q _ hf⟩
  rw [List.length_map, Array.length_toList]
  exact hz

section
variable {G : Gb} {A : Wd}
theorem idx_rep {xs : List MV} {vs : List V} (r : Reps G A xs vs) {i : Int} {x : MV} (e : idx xs i = some x) : ∃ v, atI vs i = some v ∧ Rep G A x v := by
  unfold idx atI at e
  cases q : ixN xs.length i with
  | none => rw [q] at e; exact nomatch e
  | some j =>
    rw [q] at e
    obtain ⟨v, h1, h2⟩ := r.get (show xs[j]? = some x from e)
    refine ⟨v, ?_, h2⟩
    unfold atI
    rw [← r.len, q]
    exact h1
/-! ### subscripts -/
def rDSub : R2 := fun x y H Q => ∃ a v, x = .ref a ∧ DGet H a y (some v) ∧ Q v H
theorem subD_of' (S : Sim G A) {x y v : MV} {vx vy : V} {Q : VK} (e : subD A.mh x y = some v) (rx : Rep G A x vx) (ry : Rep G A y vy) (h : Post G A A.mh v Q) : rDSub vx vy A.H Q := by
  unfold subD at e
  split at e
  · rename_i ks ms e1
    rw [Option.bind_eq_some_iff] at e
    obtain ⟨k, e2, e3⟩ := e
    obtain ⟨a, vs, rfl, hH, hl, r⟩ := getD_rep S e1 rx
    obtain ⟨w, q1, q2⟩ := look_some hl r e3
    exact ⟨a, w, rfl, .inl ⟨_, kOf k, hH, kyV_rep e2 ry, q1.symm⟩, h.here S q2⟩
  · cases e
/-- subscripts of all but dicts -/
def subN (mh : MHp) : MV → MV → Option MV
  | .tup xs, .int i => idx xs i
  | .str s, .int i => if s.length ≤ line then (idx s i).map fun c => .str [c] else none
  | x, .int i => match getL mh x with
    | some xs => idx xs i
    | none => none
  | _, _ => none
theorem subV_cases {mh : MHp} {x y v : MV} (e : subV mh x y = some v) : subN mh x y = some v ∨ subD mh x y = some v := by
  unfold subV at e
  split at e
  · exact .inl e
  · exact .inl e
  · rename_i i h1 h2
    cases q : getL mh x with
    | none => rw [q] at e; exact .inr e
    | some xs =>
      rw [q] at e
      refine .inl ?_
      cases x with
      | tup xs => simp [getL] at q
      | str s => simp [getL] at q
      | lst xs => simp only [subN, q]; exact e
      | loc l => simp only [subN, q]; exact e
      | _ => simp [getL] at q
  · exact .inr e
theorem sub_of (S : Sim G A) {x y v : MV} {vx vy : V} {Q : VK} (e : subN A.mh x y = some v) (rx : Rep G A x vx) (ry : Rep G A y vy) (h : Post G A A.mh v Q) : rIx G.K vx vy A.H Q := by
  unfold subN at e
  split at e
  · rename_i xs i
    obtain ⟨a, vs, rfl, h1, r⟩ := rx.tup_
    obtain ⟨w, h2, h3⟩ := idx_rep r e
    exact .inr (.inl ⟨a, vs, i, w, rfl, ry.int_, h1, h2, h.here S h3⟩)
  · rename_i s i
    split at e
    · rename_i hz
      simp only [Option.map_eq_some_iff] at e
      obtain ⟨c, e, rfl⟩ := e
      refine .inr (.inr ⟨⟨s.toArray⟩, i, c, rx.str_, ry.int_, by rw [str_len]; exact hz, e, ?_⟩)
      exact h.here S (rep_str [c])
    · cases e
  · split at e
    · rename_i xs e1
      obtain ⟨a, vs, rfl, h1, r⟩ := getL_rep S e1 rx
      obtain ⟨w, h2, h3⟩ := idx_rep r e
      exact .inl ⟨a, vs, _, w, rfl, ry.int_, SqL.of h1, h2, h.here S h3⟩
    · cases e
  · cases e
/-! ### slices -/
theorem cut_rep {xs : List MV} {vs : List V} (r : Reps G A xs vs) (lo hi : Option Int) : Reps G A (cut xs lo hi) (cutV vs lo hi) := by
  unfold cut cutV
  rw [r.len]
  exact (r.drop _).take _
theorem cut_whole {α : Type} {xs : List α} {lo hi : Option Int} (h : HT.sIx xs.length 0 lo = 0 ∧ HT.sIx xs.length xs.length hi = xs.length) : cut xs lo hi = xs := by
  unfold cut
  rw [h.1, h.2]
  simp
def slR (K : PySem.W.Frag) : V → Option Int → Option Int → Hp → VK → Prop := fun x lo hi H Q => rSlL K x lo hi H Q ∨ rSlA K x lo hi H Q ∨ rSlS x lo hi H Q
theorem sl_ok {X : Cx} : SlR X (slR X.K) := sl_list.or (sl_tupA.or sl_str)
theorem slc_of (S : Sim G A) {x v : MV} {lo hi : Option Int} {vx : V} {Q : VK} (e : slcV A.mh x lo hi = some v) (rx : Rep G A x vx) (h : Post G A A.mh v Q) : slR G.K vx lo hi A.H Q := by
  unfold slcV at e
  split at e
  · rename_i xs
    cases e
    obtain ⟨a, vs, rfl, h1, r⟩ := rx.tup_
    refine .inr (.inl ⟨a, vs, rfl, h1, fun w => ?_, fun _ p hp => h.newTup S (cut_rep r lo hi) hp⟩)
    rw [← r.len] at w
    rw [cut_whole w] at h
    exact h.here S rx
  · rename_i s
    split at e
    · rename_i hz
      cases e
      refine .inr (.inr ⟨⟨s.toArray⟩, rx.str_, by rw [str_len]; exact hz, ?_⟩)
      have q := h.here S (rep_str (cut s lo hi))
      unfold cut at q
      unfold L2.cutS
      rw [str_len]
      exact q
    · cases e
  · rename_i ns
    cases e
    unfold Rep at rx
    obtain ⟨a, rfl, hq⟩ := rx
    have sq : SqL G.K A.H a (ns.map .int) := by
      rcases hq with ⟨h, _⟩ | (h | h)
      · exact .inl h
      · rcases h with h | ⟨o, h⟩ <;> exact nomatch h
      · exact .inr h
    exact .inl ⟨a, _, rfl, sq, fun p hp => h.newLst S (cut_rep Reps.map_int lo hi) hp⟩
  · simp only [Option.map_eq_some_iff] at e
    obtain ⟨xs, e, rfl⟩ := e
    obtain ⟨a, vs, rfl, h1, r⟩ := getL_rep S e rx
    exact .inl ⟨a, vs, rfl, SqL.of h1, fun p hp => h.newLst S (cut_rep r lo hi) hp⟩
/-! ### built-ins -/
theorem Reps.one_ {x : MV} {vs : List V} (h : Reps G A [x] vs) : ∃ v, vs = [v] ∧ Rep G A x v := by
  unfold Reps at h
  obtain ⟨v, r, rfl, h1, h2⟩ := h
  unfold Reps at h2
  subst h2
  exact ⟨v, rfl, h1⟩
theorem Reps.nil_ {vs : List V} (h : Reps G A [] vs) : vs = [] := by
  unfold Reps at h; exact h
/-- the arguments of a call of a built-in, by its reading -/
def BiS (f : Bi) (r : PySem.W.Frag → List V → Hp → VK → Prop) : Prop :=
  ∀ (G : Gb) (A : Wd) (xs : List MV) (v : MV) (vs : List V) (Q : VK), Sim G A → biV A.mh f xs = some v → Reps G A xs vs → Post G A A.mh v Q → r G.K vs A.H Q
theorem one1_some {f : MV → Option MV} {xs : List MV} {v : MV} (h : one1 f xs = some v) : ∃ x, xs = [x] ∧ f x = some v := by
  unfold one1 at h
  split at h
  · exact ⟨_, rfl, h⟩
  · cases h
theorem bls_rep (S : Sim G A) {x : MV} {bs : List Bool} {w : V} (e : bls A.mh x = some bs) (r : Rep G A x w) : ∃ a, w = .ref a ∧ SqL G.K A.H a (bs.map .bl) := by
  unfold bls at e
  rw [Option.bind_eq_some_iff] at e
  obtain ⟨xs, e1, e2⟩ := e
  obtain ⟨a, vs, rfl, h1, r1⟩ := getL_rep S e1 r
  rw [r1.blOf e2] at h1
  exact ⟨a, rfl, SqL.of h1⟩
theorem ints_rep (S : Sim G A) {x : MV} {bs : List Int} {w : V} (e : intsM A.mh x = some bs) (r : Rep G A x w) : ∃ a, w = .ref a ∧ SqL G.K A.H a (bs.map .int) := by
  unfold intsM at e
  rw [Option.bind_eq_some_iff] at e
  obtain ⟨xs, e1, e2⟩ := e
  obtain ⟨a, vs, rfl, h1, r1⟩ := getL_rep S e1 r
  rw [r1.intOf e2] at h1
  exact ⟨a, rfl, SqL.of h1⟩
end
def rLen (K : PySem.W.Frag) : List V → Hp → VK → Prop := fun xs H Q => (∃ x n, xs = [x] ∧ LenV K x H n ∧ Q (.int n) H) ∨ ∃ a kvs, xs = [V.ref a] ∧ Rd H a (.dK kvs) ∧ Q (.int kvs.length) H
theorem call_lenR {X : Cx} : CallR X (.builtin "len") (fun xs H Q => ∃ a kvs, xs = [V.ref a] ∧ Rd H a (.dK kvs) ∧ Q (.int kvs.length) H) := by
  intro pins s σ H xs us Q I r h
  obtain ⟨a, kvs, rfl, hH, q⟩ := h
  obtain ⟨u, rfl, ru⟩ := vals1 r
  obtain rfl : u = Value.ref a := ru
  exact d_len I hH fun t s' I' => ⟨.int kvs.length, H, I', ⟨t, rfl⟩, q⟩
theorem bi_len : BiS .len rLen := by
  intro G A xs v vs Q S e r h
  obtain ⟨x, hx, e'⟩ := one1_some e
  subst hx
  replace e := e'
  clear e'
  obtain ⟨w, rfl, rx⟩ := r.one_
  unfold lenV at e
  split at e
  · split at e
    · rename_i hz
      cases e
      exact .inl ⟨_, _, rfl, by rw [rx.str_]; exact ⟨by rw [str_len]; exact hz, rfl⟩, by rw [str_len]; exact h.here S (rep_int _)⟩
    · cases e
  · cases e
    obtain ⟨a, ws, rfl, h1, r1⟩ := rx.tup_
    exact .inl ⟨_, _, rfl, .inr ⟨ws, h1, rfl⟩, by rw [← r1.len]; exact h.here S (rep_int _)⟩
  · split at e
    · rename_i ys e1
      cases e
      obtain ⟨a, ws, rfl, h1, r1⟩ := getL_rep S e1 rx
      exact .inl ⟨_, _, rfl, .inl ⟨ws, SqL.of h1, rfl⟩, by rw [← r1.len]; exact h.here S (rep_int _)⟩
    · simp only [Option.map_eq_some_iff] at e
      obtain ⟨⟨ks, ms⟩, e1, rfl⟩ := e
      obtain ⟨a, ws, rfl, h1, hl, r1⟩ := getD_rep S e1 rx
      refine .inr ⟨a, _, rfl, h1, ?_⟩
      have : ((ks.map kOf).zip ws).length = ks.length := by rw [List.length_zip, List.length_map, ← r1.len, hl, Nat.min_self]
      rw [this]
      exact h.here S (rep_int _)
def rAbs (_ : PySem.W.Frag) : List V → Hp → VK → Prop := fun xs H Q => ∃ i, xs = [.int i] ∧ Q (.int (if i < 0 then -i else i)) H
theorem bi_abs : BiS .abs rAbs := by
  intro G A xs v vs Q S e r h
  obtain ⟨x, hx, e'⟩ := one1_some e
  subst hx
  replace e := e'
  clear e'
  obtain ⟨w, rfl, rx⟩ := r.one_
  unfold Mi.absV at e
  split at e
  · cases e
    exact ⟨_, by rw [rx.int_], h.here S (rep_int _)⟩
  · cases e
def rInt1 (_ : PySem.W.Frag) : List V → Hp → VK → Prop := fun xs H Q => (∃ i, xs = [.int i] ∧ Q (.int i) H) ∨ ∃ k, xs = [.bl k] ∧ Q (.int (if k then 1 else 0)) H
theorem bi_int : BiS .int rInt1 := by
  intro G A xs v vs Q S e r h
  obtain ⟨x, hx, e'⟩ := one1_some e
  subst hx
  replace e := e'
  clear e'
  obtain ⟨w, rfl, rx⟩ := r.one_
  unfold intV1 at e
  split at e
  · cases e
    exact .inl ⟨_, by rw [rx.int_], h.here S (rep_int _)⟩
  · cases e
    exact .inr ⟨_, by rw [rx.bl_], h.here S (rep_int _)⟩
  · cases e
def rStrI (_ : PySem.W.Frag) : List V → Hp → VK → Prop := fun xs H Q => ∃ i, xs = [.int i] ∧ i.natAbs.log2 < 1920 ∧ Q (.str (toString i)) H
theorem bi_strI : BiS .strI rStrI := by
  intro G A xs v vs Q S e r h
  obtain ⟨x, hx, e'⟩ := one1_some e
  subst hx
  replace e := e'
  clear e'
  obtain ⟨w, rfl, rx⟩ := r.one_
  unfold strV at e
  split at e
  · split at e
    · rename_i hz
      cases e
      refine ⟨_, by rw [rx.int_], hz, ?_⟩
      have q := h.here S (rep_str _)
      have e2 : ∀ z : Str, (⟨z.cps.toList.toArray⟩ : Str) = z := fun z => str_toList_eq (by simp)
      rw [e2] at q
      exact q
    · cases e
  · cases e
def rTupC (K : PySem.W.Frag) : List V → Hp → VK → Prop := fun xs H Q => ∃ p ys, xs = [.ref p] ∧ ((SqL K H p ys ∧ ∀ l, H l = none → Q (.ref l) (upd H l (.tup ys))) ∨ (SqT K H p ys ∧ Q (.ref p) H))
theorem bi_tuple : BiS .tuple rTupC := by
  intro G A xs v vs Q S e r h
  obtain ⟨x, hx, e'⟩ := one1_some e
  subst hx
  replace e := e'
  clear e'
  obtain ⟨w, rfl, rx⟩ := r.one_
  unfold tupV at e
  split at e
  · cases e
    obtain ⟨a, ws, rfl, h1, r1⟩ := rx.tup_
    exact ⟨a, ws, rfl, .inr ⟨h1, h.here S rx⟩⟩
  · simp only [Option.map_eq_some_iff] at e
    obtain ⟨ys, e, rfl⟩ := e
    obtain ⟨a, ws, rfl, h1, r1⟩ := getL_rep S e rx
    exact ⟨a, ws, rfl, .inl ⟨SqL.of h1, fun l hl => h.newTup S r1 hl⟩⟩
/-- list(d) of a dict, locked or not -/
def rListR : List V → Hp → VK → Prop := fun us H Q => ∃ d ks, us = [V.ref d] ∧ Rd H d (.dK ks) ∧ ∀ q, H q = none → Q (.ref q) (upd H q (.lst (ks.map fun p => kV p.1)))
theorem call_listR {X : Cx} (calm : X.calm = true) : CallR X (.type "list") rListR := by
  intro pins s σ H vs us Q I rv hy
  obtain ⟨d, ks, rfl, hd, fin⟩ := hy
  obtain ⟨u, rfl, ru⟩ := vals1 rv
  obtain rfl : u = Value.ref d := ru
  obtain ⟨small, nomod, ws, kv, D⟩ := dk_rd I.hok hd
  obtain ⟨ep, at'⟩ := D.dictAt
  have len : ks.length = ws.length := Paired.length kv
  have go := PySem.W.kdl_dict (knd := mixKind X.prog X.w) (kvs := ws) (ep := ep) nomod
  refine PySem.W.kdl_call go (I.ok.hd calm) at' (by omega) fun h1 tk acc c keep hS hacc => ?_
  have alen : acc.toList.length = ks.length := by rw [Array.length_toList, hacc.1, len]
  have vals : Vals (ks.map fun p => kV p.1) acc.toList := vals_of_at (by rw [List.length_map, alen]) fun j x z e1 e2 => by
    obtain ⟨k, y, ek, is⟩ := hacc.2 j z (by rw [← Array.getElem?_toList]; exact e2)
    rw [List.getElem?_map, Option.map_eq_some_iff] at e1
    obtain ⟨p, ep, rfl⟩ := e1
    have same : (ks.map Prod.fst)[j]? = (ws.map Prod.fst)[j]? := congrArg (·[j]?) (KV.keys kv)
    rw [List.getElem?_map, List.getElem?_map, ep, ek] at same
    have same' : p.1 = k := Option.some.inj same
    rw [same']
    exact keyIs_rel is
  have new : ObjOk X.prog X.w (upd H s.heap.objs.size (.lst (ks.map fun p => kV p.1))) h1 s.heap.objs.size (.lst (ks.map fun p => kV p.1)) := ⟨by rw [List.length_map]; exact small, acc.toList, c, vals, by rw [Array.toArray_toList]; exact hS⟩
  exact ⟨.ref s.heap.objs.size, _, I.laid keep (Nat.le_refl _) new, rfl, fin _ (I.hok.fresh (Nat.le_refl _))⟩
def rLstC (K : PySem.W.Frag) : List V → Hp → VK → Prop := fun xs H Q => (∃ p ys, xs = [.ref p] ∧ (SqL K H p ys ∨ SqT K H p ys) ∧ ∀ l, H l = none → Q (.ref l) (upd H l (.lst ys))) ∨
  (∃ z : Str, xs = [.str z] ∧ z.length ≤ sizeLine ∧ ∀ p, H p = none → Q (.ref p) (upd H p (.lst (z.cps.toList.map fun c => .str ⟨#[c]⟩)))) ∨ rListR xs H Q
theorem call_lstC {X : Cx} (hc : X.calm = true) : CallR X (.type "list") (rLstC X.K) := call_list_of.or ((call_listS hc).or (call_listR hc))
theorem Reps.signs {G : Gb} {A : Wd} : ∀ s : Sx, Reps G A (s.map fun c => .str [c]) (s.map fun c => V.str ⟨#[c]⟩)
  | [] => by unfold Reps; rfl
  | c :: s => by rw [List.map_cons, List.map_cons]; unfold Reps; exact ⟨_, _, rfl, rep_str [c], Reps.signs s⟩
theorem bi_list : BiS .list rLstC := by
  intro G A xs v vs Q S e r h
  obtain ⟨x, hx, e'⟩ := one1_some e
  subst hx
  replace e := e'
  clear e'
  obtain ⟨w, rfl, rx⟩ := r.one_
  unfold lstV at e
  split at e
  · cases e
    obtain ⟨a, ws, rfl, h1, r1⟩ := rx.tup_
    exact .inl ⟨a, ws, rfl, .inr h1, fun l hl => h.newLst S r1 hl⟩
  · split at e
    · rename_i hz
      cases e
      exact .inr (.inl ⟨_, by rw [rx.str_], by rw [str_len]; exact hz, fun l hl => h.newLst S (Reps.signs _) hl⟩)
    · cases e
  · split at e
    · rename_i ys e1
      cases e
      obtain ⟨a, ws, rfl, h1, r1⟩ := getL_rep S e1 rx
      exact .inl ⟨a, ws, rfl, .inl (SqL.of h1), fun l hl => h.newLst S r1 hl⟩
    · simp only [Option.map_eq_some_iff] at e
      obtain ⟨⟨ks, ms⟩, e1, rfl⟩ := e
      obtain ⟨a, ws, rfl, h1, hl, r1⟩ := getD_rep S e1 rx
      refine .inr (.inr ⟨a, _, rfl, h1, fun q hq => ?_⟩)
      have e2 : ((ks.map kOf).zip ws).map (fun kv => kV kv.1) = ks.map fun k => kV (kOf k) := by
        have hz : ks.length = ws.length := by rw [hl]; exact r1.len
        have : ((ks.map kOf).zip ws).map Prod.fst = ks.map kOf := List.map_fst_zip (by rw [List.length_map]; omega)
        have e3 : ((ks.map kOf).zip ws).map (fun kv => kV kv.1) = (((ks.map kOf).zip ws).map Prod.fst).map kV := by rw [List.map_map]; rfl
        rw [e3, this, List.map_map]
        rfl
      rw [e2]
      exact h.newLst S (kMs_rep ks) hq
theorem bi_all : BiS .all rAll := by
  intro G A xs v vs Q S e r h
  obtain ⟨x, hx, e'⟩ := one1_some e
  subst hx
  replace e := e'
  clear e'
  obtain ⟨w, rfl, rx⟩ := r.one_
  simp only [Option.map_eq_some_iff] at e
  obtain ⟨bs, e, rfl⟩ := e
  obtain ⟨a, rfl, h1⟩ := bls_rep S e rx
  exact ⟨a, bs, rfl, h1, h.here S (rep_bl _)⟩
theorem bi_any : BiS .any rAny := by
  intro G A xs v vs Q S e r h
  obtain ⟨x, hx, e'⟩ := one1_some e
  subst hx
  replace e := e'
  clear e'
  obtain ⟨w, rfl, rx⟩ := r.one_
  simp only [Option.map_eq_some_iff] at e
  obtain ⟨bs, e, rfl⟩ := e
  obtain ⟨a, rfl, h1⟩ := bls_rep S e rx
  exact ⟨a, bs, rfl, h1, h.here S (rep_bl _)⟩
theorem bi_sum : BiS .sum rSum := by
  intro G A xs v vs Q S e r h
  obtain ⟨x, hx, e'⟩ := one1_some e
  subst hx
  replace e := e'
  clear e'
  obtain ⟨w, rfl, rx⟩ := r.one_
  simp only [Option.map_eq_some_iff] at e
  obtain ⟨bs, e, rfl⟩ := e
  obtain ⟨a, rfl, h1⟩ := ints_rep S e rx
  exact ⟨a, bs, rfl, h1, h.here S (rep_int _)⟩
theorem bi_max : BiS .max rMax := by
  intro G A xs v vs Q S e r h
  obtain ⟨x, hx, e'⟩ := one1_some e
  subst hx
  replace e := e'
  clear e'
  obtain ⟨w, rfl, rx⟩ := r.one_
  rw [Option.bind_eq_some_iff] at e
  obtain ⟨ns, e, e2⟩ := e
  simp only [Option.map_eq_some_iff] at e2
  obtain ⟨m, e2, rfl⟩ := e2
  obtain ⟨a, rfl, h1⟩ := ints_rep S e rx
  have hm := List.max?_eq_some_iff.mp e2
  refine ⟨a, ns, rfl, h1, List.length_pos_of_mem hm.1, fun m' h2 h3 => ?_⟩
  have : m' = m := Int.le_antisymm (hm.2 m' h2) (h3 m hm.1)
  rw [this]
  exact h.here S (rep_int _)
def rMinB (K : PySem.W.Frag) : List V → Hp → VK → Prop := fun vs H Q => rMin K vs H Q ∨ ∃ i j, vs = [.int i, .int j] ∧ Q (.int (if j < i then j else i)) H
theorem bi_min : BiS .min rMinB := by
  intro G A xs v vs Q S e r h
  replace e : minV A.mh xs = some v := e
  unfold minV at e
  split at e
  · split at e
    · rename_i i j
      cases e
      unfold Reps at r
      obtain ⟨w, r', rfl, r1, r2⟩ := r
      obtain ⟨w', rfl, r3⟩ := Reps.one_ r2
      exact .inr ⟨i, j, by rw [r1.int_, r3.int_], h.here S (rep_int _)⟩
    · cases e
  · refine .inl ?_
    obtain ⟨x, hx, e'⟩ := one1_some e
    subst hx
    replace e := e'
    clear e'
    obtain ⟨w, rfl, rx⟩ := r.one_
    rw [Option.bind_eq_some_iff] at e
    obtain ⟨ns, e, e2⟩ := e
    simp only [Option.map_eq_some_iff] at e2
    obtain ⟨m, e2, rfl⟩ := e2
    obtain ⟨a, rfl, h1⟩ := ints_rep S e rx
    have hm := List.min?_eq_some_iff.mp e2
    refine ⟨a, ns, rfl, h1, List.length_pos_of_mem hm.1, fun m' h2 h3 => ?_⟩
    have : m' = m := Int.le_antisymm (h3 m hm.1) (hm.2 m' h2)
    rw [this]
    exact h.here S (rep_int _)

/-! ### methods -/
section
variable {G : Gb} {A : Wd}
theorem bd_of : (n : Nat) → (S : Sim G A) → (A.mh.length ≤ n) → True := fun _ _ _ => trivial
theorem liveL_rep (S : Sim G A) {o : MV} {l : Nat} {xs : List MV} {w : V} (e : liveL A.mh o = some (l, xs)) (r : Rep G A o w) :
    A.mh[l]? = some (some (.lst xs)) ∧ ∃ a vs, A.β[l]? = some a ∧ w = .ref a ∧ A.H a = some (.lst vs) ∧ Reps G A xs vs := by
  unfold liveL at e
  split at e
  · split at e
    · rename_i l' ys hl
      cases e
      obtain ⟨a, rfl, e2⟩ := r.loc_
      obtain ⟨vs, e3, r3⟩ := S.obj _ _ hl a e2
      exact ⟨hl, a, vs, e2, rfl, e3, r3⟩
    · cases e
  · cases e
theorem bds_app (n : Nat) : ∀ xs ys : List MV, bds n (xs ++ ys) = (bds n xs && bds n ys)
  | [], ys => by simp [bds]
  | x :: xs, ys => by
    show (bd n x && bds n (xs ++ ys)) = ((bd n x && bds n xs) && bds n ys)
    rw [bds_app n xs ys, Bool.and_assoc]
mutual
theorem bd_mono {n m : Nat} (h : n ≤ m) : ∀ x : MV, bd n x = true → bd m x = true
  | .tup xs, e => by unfold bd at e ⊢; exact bds_mono h xs e
  | .lst xs, e => by unfold bd at e ⊢; exact bds_mono h xs e
  | .dct _ vs, e => by unfold bd at e ⊢; exact bds_mono h vs e
  | .loc l, e => by
    unfold bd at e ⊢
    have : l < n := of_decide_eq_true e
    exact decide_eq_true (by omega)
  | .non, e => e
  | .bl _, e => e
  | .int _, e => e
  | .str _, e => e
  | .fn _, e => e
  | .scr _, e => e
theorem bds_mono {n m : Nat} (h : n ≤ m) : ∀ xs : List MV, bds n xs = true → bds m xs = true
  | [], e => by unfold bds; rfl
  | x :: xs, e => by
    unfold bds at e ⊢
    rw [Bool.and_eq_true] at e ⊢
    exact ⟨bd_mono h x e.1, bds_mono h xs e.2⟩
end
/-- what may be written keeps the bounds of all frames -/
theorem wr_bd (S : Sim G A) {l : Nat} {x : MV} (h : wr A.base l x = true) {b : Nat} (hb : b ∈ A.bs) (hl : l < b) : bd b x = true := by
  unfold wr at h
  rw [Bool.or_eq_true] at h
  rcases h with h | h
  · have h1 : A.base ≤ l := of_decide_eq_true h
    have := S.top b hb
    omega
  · exact bd_mono (by omega) x h
theorem wrs_bd (S : Sim G A) {l : Nat} : ∀ {xs : List MV}, xs.all (wr A.base l) = true → ∀ {b : Nat}, b ∈ A.bs → l < b → bds b xs = true
  | [], _, b, _, _ => by unfold bds; rfl
  | x :: xs, h, b, hb, hl => by
    rw [List.all_cons, Bool.and_eq_true] at h
    unfold bds
    rw [wr_bd S h.1 hb hl, wrs_bd S h.2 hb hl]
    rfl
theorem bds_sub {n : Nat} : ∀ {xs : List MV}, bds n xs = true → ∀ {ys : List MV}, (∀ y ∈ ys, y ∈ xs) → bds n ys = true := by
  intro xs h ys
  have all : ∀ {xs : List MV}, bds n xs = true → ∀ x ∈ xs, bd n x = true := by
    intro xs
    induction xs with
    | nil => intro _ x hx; exact absurd hx (by simp)
    | cons y ys ih =>
      intro h x hx
      unfold bds at h
      rw [Bool.and_eq_true] at h
      rcases List.mem_cons.mp hx with rfl | hx
      · exact h.1
      · exact ih h.2 x hx
  induction ys with
  | nil => intro _; unfold bds; rfl
  | cons y ys ih =>
    intro hs
    unfold bds
    rw [all h y (hs y (by simp)), ih fun z hz => hs z (List.mem_cons_of_mem _ hz)]
    rfl
theorem lst_wr (S : Sim G A) {l : Nat} {a : Addr} {xs ys : List MV} {ws : List V} (hl : A.mh[l]? = some (some (.lst xs))) (hb : A.β[l]? = some a) (r : Reps G A ys ws) (hbd : ∀ b ∈ A.bs, l < b → bds b ys = true) :
    Keep A (A.wr l a (.lst ws) (.lst ys)) ∧ Sim G (A.wr l a (.lst ws) (.lst ys)) := by
  have k : Keep A (A.wr l a (.lst ws) (.lst ys)) := keep_wr S hl hb
  exact ⟨k, S.wr hl hb ⟨ws, upd_same, Reps.keep S k _ _ r⟩ ⟨(fun _ z => nomatch z), (fun _ _ z => nomatch z)⟩ hbd⟩
/-- the reading of a method, where what is wanted behind it is told by a post of the new heap -/
def MeS (m : Me) (r : PySem.W.Frag → V → List V → Hp → VK → Prop) : Prop :=
  ∀ (G : Gb) (A : Wd) (o : MV) (xs : List MV) (v : MV) (mh' : MHp) (w : V) (vs : List V) (Q : VK), Sim G A → methV A.base A.mh m o xs = some (v, mh') → Rep G A o w → Reps G A xs vs → Post G A mh' v Q → r G.K w vs A.H Q
end
theorem me_append : MeS .append (fun _ => rAppend) := by
  intro G A o xs v mh' w vs Q S e ro r h
  simp only [methV, appV] at e
  split at e
  · rename_i l ys x e1
    split at e
    · rename_i hc
      cases e
      obtain ⟨hl, a, ws, hb, rfl, hH, rr⟩ := liveL_rep S e1 ro
      obtain ⟨y, rfl, ry⟩ := r.one_
      obtain ⟨k, S'⟩ := lst_wr S hl hb (rr.app (Reps.one ry)) fun b hbs hlb => by
        rw [bds_app]
        have h1 : bds b ys = true := S.bnd b hbs l _ hlb hl
        rw [h1]
        show (true && (bd b x && true)) = true
        rw [wr_bd S hc.1 hbs hlb]
        rfl
      exact ⟨a, ws, y, rfl, rfl, hH, by rw [← rr.len]; exact hc.2, h _ .non k rfl S' rep_non⟩
    · cases e
  · cases e
def rExtB (K : PySem.W.Frag) : V → List V → Hp → VK → Prop := fun x vs H Q => rExtend x vs H Q ∨ rExtT K x vs H Q
theorem mt_extB {X : Cx} : MtR X "list.extend" (rExtB X.K) := MtR.or mt_extend mt_extT
theorem me_extend : MeS .extend rExtB := by
  intro G A o xs v mh' w vs Q S e ro r h
  simp only [methV, extV] at e
  split at e
  · rename_i l ys x e1
    split at e
    · rename_i zs e2
      split at e
      · rename_i hc
        cases e
        obtain ⟨hl, a, ws, hb, rfl, hH, rr⟩ := liveL_rep S e1 ro
        obtain ⟨y, rfl, ry⟩ := r.one_
        have bdd : ∀ b ∈ A.bs, l < b → bds b (ys ++ zs) = true := fun b hbs hlb => by
          rw [bds_app]
          have h1 : bds b ys = true := S.bnd b hbs l _ hlb hl
          rw [h1, wrs_bd S hc.1 hbs hlb]
          rfl
        unfold seqOf at e2
        split at e2
        · cases e2
          obtain ⟨b, us, rfl, h1, r1⟩ := ry.tup_
          obtain ⟨k, S'⟩ := lst_wr S hl hb (rr.app r1) bdd
          exact .inr ⟨a, b, ws, us, rfl, rfl, hH, h1, by rw [← rr.len, ← r1.len]; exact hc.2, h _ .non k rfl S' rep_non⟩
        · obtain ⟨b, us, rfl, h1, r1⟩ := getL_rep S e2 ry
          obtain ⟨k, S'⟩ := lst_wr S hl hb (rr.app r1) bdd
          exact .inl ⟨a, b, ws, us, rfl, rfl, hH, h1, by rw [← rr.len, ← r1.len]; exact hc.2, h _ .non k rfl S' rep_non⟩
      · cases e
    · cases e
  · cases e
theorem me_pop : MeS .pop (fun _ => rPop) := by
  intro G A o xs v mh' w vs Q S e ro r h
  simp only [methV, popV] at e
  split at e
  · rename_i l ys e1
    simp only [Option.map_eq_some_iff] at e
    obtain ⟨y, e2, e3⟩ := e
    cases e3
    obtain ⟨hl, a, ws, hb, rfl, hH, rr⟩ := liveL_rep S e1 ro
    obtain ⟨u, hu, ru⟩ := rr.get e2
    obtain ⟨k, S'⟩ := lst_wr S hl hb rr.dropLast fun b hbs hlb => bds_sub (S.bnd b hbs l _ hlb hl) fun z hz => List.dropLast_subset _ hz
    exact ⟨a, ws, u, rfl, r.nil_, hH, by rw [← rr.len]; exact hu, h _ u k rfl S' (Rep.keep S k _ _ ru)⟩
  · cases e
theorem me_popAt : MeS .popAt (fun _ => rPopAt) := by
  intro G A o xs v mh' w vs Q S e ro r h
  simp only [methV, popAtV] at e
  split at e
  · rename_i l ys i e1
    split at e
    · rename_i hi
      split at e
      · cases e
      · rename_i j e4
        simp only [Option.map_eq_some_iff] at e
        obtain ⟨y, e2, e3⟩ := e
        cases e3
        obtain ⟨hl, a, ws, hb, rfl, hH, rr⟩ := liveL_rep S e1 ro
        obtain ⟨u, hu, ru⟩ := rr.get e2
        obtain ⟨z, rfl, rz⟩ := r.one_
        obtain ⟨k, S'⟩ := lst_wr S hl hb (rr.eraseIdx j) fun b hbs hlb => bds_sub (S.bnd b hbs l _ hlb hl) fun z hz => List.mem_of_mem_eraseIdx hz
        exact ⟨a, ws, i, j, u, rfl, by rw [rz.int_], hH, hi.1, hi.2, by rw [← rr.len]; exact e4, hu, h _ u k rfl S' (Rep.keep S k _ _ ru)⟩
    · cases e
  · cases e
def rUpp (_ : PySem.W.Frag) : V → List V → Hp → VK → Prop := fun x xs H Q => ∃ a, x = .str a ∧ xs = [] ∧ a.length ≤ 5592405 ∧ Q (.str (Txt.upper a)) H
theorem me_upper : MeS .upper rUpp := by
  intro G A o xs v mh' w vs Q S e ro r h
  simp only [methV, uppV] at e
  split at e
  · split at e
    · rename_i s hz
      cases e
      refine ⟨_, ro.str_, r.nil_, by rw [str_len]; exact hz, ?_⟩
      have q := h.here S (rep_str _)
      unfold upperC at q
      have e2 : (⟨(Txt.upper ⟨s.toArray⟩).cps.toList.toArray⟩ : Str) = Txt.upper ⟨s.toArray⟩ := str_toList_eq (by simp)
      rw [e2] at q
      exact q
    · cases e
  · cases e
/-! ### dict(pairs) -/
def rDictP (K : PySem.W.Frag) : List V → Hp → VK → Prop := fun xs H Q => ∃ (a : Addr) (ps : List Addr) (kvs : List (Key × V)), xs = [.ref a] ∧ SqL K H a (ps.map V.ref) ∧ Paired (fun p kv => SqT K H p [kV kv.1, kv.2]) ps kvs ∧ ∀ p, H p = none → Q (.ref p) (upd H p (.dK (mergeK [] kvs)))
section
variable {G : Gb} {A : Wd}
theorem dfold_rep : ∀ (ps : List (MKey × MV)) (us : List V), Reps G A (ps.map Prod.snd) us → ∀ (ks : List MKey) (ms : List MV) (vs : List V), ks.length = ms.length → Reps G A ms vs →
    ∃ ws, mergeK ((ks.map kOf).zip vs) ((ps.map fun p => kOf p.1).zip us) = ((dFold ps ks ms).1.map kOf).zip ws ∧ Reps G A (dFold ps ks ms).2 ws
  | [], us, r, ks, ms, vs, hl, rm => by
    have : us = [] := by unfold Reps at r; exact r
    subst this
    exact ⟨vs, rfl, rm⟩
  | p :: ps, us, r, ks, ms, vs, hl, rm => by
    rw [List.map_cons] at r
    unfold Reps at r
    obtain ⟨v, t, rfl, h1, h2⟩ := r
    obtain ⟨ws, e1, r1⟩ := dput_rep (k := p.1) hl rm h1
    obtain ⟨xs, e2, r2⟩ := dfold_rep ps t h2 (dPutK ks p.1) (dPutV ks ms p.1 p.2) ws (dput_len p.1 p.2 hl) r1
    refine ⟨xs, ?_, r2⟩
    have e3 : mergeK ((ks.map kOf).zip vs) (((p :: ps).map fun p => kOf p.1).zip (v :: t)) = mergeK (putK ((ks.map kOf).zip vs) (kOf p.1) v) ((ps.map fun p => kOf p.1).zip t) := rfl
    rw [e3, e1, e2]
    rfl
theorem Post.newDct {ks : List MKey} {ms : List MV} {vs : List V} {Q : VK} {p : Addr} (h : Post G A A.mh (.dct ks ms) Q) (S : Sim G A) (hl : ks.length = ms.length) (r : Reps G A ms vs) (hp : A.H p = none) : Q (.ref p) (upd A.H p (.dK ((ks.map kOf).zip vs))) :=
  h (A.up p (.dK ((ks.map kOf).zip vs))) (.ref p) (keep_new hp) rfl (S.new hp) (rep_dct S hp hl r)
theorem pairs_rep : ∀ {xs : List MV} {vs : List V} {ps : List (MKey × MV)}, Reps G A xs vs → xs.mapM pairK = some ps → ∃ (as : List Addr) (us : List V), vs = as.map V.ref ∧ Reps G A (ps.map Prod.snd) us ∧ Paired (fun p kv => SqT G.K A.H p [kV kv.1, kv.2]) as ((ps.map fun p => kOf p.1).zip us)
  | [], vs, ps, r, e => by
    have : vs = [] := by unfold Reps at r; exact r
    subst this
    simp at e
    subst e
    exact ⟨[], [], rfl, (by unfold Reps; rfl), .nil⟩
  | x :: xs, vs, ps, r, e => by
    unfold Reps at r
    obtain ⟨v, t, rfl, h1, h2⟩ := r
    simp only [List.mapM_cons, Option.bind_eq_bind, Option.bind_eq_some_iff] at e
    obtain ⟨p, e1, qs, e2, e3⟩ := e
    cases e3
    obtain ⟨as, us, rfl, r2, pr⟩ := pairs_rep h2 e2
    unfold pairK at e1
    split at e1
    · rename_i k m
      simp only [Option.map_eq_some_iff] at e1
      obtain ⟨k', e4, rfl⟩ := e1
      obtain ⟨a, ws, rfl, hT, rr⟩ := h1.tup_
      unfold Reps at rr
      obtain ⟨w1, ws1, rfl, g1, g2⟩ := rr
      obtain ⟨w2, rfl, g3⟩ := g2.one_
      have := kyV_rep e4 g1
      subst this
      refine ⟨a :: as, w2 :: us, rfl, ?_, .cons hT pr⟩
      rw [List.map_cons]
      unfold Reps
      exact ⟨w2, us, rfl, g3, r2⟩
    · cases e1
end
theorem bi_dict : BiS .dict rDictP := by
  intro G A xs v vs Q S e r h
  obtain ⟨x, hx, e'⟩ := one1_some e
  subst hx
  replace e := e'
  clear e'
  obtain ⟨w, rfl, rx⟩ := r.one_
  unfold dictV at e
  split at e
  · cases e
  rename_i ys e1
  split at e
  · rename_i ps e2
    cases e
    obtain ⟨a, ws, rfl, hH, rr⟩ := getL_rep S e1 rx
    obtain ⟨as, us, rfl, r2, pr⟩ := pairs_rep rr e2
    obtain ⟨zs, q1, q2⟩ := dfold_rep ps us r2 [] [] [] rfl (by unfold Reps; rfl)
    refine ⟨a, as, _, rfl, SqL.of hH, pr, fun p hp => ?_⟩
    have q1' : mergeK [] ((ps.map fun p => kOf p.1).zip us) = _ := q1
    rw [q1']
    exact h.newDct S (dfold_len ps [] [] rfl) q2 hp
  · cases e
end L2.Mi

set_option Elab.async false
set_option linter.all false
set_option maxRecDepth 100000
set_option maxHeartbeats 4000000
/-! Mini6: expressions. -/
namespace L2.Mi
open PySem PySem.Spec PyProof.Rows

section
variable (G : Gb) (C : CallF)
/-- an expression by the evaluator -/
def tE (m : ME) : TE := fun σ H Q => ∃ (A : Wd) (ρ : Env) (v : MV) (mh' : MHp), A.H = H ∧ Sim G A ∧ Envs G A ρ σ ∧ ev C A.base m ρ A.mh = some (v, mh') ∧ Post G A mh' v Q
def tT (m : ME) : TT := fun σ H Q => ∃ (A : Wd) (ρ : Env) (c : Bool) (mh' : MHp), A.H = H ∧ Sim G A ∧ Envs G A ρ σ ∧ ev C A.base m ρ A.mh = some (.bl c, mh') ∧ ∀ B, Keep A B → B.mh = mh' → Sim G B → Q c B.H
def tEs (ms : List ME) : TA := fun σ H Q => ∃ (A : Wd) (ρ : Env) (vs : List MV) (mh' : MHp), A.H = H ∧ Sim G A ∧ Envs G A ρ σ ∧ evs C A.base ms ρ A.mh = some (vs, mh') ∧ ∀ B xs, Keep A B → B.mh = mh' → Sim G B → Reps G B vs xs → Q xs B.H
end
theorem Keep.base {A B : Wd} (k : Keep A B) : B.base = A.base := by unfold Wd.base; rw [k.bs]

theorem _root_.L2.PE.mono {X : Cx} {e : Expr} {t t' : TE} (h : PE X e t) (k : ∀ σ H Q, t' σ H Q → t σ H Q) : PE X e t' := ⟨fun pins s σ H Q I q => h.run pins s σ H Q I (k σ H Q q)⟩
theorem _root_.L2.PT.mono {X : Cx} {e : Expr} {t t' : TT} (h : PT X e t) (k : ∀ σ H Q, t' σ H Q → t σ H Q) : PT X e t' := ⟨fun pins s σ H Q I q => h.run pins s σ H Q I (k σ H Q q)⟩
theorem _root_.L2.PW.mono {X : Cx} {e : Expr} {t t' : TT} (h : PW X e t) (k : ∀ σ H Q, t' σ H Q → t σ H Q) : PW X e t' := ⟨fun wh pins s σ H Q I q => h.run wh pins s σ H Q I (k σ H Q q)⟩
theorem _root_.L2.PA.mono {X : Cx} {es : List Expr} {t t' : TA} (h : PA X es t) (k : ∀ σ H Q, t' σ H Q → t σ H Q) : PA X es t' := ⟨fun pos pins s σ H Q I q => h.run pos pins s σ H Q I (k σ H Q q)⟩

section
variable {G : Gb} {C : CallF} {A : Wd} {ρ : Env} {σ : L2.St}
theorem tE.go {m : ME} {v : MV} {mh1 : MHp} {Q : VK} (S : Sim G A) (N : Envs G A ρ σ) (e : ev C A.base m ρ A.mh = some (v, mh1))
    (h : ∀ B x, Keep A B → B.mh = mh1 → Sim G B → Envs G B ρ σ → Rep G B v x → Q x B.H) : tE G C m σ A.H Q :=
  ⟨A, ρ, v, mh1, rfl, S, N, e, fun B x k em SB r => h B x k em SB (N.keep S k) r⟩
theorem tT.go {m : ME} {c : Bool} {mh1 : MHp} {Q : Bool → Hp → Prop} (S : Sim G A) (N : Envs G A ρ σ) (e : ev C A.base m ρ A.mh = some (.bl c, mh1))
    (h : ∀ B, Keep A B → B.mh = mh1 → Sim G B → Envs G B ρ σ → Q c B.H) : tT G C m σ A.H Q :=
  ⟨A, ρ, c, mh1, rfl, S, N, e, fun B k em SB => h B k em SB (N.keep S k)⟩
theorem tEs.go {ms : List ME} {vs : List MV} {mh1 : MHp} {Q : List V → Hp → Prop} (S : Sim G A) (N : Envs G A ρ σ) (e : evs C A.base ms ρ A.mh = some (vs, mh1))
    (h : ∀ B xs, Keep A B → B.mh = mh1 → Sim G B → Envs G B ρ σ → Reps G B vs xs → Q xs B.H) : tEs G C ms σ A.H Q :=
  ⟨A, ρ, vs, mh1, rfl, S, N, e, fun B xs k em SB r => h B xs k em SB (N.keep S k) r⟩
/-- the evaluation goes on in B -/
theorem ev.at {A B : Wd} {m : ME} {mh1 : MHp} {r : Option (MV × MHp)} (k : Keep A B) (em : B.mh = mh1) (e : ev C A.base m ρ mh1 = r) : ev C B.base m ρ B.mh = r := by rw [k.base, em]; exact e
theorem evs.at {A B : Wd} {m : List ME} {mh1 : MHp} {r : Option (List MV × MHp)} (k : Keep A B) (em : B.mh = mh1) (e : evs C A.base m ρ mh1 = r) : evs C B.base m ρ B.mh = r := by rw [k.base, em]; exact e
end

section
variable {G : Gb} {C : CallF} {X : Cx} {pos p : Pos} {e a b c : Expr} {ma mb mc m : ME}
/-! ### names, constants -/
theorem se_var {i : Nat} {x : Str} (hN : X.N[i]? = some x) (hv : Vis X.env.scope x) (hd : (x == ("__debug__" : Str)) = false := by decide) (hcd : (x == ("__classdict__" : Str)) = false := by decide) : PE X (.Name x pos) (tE G C (.var i)) := by
  refine (pe_var hN hv hd hcd).mono fun σ H Q h => ?_
  obtain ⟨A, ρ, v, mh', rfl, S, N, e, q⟩ := h
  simp only [ev] at e
  split at e
  · rename_i w hw
    cases e
    obtain ⟨x, h1, h2⟩ := N.2 i _ hw
    exact ⟨x, h1, Post.here q S h2⟩
  · cases e
theorem se_c {v : V} {mv : MV} (h : PE X e (tC v)) (hr : ∀ A, Rep G A mv v) : PE X e (tE G C (.c mv)) := by
  refine h.mono fun σ H Q h => ?_
  obtain ⟨A, ρ, w, mh', rfl, S, N, e, q⟩ := h
  simp only [ev] at e
  cases e
  exact Post.here q S (hr A)
theorem se_int {i j} : PE X (.Constant (.int i) j pos) (tE G C (.c (.int i))) := se_c pe_int fun _ => rep_int i
theorem se_bl {b j} : PE X (.Constant (.bool b) j pos) (tE G C (.c (.bl b))) := se_c pe_bl fun _ => rep_bl b
theorem se_non {j} : PE X (.Constant .none j pos) (tE G C (.c .non)) := se_c pe_non fun _ => rep_non
theorem se_str {x : Str} {j} {s : Sx} (h : x = ⟨s.toArray⟩) : PE X (.Constant (.str x) j pos) (tE G C (.c (.str s))) := by
  subst h
  exact se_c pe_str fun _ => rep_str s
/-- a module's number -/
theorem se_glob {x : Str} {i : Int} {t : Tok} (hg : Gl X x) (hm : X.mg x = some (.int i t)) (hd : (x == ("__debug__" : Str)) = false := by decide) : PE X (.Name x pos) (tE G C (.c (.int i))) :=
  se_c (pe_glob (v := .int i) hg hm ⟨t, rfl⟩ hd) fun _ => rep_int i
/-- a def as a value -/
theorem se_fn {x : Str} {f : Nat} {a : Addr} (hg : Gl X x) (hm : X.mg x = some (.ref a)) (hf : G.fa f = some a) (hd : (x == ("__debug__" : Str)) = false := by decide) : PE X (.Name x pos) (tE G C (.c (.fn f))) :=
  se_c (pe_glob (v := .ref a) hg hm rfl hd) fun _ => by unfold Rep; exact ⟨a, hf, rfl⟩
/-! ### operators -/
theorem se_bin {o : Op} (hK : X.K = G.K) (ha : PE X a (tE G C ma)) (hb : PE X b (tE G C mb)) : PE X (.BinOp a (opOf o) b pos) (tE G C (.bin o ma mb)) := by
  refine (pe_op (op_ok (X := X) o) ha hb).mono fun σ H Q h => ?_
  obtain ⟨A, ρ, v, mh', rfl, S, N, e, q⟩ := h
  simp only [ev] at e
  split at e
  · cases e
  rename_i x mh1 e1
  split at e
  · cases e
  rename_i y mh2 e2
  simp only [Option.map_eq_some_iff] at e
  obtain ⟨w, e3, e4⟩ := e
  cases e4
  refine tE.go S N e1 fun B vx kB em SB NB rx => tE.go SB NB (ev.at kB em e2) fun B2 vy k2 em2 S2 N2 ry => ?_
  rw [hK]
  refine opR_of S2 (by rw [em2]; exact e3) (Rep.keep SB k2 _ _ rx) ry ?_
  rw [em2]
  exact Post.step q (kB.trans k2)
theorem se_neg (ha : PE X a (tE G C ma)) : PE X (.UnaryOp .USub a pos) (tE G C (.neg ma)) := by
  refine (pe_un un_neg ha).mono fun σ H Q h => ?_
  obtain ⟨A, ρ, v, mh', rfl, S, N, e, q⟩ := h
  simp only [ev] at e
  split at e
  · rename_i i mh1 e1
    cases e
    exact tE.go S N e1 fun B vx kB em SB NB rx => ⟨i, rx.int_, q B _ kB em SB (rep_int _)⟩
  · cases e
theorem ev_cmp {o : Cop} {base : Nat} {ρ : Env} {mh mh' : MHp} {v : MV} (e : ev C base (.cmp o ma mb) ρ mh = some (v, mh')) :
    ∃ x mh1 y c, ev C base ma ρ mh = some (x, mh1) ∧ ev C base mb ρ mh1 = some (y, mh') ∧ cmpV mh' o x y = some c ∧ v = .bl c := by
  simp only [ev] at e
  split at e
  · cases e
  rename_i x mh1 e1
  split at e
  · cases e
  rename_i y mh2 e2
  simp only [Option.map_eq_some_iff] at e
  obtain ⟨w, e3, e4⟩ := e
  cases e4
  exact ⟨x, mh1, y, w, e1, e2, e3, rfl⟩
theorem se_cmp {o : Cop} (hK : X.K = G.K) (hu : X.A.units + 65 < cLine) (hm : behindInMarks (copOf o) b = false) (ha : PE X a (tE G C ma)) (hb : PE X b (tE G C mb)) : PE X (.Compare a [copOf o] [b] pos) (tE G C (.cmp o ma mb)) := by
  refine (pe_cmpR (cop_ok (X := X) hu o) ha hb hm).mono fun σ H Q h => ?_
  obtain ⟨A, ρ, v, mh', rfl, S, N, e, q⟩ := h
  obtain ⟨x, mh1, y, c, e1, e2, e3, rfl⟩ := ev_cmp e
  refine tE.go S N e1 fun B vx kB em SB NB rx => tE.go SB NB (ev.at kB em e2) fun B2 vy k2 em2 S2 N2 ry => ?_
  rw [hK]
  exact copR_of S2 (by rw [em2]; exact e3) (Rep.keep SB k2 _ _ rx) ry (q B2 _ (kB.trans k2) em2 S2 (rep_bl c))
theorem st_cmp {o : Cop} (hK : X.K = G.K) (hu : X.A.units + 65 < cLine) (hm : behindInMarks (copOf o) b = false) (ha : PE X a (tE G C ma)) (hb : PE X b (tE G C mb)) : PT X (.Compare a [copOf o] [b] pos) (tT G C (.cmp o ma mb)) := by
  refine (pt_cmpR (cop_ok (X := X) hu o) ha hb hm).mono fun σ H Q h => ?_
  obtain ⟨A, ρ, c', mh', rfl, S, N, e, q⟩ := h
  obtain ⟨x, mh1, y, c, e1, e2, e3, e4⟩ := ev_cmp e
  cases e4
  refine tE.go S N e1 fun B vx kB em SB NB rx => tE.go SB NB (ev.at kB em e2) fun B2 vy k2 em2 S2 N2 ry => ?_
  rw [hK]
  exact copR_of S2 (by rw [em2]; exact e3) (Rep.keep SB k2 _ _ rx) ry ⟨c', rfl, q B2 (kB.trans k2) em2 S2⟩
theorem ev_chn {o o' : Cop} {base : Nat} {ρ : Env} {mh mh' : MHp} {v : MV} (e : ev C base (.chn o o' ma mb mc) ρ mh = some (v, mh')) :
    ∃ x mh1 y mh2, ev C base ma ρ mh = some (x, mh1) ∧ ev C base mb ρ mh1 = some (y, mh2) ∧ ((cmpV mh2 o x y = some false ∧ v = .bl false ∧ mh' = mh2) ∨ (cmpV mh2 o x y = some true ∧ ∃ z c, ev C base mc ρ mh2 = some (z, mh') ∧ cmpV mh' o' y z = some c ∧ v = .bl c)) := by
  simp only [ev] at e
  split at e
  · cases e
  rename_i x mh1 e1
  split at e
  · cases e
  rename_i y mh2 e2
  refine ⟨x, mh1, y, mh2, e1, e2, ?_⟩
  split at e
  · cases e
  · rename_i e3
    cases e
    exact .inl ⟨e3, rfl, rfl⟩
  · rename_i e3
    split at e
    · cases e
    rename_i z mh3 e4
    simp only [Option.map_eq_some_iff] at e
    obtain ⟨w, e5, e6⟩ := e
    cases e6
    exact .inr ⟨e3, z, w, e4, e5, rfl⟩
theorem chn_go {o o' : Cop} {A : Wd} {ρ : Env} {σ : L2.St} {v : MV} {mh' : MHp} {Q : VK} (hK : X.K = G.K) (S : Sim G A) (N : Envs G A ρ σ) (e : ev C A.base (.chn o o' ma mb mc) ρ A.mh = some (v, mh')) (q : Post G A mh' v Q) :
    tChain (copR X.K o) (copR X.K o') (tE G C ma) (tE G C mb) (tE G C mc) σ A.H Q := by
  obtain ⟨x, mh1, y, mh2, e1, e2, h⟩ := ev_chn e
  refine tE.go S N e1 fun B vx kB em SB NB rx => tE.go SB NB (ev.at kB em e2) fun B2 vy k2 em2 S2 N2 ry => ?_
  rw [hK]
  rcases h with ⟨e3, rfl, rfl⟩ | ⟨e3, z, c, e4, e5, rfl⟩
  · refine copR_of S2 (by rw [em2]; exact e3) (Rep.keep SB k2 _ _ rx) ry ⟨false, rfl, ?_⟩
    rw [if_neg Bool.false_ne_true]
    exact q B2 _ (kB.trans k2) em2 S2 (rep_bl false)
  · refine copR_of S2 (by rw [em2]; exact e3) (Rep.keep SB k2 _ _ rx) ry ⟨true, rfl, ?_⟩
    rw [if_pos rfl]
    refine tE.go S2 N2 (ev.at (kB.trans k2) em2 e4) fun B3 vz k3 em3 S3 N3 rz => ?_
    exact copR_of S3 (by rw [em3]; exact e5) (Rep.keep S2 k3 _ _ ry) rz (q B3 _ ((kB.trans k2).trans k3) em3 S3 (rep_bl c))
theorem se_chn {o o' : Cop} (hK : X.K = G.K) (hu : X.A.units + 65 < cLine) (ha : PE X a (tE G C ma)) (hb : PE X b (tE G C mb)) (hc : PE X c (tE G C mc))
    (hm : lastMarks [copOf o, copOf o'] [b, c] = false := by with_unfolding_all rfl) : PE X (.Compare a [copOf o, copOf o'] [b, c] pos) (tE G C (.chn o o' ma mb mc)) := by
  refine (pe_chain (cop_ok (X := X) hu o) (cop_ok (X := X) hu o') ha hb hc hm).mono fun σ H Q h => ?_
  obtain ⟨A, ρ, v, mh', rfl, S, N, e, q⟩ := h
  exact chn_go hK S N e q
theorem st_chn {o o' : Cop} (hK : X.K = G.K) (hu : X.A.units + 65 < cLine) (ha : PE X a (tE G C ma)) (hb : PE X b (tE G C mb)) (hc : PE X c (tE G C mc))
    (hm : lastMarks [copOf o, copOf o'] [b, c] = false := by with_unfolding_all rfl) : PT X (.Compare a [copOf o, copOf o'] [b, c] pos) (tT G C (.chn o o' ma mb mc)) := by
  refine (pt_chain (cop_ok (X := X) hu o) (cop_ok (X := X) hu o') ha hb hc hm).mono fun σ H Q h => ?_
  obtain ⟨A, ρ, v, mh', rfl, S, N, e, q⟩ := h
  refine chn_go hK S N e fun B x k em SB r => ⟨v, r.bl_, q B k em SB⟩
/-! ### tests, and, or, not -/
theorem st_val (h : PE X e (tE G C m)) (he : ∀ whole, isTrue e X.env whole = (do let v ← whole; standAt e.pos; holding [v] (truthy v)) := by intro _; rfl) : PT X e (tT G C m) := by
  refine (pt_val h he).mono fun σ H Q h => ?_
  obtain ⟨A, ρ, c, mh', rfl, S, N, e, q⟩ := h
  exact tE.go S N e fun B x k em SB _ r => ⟨c, r.bl_, q B k em SB⟩
theorem ev_and {base : Nat} {ρ : Env} {mh mh' : MHp} {v : MV} (e : ev C base (.and ma mb) ρ mh = some (v, mh')) : (∃ mh1, ev C base ma ρ mh = some (.bl true, mh1) ∧ ev C base mb ρ mh1 = some (v, mh')) ∨ (ev C base ma ρ mh = some (.bl false, mh') ∧ v = .bl false) := by
  simp only [ev] at e
  split at e
  · rename_i mh1 e1; exact .inl ⟨mh1, e1, e⟩
  · rename_i mh1 e1; cases e; exact .inr ⟨e1, rfl⟩
  · cases e
theorem ev_or {base : Nat} {ρ : Env} {mh mh' : MHp} {v : MV} (e : ev C base (.or ma mb) ρ mh = some (v, mh')) : (∃ mh1, ev C base ma ρ mh = some (.bl false, mh1) ∧ ev C base mb ρ mh1 = some (v, mh')) ∨ (ev C base ma ρ mh = some (.bl true, mh') ∧ v = .bl true) := by
  simp only [ev] at e
  split at e
  · rename_i mh1 e1; exact .inl ⟨mh1, e1, e⟩
  · rename_i mh1 e1; cases e; exact .inr ⟨e1, rfl⟩
  · cases e
theorem sw_and1 (ha : PT X a (tT G C ma)) : PW X (.BoolOp .And [a] pos) (tT G C ma) := pw_and1 ha
theorem sw_or1 (ha : PT X a (tT G C ma)) : PW X (.BoolOp .Or [a] pos) (tT G C ma) := pw_or1 ha
theorem sw_and {rest : List Expr} (ha : PT X a (tT G C ma)) (hb : PW X (.BoolOp .And (b :: rest) pos) (tT G C mb)) : PW X (.BoolOp .And (a :: b :: rest) pos) (tT G C (.and ma mb)) := by
  refine (pw_and ha hb).mono fun σ H Q h => ?_
  obtain ⟨A, ρ, c, mh', rfl, S, N, e, q⟩ := h
  rcases ev_and e with ⟨mh1, e1, e2⟩ | ⟨e1, e2⟩
  · refine tT.go S N e1 fun B k em SB NB => ?_
    rw [if_pos rfl]
    exact tT.go SB NB (ev.at k em e2) fun B2 k2 em2 S2 _ => q B2 (k.trans k2) em2 S2
  · cases e2
    refine tT.go S N e1 fun B k em SB NB => ?_
    rw [if_neg Bool.false_ne_true]
    exact q B k em SB
theorem sw_or {rest : List Expr} (ha : PT X a (tT G C ma)) (hb : PW X (.BoolOp .Or (b :: rest) pos) (tT G C mb)) : PW X (.BoolOp .Or (a :: b :: rest) pos) (tT G C (.or ma mb)) := by
  refine (pw_or ha hb).mono fun σ H Q h => ?_
  obtain ⟨A, ρ, c, mh', rfl, S, N, e, q⟩ := h
  rcases ev_or e with ⟨mh1, e1, e2⟩ | ⟨e1, e2⟩
  · refine tT.go S N e1 fun B k em SB NB => ?_
    rw [if_neg Bool.false_ne_true]
    exact tT.go SB NB (ev.at k em e2) fun B2 k2 em2 S2 _ => q B2 (k.trans k2) em2 S2
  · cases e2
    refine tT.go S N e1 fun B k em SB NB => ?_
    rw [if_pos rfl]
    exact q B k em SB
theorem ev_not {base : Nat} {ρ : Env} {mh mh' : MHp} {v : MV} (e : ev C base (.not ma) ρ mh = some (v, mh')) : ∃ b, ev C base ma ρ mh = some (.bl b, mh') ∧ v = .bl (!b) := by
  simp only [ev] at e
  split at e
  · cases e; exact ⟨_, by assumption, rfl⟩
  · cases e
theorem st_not (ha : PT X a (tT G C ma)) : PT X (.UnaryOp .Not a pos) (tT G C (.not ma)) := by
  refine (pt_not ha).mono fun σ H Q h => ?_
  obtain ⟨A, ρ, c, mh', rfl, S, N, e, q⟩ := h
  obtain ⟨b, e1, e2⟩ := ev_not e
  cases e2
  exact tT.go S N e1 fun B k em SB _ => q B k em SB
theorem se_one {op} (h : PE X a (tE G C ma)) : PE X (.BoolOp op [a] pos) (tE G C ma) := pe_one h
theorem se_and {rest : List Expr} (ha : PE X a (tE G C ma)) (hb : PE X (.BoolOp .And (b :: rest) pos) (tE G C mb)) : PE X (.BoolOp .And (a :: b :: rest) pos) (tE G C (.and ma mb)) := by
  refine (pe_and ha hb).mono fun σ H Q h => ?_
  obtain ⟨A, ρ, v, mh', rfl, S, N, e, q⟩ := h
  rcases ev_and e with ⟨mh1, e1, e2⟩ | ⟨e1, rfl⟩
  · refine tE.go S N e1 fun B x k em SB NB r => ⟨true, r.bl_, ?_⟩
    rw [if_pos rfl]
    exact tE.go SB NB (ev.at k em e2) fun B2 x2 k2 em2 S2 _ r2 => q B2 x2 (k.trans k2) em2 S2 r2
  · refine tE.go S N e1 fun B x k em SB NB r => ⟨false, r.bl_, ?_⟩
    rw [if_neg Bool.false_ne_true]
    exact q B _ k em SB (rep_bl false)
theorem se_or {rest : List Expr} (ha : PE X a (tE G C ma)) (hb : PE X (.BoolOp .Or (b :: rest) pos) (tE G C mb)) : PE X (.BoolOp .Or (a :: b :: rest) pos) (tE G C (.or ma mb)) := by
  refine (pe_or ha hb).mono fun σ H Q h => ?_
  obtain ⟨A, ρ, v, mh', rfl, S, N, e, q⟩ := h
  rcases ev_or e with ⟨mh1, e1, e2⟩ | ⟨e1, rfl⟩
  · refine tE.go S N e1 fun B x k em SB NB r => ⟨false, r.bl_, ?_⟩
    rw [if_neg Bool.false_ne_true]
    exact tE.go SB NB (ev.at k em e2) fun B2 x2 k2 em2 S2 _ r2 => q B2 x2 (k.trans k2) em2 S2 r2
  · refine tE.go S N e1 fun B x k em SB NB r => ⟨true, r.bl_, ?_⟩
    rw [if_pos rfl]
    exact q B _ k em SB (rep_bl true)
theorem se_not (ha : PE X a (tE G C ma)) : PE X (.UnaryOp .Not a pos) (tE G C (.not ma)) := by
  refine (pe_not ha).mono fun σ H Q h => ?_
  obtain ⟨A, ρ, v, mh', rfl, S, N, e, q⟩ := h
  obtain ⟨b, e1, rfl⟩ := ev_not e
  exact tE.go S N e1 fun B x k em SB _ r => ⟨b, r.bl_, q B _ k em SB (rep_bl _)⟩
theorem ev_ite {base : Nat} {ρ : Env} {mh mh' : MHp} {v : MV} (e : ev C base (.ite mc ma mb) ρ mh = some (v, mh')) : ∃ b mh1, ev C base mc ρ mh = some (.bl b, mh1) ∧ ev C base (if b = true then ma else mb) ρ mh1 = some (v, mh') := by
  simp only [ev] at e
  split at e
  · rename_i mh1 e1; exact ⟨true, mh1, e1, by rw [if_pos rfl]; exact e⟩
  · rename_i mh1 e1; exact ⟨false, mh1, e1, by rw [if_neg Bool.false_ne_true]; exact e⟩
  · cases e
theorem se_ite (hc : PT X c (tT G C mc)) (ha : PE X a (tE G C ma)) (hb : PE X b (tE G C mb)) : PE X (.IfExp c a b pos) (tE G C (.ite mc ma mb)) := by
  refine (pe_ifExp hc ha hb).mono fun σ H Q h => ?_
  obtain ⟨A, ρ, v, mh', rfl, S, N, e, q⟩ := h
  obtain ⟨b, mh1, e1, e2⟩ := ev_ite e
  refine tT.go S N e1 fun B k em SB NB => ?_
  cases b with
  | true =>
    rw [if_pos rfl] at e2 ⊢
    exact tE.go SB NB (ev.at k em e2) fun B2 x2 k2 em2 S2 _ r2 => q B2 x2 (k.trans k2) em2 S2 r2
  | false =>
    rw [if_neg Bool.false_ne_true] at e2 ⊢
    exact tE.go SB NB (ev.at k em e2) fun B2 x2 k2 em2 S2 _ r2 => q B2 x2 (k.trans k2) em2 S2 r2
/-! ### arguments, displays -/
theorem sa_nil : PA X [] (tEs G C []) := by
  refine pa_nil.mono fun σ H Q h => ?_
  obtain ⟨A, ρ, vs, mh', rfl, S, N, e, q⟩ := h
  simp only [evs] at e
  cases e
  exact q A [] (Keep.refl A) rfl S (by unfold Reps; rfl)
theorem evs_cons {ms : List ME} {base : Nat} {ρ : Env} {mh mh' : MHp} {vs : List MV} (e : evs C base (m :: ms) ρ mh = some (vs, mh')) : ∃ x mh1 xs, ev C base m ρ mh = some (x, mh1) ∧ evs C base ms ρ mh1 = some (xs, mh') ∧ vs = x :: xs := by
  simp only [evs] at e
  split at e
  · cases e
  rename_i x mh1 e1
  split at e
  · cases e
  rename_i xs mh2 e2
  cases e
  exact ⟨x, mh1, xs, e1, e2, rfl⟩
theorem sa_cons {es : List Expr} {ms : List ME} (ha : PE X e (tE G C m)) (hr : PA X es (tEs G C ms)) (hs : starEach (e :: es) X.env = (false, eval e X.env) :: starEach es X.env := by rfl) : PA X (e :: es) (tEs G C (m :: ms)) := by
  refine (pa_cons ha hr hs).mono fun σ H Q h => ?_
  obtain ⟨A, ρ, vs, mh', rfl, S, N, e, q⟩ := h
  obtain ⟨x, mh1, xs, e1, e2, rfl⟩ := evs_cons e
  refine tE.go S N e1 fun B vx k em SB NB rx => tEs.go SB NB (evs.at k em e2) fun B2 ys k2 em2 S2 _ r2 => ?_
  refine q B2 _ (k.trans k2) em2 S2 ?_
  unfold Reps
  exact ⟨vx, ys, rfl, Rep.keep SB k2 _ _ rx, r2⟩
theorem se_tup {es : List Expr} {ms : List ME} {x1} (h : PA X es (tEs G C ms)) : PE X (.Tuple es x1 pos) (tE G C (.tup ms)) := by
  refine (pe_tup h).mono fun σ H Q h => ?_
  obtain ⟨A, ρ, v, mh', rfl, S, N, e, q⟩ := h
  simp only [ev] at e
  split at e
  · cases e
  rename_i xs mh1 e1
  split at e
  · rename_i hz
    cases e
    refine tEs.go S N e1 fun B ys k em SB _ r => ⟨by rw [← r.len]; exact hz, fun p hp => ?_⟩
    have q' := Post.step q k
    rw [← em] at q'
    exact q'.newTup SB r hp
  · cases e
theorem ev_lst {ms : List ME} {base : Nat} {ρ : Env} {mh mh' : MHp} {v : MV} (e : ev C base (.lst ms) ρ mh = some (v, mh')) : ∃ xs, evs C base ms ρ mh = some (xs, mh') ∧ xs.length ≤ line ∧ v = .lst xs := by
  simp only [ev] at e
  split at e
  · cases e
  rename_i xs mh1 e1
  split at e
  · rename_i hz
    cases e
    exact ⟨xs, e1, hz, rfl⟩
  · cases e
theorem se_lst {es : List Expr} {ms : List ME} (h : PA X es (tEs G C ms)) : PE X (.List es pos) (tE G C (.lst ms)) := by
  refine (pe_lst h).mono fun σ H Q h => ?_
  obtain ⟨A, ρ, v, mh', rfl, S, N, e, q⟩ := h
  obtain ⟨xs, e1, hz, rfl⟩ := ev_lst e
  refine tEs.go S N e1 fun B ys k em SB _ r => ⟨by rw [← r.len]; exact hz, fun p hp => ?_⟩
  have q' := Post.step q k
  rw [← em] at q'
  exact q'.newLst SB r hp
theorem ev_al {base : Nat} {ρ : Env} {mh mh' : MHp} {v : MV} (e : ev C base (.al m) ρ mh = some (v, mh')) : (∃ xs mh1, ev C base m ρ mh = some (.lst xs, mh1) ∧ v = .loc mh1.length ∧ mh' = mh1 ++ [some (.lst xs)]) ∨ (∃ ks vs mh1, ev C base m ρ mh = some (.dct ks vs, mh1) ∧ v = .loc mh1.length ∧ mh' = mh1 ++ [some (.dct ks vs)]) := by
  simp only [ev] at e
  split at e
  · rename_i xs mh1 e1; cases e; exact .inl ⟨xs, mh1, e1, rfl, rfl⟩
  · rename_i ks vs mh1 e1; cases e; exact .inr ⟨ks, vs, mh1, e1, rfl, rfl⟩
  · cases e
/-- a new list is laid as a live object -/
theorem Post.alLst {A : Wd} {xs : List MV} {vs : List V} {Q : VK} {p : Addr} (h : Post G A (A.mh ++ [some (.lst xs)]) (.loc A.mh.length) Q) (S : Sim G A) (r : Reps G A xs vs) (hp : A.H p = none) : Q (.ref p) (upd A.H p (.lst vs)) := by
  have k : Keep A (A.al p (.lst vs) (.lst xs)) := keep_al S hp
  refine h (A.al p (.lst vs) (.lst xs)) (.ref p) k rfl (S.al hp ⟨vs, upd_same, Reps.keep S k _ _ r⟩ ⟨(fun _ z => nomatch z), (fun _ _ z => nomatch z)⟩) ?_
  unfold Rep
  refine ⟨p, rfl, ?_⟩
  show (A.β ++ [p])[A.mh.length]? = some p
  rw [← S.len, List.getElem?_append_right (Nat.le_refl _)]
  simp
theorem sal_lst {es : List Expr} {ms : List ME} (h : PA X es (tEs G C ms)) : PE X (.List es pos) (tE G C (.al (.lst ms))) := by
  refine (pe_lst h).mono fun σ H Q h => ?_
  obtain ⟨A, ρ, v, mh', rfl, S, N, e, q⟩ := h
  rcases ev_al e with ⟨xs, mh1, e9, rfl, rfl⟩ | ⟨ks, vs, mh1, e9, rfl, rfl⟩
  · obtain ⟨ys, e1, hz, e2⟩ := ev_lst e9
    cases e2
    refine tEs.go S N e1 fun B ys k em SB _ r => ⟨by rw [← r.len]; exact hz, fun p hp => ?_⟩
    have q' := Post.step q k
    rw [← em] at q'
    exact q'.alLst SB r hp
  · obtain ⟨ys, e1, hz, e2⟩ := ev_lst e9
    cases e2
/-! ### built-ins -/
theorem ev_bi {f : Bi} {ms : List ME} {base : Nat} {ρ : Env} {mh mh' : MHp} {v : MV} (e : ev C base (.bi f ms) ρ mh = some (v, mh')) : ∃ xs, evs C base ms ρ mh = some (xs, mh') ∧ biV mh' f xs = some v := by
  simp only [ev] at e
  split at e
  · cases e
  rename_i xs mh1 e1
  simp only [Option.map_eq_some_iff] at e
  obtain ⟨w, e3, e4⟩ := e
  cases e4
  exact ⟨xs, e1, e3⟩
theorem bi_go {f : Bi} {ms : List ME} {r : PySem.W.Frag → List V → Hp → VK → Prop} (hr : BiS f r) (hK : X.K = G.K) {σ : L2.St} {H : Hp} {Q : VK} (h : tE G C (.bi f ms) σ H Q) : tCB (r X.K) (tEs G C ms) σ H Q := by
  obtain ⟨A, ρ, v, mh', rfl, S, N, e, q⟩ := h
  obtain ⟨xs, e1, e2⟩ := ev_bi e
  refine tEs.go S N e1 fun B ys k em SB _ rr => ?_
  rw [hK]
  have q' := Post.step q k
  rw [← em] at q'
  exact hr G B xs v ys Q SB (by rw [em]; exact e2) rr q'
theorem se_biB {f : Bi} {id : String} {es : List Expr} {ms : List ME} {r : PySem.W.Frag → List V → Hp → VK → Prop} {x : Str} (hr : BiS f r) (hc : CallR X (.builtin id) (r X.K)) (hK : X.K = G.K) (hg : Gl X x) (hm : X.mg x = none) (hv : bootBuiltins x = some (.builtin id)) (ha : PA X (e :: es) (tEs G C ms)) (hn : x ≠ "__name__" := by decide) (hdb : (x == ("__debug__" : Str)) = false := by decide)
    (he : starEach (e :: es) X.env = (false, eval e X.env) :: starEach es X.env := by rfl) (hpl : (backTo pos (starEach es X.env)).any (·.1) = false := by rfl) : PE X (.Call (.Name x p) (e :: es) [] pos) (tE G C (.bi f ms)) :=
  (pe_callB hc hg hm hv ha hn hdb he hpl).mono fun _ _ _ h => bi_go hr hK h
theorem se_biT {f : Bi} {id : String} {es : List Expr} {ms : List ME} {r : PySem.W.Frag → List V → Hp → VK → Prop} {x : Str} (hr : BiS f r) (hc : CallR X (.type id) (r X.K)) (hK : X.K = G.K) (hg : Gl X x) (hm : X.mg x = none) (hv : bootBuiltins x = some (.type id)) (ha : PA X (e :: es) (tEs G C ms)) (hn : x ≠ "__name__" := by decide) (hdb : (x == ("__debug__" : Str)) = false := by decide)
    (he : starEach (e :: es) X.env = (false, eval e X.env) :: starEach es X.env := by rfl) (hpl : (backTo pos (starEach es X.env)).any (·.1) = false := by rfl) : PE X (.Call (.Name x p) (e :: es) [] pos) (tE G C (.bi f ms)) :=
  (pe_callTy hc hg hm hv ha hn hdb he hpl).mono fun _ _ _ h => bi_go hr hK h
end
end L2.Mi

set_option Elab.async false
set_option linter.all false
set_option maxRecDepth 100000
set_option maxHeartbeats 4000000
/-! Mini7: calls, isinstance, methods, subscripts, slices. -/
namespace L2.Mi
open PySem PySem.Spec PyProof.Rows

/-! ### calls of defs -/
/-- a def's promise: what the calls' function C tells -/
def spC (G : Gb) (C : CallF) (f n : Nat) : Sp := fun vs H Q _ => vs.length = n ∧ ∃ (A : Wd) (args : List MV) (r : MV) (mh' : MHp), A.H = H ∧ Sim G A ∧ Reps G A args vs ∧ C f args A.mh = some (r, mh') ∧ Post G A mh' r Q
structure FnC (P : Program) (w : World) (K : PySem.W.Frag) (mg : Str → Option Value) (base : Heap) (G : Gb) (C : CallF) (k f : Nat) (a : Addr) : Prop where
  ex : ∃ (fd : FuncData) (ps : List Str), FnOk P w K mg base CX0 k a fd ps (spC G C f ps.length) ∧ PySem.W.keepIn K (.ref a) = true ∧ Binds K fd ps [] ∧ ∀ args mh r, C f args mh = some r → args.length = ps.length
section
variable {G : Gb} {C : CallF} {X : Cx} {pos p : Pos} {e a b c : Expr} {ma mb mc m : ME} {k : Nat}
theorem call_go {f : Nat} {fa : Addr} {ms : List ME} {σ : L2.St} {H : Hp} {Q : VK} {n : Nat} (hl : ∀ args mh r, C f args mh = some r → args.length = n) (h : tE G C (.call f ms) σ H Q) : tCall (spC G C f n) [] E0 (tEs G C ms) σ H Q := by
  obtain ⟨A, ρ, v, mh', rfl, S, N, e, q⟩ := h
  simp only [ev] at e
  split at e
  · cases e
  rename_i xs mh1 e1
  refine tEs.go S N e1 fun B ys kB em SB _ r => ?_
  rw [List.append_nil]
  refine ⟨?_, B, xs, v, mh', rfl, SB, r, by rw [em]; exact e, Post.step q kB⟩
  rw [← r.len]
  exact hl _ _ _ e
theorem se_call {f : Nat} {fa : Addr} {x : Str} {es : List Expr} {ms : List ME} (F : FnC X.prog X.w X.K X.mg X.base G C k f fa) (hr : Room k X.A) (hg : Gl X x) (hm : X.mg x = some (.ref fa)) (ha : PA X (e :: es) (tEs G C ms))
    (hdb : (x == ("__debug__" : Str)) = false := by decide) (he : starEach (e :: es) X.env = (false, eval e X.env) :: starEach es X.env := by rfl) (hpl : (backTo pos (starEach es X.env)).any (·.1) = false := by rfl) :
    PE X (.Call (.Name x p) (e :: es) [] pos) (tE G C (.call f ms)) := by
  obtain ⟨fd, ps, F, hk, hb, hl⟩ := F.ex
  exact (pe_call F hr hg hm hk hb .nil pass0 ha hdb he hpl).mono fun σ H Q h => call_go (fa := fa) hl h
theorem se_call0 {f : Nat} {fa : Addr} {x : Str} (F : FnC X.prog X.w X.K X.mg X.base G C k f fa) (hr : Room k X.A) (hg : Gl X x) (hm : X.mg x = some (.ref fa))
    (hdb : (x == ("__debug__" : Str)) = false := by decide) : PE X (.Call (.Name x p) [] [] pos) (tE G C (.call f [])) := by
  obtain ⟨fd, ps, F, hk, hb, hl⟩ := F.ex
  refine (pe_call0 F hr hg hm hk hb .nil pass0 hdb).mono fun σ H Q h => ?_
  obtain ⟨A, ρ, v, mh', rfl, S, N, e, q⟩ := h
  simp only [ev, evs] at e
  exact ⟨(hl _ _ _ e : [].length = ps.length), A, [], v, mh', rfl, S, by unfold Reps; rfl, e, q⟩
/-- a call of what a name holds -/
theorem se_callv {i : Nat} {x : Str} {es : List Expr} {ms : List ME} (F : ∀ f fa, G.fa f = some fa → FnC X.prog X.w X.K X.mg X.base G C k f fa) (hr : Room k X.A) (hN : X.N[i]? = some x) (hv : Vis X.env.scope x) (ha : PA X (e :: es) (tEs G C ms))
    (hdb : (x == ("__debug__" : Str)) = false := by decide) (hcd : (x == ("__classdict__" : Str)) = false := by decide) (he : starEach (e :: es) X.env = (false, eval e X.env) :: starEach es X.env := by rfl) (hpl : (backTo pos (starEach es X.env)).any (·.1) = false := by rfl) :
    PE X (.Call (.Name x p) (e :: es) [] pos) (tE G C (.callv i ms)) := by
  refine ⟨fun pins s σ H Q I h => ?_⟩
  obtain ⟨A, ρ, v, mh', rfl, S, N, e, q⟩ := h
  simp only [ev] at e
  split at e
  · rename_i f hi
    split at e
    · cases e
    rename_i xs mh1 e1
    obtain ⟨y, hs, ry⟩ := N.2 i _ hi
    unfold Rep at ry
    obtain ⟨fa, hf, rfl⟩ := ry
    obtain ⟨fd, ps, F, hk, hb, hl⟩ := (F f fa hf).ex
    refine (pe_callL (E := E0) F hr hN hv hk hb .nil pass0 ha hdb hcd he hpl).run pins s σ A.H Q I ⟨hs, ?_⟩
    refine tEs.go S N e1 fun B ys kB em SB _ r => ?_
    rw [List.append_nil]
    refine ⟨?_, B, xs, v, mh', rfl, SB, r, by rw [em]; exact e, Post.step q kB⟩
    rw [← r.len]
    exact hl _ _ _ e
  · cases e
/-! ### isinstance -/
def tyN : Ty → String
  | .int => "int"
  | .bool => "bool"
  | .str => "str"
  | .tuple => "tuple"
  | .list => "list"
  | .dict => "dict"
def kindN : String → Ty → Bool
  | "bool", .bool => true
  | "bool", .int => true
  | "int", .int => true
  | "str", .str => true
  | "tuple", .tuple => true
  | "list", .list => true
  | "dict", .dict => true
  | _, _ => false
theorem kit_all {K : PySem.W.Frag} : ∀ n ∈ ["NoneType", "bool", "int", "str", "tuple", "list", "dict"], ∀ t : Ty, PySem.W.kitOne K (.type n) (.type (tyN t)) = some (kindN n t) := by
  intro n hn t
  simp only [List.mem_cons, List.not_mem_nil, or_false] at hn
  rcases hn with rfl | rfl | rfl | rfl | rfl | rfl | rfl <;> cases t <;> exact kit_ty (by decide +kernel)
theorem isTy_of {A : Wd} (S : Sim G A) {x : MV} {t : Ty} {b : Bool} {v : V} (e : isTy x t A.mh = some b) (r : Rep G A x v) : ∃ n, n ∈ ["NoneType", "bool", "int", "str", "tuple", "list", "dict"] ∧ TyX G.K A.H v (.type n) ∧ kindN n t = b := by
  have tupX : ∀ {xs : List MV}, Rep G A (.tup xs) v → TyX G.K A.H v (.type "tuple") := fun {xs} r => by
    obtain ⟨a, vs, rfl, h1, _⟩ := r.tup_
    rcases h1 with (h1 | ⟨o, h1⟩) | ⟨o, its, n, h1, h2, _⟩
    · exact .base (.tup h1)
    · exact .fTuple h1
    · exact .kTuple h1 h2
  cases x with
  | non => cases t <;> cases e <;> exact ⟨"NoneType", by decide, by rw [r.non_]; exact .base .non, rfl⟩
  | bl c => cases t <;> cases e <;> exact ⟨"bool", by decide, by rw [r.bl_]; exact .base (.bl _), rfl⟩
  | int i => cases t <;> cases e <;> exact ⟨"int", by decide, by rw [r.int_]; exact .base (.int _), rfl⟩
  | str s => cases t <;> cases e <;> exact ⟨"str", by decide, by rw [r.str_]; exact .base (.str _), rfl⟩
  | tup xs => cases t <;> cases e <;> exact ⟨"tuple", by decide, tupX r, rfl⟩
  | lst xs =>
    have hL : TyX G.K A.H v (.type "list") := by
      unfold Rep at r
      obtain ⟨a, vs, rfl, h1, _⟩ := r
      exact .base (.lst h1)
    cases t <;> cases e <;> exact ⟨"list", by decide, hL, rfl⟩
  | loc l =>
    simp only [isTy] at e
    split at e
    · rename_i ys hl
      obtain ⟨a, rfl, e2⟩ := r.loc_
      obtain ⟨vs, e3, r3⟩ := S.obj _ _ hl a e2
      cases t <;> cases e <;> exact ⟨"list", by decide, .base (.lst e3), rfl⟩
    · rename_i ys ks hl
      obtain ⟨a, rfl, e2⟩ := r.loc_
      obtain ⟨vs, e3, r3⟩ := S.obj _ _ hl a e2
      cases t <;> cases e <;> exact ⟨"dict", by decide, .base (.dK e3), rfl⟩
    · cases e
  | dct ks vs =>
    have hD : TyX G.K A.H v (.type "dict") := by
      unfold Rep at r
      obtain ⟨a, vs, rfl, h1 | ⟨o, h1⟩, _⟩ := r
      · exact .base (.dK h1)
      · exact .fDict h1
    cases t <;> cases e <;> exact ⟨"dict", by decide, hD, rfl⟩
  | fn f => cases t <;> cases e
  | scr ns => cases t <;> cases e
theorem se_isi {x y : Str} {p2 : Pos} {t : Ty} (hK : X.K = G.K) (hg : Gl X x) (hm : X.mg x = none) (hv : bootBuiltins x = some (.builtin "isinstance")) (hg2 : Gl X y) (hm2 : X.mg y = none) (hv2 : bootBuiltins y = some (.type (tyN t))) (ha : PE X e (tE G C m))
    (hn : x ≠ "__name__" := by decide) (hdb : (x == ("__debug__" : Str)) = false := by decide) (hn2 : y ≠ "__name__" := by decide) (hdb2 : (y == ("__debug__" : Str)) = false := by decide)
    (he : starEach [e, .Name y p2] X.env = (false, eval e X.env) :: starEach [.Name y p2] X.env := by rfl) (hpl : (backTo pos (starEach [.Name y p2] X.env)).any (·.1) = false := by rfl) :
    PE X (.Call (.Name x p) [e, .Name y p2] [] pos) (tE G C (.isi m t)) := by
  refine (pe_callB call_isi hg hm hv (pa_cons ha (pa_cons (pe_bltn (v := .ty (tyN t)) hg2 hm2 hv2 rfl hn2 hdb2) pa_nil) he) hn hdb he hpl).mono fun σ H Q h => ?_
  obtain ⟨A, ρ, v, mh', rfl, S, N, e, q⟩ := h
  simp only [ev] at e
  split at e
  · cases e
  rename_i z mh1 e1
  simp only [Option.map_eq_some_iff] at e
  obtain ⟨w, e3, e4⟩ := e
  cases e4
  refine tE.go S N e1 fun B vx kB em SB _ r => ?_
  obtain ⟨n, h1, h2, h3⟩ := isTy_of SB (by rw [em]; exact e3) r
  refine ⟨vx, .ty (tyN t), .type n, .type (tyN t), w, rfl, .ty _, by rw [hK]; exact h2, ?_, q B _ kB em SB (rep_bl w)⟩
  rw [← h3]
  exact kit_all n h1 t
/-! ### methods -/
/-- the receiver's kind -/
def meT : Me → String
  | .upper => "str"
  | .get2 => "dict"
  | .start2 => "str"
  | .join => "str"
  | _ => "list"
theorem tyM_of {A : Wd} (S : Sim G A) {x : MV} {mm : Me} {v : V} (e : tyM A.mh mm x = true) (r : Rep G A x v) (hg : mm ≠ .get2) : tyV G.K (meT mm) v A.H := by
  have lists : (liveL A.mh x).isSome = true → tyV G.K "list" v A.H := fun e => by
    obtain ⟨⟨l, xs⟩, e⟩ := Option.isSome_iff_exists.mp e
    obtain ⟨_, a, vs, _, rfl, h1, _⟩ := liveL_rep S e r
    exact .inl ⟨rfl, vs, SqL.of h1⟩
  cases mm with
  | append => exact lists e
  | extend => exact lists e
  | pop => exact lists e
  | popAt => exact lists e
  | upper =>
    cases x with
    | str s => rw [r.str_]; rfl
    | _ => cases e
  | get2 => exact absurd rfl hg
  | start2 =>
    cases x with
    | str s => rw [r.str_]; rfl
    | _ => cases e
  | join =>
    cases x with
    | str s => rw [r.str_]; rfl
    | _ => cases e
theorem ev_meth {mm : Me} {ms : List ME} {base : Nat} {ρ : Env} {mh mh' : MHp} {v : MV} (e : ev C base (.meth mm m ms) ρ mh = some (v, mh')) : ∃ x mh1 xs mh2, ev C base m ρ mh = some (x, mh1) ∧ tyM mh1 mm x = true ∧ evs C base ms ρ mh1 = some (xs, mh2) ∧ methV base mh2 mm x xs = some (v, mh') := by
  simp only [ev] at e
  split at e
  · cases e
  rename_i x mh1 e1
  split at e
  · rename_i ht
    split at e
    · cases e
    rename_i xs mh2 e2
    exact ⟨x, mh1, xs, mh2, e1, ht, e2, e⟩
  · cases e
theorem se_meth {mm : Me} {name : Str} {id : String} {apos cpos : Pos} {es : List Expr} {ms : List ME} {r : PySem.W.Frag → V → List V → Hp → VK → Prop} (hr : MeS mm r) (hK : X.K = G.K)
    (pa : PlainAttrs (meT mm)) (slot : Slot (meT mm) name id) (hty : typeOf (.builtin id) = pure (.type "method_descriptor")) (hm : MtR X id (r X.K)) (ho : PE X a (tE G C m)) (ha : PA X (e :: es) (tEs G C ms))
    (hbase : attributeBase a name X.env (eval a X.env) = eval a X.env := by rfl)
    (hfew : ((backTo cpos (starEach (e :: es) X.env)).all (fun x => !x.1) && (backToKw cpos (keywordEach [] X.env)).all (fun x => x.1.isSome)
      && decide ((e :: es).length + ([] : List Keyword).length + (if ([] : List Keyword).isEmpty then 0 else 1) < 30)) = true := by rfl)
    (hline : (apos.endLine == cpos.line) = true := by rfl) (hs : starEach (e :: es) X.env = (false, eval e X.env) :: starEach es X.env := by rfl) (hplain : (backTo cpos (starEach es X.env)).any (·.1) = false := by rfl)
    (hg : mm ≠ .get2 := by exact fun h => nomatch h) : PE X (.Call (.Attribute a name apos) (e :: es) [] cpos) (tE G C (.meth mm m ms)) := by
  refine (pe_bm pa slot hty hm ho ha hbase hfew hline hs hplain).mono fun σ H Q h => ?_
  obtain ⟨A, ρ, v, mh', rfl, S, N, e, q⟩ := h
  obtain ⟨x, mh1, xs, mh2, e1, ht, e2, e3⟩ := ev_meth e
  refine tE.go S N e1 fun B vx kB em SB NB rx => ⟨by rw [hK]; exact tyM_of SB (by rw [em]; exact ht) rx hg, ?_⟩
  refine tEs.go SB NB (evs.at kB em e2) fun B2 ys k2 em2 S2 _ r2 => ?_
  rw [hK]
  exact hr G B2 x xs v mh' vx ys Q S2 (by rw [(kB.trans k2).base, em2]; exact e3) (Rep.keep SB k2 _ _ rx) r2 (Post.step q (kB.trans k2))
theorem se_meth0 {mm : Me} {name : Str} {id : String} {apos cpos : Pos} {r : PySem.W.Frag → V → List V → Hp → VK → Prop} (hr : MeS mm r) (hK : X.K = G.K)
    (pa : PlainAttrs (meT mm)) (slot : Slot (meT mm) name id) (hty : typeOf (.builtin id) = pure (.type "method_descriptor")) (hm : MtR X id (r X.K)) (ho : PE X a (tE G C m))
    (hbase : attributeBase a name X.env (eval a X.env) = eval a X.env := by rfl) (hline : (apos.endLine == cpos.line) = true := by rfl)
    (hg : mm ≠ .get2 := by exact fun h => nomatch h) : PE X (.Call (.Attribute a name apos) [] [] cpos) (tE G C (.meth mm m [])) := by
  refine (pe_bm0 pa slot hty hm ho hbase hline).mono fun σ H Q h => ?_
  obtain ⟨A, ρ, v, mh', rfl, S, N, e, q⟩ := h
  obtain ⟨x, mh1, xs, mh2, e1, ht, e2, e3⟩ := ev_meth e
  simp only [evs] at e2
  cases e2
  refine tE.go S N e1 fun B vx kB em SB NB rx => ⟨by rw [hK]; exact tyM_of SB (by rw [em]; exact ht) rx hg, ?_⟩
  rw [hK]
  exact hr G B x [] v mh' vx [] Q SB (by rw [kB.base, em]; exact e3) rx (by unfold Reps; rfl) (Post.step q kB)
/-! ### subscripts, slices -/
theorem PE.or' {X : Cx} {e : Expr} {t t' : TE} (h : PE X e t) (h' : PE X e t') : PE X e (fun σ H Q => t σ H Q ∨ t' σ H Q) := ⟨fun pins s σ H Q I q => q.elim (h.run pins s σ H Q I) (h'.run pins s σ H Q I)⟩
theorem se_sub (hK : X.K = G.K) (hu : X.A.units + 65 < cLine) (ha : PE X a (tE G C ma)) (hb : PE X b (tE G C mb)) (hs : PlainIx b := by intro _ _; rfl) (hs2 : NoSl b := by intro _ _; rfl) : PE X (.Subscript a b pos) (tE G C (.sub ma mb)) := by
  refine (PE.or' (pe_ix ix_seq ha hb hs) (pe_dget (by omega) ha hb hs2)).mono fun σ H Q h => ?_
  obtain ⟨A, ρ, v, mh', rfl, S, N, e, q⟩ := h
  simp only [ev] at e
  split at e
  · cases e
  rename_i x mh1 e1
  split at e
  · cases e
  rename_i y mh2 e2
  simp only [Option.map_eq_some_iff] at e
  obtain ⟨w, e3, e4⟩ := e
  cases e4
  rcases subV_cases e3 with e3 | e3
  · refine .inl (tE.go S N e1 fun B vx kB em SB NB rx => tE.go SB NB (ev.at kB em e2) fun B2 vy k2 em2 S2 N2 ry => ?_)
    rw [hK]
    refine sub_of S2 (by rw [em2]; exact e3) (Rep.keep SB k2 _ _ rx) ry ?_
    rw [em2]
    exact Post.step q (kB.trans k2)
  · refine .inr (tE.go S N e1 fun B vx kB em SB NB rx => tE.go SB NB (ev.at kB em e2) fun B2 vy k2 em2 S2 N2 ry => ?_)
    refine subD_of' S2 (by rw [em2]; exact e3) (Rep.keep SB k2 _ _ rx) ry ?_
    rw [em2]
    exact Post.step q (kB.trans k2)
/-! d.get(k, x) -/
theorem se_get2 {apos cpos : Pos} {f : Expr} {mf : ME} (hu : X.A.units + 65 < cLine) (ho : PE X a (tE G C ma)) (he : PE X b (tE G C mb)) (hf : PE X f (tE G C mf))
    (h1 : attributeBase a "get" X.env (eval a X.env) = eval a X.env := by rfl)
    (h2 : ((backTo cpos (starEach [b, f] X.env)).all (fun x => !x.1) && (backToKw cpos (keywordEach [] X.env)).all (fun x => x.1.isSome) && decide (([b, f] : List Expr).length + ([] : List Keyword).length + (if ([] : List Keyword).isEmpty then 0 else 1) < 30)) = true := by rfl)
    (h3 : (apos.endLine == cpos.line) = true := by rfl) (h4 : backTo cpos (starEach [b, f] X.env) = [(false, eval b X.env), (false, eval f X.env)] := by rfl) :
    PE X (.Call (.Attribute a "get" apos) [b, f] [] cpos) (tE G C (.meth .get2 ma [mb, mf])) := by
  refine (pe_dget2 (by omega) ho he hf ⟨h1, h2, h3, h4⟩).mono fun σ H Q h => ?_
  obtain ⟨A, ρ, v, mh', rfl, S, N, e, q⟩ := h
  obtain ⟨x, mh1, xs, mh2, e1, ht, e2, e3⟩ := ev_meth e
  simp only [evs] at e2
  split at e2
  · cases e2
  rename_i y mh3 e4
  split at e2
  · cases e2
  rename_i zs mh4 e5
  split at e5
  · cases e5
  rename_i z mh5 e6
  cases e5
  cases e2
  obtain ⟨⟨ks, ms⟩, hd⟩ := Option.isSome_iff_exists.mp (show (getD mh1 x).isSome = true from ht)
  simp only [methV, getV] at e3
  split at e3
  · rename_i ls ns y' d' q1 q2
    cases q2
    simp only [Option.map_eq_some_iff] at e3
    obtain ⟨k, e7, e8⟩ := e3
    cases e8
    refine tE.go S N e1 fun B vx kB em SB NB rx => ?_
    obtain ⟨a', vs, rfl, hH, hl, r⟩ := getD_rep SB (by rw [em]; exact hd) rx
    refine ⟨a', rfl, .inl ⟨_, hH⟩, tE.go SB NB (ev.at kB em e4) fun B2 vy k2 em2 S2 N2 ry => tE.go S2 N2 (ev.at (kB.trans k2) em2 e6) fun B3 vz k3 em3 S3 N3 rz => ?_⟩
    have rx3 := Rep.keep S2 k3 _ _ (Rep.keep SB k2 _ _ rx)
    obtain ⟨a2, vs2, ea, hH2, hl2, r2⟩ := getD_rep S3 (by rw [em3]; exact q1) rx3
    cases ea
    have ry3 := Rep.keep S2 k3 _ _ ry
    refine ⟨_, .inl ⟨_, kOf k, hH2, kyV_rep e7 ry3, rfl⟩, ?_⟩
    cases q5 : dLook ls ns k with
    | some m =>
      obtain ⟨w, q6, q7⟩ := look_some hl2 r2 q5
      rw [q6]
      rw [q5] at q
      exact q B3 w ((kB.trans k2).trans k3) em3 S3 q7
    | none =>
      rw [look_none hl2 r2 q5]
      rw [q5] at q
      exact q B3 vz ((kB.trans k2).trans k3) em3 S3 rz
  · cases e3
theorem se_slcL {p2 : Pos} (hK : X.K = G.K) (ha : PE X a (tE G C ma)) (hb : PE X b (tE G C mb)) : PE X (.Subscript a (.Slice (some b) none none p2) pos) (tE G C (.slcL ma mb)) := by
  refine (pe_slice sl_ok ha (po_some hb) po_none).mono fun σ H Q h => ?_
  obtain ⟨A, ρ, v, mh', rfl, S, N, e, q⟩ := h
  simp only [ev] at e
  split at e
  · cases e
  rename_i x mh1 e1
  split at e
  · rename_i l mh2 e2
    simp only [Option.map_eq_some_iff] at e
    obtain ⟨w, e3, e4⟩ := e
    cases e4
    refine tE.go S N e1 fun B vx kB em SB NB rx => tE.go SB NB (ev.at kB em e2) fun B2 vy k2 em2 S2 N2 ry => ⟨l, ry.int_, ?_⟩
    show slR X.K vx (some l) none B2.H Q
    rw [hK]
    refine slc_of S2 (by rw [em2]; exact e3) (Rep.keep SB k2 _ _ rx) ?_
    rw [em2]
    exact Post.step q (kB.trans k2)
  · cases e
theorem se_slcH {p2 : Pos} (hK : X.K = G.K) (ha : PE X a (tE G C ma)) (hb : PE X b (tE G C mb)) : PE X (.Subscript a (.Slice none (some b) none p2) pos) (tE G C (.slcH ma mb)) := by
  refine (pe_slice sl_ok ha po_none (po_some hb)).mono fun σ H Q h => ?_
  obtain ⟨A, ρ, v, mh', rfl, S, N, e, q⟩ := h
  simp only [ev] at e
  split at e
  · cases e
  rename_i x mh1 e1
  split at e
  · rename_i l mh2 e2
    simp only [Option.map_eq_some_iff] at e
    obtain ⟨w, e3, e4⟩ := e
    cases e4
    refine tE.go S N e1 fun B vx kB em SB NB rx => ?_
    show tE G C mb σ B.H _
    refine tE.go SB NB (ev.at kB em e2) fun B2 vy k2 em2 S2 N2 ry => ⟨l, ry.int_, ?_⟩
    show slR X.K vx none (some l) B2.H Q
    rw [hK]
    refine slc_of S2 (by rw [em2]; exact e3) (Rep.keep SB k2 _ _ rx) ?_
    rw [em2]
    exact Post.step q (kB.trans k2)
  · cases e
theorem se_slcB {p2 : Pos} (hK : X.K = G.K) (ha : PE X a (tE G C ma)) (hb : PE X b (tE G C mb)) (hc : PE X c (tE G C mc)) : PE X (.Subscript a (.Slice (some b) (some c) none p2) pos) (tE G C (.slcB ma mb mc)) := by
  refine (pe_slice sl_ok ha (po_some hb) (po_some hc)).mono fun σ H Q h => ?_
  obtain ⟨A, ρ, v, mh', rfl, S, N, e, q⟩ := h
  simp only [ev] at e
  split at e
  · cases e
  rename_i x mh1 e1
  split at e
  · rename_i l mh2 e2
    split at e
    · rename_i l' mh3 e3'
      simp only [Option.map_eq_some_iff] at e
      obtain ⟨w, e3, e4⟩ := e
      cases e4
      refine tE.go S N e1 fun B vx kB em SB NB rx => tE.go SB NB (ev.at kB em e2) fun B2 vy k2 em2 S2 N2 ry => ⟨l, ry.int_, ?_⟩
      show tE G C mc σ B2.H _
      refine tE.go S2 N2 (ev.at (kB.trans k2) em2 e3') fun B3 vz k3 em3 S3 _ rz => ⟨l', rz.int_, ?_⟩
      show slR X.K vx (some l) (some l') B3.H Q
      rw [hK]
      refine slc_of S3 (by rw [em3]; exact e3) (Rep.keep S2 k3 _ _ (Rep.keep SB k2 _ _ rx)) ?_
      rw [em3]
      exact Post.step q ((kB.trans k2).trans k3)
    · cases e
  · cases e
end
end L2.Mi

set_option Elab.async false
set_option linter.all false
set_option maxRecDepth 100000
set_option maxHeartbeats 4000000
/-! Mini8: targets; what is walked. -/
namespace L2.Mi
open PySem PySem.Spec PyProof.Rows

/-! ### targets -/
mutual
def tgN : Tg → List Nat
  | .nm i => [i]
  | .tp ts => tgNs ts
def tgNs : List Tg → List Nat
  | [] => []
  | t :: ts => tgN t ++ tgNs ts
end
/-- only the names ns are set -/
def Off (ns : List Nat) (σ σ' : L2.St) : Prop := σ'.length = σ.length ∧ ∀ i, i ∉ ns → σ'[i]? = σ[i]?
theorem Off.refl {ns : List Nat} {σ : L2.St} : Off ns σ σ := ⟨rfl, fun _ _ => rfl⟩
theorem Off.trans {ns ms : List Nat} {σ σ' σ'' : L2.St} (h : Off ns σ σ') (h' : Off ms σ' σ'') : Off (ns ++ ms) σ σ'' :=
  ⟨h'.1.trans h.1, fun i hi => (h'.2 i fun z => hi (List.mem_append_right _ z)).trans (h.2 i fun z => hi (List.mem_append_left _ z))⟩
theorem wipe_get {σ : L2.St} : ∀ {vs : List Nat} {i : Nat}, i < σ.length → (L2.wipe σ vs)[i]? = if i ∈ vs then some none else σ[i]?
  | [], i, hi => by simp [L2.wipe]
  | v :: vs, i, hi => by
    unfold L2.wipe
    by_cases e : v = i
    · subst e
      rw [List.getElem?_set_self (by rw [L2.wipe_length]; exact hi)]
      simp
    · rw [List.getElem?_set_ne e, wipe_get hi]
      have e' : ¬ i = v := fun z => e z.symm
      simp [e']
theorem Off.wipe {ns own : List Nat} {σ σ' : L2.St} (h : Off ns σ σ') (hs : ∀ i ∈ ns, i ∈ own) : L2.wipe σ' own = L2.wipe σ own := by
  apply List.ext_getElem?
  intro i
  by_cases hi : i < σ.length
  · rw [wipe_get hi, wipe_get (by rw [h.1]; exact hi)]
    by_cases hm : i ∈ own
    · rw [if_pos hm, if_pos hm]
    · rw [if_neg hm, if_neg hm]
      exact h.2 i fun z => hm (hs i z)
  · rw [List.getElem?_eq_none (by rw [L2.wipe_length, h.1]; omega), List.getElem?_eq_none (by rw [L2.wipe_length]; omega)]
theorem wipe_wipe {σ : L2.St} {vs : List Nat} : L2.wipe (L2.wipe σ vs) vs = L2.wipe σ vs := by
  apply List.ext_getElem?
  intro i
  by_cases hi : i < σ.length
  · rw [wipe_get (by rw [L2.wipe_length]; exact hi), wipe_get hi]
    by_cases hm : i ∈ vs
    · rw [if_pos hm, if_pos hm]
    · rw [if_neg hm, if_neg hm]
  · rw [List.getElem?_eq_none (by rw [L2.wipe_length, L2.wipe_length]; omega), List.getElem?_eq_none (by rw [L2.wipe_length]; omega)]
def tG (G : Gb) (t : Tg) : TG := fun x σ H Q => ∃ (A : Wd) (ρ ρ' : Env) (v : MV), A.H = H ∧ Sim G A ∧ Envs G A ρ σ ∧ Rep G A v x ∧ asg A.mh t v ρ = some ρ' ∧ ∀ σ', Envs G A ρ' σ' → Off (tgN t) σ σ' → Q σ' H
def tGs (G : Gb) (ts : List Tg) : TGs := fun xs σ H Q => ∃ (A : Wd) (ρ ρ' : Env) (vs : List MV), A.H = H ∧ Sim G A ∧ Envs G A ρ σ ∧ Reps G A vs xs ∧ asgs A.mh ts vs ρ = some ρ' ∧ ∀ σ', Envs G A ρ' σ' → Off (tgNs ts) σ σ' → Q σ' H
theorem _root_.L2.PG.mono {X : Cx} {e : Expr} {t t' : TG} (h : PG X e t) (k : ∀ x σ H Q, t' x σ H Q → t x σ H Q) : PG X e t' := ⟨fun pins s σ H v u Q I r q => h.run pins s σ H v u Q I r (k _ _ _ _ q)⟩
theorem _root_.L2.PGs.mono {X : Cx} {e : List Expr} {t t' : TGs} (h : PGs X e t) (k : ∀ x σ H Q, t' x σ H Q → t x σ H Q) : PGs X e t' := ⟨fun pins s σ H v u Q I r q => h.run pins s σ H v u Q I r (k _ _ _ _ q)⟩
theorem _root_.L2.PI.mono {X : Cx} {tg e : Expr} {t t' : TI} (h : PI X tg e t) (k : ∀ σ H Q, t' σ H Q → t σ H Q) : PI X tg e t' := ⟨fun pins s σ H R I q => h.run pins s σ H R I (k _ _ _ q)⟩
section
variable {G : Gb} {C : CallF} {X : Cx} {pos p : Pos} {e a b c : Expr} {ma mb mc m : ME}
theorem sg_name {i : Nat} {x : Str} (hN : X.N.Nodup) (hi : X.N[i]? = some x) (hx : Loc X.env.scope x) (hf : X.fn x = true ∨ X.env.scope.names.lookup x = some .local := by first | exact .inl rfl | exact .inr rfl | assumption) : PG X (.Name x pos) (tG G (.nm i)) := by
  refine (pg_name hN hi hx hf).mono fun y σ H Q h => ?_
  obtain ⟨A, ρ, ρ', v, rfl, S, N, r, e, q⟩ := h
  simp only [asg] at e
  split at e
  · rename_i hl
    cases e
    refine q _ (N.set r i) ⟨by rw [List.length_set], fun j hj => ?_⟩
    have : i ≠ j := fun z => hj (by rw [z]; simp [tgN])
    rw [List.getElem?_set_ne this]
  · cases e
theorem sgs_nil : PGs X [] (tGs G []) := by
  refine pgs_nil.mono fun y σ H Q h => ?_
  obtain ⟨A, ρ, ρ', vs, rfl, S, N, r, e, q⟩ := h
  cases vs with
  | nil =>
    simp only [asgs] at e
    cases e
    unfold Reps at r
    exact ⟨r, q _ N Off.refl⟩
  | cons => simp only [asgs] at e; cases e
theorem sgs_cons {t : Tg} {ts : List Tg} {es : List Expr} (h1 : PG X e (tG G t)) (h2 : PGs X es (tGs G ts))
    (hs : (assignEach (e :: es) X.env).map (·.2) = assign e X.env :: (assignEach es X.env).map (·.2) := by rfl) : PGs X (e :: es) (tGs G (t :: ts)) := by
  refine (pgs_cons h1 h2 hs).mono fun y σ H Q h => ?_
  obtain ⟨A, ρ, ρ', vs, rfl, S, N, r, e, q⟩ := h
  cases vs with
  | nil => simp only [asgs] at e; cases e
  | cons v vs =>
    simp only [asgs] at e
    split at e
    · cases e
    rename_i ρ1 e1
    unfold Reps at r
    obtain ⟨x, xs, rfl, r1, r2⟩ := r
    refine ⟨x, xs, rfl, A, ρ, ρ1, v, rfl, S, N, r1, e1, fun σ1 N1 o1 => ⟨A, ρ1, ρ', vs, rfl, S, N1, r2, e, fun σ2 N2 o2 => q σ2 N2 ?_⟩⟩
    exact o1.trans o2
theorem asgs_len {mh : MHp} : ∀ {ts : List Tg} {vs : List MV} {ρ ρ' : Env}, asgs mh ts vs ρ = some ρ' → ts.length = vs.length
  | [], [], ρ, ρ', e => rfl
  | [], v :: vs, ρ, ρ', e => by simp only [asgs] at e; cases e
  | t :: ts, [], ρ, ρ', e => by simp only [asgs] at e; cases e
  | t :: ts, v :: vs, ρ, ρ', e => by
    simp only [asgs] at e
    split at e
    · cases e
    rw [List.length_cons, List.length_cons, asgs_len e]
theorem sg_tup {ts : List Tg} {es : List Expr} {k : Nat} (hK : X.K = G.K) (hc : X.calm = true) (h : PGs X es (tGs G ts)) (hl : ts.length = es.length := by rfl)
    (hn : (assignEach es X.env).length = es.length := by rfl) (hst : (assignEach es X.env).findIdx? (·.1) = none := by rfl) : PG X (.Tuple es k pos) (tG G (.tp ts)) := by
  refine (pg_tup hc h hn hst).mono fun y σ H Q h => ?_
  obtain ⟨A, ρ, ρ', v, rfl, S, N, r, e, q⟩ := h
  cases v with
  | tup vs =>
    simp only [asg] at e
    obtain ⟨a, xs, rfl, h1, h2⟩ := r.tup_
    refine ⟨a, xs, rfl, by rw [hK]; exact h1, by rw [← h2.len, ← asgs_len e, hl], A, ρ, ρ', vs, rfl, S, N, h2, e, q⟩
  | _ => simp only [asg] at e; cases e
end

/-! ### what is walked -/
structure Wk (G : Gb) (B : Wd) (J : Its) (I : L2.It) : Prop where
  go : ∀ D, Keep B D → Sim G D → J.ok D.mh → ∀ i, i < J.items.length → I.go i D.H
  stop : ∀ D, Keep B D → Sim G D → J.ok D.mh → I.stop J.items.length D.H
  yld : ∀ D, Keep B D → Sim G D → J.ok D.mh → ∀ i x H', i < J.items.length → I.yld i D.H x H' → ∃ E y, Keep D E ∧ E.mh = D.mh ∧ E.H = H' ∧ Sim G E ∧ J.items[i]? = some y ∧ Rep G E y x
def tI (G : Gb) (C : CallF) (m : ME) : TI := fun σ H R => ∃ (A : Wd) (ρ : Env) (J : Its) (mh' : MHp), A.H = H ∧ Sim G A ∧ Envs G A ρ σ ∧ evI C A.base m ρ A.mh = some (J, mh') ∧ ∀ B I, Keep A B → B.mh = mh' → Sim G B → Wk G B J I → R I B.H
section
variable {G : Gb} {C : CallF} {X : Cx} {tg : Expr} {pos p : Pos} {e a b c : Expr} {ma mb mc m : ME}
def iAny (K : PySem.W.Frag) (tl : TE) : TI := fun σ H R => tl σ H fun x H1 => (∃ a, x = .ref a ∧ (∃ xs, SqL K H1 a xs) ∧ R (Itl K a) H1) ∨ (∃ a, x = .ref a ∧ (∃ xs, SqT K H1 a xs) ∧ R (Itt K a) H1) ∨ (∃ z, x = .str z ∧ R (L2.Its z) H1) ∨ ∃ d kvs, x = .ref d ∧ ((∃ o, H1 d = some (.frz o (.dK kvs)) ∧ R (Itk d o kvs) H1) ∨ (H1 d = some (.dK kvs) ∧ ∀ o, R (Itk d o kvs) (upd H1 d (.frz o (.dK kvs)))))
theorem pi_any {l : Expr} {tl : TE} (hl : PE X l tl) : PI X tg l (iAny X.K tl) := by
  refine ⟨fun pins s σ H R I h => ?_⟩
  refine thn (hl.run pins s σ H _ I h) fun v s1 ⟨x, H1, I1, r1, q1⟩ => ?_
  rcases q1 with ⟨a, rfl, ⟨xs, hq⟩, q⟩ | ⟨a, rfl, ⟨xs, hq⟩, q⟩ | ⟨z, rfl, q⟩ | ⟨d, kvs, rfl, ⟨o, hd, q⟩ | ⟨hd, q⟩⟩
  · cases r1
    obtain ⟨its, _, p, _⟩ := I1.list hq
    exact wpAny_pyIter_list p.isList (pi_one (tk := s1.toks) I1 _ (turn_list a _) ⟨_, Heap.get?_push_size _ rfl, rfl, rfl⟩ q)
  · cases r1
    obtain ⟨its, _, p, _⟩ := I1.tuple hq
    exact wpAny_pyIter_tuple (show s1.heap.IsTuple a its.toArray from p) (pi_one (tk := s1.toks) I1 _ (turn_tuple a _) ⟨_, Heap.get?_push_size _ rfl, rfl, rfl⟩ q)
  · obtain ⟨t, rfl⟩ := r1
    cases ha : z.cps.all (· < 128)
    · exact wpAny_pyIter_wide ha (pi_one (tk := s1.toks) I1 _ (turn_str _ z t "str_iterator" (.inr rfl)) ⟨_, Heap.get?_push_size _ rfl, rfl, rfl⟩ q)
    · exact wpAny_pyIter_ascii ha (pi_one (tk := s1.toks) I1 _ (turn_str _ z t "str_ascii_iterator" (.inl rfl)) ⟨_, Heap.get?_push_size _ rfl, rfl, rfl⟩ q)
  · obtain rfl : v = Value.ref d := r1
    obtain ⟨a1, a2, a3, es, ep, vs, a4, a5, _, _⟩ := I1.frzK hd
    refine iter_keys a1 a2 a3 a4 (pi_one (tk := s1.toks) I1 _ (turn_keys _ a4) ⟨_, Heap.get?_push_size _ rfl, rfl, ?_⟩ q)
    rw [a5] <;> rfl
  · obtain rfl : v = Value.ref d := r1
    obtain ⟨o, I2⟩ := I1.lock hd trivial
    have hl : upd H1 d (.frz o (.dK kvs)) d = some (.frz o (.dK kvs)) := upd_same
    obtain ⟨a1, a2, a3, es, ep, vs, a4, a5, _, _⟩ := I2.frzK hl
    refine iter_keys a1 a2 a3 a4 (pi_one (tk := s1.toks) I2 _ (turn_keys _ a4) ⟨_, Heap.get?_push_size _ rfl, rfl, ?_⟩ (q o))
    rw [a5] <;> rfl
/-- what it walks, by the values at every later world -/
theorem wk_of {B : Wd} {J : Its} {I : L2.It} (W : ∀ D, Keep B D → Sim G D → J.ok D.mh → (∀ i, i < J.items.length → I.go i D.H) ∧ I.stop J.items.length D.H ∧ ∀ i x H', i < J.items.length → I.yld i D.H x H' → H' = D.H ∧ ∃ y, J.items[i]? = some y ∧ Rep G D y x) : Wk G B J I where
  go := fun D k S o => (W D k S o).1
  stop := fun D k S o => (W D k S o).2.1
  yld := fun D k S o i x H' hi y => by
    obtain ⟨e, z, h1, h2⟩ := (W D k S o).2.2 i x H' hi y
    exact ⟨D, z, Keep.refl D, rfl, e.symm, S, h1, h2⟩
theorem wk_list {B : Wd} {J : Its} {a : Addr} (h : ∀ D, Keep B D → Sim G D → J.ok D.mh → ∃ vs, D.H a = some (.lst vs) ∧ Reps G D J.items vs) : Wk G B J (Itl G.K a) := wk_of fun D k S o => by
  obtain ⟨vs, h1, h2⟩ := h D k S o
  have w := walk_list (K := G.K) (a := a) (xs := vs)
  refine ⟨fun i hi => w.goes i D.H (by rw [← h2.len]; exact hi) (SqL.of h1), by rw [h2.len]; exact w.stops D.H (SqL.of h1), fun i x H' hi y => ?_⟩
  obtain ⟨e1, e2⟩ := w.yields i D.H x H' (by rw [← h2.len]; exact hi) (SqL.of h1) y
  exact ⟨e1, _, List.getElem?_eq_getElem hi, h2.at (List.getElem?_eq_getElem hi) e2⟩
theorem wk_tup {B : Wd} {J : Its} {a : Addr} (h : ∀ D, Keep B D → Sim G D → J.ok D.mh → ∃ vs, SqT G.K D.H a vs ∧ Reps G D J.items vs) : Wk G B J (Itt G.K a) := wk_of fun D k S o => by
  obtain ⟨vs, h1, h2⟩ := h D k S o
  have w := walk_tup (K := G.K) (a := a) (xs := vs)
  refine ⟨fun i hi => w.goes i D.H (by rw [← h2.len]; exact hi) h1, by rw [h2.len]; exact w.stops D.H h1, fun i x H' hi y => ?_⟩
  obtain ⟨e1, e2⟩ := w.yields i D.H x H' (by rw [← h2.len]; exact hi) h1 y
  exact ⟨e1, _, List.getElem?_eq_getElem hi, h2.at (List.getElem?_eq_getElem hi) e2⟩
theorem wk_str {B : Wd} {s : Sx} : Wk G B ⟨s.map fun c => .str [c], none⟩ (L2.Its ⟨s.toArray⟩) := wk_of fun D k S o => by
  have w := walk_str (z := ⟨s.toArray⟩)
  have hl : (⟨s.map fun c => .str [c], none⟩ : Its).items.length = (⟨s.toArray⟩ : Str).cps.size := by simp
  refine ⟨fun i hi => w.goes i D.H (by rw [← hl]; exact hi) trivial, by rw [hl]; exact w.stops D.H trivial, fun i x H' hi y => ?_⟩
  obtain ⟨e1, c, e2, rfl⟩ := w.yields i D.H x H' (by rw [← hl]; exact hi) trivial y
  have e2' : s[i]? = some c := by simpa using e2
  exact ⟨e1, .str [c], by simp [e2'], rep_str [c]⟩
theorem wk_range {B : Wd} {lo : Int} {n : Nat} : Wk G B ⟨(List.range n).map fun (k : Nat) => .int (lo + (k : Int)), none⟩ (Itr lo n) := wk_of fun D k S o => by
  have w := walk_range (lo := lo) (n := n)
  have hl : (⟨(List.range n).map fun (k : Nat) => .int (lo + (k : Int)), none⟩ : Its).items.length = n := by simp
  refine ⟨fun i hi => w.goes i D.H (by rw [← hl]; exact hi) trivial, by rw [hl]; exact w.stops D.H trivial, fun i x H' hi y => ?_⟩
  obtain ⟨e1, rfl⟩ := w.yields i D.H x H' (by rw [← hl]; exact hi) trivial y
  have hi' : i < n := by rw [← hl]; exact hi
  exact ⟨e1, .int (lo + (i : Int)), by simp [hi'], rep_int _⟩
/-! a dict that is locked -/
theorem keep_lock {W : Wd} {d : Addr} {o : Obj} {kvs : List (Key × V)} (h : W.H d = some (.dK kvs)) (nx : d ∉ W.ex) : Keep W (W.up d (.frz o (.dK kvs))) := by
  refine ⟨fun _ h => h, fun _ h => .inl h, upd_dom, rfl, ⟨[], by simp⟩, fun a u e _ => ?_, fun a z => .inl z, fun a ha u e _ => by show upd W.H d _ a = _; rw [upd_ne fun z => nx (by rw [← z]; exact ha)]; exact e⟩
  by_cases ha : a = d
  · subst ha
    rw [h] at e
    cases e
    exact ⟨_, upd_same, .inr ⟨o, kvs, rfl, rfl⟩⟩
  · exact ⟨u, by show upd W.H d _ a = _; rw [upd_ne ha]; exact e, .inl rfl⟩
theorem Sim.lock {W : Wd} (S : Sim G W) {d : Addr} {o : Obj} {kvs : List (Key × V)} (h : W.H d = some (.dK kvs)) (n : ¬ W.live d ∧ d ∉ W.ex) : Sim G (W.up d (.frz o (.dK kvs))) where
  len := S.len
  ble := S.ble
  top := S.top
  obj := fun l u e a q => by
    refine (S.obj l u e a q).keep S (keep_lock h n.2) ?_
    exact upd_ne fun z => n.1 (by rw [← z]; exact ⟨l, u, e, q⟩)
  inj := S.inj
  exo := fun a ha => by
    obtain ⟨u, e, nt⟩ := S.exo a ha
    exact ⟨u, by show upd W.H d _ a = _; rw [upd_ne fun z => n.2 (by rw [← z]; exact ha)]; exact e, nt⟩
  exl := S.exl
  bnd := S.bnd
theorem wk_keys {B : Wd} {d : Addr} {o : Obj} {ks : List MKey} {vs : List V} (hl : ks.length = vs.length) (n : ¬ B.live d) (h : B.H d = some (.frz o (.dK ((ks.map kOf).zip vs)))) : Wk G B ⟨ks.map kM, none⟩ (Itk d o ((ks.map kOf).zip vs)) := wk_of fun D k S _ => by
  have hD := k.obj' h n (fun _ z => nomatch z)
  have hz : ((ks.map kOf).zip vs).length = ks.length := by rw [List.length_zip, List.length_map]; omega
  have hi : (⟨ks.map kM, none⟩ : Its).items.length = ks.length := by simp
  refine ⟨fun i hi' => ⟨hD, by rw [hz, ← hi]; exact hi'⟩, ⟨hD, by rw [hz, hi]; exact Nat.le_refl _⟩, fun i x H' hi' y => ?_⟩
  obtain ⟨e, k', v, e1, rfl⟩ := y
  refine ⟨e, ?_⟩
  rw [hi] at hi'
  have e2 : ks[i]? = some ks[i] := List.getElem?_eq_getElem hi'
  have e3 : ((ks.map kOf).zip vs)[i]? = some (kOf ks[i], vs[i]) := by
    rw [List.getElem?_zip_eq_some]
    exact ⟨by rw [List.getElem?_map, e2]; rfl, List.getElem?_eq_getElem (by omega)⟩
  rw [e3] at e1
  cases e1
  exact ⟨kM ks[i], by rw [List.getElem?_map, e2]; rfl, kM_rep _⟩
theorem wk_its {B : Wd} {v : MV} {x : V} {J : Its} {R : It → Hp → Prop} (S : Sim G B) (e : itsOf B.mh v = some J) (r : Rep G B v x) (q : ∀ B' I, Keep B B' → B'.mh = B.mh → Sim G B' → Wk G B' J I → R I B'.H) :
    (∃ a, x = .ref a ∧ (∃ xs, SqL G.K B.H a xs) ∧ R (Itl G.K a) B.H) ∨ (∃ a, x = .ref a ∧ (∃ xs, SqT G.K B.H a xs) ∧ R (Itt G.K a) B.H) ∨ (∃ z, x = .str z ∧ R (L2.Its z) B.H) ∨ ∃ d kvs, x = .ref d ∧ ((∃ o, B.H d = some (.frz o (.dK kvs)) ∧ R (Itk d o kvs) B.H) ∨ (B.H d = some (.dK kvs) ∧ ∀ o, R (Itk d o kvs) (upd B.H d (.frz o (.dK kvs))))) := by
  have q0 : ∀ I, Wk G B J I → R I B.H := fun I w => q B I (Keep.refl B) rfl S w
  cases v with
  | tup xs =>
    cases e
    obtain ⟨a, vs, rfl, h1, h2⟩ := r.tup_
    exact .inr (.inl ⟨a, rfl, ⟨vs, h1⟩, q0 _ (wk_tup fun D k SD o => ⟨vs, k.tup S h1, Reps.keep S k _ _ h2⟩)⟩)
  | lst xs =>
    cases e
    unfold Rep at r
    obtain ⟨a, vs, rfl, h1, h2, h3⟩ := r
    exact .inl ⟨a, rfl, ⟨vs, SqL.of h1⟩, q0 _ (wk_list fun D k SD o => ⟨vs, (k.off h1 h2 (fun _ z => nomatch z)).1, Reps.keep S k _ _ h3⟩)⟩
  | str s =>
    cases e
    rw [r.str_]
    exact .inr (.inr (.inl ⟨_, rfl, q0 _ wk_str⟩))
  | dct ks ms =>
    cases e
    unfold Rep at r
    obtain ⟨a, vs, rfl, h1, h2, h3, h4⟩ := r
    have hl : ks.length = vs.length := by rw [h3]; exact h4.len
    rcases h1 with h1 | ⟨o, h1⟩
    · exact .inr (.inr (.inr ⟨a, _, rfl, .inr ⟨h1, fun o => q (B.up a (.frz o _)) _ (keep_lock h1 h2.2) rfl (S.lock h1 h2) (wk_keys hl h2.1 upd_same)⟩⟩))
    · exact .inr (.inr (.inr ⟨a, _, rfl, .inl ⟨o, h1, q0 _ (wk_keys hl h2.1 h1)⟩⟩))
  | loc l =>
    simp only [itsOf] at e
    split at e
    · rename_i xs hl
      cases e
      obtain ⟨a, rfl, h1⟩ := r.loc_
      obtain ⟨vs, h2, _⟩ := S.obj l _ hl a h1
      refine .inl ⟨a, rfl, ⟨vs, SqL.of h2⟩, q0 _ (wk_list fun D k SD o => ?_)⟩
      have o' : D.mh[l]? = some (some (.lst xs)) := o
      obtain ⟨t, ht⟩ := k.pre
      exact SD.obj l _ o' a (by rw [ht]; exact pre_get h1)
    · cases e
  | _ => cases e
theorem si_any (hK : X.K = G.K) (h : PE X e (tE G C m)) (hm : ∀ base ρ mh, evI C base m ρ mh = match ev C base m ρ mh with
    | none => none
    | some (v, mh1) => (itsOf mh1 v).map (·, mh1) := by intros; simp only [evI] <;> rfl) : PI X tg e (tI G C m) := by
  refine (pi_any h).mono fun σ H R h => ?_
  obtain ⟨A, ρ, J, mh', rfl, S, N, e, q⟩ := h
  rw [hm] at e
  split at e
  · cases e
  rename_i v mh1 e1
  simp only [Option.map_eq_some_iff] at e
  obtain ⟨J', e2, e3⟩ := e
  cases e3
  refine tE.go S N e1 fun B x k em SB NB r => ?_
  rw [hK]
  exact wk_its SB (by rw [em]; exact e2) r fun B' I k' em' SB' w => q B' I (k.trans k') (em'.trans em) SB' w
theorem si_range1 (hg : Gl X "range") (hm : X.mg "range" = none) (ha : PE X a (tE G C ma)) (hs : starEach [a] X.env = [(false, eval a X.env)] := by rfl) : PI X tg (.Call (.Name "range" p) [a] [] pos) (tI G C (.rng1 ma)) := by
  refine (pi_range1 hg hm (sa_cons ha sa_nil hs) hs).mono fun σ H R h => ?_
  obtain ⟨A, ρ, J, mh', rfl, S, N, e, q⟩ := h
  simp only [evI] at e
  split at e
  · rename_i n mh1 e1
    split at e
    · rename_i hn
      cases e
      refine tEs.go (vs := [.int n]) (mh1 := mh') S N (by simp only [evs, e1]) fun B xs k em SB NB r => ?_
      unfold Reps at r
      obtain ⟨v, r', rfl, r1, r2⟩ := r
      unfold Reps at r2
      subst r2
      refine ⟨n, by rw [r1.int_], hn.1, hn.2, q B _ k em SB ?_⟩
      have w := wk_range (G := G) (B := B) (lo := 0) (n := n.toNat)
      simpa using w
    · cases e
  · cases e
theorem si_range2 (hg : Gl X "range") (hm : X.mg "range" = none) (ha : PE X a (tE G C ma)) (hb : PE X b (tE G C mb)) (hs : starEach [a, b] X.env = [(false, eval a X.env), (false, eval b X.env)] := by rfl) (hs2 : starEach [b] X.env = [(false, eval b X.env)] := by rfl) : PI X tg (.Call (.Name "range" p) [a, b] [] pos) (tI G C (.rng2 ma mb)) := by
  refine (pi_range2 hg hm (sa_cons ha (sa_cons hb sa_nil hs2) (by rw [hs, hs2])) hs hs2).mono fun σ H R h => ?_
  obtain ⟨A, ρ, J, mh', rfl, S, N, e, q⟩ := h
  simp only [evI] at e
  split at e
  · rename_i i mh1 e1
    split at e
    · rename_i j mh2 e2
      split at e
      · rename_i hn
        cases e
        refine tEs.go (vs := [.int i, .int j]) (mh1 := mh') S N (by simp only [evs, e1, e2]) fun B xs k em SB NB r => ?_
        unfold Reps at r
        obtain ⟨v, r', rfl, r1, r2⟩ := r
        unfold Reps at r2
        obtain ⟨w, r'', rfl, r3, r4⟩ := r2
        unfold Reps at r4
        subst r4
        exact ⟨i, j, by rw [r1.int_, r3.int_], hn, q B _ k em SB wk_range⟩
      · cases e
    · cases e
  · cases e
end
end L2.Mi

set_option Elab.async false
set_option linter.all false
set_option maxRecDepth 100000
set_option maxHeartbeats 4000000
/-! Mini9: comprehensions. -/
namespace L2.Mi
open PySem PySem.Spec PyProof.Rows

/-! ### a hidden new list -/
theorem put_live {W : Wd} {p : Addr} {o : HO} {a : Addr} : (W.up p o).live a ↔ W.live a := Iff.rfl
mutual
theorem Rep.put {G : Gb} {W : Wd} (S : Sim G W) {p : Addr} (hp : p ∈ W.ex) {o : HO} : ∀ (x : MV) (v : V), Rep G W x v → Rep G (W.up p o) x v
  | .non, v, h => h
  | .bl b, v, h => h
  | .int i, v, h => h
  | .str s, v, h => h
  | .fn f, v, h => h
  | .tup xs, v, h => by
    unfold Rep at h ⊢
    obtain ⟨a, vs, e, h1, h2⟩ := h
    refine ⟨a, vs, e, SqT_cases h1 fun u e' n => ?_, Reps.put S hp xs vs h2⟩
    obtain ⟨w, e9, n9⟩ := S.exo p hp
    have : a ≠ p := fun z => by subst z; rw [e'] at e9; cases e9; exact n n9
    show upd W.H p o a = _
    rw [upd_ne this]; exact e'
  | .lst xs, v, h => by
    unfold Rep at h ⊢
    obtain ⟨a, vs, e, h1, h2, h3⟩ := h
    have : a ≠ p := fun z => h2.2 (by rw [z]; exact hp)
    exact ⟨a, vs, e, by show upd W.H p o a = _; rw [upd_ne this]; exact h1, h2, Reps.put S hp xs vs h3⟩
  | .dct ks ms, v, h => by
    unfold Rep at h ⊢
    obtain ⟨a, vs, e, h1, h2, h3, h4⟩ := h
    have : a ≠ p := fun z => h2.2 (by rw [z]; exact hp)
    exact ⟨a, vs, e, by show Rd (upd W.H p o) a _; unfold Rd; rw [upd_ne this]; exact h1, h2, h3, Reps.put S hp ms vs h4⟩
  | .loc l, v, h => h
  | .scr ns, v, h => by
    unfold Rep at h ⊢
    obtain ⟨a, e, h1⟩ := h
    refine ⟨a, e, ?_⟩
    rcases h1 with ⟨h1, h2⟩ | h1
    · have : a ≠ p := fun z => h2.2 (by rw [z]; exact hp)
      refine .inl ⟨?_, h2⟩
      rcases h1 with h1 | ⟨o', h1⟩
      · exact .inl (by show upd W.H p o a = _; rw [upd_ne this]; exact h1)
      · exact .inr ⟨o', by show upd W.H p o a = _; rw [upd_ne this]; exact h1⟩
    · exact .inr h1
theorem Reps.put {G : Gb} {W : Wd} (S : Sim G W) {p : Addr} (hp : p ∈ W.ex) {o : HO} : ∀ (xs : List MV) (vs : List V), Reps G W xs vs → Reps G (W.up p o) xs vs
  | [], vs, h => h
  | x :: xs, vs, h => by
    unfold Reps at h ⊢
    obtain ⟨v, r, e, h1, h2⟩ := h
    exact ⟨v, r, e, Rep.put S hp x v h1, Reps.put S hp xs r h2⟩
end
theorem ORep.put {G : Gb} {W : Wd} (S : Sim G W) {p : Addr} (hp : p ∈ W.ex) {o : HO} {u : MO} {a : Addr} (h : ORep G W u a) (hn : a ≠ p) : ORep G (W.up p o) u a := by
  cases u with
  | lst xs =>
    obtain ⟨vs, q, r⟩ := h
    exact ⟨vs, by show upd W.H p o a = _; rw [upd_ne hn]; exact q, Reps.put S hp _ _ r⟩
  | dct ks ms =>
    obtain ⟨vs, q, l, r⟩ := h
    exact ⟨vs, by show upd W.H p o a = _; rw [upd_ne hn]; exact q, l, Reps.put S hp _ _ r⟩
theorem Sim.put {G : Gb} {W : Wd} (S : Sim G W) {p : Addr} (hp : p ∈ W.ex) {o : HO} (nt : NoTup o) : Sim G (W.up p o) where
  len := S.len
  ble := S.ble
  top := S.top
  obj := fun l u e a q => (S.obj l u e a q).put S hp fun z => S.exl p hp ⟨l, u, e, by rw [← z]; exact q⟩
  inj := S.inj
  exo := fun a ha => by
    by_cases e : a = p
    · subst e; exact ⟨o, upd_same, nt⟩
    · obtain ⟨u, e1, n⟩ := S.exo a ha
      exact ⟨u, by show upd W.H p o a = _; rw [upd_ne e]; exact e1, n⟩
  exl := S.exl
  bnd := S.bnd
theorem keep_put {B D : Wd} (k : Keep B D) {p : Addr} (hp : B.H p = none) {o : HO} : Keep B (D.up p o) where
  ex := k.ex
  exn := k.exn
  dom := fun a h => upd_dom a (k.dom a h)
  bs := k.bs
  pre := k.pre
  obj := fun a u e n => by
    show ∃ u', upd D.H p o a = some u' ∧ _
    rw [upd_ne (ne_of_none e hp)]
    exact k.obj a u e n
  liv := k.liv
  exk := fun a ha u e n => by
    show upd D.H p o a = _
    rw [upd_ne (ne_of_none e hp)]
    exact k.exk a ha u e n
/-- a new list is hidden -/
abbrev Wd.hid (W : Wd) (p : Addr) (o : HO) : Wd := { W with H := upd W.H p o, ex := p :: W.ex }
theorem keep_hid {W : Wd} {p : Addr} {o : HO} (h : W.H p = none) : Keep W (W.hid p o) where
  ex := fun a h => List.mem_cons_of_mem _ h
  exn := fun a ha => by
    rcases List.mem_cons.mp ha with rfl | ha
    · exact .inr h
    · exact .inl ha
  dom := upd_dom
  bs := rfl
  pre := ⟨[], by simp⟩
  obj := fun a u e _ => ⟨u, by show upd W.H p o a = _; rw [upd_ne (ne_of_none e h)]; exact e, .inl rfl⟩
  liv := fun a z => .inl z
  exk := fun a _ u e _ => by show upd W.H p o a = _; rw [upd_ne (ne_of_none e h)]; exact e
theorem Sim.hid {G : Gb} {W : Wd} (S : Sim G W) {p : Addr} {o : HO} (h : W.H p = none) (nt : NoTup o) : Sim G (W.hid p o) where
  len := S.len
  ble := S.ble
  top := S.top
  obj := fun l u e a q => by
    have r := S.obj l u e a q
    refine r.keep S (keep_hid h) ?_
    obtain ⟨v, e', _⟩ := r.at
    exact upd_ne (ne_of_none e' h)
  inj := S.inj
  exo := fun a ha => by
    rcases List.mem_cons.mp ha with rfl | ha
    · exact ⟨o, upd_same, nt⟩
    · obtain ⟨u, e, n⟩ := S.exo a ha
      exact ⟨u, by show upd W.H p o a = _; rw [upd_ne (ne_of_none e h)]; exact e, n⟩
  exl := fun a ha => by
    rcases List.mem_cons.mp ha with rfl | ha
    · exact (off_new S h).1
    · exact S.exl a ha
  bnd := S.bnd
/-- the hidden ones come out -/
abbrev Wd.out (W : Wd) (ex : List Addr) : Wd := { W with ex := ex }
mutual
theorem Rep.out {G : Gb} {W : Wd} {ex : List Addr} (hx : ∀ a ∈ ex, a ∈ W.ex) : ∀ (x : MV) (v : V), Rep G W x v → Rep G (W.out ex) x v
  | .non, v, h => h
  | .bl b, v, h => h
  | .int i, v, h => h
  | .str s, v, h => h
  | .fn f, v, h => h
  | .tup xs, v, h => by
    unfold Rep at h ⊢
    obtain ⟨a, vs, e, h1, h2⟩ := h
    exact ⟨a, vs, e, h1, Reps.out hx xs vs h2⟩
  | .lst xs, v, h => by
    unfold Rep at h ⊢
    obtain ⟨a, vs, e, h1, h2, h3⟩ := h
    exact ⟨a, vs, e, h1, ⟨h2.1, fun z => h2.2 (hx a z)⟩, Reps.out hx xs vs h3⟩
  | .dct ks ms, v, h => by
    unfold Rep at h ⊢
    obtain ⟨a, vs, e, h1, h2, h3, h4⟩ := h
    exact ⟨a, vs, e, h1, ⟨h2.1, fun z => h2.2 (hx a z)⟩, h3, Reps.out hx ms vs h4⟩
  | .loc l, v, h => h
  | .scr ns, v, h => by
    unfold Rep at h ⊢
    obtain ⟨a, e, h1⟩ := h
    refine ⟨a, e, ?_⟩
    rcases h1 with ⟨h1, h2⟩ | h1
    · exact .inl ⟨h1, h2.1, fun z => h2.2 (hx a z)⟩
    · exact .inr h1
theorem Reps.out {G : Gb} {W : Wd} {ex : List Addr} (hx : ∀ a ∈ ex, a ∈ W.ex) : ∀ (xs : List MV) (vs : List V), Reps G W xs vs → Reps G (W.out ex) xs vs
  | [], vs, h => h
  | x :: xs, vs, h => by
    unfold Reps at h ⊢
    obtain ⟨v, r, e, h1, h2⟩ := h
    exact ⟨v, r, e, Rep.out hx x v h1, Reps.out hx xs r h2⟩
end
theorem Sim.out {G : Gb} {W : Wd} (S : Sim G W) {ex : List Addr} (hx : ∀ a ∈ ex, a ∈ W.ex) : Sim G (W.out ex) where
  len := S.len
  ble := S.ble
  top := S.top
  obj := fun l u e a q => by
    have r := S.obj l u e a q
    cases u with
    | lst xs => obtain ⟨vs, q, r⟩ := r; exact ⟨vs, q, Reps.out hx _ _ r⟩
    | dct ks ms => obtain ⟨vs, q, l, r⟩ := r; exact ⟨vs, q, l, Reps.out hx _ _ r⟩
  inj := S.inj
  exo := fun a ha => S.exo a (hx a ha)
  exl := fun a ha => S.exl a (hx a ha)
  bnd := S.bnd
theorem keep_out {B D : Wd} (k : Keep B D) : Keep B (D.out B.ex) where
  ex := fun a h => h
  exn := fun a h => .inl h
  dom := k.dom
  bs := k.bs
  pre := k.pre
  obj := k.obj
  liv := k.liv
  exk := k.exk
/-- a hidden list comes out as a live one -/
abbrev Wd.fix (W : Wd) (p : Addr) (xs : List MV) (ex : List Addr) : Wd := { W with ex := ex, β := W.β ++ [p], mh := W.mh ++ [some (.lst xs)] }
theorem fix_live {G : Gb} {W : Wd} (S : Sim G W) {p : Addr} {xs : List MV} {ex : List Addr} {a : Addr} (h : (W.fix p xs ex).live a) : W.live a ∨ a = p := by
  obtain ⟨l, o, e1, e2⟩ := h
  have e2' : (W.β ++ [p])[l]? = some a := e2
  rcases app_get e1 with e1 | ⟨rfl, _⟩
  · have hl : l < W.β.length := by rw [S.len]; exact (List.getElem?_eq_some_iff.mp e1).1
    rw [List.getElem?_append_left hl] at e2'
    exact .inl ⟨l, o, e1, e2'⟩
  · rw [← S.len, List.getElem?_append_right (Nat.le_refl _)] at e2'
    simp at e2'
    exact .inr e2'.symm
mutual
theorem Rep.fix {G : Gb} {W : Wd} (S : Sim G W) {p : Addr} (hp : p ∈ W.ex) {ys : List MV} {ex : List Addr} (hx : ∀ a ∈ ex, a ∈ W.ex) : ∀ (x : MV) (v : V), Rep G W x v → Rep G (W.fix p ys ex) x v
  | .non, v, h => h
  | .bl b, v, h => h
  | .int i, v, h => h
  | .str s, v, h => h
  | .fn f, v, h => h
  | .tup xs, v, h => by
    unfold Rep at h ⊢
    obtain ⟨a, vs, e, h1, h2⟩ := h
    exact ⟨a, vs, e, h1, Reps.fix S hp hx xs vs h2⟩
  | .lst xs, v, h => by
    unfold Rep at h ⊢
    obtain ⟨a, vs, e, h1, h2, h3⟩ := h
    exact ⟨a, vs, e, h1, ⟨fun z => (fix_live S z).elim h2.1 fun z => h2.2 (by rw [z]; exact hp), fun z => h2.2 (hx a z)⟩, Reps.fix S hp hx xs vs h3⟩
  | .dct ks ms, v, h => by
    unfold Rep at h ⊢
    obtain ⟨a, vs, e, h1, h2, h3, h4⟩ := h
    exact ⟨a, vs, e, h1, ⟨fun z => (fix_live S z).elim h2.1 fun z => h2.2 (by rw [z]; exact hp), fun z => h2.2 (hx a z)⟩, h3, Reps.fix S hp hx ms vs h4⟩
  | .loc l, v, h => by
    unfold Rep at h ⊢
    obtain ⟨a, e, h1⟩ := h
    exact ⟨a, e, pre_get h1⟩
  | .scr ns, v, h => by
    unfold Rep at h ⊢
    obtain ⟨a, e, h1⟩ := h
    refine ⟨a, e, ?_⟩
    rcases h1 with ⟨h1, h2⟩ | h1
    · exact .inl ⟨h1, fun z => (fix_live S z).elim h2.1 fun z => h2.2 (by rw [z]; exact hp), fun z => h2.2 (hx a z)⟩
    · exact .inr h1
theorem Reps.fix {G : Gb} {W : Wd} (S : Sim G W) {p : Addr} (hp : p ∈ W.ex) {ys : List MV} {ex : List Addr} (hx : ∀ a ∈ ex, a ∈ W.ex) : ∀ (xs : List MV) (vs : List V), Reps G W xs vs → Reps G (W.fix p ys ex) xs vs
  | [], vs, h => h
  | x :: xs, vs, h => by
    unfold Reps at h ⊢
    obtain ⟨v, r, e, h1, h2⟩ := h
    exact ⟨v, r, e, Rep.fix S hp hx x v h1, Reps.fix S hp hx xs r h2⟩
end
theorem fix_get {G : Gb} {W : Wd} (S : Sim G W) {p : Addr} {ys : List MV} {l : Nat} {o : MO} {a : Addr} (e : (W.mh ++ [some (.lst ys)])[l]? = some (some o)) (q : (W.β ++ [p])[l]? = some a) :
    (W.mh[l]? = some (some o) ∧ W.β[l]? = some a) ∨ (l = W.mh.length ∧ o = .lst ys ∧ a = p) := by
  rcases app_get e with e | ⟨rfl, e9⟩
  · have hl : l < W.β.length := by rw [S.len]; exact (List.getElem?_eq_some_iff.mp e).1
    rw [List.getElem?_append_left hl] at q
    exact .inl ⟨e, q⟩
  · rw [← S.len, List.getElem?_append_right (Nat.le_refl _)] at q
    simp at q
    exact .inr ⟨rfl, Option.some.inj e9, q.symm⟩
theorem Sim.fix {G : Gb} {W : Wd} (S : Sim G W) {p : Addr} (hp : p ∈ W.ex) {ys : List MV} {vs : List V} {ex : List Addr} (hx : ∀ a ∈ ex, a ∈ W.ex) (hpx : p ∉ ex) (e : W.H p = some (HO.lst vs)) (r : Reps G W ys vs) : Sim G (W.fix p ys ex) where
  len := by show (W.β ++ [p]).length = (W.mh ++ [some (MO.lst ys)]).length; rw [List.length_append, List.length_append, S.len]; rfl
  ble := fun b hb => by show b ≤ (W.mh ++ [some (MO.lst ys)]).length; rw [List.length_append]; exact Nat.le_trans (S.ble b hb) (Nat.le_add_right _ _)
  top := S.top
  obj := fun l u e' a q => by
    rcases fix_get S e' q with ⟨e1, q1⟩ | ⟨_, rfl, rfl⟩
    · have r := S.obj l u e1 a q1
      cases u with
      | lst xs => obtain ⟨ws, q, r⟩ := r; exact ⟨ws, q, Reps.fix S hp hx _ _ r⟩
      | dct ks ms => obtain ⟨ws, q, l, r⟩ := r; exact ⟨ws, q, l, Reps.fix S hp hx _ _ r⟩
    · exact ⟨vs, e, Reps.fix S hp hx _ _ r⟩
  inj := fun l1 l2 c o1 o2 e1 e2 q1 q2 => by
    rcases fix_get S e1 q1 with ⟨a1, a2⟩ | ⟨a1, _, a2⟩
    · rcases fix_get S e2 q2 with ⟨b1, b2⟩ | ⟨b1, _, b2⟩
      · exact S.inj l1 l2 c _ _ a1 b1 a2 b2
      · exact absurd ⟨l1, o1, a1, by rw [← b2]; exact a2⟩ (S.exl p hp)
    · rcases fix_get S e2 q2 with ⟨b1, b2⟩ | ⟨b1, _, b2⟩
      · exact absurd ⟨l2, o2, b1, by rw [← a2]; exact b2⟩ (S.exl p hp)
      · rw [a1, b1]
  exo := fun a ha => S.exo a (hx a ha)
  exl := fun a ha z => (fix_live S z).elim (S.exl a (hx a ha)) fun z => hpx (by rw [← z]; exact ha)
  bnd := fun b hb l w hl e' => by
    rcases app_get e' with e' | ⟨rfl, _⟩
    · exact S.bnd b hb l w hl e'
    · exact absurd (Nat.lt_of_lt_of_le hl (S.ble b hb)) (Nat.lt_irrefl _)
theorem keep_fix {G : Gb} {B D : Wd} (S : Sim G D) (k : Keep B D) {p : Addr} {ys : List MV} (hp : B.H p = none) : Keep B (D.fix p ys B.ex) where
  ex := fun a h => h
  exn := fun a h => .inl h
  dom := k.dom
  bs := k.bs
  pre := by
    obtain ⟨t, e⟩ := k.pre
    exact ⟨t ++ [p], by show D.β ++ [p] = _; rw [e, List.append_assoc]⟩
  obj := k.obj
  liv := fun a z => (fix_live S z).elim (k.liv a) fun z => .inr (by rw [z]; exact hp)
  exk := k.exk

/-! ### the comprehension -/
noncomputable def compF (C : CallF) (base : Nat) (t : Tg) (own : List Nat) (mc me : ME) (ρ : Env) : MV → MHp → Option (Option MV × MHp) := fun x mh2 => match asg mh2 t x (wipeE ρ own) with
  | none => none
  | some ρ' => match ev C base mc ρ' mh2 with
    | some (.bl true, mh3) => match ev C base me ρ' mh3 with
      | none => none
      | some (y, mh4) => some (some y, mh4)
    | some (.bl false, mh3) => some (none, mh3)
    | _ => none
section
variable {G : Gb} {C : CallF} {X : Cx} {pos p : Pos} {mc me mi m : ME} {t : Tg} {own : List Nat}
theorem ev_comp {base : Nat} {ρ : Env} {mh mh' : MHp} {v : MV} (e : ev C base (.comp t own mi mc me) ρ mh = some (v, mh')) : ∃ J mh1 ys, evI C base mi ρ mh = some (J, mh1) ∧ J.items.length ≤ line ∧ compGo J (compF C base t own mc me ρ) J.items mh1 = some (ys, mh') ∧ v = .lst ys := by
  simp only [ev] at e
  split at e
  · cases e
  rename_i J mh1 e1
  split at e
  · rename_i hl
    split at e
    · cases e
    rename_i ys mh5 e2
    cases e
    exact ⟨J, mh1, ys, e1, hl, e2, rfl⟩
  · cases e
theorem compF_of {base : Nat} {ρ : Env} {mh mh' : MHp} {x : MV} {r : Option MV} (e : compF C base t own mc me ρ x mh = some (r, mh')) : ∃ ρ' c mh3, asg mh t x (wipeE ρ own) = some ρ' ∧ ev C base mc ρ' mh = some (.bl c, mh3) ∧
    ((c = true ∧ ∃ y, ev C base me ρ' mh3 = some (y, mh') ∧ r = some y) ∨ (c = false ∧ mh' = mh3 ∧ r = none)) := by
  unfold compF at e
  split at e
  · cases e
  rename_i ρ' e1
  split at e
  · rename_i mh3 e2
    split at e
    · cases e
    rename_i y mh4 e3
    cases e
    exact ⟨ρ', true, mh3, e1, e2, .inl ⟨rfl, y, e3, rfl⟩⟩
  · rename_i mh3 e2
    cases e
    exact ⟨ρ', false, _, e1, e2, .inr ⟨rfl, rfl, rfl⟩⟩
  · cases e
theorem compGo_nil {J : Its} {f : MV → MHp → Option (Option MV × MHp)} {mh mh' : MHp} {ys : List MV} (e : compGo J f [] mh = some (ys, mh')) : J.ok mh ∧ ys = [] ∧ mh' = mh := by
  unfold compGo at e
  split at e
  · cases e; exact ⟨by assumption, rfl, rfl⟩
  · cases e
theorem compGo_cons {J : Its} {f : MV → MHp → Option (Option MV × MHp)} {x : MV} {xs : List MV} {mh mh' : MHp} {ys : List MV} (e : compGo J f (x :: xs) mh = some (ys, mh')) : J.ok mh ∧ ∃ r mh1 rs, f x mh = some (r, mh1) ∧ compGo J f xs mh1 = some (rs, mh') ∧ ys = r.toList ++ rs := by
  unfold compGo at e
  split at e
  · rename_i ho
    split at e
    · cases e
    rename_i r mh1 e1
    split at e
    · cases e
    rename_i rs mh2 e2
    cases e
    exact ⟨ho, r, mh1, rs, e1, e2, rfl⟩
  · cases e
theorem lc_loop {B : Wd} {ρ : Env} {σ : L2.St} {J : Its} {I : L2.It} {ys : List MV} {mh5 : MHp} {Q : Hp → Prop} (hown : ∀ i ∈ tgN t, i ∈ own) (SB : Sim G B) (NB : Envs G B ρ σ) (wk : Wk G B J I) (hl : J.items.length ≤ line)
    (hc : compGo J (compF C B.base t own mc me ρ) J.items B.mh = some (ys, mh5)) {p : Addr} (hp : B.H p = none)
    (fin : ∀ D vs, Keep B D → Sim G D → p ∈ D.ex → D.mh = mh5 → D.H p = some (.lst vs) → Reps G D ys vs → Q D.H) :
    ∃ W : Nat → Nat → Hp → Prop, (∃ m, W 0 m (upd B.H p (.lst []))) ∧ ∀ i m H, W i m H →
  (I.stop i H ∧ Q H) ∨ (I.go i H ∧ ∃ Nx : Hp → Prop, (∀ H', Nx H' → ∃ m', m' < m ∧ W (i + 1) m' H') ∧ ∀ x H', I.yld i H x H' → tG G t x (L2.wipe σ own) H' fun σ2 H2 => L2.wipe σ2 own = L2.wipe σ own ∧ tT G C mc σ2 H2 fun b H3 =>
    if b = true then tE G C me σ2 H3 fun y H4 => ∃ acc, H4 p = some (.lst acc) ∧ acc.length < sizeLine ∧ Nx (upd H4 p (.lst (acc ++ [y]))) else Nx H3) := by
  let W : Nat → Nat → Hp → Prop := fun i m H => m = J.items.length - i ∧ i ≤ J.items.length ∧ ∃ (D : Wd) (as rs : List MV) (vs : List V), Keep B D ∧ Sim G D ∧ p ∈ D.ex ∧ D.H = H ∧ H p = some (.lst vs) ∧ Reps G D as vs ∧ as.length ≤ i ∧ compGo J (compF C B.base t own mc me ρ) (J.items.drop i) D.mh = some (rs, mh5) ∧ ys = as ++ rs
  have nt : NoTup (.lst ([] : List V)) := ⟨(fun _ z => nomatch z), (fun _ _ z => nomatch z)⟩
  refine ⟨W, ⟨J.items.length, by simp, Nat.zero_le _, B.hid p (.lst []), [], ys, [], keep_hid hp, SB.hid hp nt, by simp, rfl, upd_same, by unfold Reps; rfl, Nat.le_refl _, hc, rfl⟩, ?_⟩
  rintro i m H ⟨rfl, hi, D, as, rs, vs, kD, SD, pD, rfl, eD, rD, lD, cD, yD⟩
  by_cases hlt : i < J.items.length
  · have hd : J.items.drop i = J.items[i] :: J.items.drop (i + 1) := List.drop_eq_getElem_cons hlt
    rw [hd] at cD
    obtain ⟨oD, r, mh1, rs', f1, c1, rfl⟩ := compGo_cons cD
    refine .inr ⟨wk.go D kD SD oD i hlt, fun H' => W (i + 1) (J.items.length - (i + 1)) H', fun H' w => ⟨_, by omega, w⟩, fun x H' y => ?_⟩
    obtain ⟨E, z, kE, mE, rfl, SE, hz, rz⟩ := wk.yld D kD SD oD i x H' hlt y
    have hz' : J.items[i] = z := by
      rw [List.getElem?_eq_getElem hlt] at hz
      exact Option.some.inj hz
    rw [hz', ← mE] at f1
    obtain ⟨ρ', c, mh3, g1, g2, g3⟩ := compF_of f1
    have kBE := kD.trans kE
    refine ⟨E, wipeE ρ own, ρ', z, rfl, SE, (NB.keep SB kBE).wipe own, rz, g1, fun σ' N' off => ⟨?_, ?_⟩⟩
    · rw [off.wipe hown, wipe_wipe]
    have pE : p ∈ E.ex := kE.ex p pD
    have eE : E.H p = some (.lst vs) := kE.exk p pD _ eD (SD.exl p pD)
    have rE : Reps G E as vs := Reps.keep SD kE _ _ rD
    refine tT.go SE N' (by rw [kBE.base]; exact g2) fun F kF mF SF NF => ?_
    have pF : p ∈ F.ex := kF.ex p pE
    have eF : F.H p = some (.lst vs) := kF.exk p pE _ eE (SE.exl p pE)
    have rF : Reps G F as vs := Reps.keep SE kF _ _ rE
    rcases g3 with ⟨rfl, y', g4, rfl⟩ | ⟨rfl, g5, rfl⟩
    · rw [if_pos rfl]
      refine tE.go SF NF (by rw [(kBE.trans kF).base, mF]; exact g4) fun K vx kK mK SK NK rx => ?_
      have pK : p ∈ K.ex := kK.ex p pF
      have eK : K.H p = some (.lst vs) := kK.exk p pF _ eF (SF.exl p pF)
      have rK : Reps G K as vs := Reps.keep SF kK _ _ rF
      refine ⟨vs, eK, ?_, rfl, hlt, K.up p (.lst (vs ++ [vx])), as ++ [y'], rs', vs ++ [vx], keep_put ((kBE.trans kF).trans kK) hp, SK.put pK ⟨(fun _ z => nomatch z), (fun _ _ z => nomatch z)⟩, pK, rfl, upd_same, ?_, ?_, ?_, ?_⟩
      · rw [← rD.len]
        exact Nat.lt_of_le_of_lt lD (Nat.lt_of_lt_of_le hlt hl)
      · exact Reps.put SK pK _ _ (rK.app (Reps.one rx))
      · simp; exact lD
      · show compGo J _ _ K.mh = _
        rw [mK]; exact c1
      · rw [yD]; simp
    · rw [if_neg Bool.false_ne_true]
      refine ⟨rfl, hlt, F, as, rs', vs, kBE.trans kF, SF, pF, rfl, eF, rF, Nat.le_succ_of_le lD, ?_, ?_⟩
      · rw [mF, ← g5]; exact c1
      · rw [yD]; rfl
  · have e : i = J.items.length := by omega
    subst e
    rw [List.drop_length] at cD
    obtain ⟨oD, rfl, e5⟩ := compGo_nil cD
    refine .inl ⟨wk.stop D kD SD oD, fin D vs kD SD pD e5.symm eD ?_⟩
    rw [yD, List.append_nil]
    exact rD
theorem _root_.L2.PTs.mono {X : Cx} {ifs : List Expr} {t t' : TT} (h : PTs X ifs t) (k : ∀ σ H Q, t' σ H Q → t σ H Q) : PTs X ifs t' := ⟨fun pins s σ H Q I q => h.run pins s σ H Q I (k _ _ _ q)⟩
theorem sts_nil : PTs X [] (tT G C (.c (.bl true))) := pts_nil.mono fun σ H Q h => by
  obtain ⟨A, ρ, c, mh', rfl, S, N, e, q⟩ := h
  simp only [ev] at e
  cases e
  exact q A (Keep.refl A) rfl S
theorem lc_frozen {A : Wd} {ρ : Env} {σ : L2.St} {v : MV} {mh' : MHp} {Q : VK} (hown : ∀ i ∈ tgN t, i ∈ own) (S : Sim G A) (N : Envs G A ρ σ) (e : ev C A.base (.comp t own mi mc me) ρ A.mh = some (v, mh')) (q : Post G A mh' v Q) :
    tLc (tI G C mi) (tG G t) (tT G C mc) (tE G C me) own σ A.H Q := by
  obtain ⟨J, mh1, ys, e1, hl, e2, rfl⟩ := ev_comp e
  refine ⟨A, ρ, J, mh1, rfl, S, N, e1, fun B I k em SB wk p hp => ?_⟩
  refine lc_loop hown SB (N.keep S k) wk hl (by rw [k.base, em]; exact e2) hp fun D vs kD SD pD mD eD rD => ?_
  have hx : ∀ a ∈ B.ex, a ∈ D.ex := kD.ex
  refine q (D.out B.ex) (.ref p) (k.trans (keep_out kD)) mD (SD.out hx) ?_
  unfold Rep
  refine ⟨p, vs, rfl, eD, ⟨SD.exl p pD, fun z => ?_⟩, Reps.out hx _ _ rD⟩
  obtain ⟨u, e9, _⟩ := SB.exo p z
  rw [hp] at e9; cases e9
theorem lc_live {A : Wd} {ρ : Env} {σ : L2.St} {v : MV} {mh' : MHp} {Q : VK} (hown : ∀ i ∈ tgN t, i ∈ own) (S : Sim G A) (N : Envs G A ρ σ) (e : ev C A.base (.al (.comp t own mi mc me)) ρ A.mh = some (v, mh')) (q : Post G A mh' v Q) :
    tLc (tI G C mi) (tG G t) (tT G C mc) (tE G C me) own σ A.H Q := by
  rcases ev_al e with ⟨xs, mh5, e9, rfl, rfl⟩ | ⟨ks, vs, mh1, e9, rfl, rfl⟩
  · obtain ⟨J, mh1, ys, e1, hl, e2, e3⟩ := ev_comp e9
    cases e3
    refine ⟨A, ρ, J, mh1, rfl, S, N, e1, fun B I k em SB wk p hp => ?_⟩
    refine lc_loop hown SB (N.keep S k) wk hl (by rw [k.base, em]; exact e2) hp fun D vs kD SD pD mD eD rD => ?_
    have hx : ∀ a ∈ B.ex, a ∈ D.ex := kD.ex
    have hpx : p ∉ B.ex := fun z => by
      obtain ⟨u, e9, _⟩ := SB.exo p z
      rw [hp] at e9; cases e9
    refine q (D.fix p xs B.ex) (.ref p) (k.trans (keep_fix SD kD hp)) (by show D.mh ++ _ = _; rw [mD]) (SD.fix pD hx hpx eD rD) ?_
    unfold Rep
    refine ⟨p, rfl, ?_⟩
    show (D.β ++ [p])[mh5.length]? = some p
    rw [← mD, ← SD.len, List.getElem?_append_right (Nat.le_refl _)]
    simp
  · obtain ⟨J, mh1, ys, e1, hl, e2, e3⟩ := ev_comp e9
    cases e3
end
section
variable {G : Gb} {C : CallF} {X : Cx} {mc me mi : ME} {t : Tg} {elt tg iter : Expr} {ifs : List Expr} {scope : Scope} {own : List (Str × Nat)} {pos : Pos}
theorem se_comp (hown : ∀ i ∈ tgN t, i ∈ own.map (·.2)) (hc : X.calm = true) (hN : X.N.Nodup) (hi : PI X tg iter (tI G C mi)) (ok : BlkOk X.N X.env.scope scope own)
    (hg : ∀ (s : Shared) (H : Hp) (D : Addr) (cl : List (Str × Addr)) (fp : List Addr), PG (X.blk s H scope (compEnvC scope cl D X.env) fp) tg (tG G t)) (ht : ∀ (s : Shared) (H : Hp) (D : Addr) (cl : List (Str × Addr)) (fp : List Addr), PTs (X.blk s H scope (compEnvC scope cl D X.env) fp) ifs (tT G C mc))
    (he : ∀ (s : Shared) (H : Hp) (D : Addr) (cl : List (Str × Addr)) (fp : List Addr), PE (X.blk s H scope (compEnvC scope cl D X.env) fp) elt (tE G C me)) (hs : ∀ x, foldedSetIterable iter X.env x = pure x := by intro _; rfl) :
    PE X (.ListComp elt [⟨tg, iter, ifs, 0⟩] scope pos) (tE G C (.comp t (own.map (·.2)) mi mc me)) := by
  refine (pe_lc hc hN hi ok hg ht he hs).mono fun σ H Q h => ?_
  obtain ⟨A, ρ, v, mh', rfl, S, N, e, q⟩ := h
  exact lc_frozen hown S N e q
theorem sal_comp (hown : ∀ i ∈ tgN t, i ∈ own.map (·.2)) (hc : X.calm = true) (hN : X.N.Nodup) (hi : PI X tg iter (tI G C mi)) (ok : BlkOk X.N X.env.scope scope own)
    (hg : ∀ (s : Shared) (H : Hp) (D : Addr) (cl : List (Str × Addr)) (fp : List Addr), PG (X.blk s H scope (compEnvC scope cl D X.env) fp) tg (tG G t)) (ht : ∀ (s : Shared) (H : Hp) (D : Addr) (cl : List (Str × Addr)) (fp : List Addr), PTs (X.blk s H scope (compEnvC scope cl D X.env) fp) ifs (tT G C mc))
    (he : ∀ (s : Shared) (H : Hp) (D : Addr) (cl : List (Str × Addr)) (fp : List Addr), PE (X.blk s H scope (compEnvC scope cl D X.env) fp) elt (tE G C me)) (hs : ∀ x, foldedSetIterable iter X.env x = pure x := by intro _; rfl) :
    PE X (.ListComp elt [⟨tg, iter, ifs, 0⟩] scope pos) (tE G C (.al (.comp t (own.map (·.2)) mi mc me))) := by
  refine (pe_lc hc hN hi ok hg ht he hs).mono fun σ H Q h => ?_
  obtain ⟨A, ρ, v, mh', rfl, S, N, e, q⟩ := h
  exact lc_live hown S N e q
end
end L2.Mi

set_option Elab.async false
set_option linter.all false
set_option maxRecDepth 100000
set_option maxHeartbeats 4000000
/-! Mini10: statements. -/
namespace L2.Mi
open PySem PySem.Spec PyProof.Rows

def FlOk (G : Gb) (B : Wd) (ρ : Env) (D : Ends) : Fl → Prop
  | .nx => ∀ σ, Envs G B ρ σ → D.nx σ B.H
  | .bk => ∀ σ, Envs G B ρ σ → D.bk σ B.H
  | .ct => ∀ σ, Envs G B ρ σ → D.ct σ B.H
  | .rt v => ∀ x, Rep G B v x → D.rt x B.H
def EndP (G : Gb) (A : Wd) (mh' : MHp) (ρ : Env) (fl : Fl) (D : Ends) : Prop := ∀ B, Keep A B → B.mh = mh' → Sim G B → FlOk G B ρ D fl
def tS (G : Gb) (C : CallF) (s : MS) : TS := fun D σ H => ∃ (A : Wd) (ρ : Env) (fl : Fl) (ρ' : Env) (mh' : MHp), A.H = H ∧ Sim G A ∧ Envs G A ρ σ ∧ ex C A.base s ρ A.mh = some (fl, ρ', mh') ∧ EndP G A mh' ρ' fl D
def tSs (G : Gb) (C : CallF) (ss : List MS) : TS := fun D σ H => ∃ (A : Wd) (ρ : Env) (fl : Fl) (ρ' : Env) (mh' : MHp), A.H = H ∧ Sim G A ∧ Envs G A ρ σ ∧ exs C A.base ss ρ A.mh = some (fl, ρ', mh') ∧ EndP G A mh' ρ' fl D
theorem EndP.step {G : Gb} {A B : Wd} {mh' : MHp} {ρ : Env} {fl : Fl} {D : Ends} (h : EndP G A mh' ρ fl D) (k : Keep A B) : EndP G B mh' ρ fl D := fun K k' e S => h K (k.trans k') e S
theorem _root_.L2.PS.mono {X : Cx} {e : Stmt} {t t' : TS} (h : PS X e t) (k : ∀ D σ H, t' D σ H → t D σ H) : PS X e t' := ⟨fun pins s σ H D I q => h.run pins s σ H D I (k _ _ _ q)⟩
theorem _root_.L2.PSs.mono {X : Cx} {e : List Stmt} {t t' : TS} (h : PSs X e t) (k : ∀ D σ H, t' D σ H → t D σ H) : PSs X e t' := ⟨fun pins s σ H D I q => h.run pins s σ H D I (k _ _ _ q)⟩
section
variable {G : Gb} {C : CallF} {X : Cx} {pos p : Pos} {e a b c : Expr} {ma mb mc m : ME} {st : Stmt} {rest body : List Stmt} {s : MS} {ss ms : List MS}
theorem sss_nil : PSs X [] (tSs G C []) := pss_nil.mono fun D σ H h => by
  obtain ⟨A, ρ, fl, ρ', mh', rfl, S, N, e, q⟩ := h
  simp only [exs] at e
  cases e
  exact q A (Keep.refl A) rfl S σ N
theorem exs_cons {base : Nat} {ρ ρ' : Env} {mh mh' : MHp} {fl : Fl} (e : exs C base (s :: ss) ρ mh = some (fl, ρ', mh')) : (∃ ρ1 mh1, ex C base s ρ mh = some (.nx, ρ1, mh1) ∧ exs C base ss ρ1 mh1 = some (fl, ρ', mh')) ∨ (ex C base s ρ mh = some (fl, ρ', mh') ∧ fl ≠ .nx) := by
  simp only [exs] at e
  split at e
  · rename_i ρ1 mh1 e1
    exact .inl ⟨ρ1, mh1, e1, e⟩
  · rename_i hn
    exact .inr ⟨e, fun z => hn ρ' mh' (by rw [e, z])⟩
theorem sss_cons (h1 : PS X st (tS G C s)) (h2 : PSs X rest (tSs G C ss)) : PSs X (st :: rest) (tSs G C (s :: ss)) := (pss_cons h1 h2).mono fun D σ H h => by
  obtain ⟨A, ρ, fl, ρ', mh', rfl, S, N, e, q⟩ := h
  rcases exs_cons e with ⟨ρ1, mh1, e1, e2⟩ | ⟨e1, hn⟩
  · exact ⟨A, ρ, .nx, ρ1, mh1, rfl, S, N, e1, fun B k em SB σ' N' => ⟨B, ρ1, fl, ρ', mh', rfl, SB, N', by rw [k.base, em]; exact e2, q.step k⟩⟩
  · refine ⟨A, ρ, fl, ρ', mh', rfl, S, N, e1, fun B k em SB => ?_⟩
    have z := q B k em SB
    cases fl with
    | nx => exact absurd rfl hn
    | _ => exact z
theorem ss_pass : PS X (.Pass pos) (tS G C .pass) := ps_pass.mono fun D σ H h => by
  obtain ⟨A, ρ, fl, ρ', mh', rfl, S, N, e, q⟩ := h
  simp only [ex] at e
  cases e
  exact q A (Keep.refl A) rfl S σ N
theorem ss_brk : PS X (.Break pos) (tS G C .brk) := ps_break.mono fun D σ H h => by
  obtain ⟨A, ρ, fl, ρ', mh', rfl, S, N, e, q⟩ := h
  simp only [ex] at e
  cases e
  exact q A (Keep.refl A) rfl S σ N
theorem ss_cnt : PS X (.Continue pos) (tS G C .cnt) := ps_continue.mono fun D σ H h => by
  obtain ⟨A, ρ, fl, ρ', mh', rfl, S, N, e, q⟩ := h
  simp only [ex] at e
  cases e
  exact q A (Keep.refl A) rfl S σ N
theorem ss_doc {x j pos'} : PS X (.Expr (.Constant (.str x) j pos) pos') (tS G C .pass) := ps_doc.mono fun D σ H h => by
  obtain ⟨A, ρ, fl, ρ', mh', rfl, S, N, e, q⟩ := h
  simp only [ex] at e
  cases e
  exact q A (Keep.refl A) rfl S σ N
theorem ss_expr (he : PE X e (tE G C m)) (hs : swapsWith e none pos.line X.env = pure false := by rfl) : PS X (.Expr e pos) (tS G C (.ex m)) := (ps_expr he hs).mono fun D σ H h => by
  obtain ⟨A, ρ, fl, ρ', mh', rfl, S, N, e, q⟩ := h
  simp only [ex] at e
  split at e
  · cases e
  rename_i v mh1 e1
  cases e
  exact tE.go S N e1 fun B x k em SB NB _ => q B k em SB σ NB
theorem ex_set {t : Tg} {base : Nat} {ρ ρ' : Env} {mh mh' : MHp} {fl : Fl} (e : ex C base (.set t m) ρ mh = some (fl, ρ', mh')) : ∃ v, ev C base m ρ mh = some (v, mh') ∧ asg mh' t v ρ = some ρ' ∧ fl = .nx := by
  simp only [ex] at e
  split at e
  · cases e
  rename_i v mh1 e1
  split at e
  · cases e
  rename_i ρ1 e2
  cases e
  exact ⟨v, e1, e2, rfl⟩
theorem ss_set {i : Nat} {x : Str} {pos' : Pos} (hN : X.N.Nodup) (hi : X.N[i]? = some x) (hx : Loc X.env.scope x) (he : PE X e (tE G C m)) (hs : swapsWith e (some (.Name x pos')) pos.line X.env = pure false := by rfl) (hf : X.fn x = true ∨ X.env.scope.names.lookup x = some .local := by first | exact .inl rfl | exact .inr rfl | assumption) :
    PS X (.Assign [.Name x pos'] e pos) (tS G C (.set (.nm i) m)) := (ps_set hN hi hx he hs hf).mono fun D σ H h => by
  obtain ⟨A, ρ, fl, ρ', mh', rfl, S, N, e, q⟩ := h
  obtain ⟨v, e1, e2, rfl⟩ := ex_set e
  simp only [asg] at e2
  split at e2
  · cases e2
    exact tE.go S N e1 fun B x k em SB NB r => q B k em SB _ (NB.set r i)
  · cases e2
theorem ss_asg {t : Tg} {tg : Expr} (he : PE X e (tE G C m)) (hg : PG X tg (tG G t)) (hs : swapsWithSole [tg] e pos.line X.env = pure false := by rfl) (hw : swappedStores [tg] e X.env = pure none := by rfl)
    (h1 : (assignEach [tg] X.env).map (·.2) = [assign tg X.env] := by rfl) : PS X (.Assign [tg] e pos) (tS G C (.set t m)) := (ps_asg he hg hs hw h1).mono fun D σ H h => by
  obtain ⟨A, ρ, fl, ρ', mh', rfl, S, N, e, q⟩ := h
  obtain ⟨v, e1, e2, rfl⟩ := ex_set e
  exact tE.go S N e1 fun B x k em SB NB r => ⟨B, ρ, ρ', v, rfl, SB, NB, r, by rw [em]; exact e2, fun σ' N' _ => q B k em SB σ' N'⟩
theorem ss_setLc {t : Tg} {mi me : ME} {i : Nat} {y : Str} {py : Pos} {elt tg iter : Expr} {ifs : List Expr} {scope : Scope} {own : List (Str × Nat)} {pos spos : Pos} (hown : ∀ i ∈ tgN t, i ∈ own.map (·.2)) (hc : X.calm = true) (hN : X.N.Nodup) (hy : X.N[i]? = some y) (hyl : X.env.scope.names.lookup y = some .local)
    (hsw : swapsWith (.ListComp elt [⟨tg, iter, ifs, 0⟩] scope pos) (some (.Name y py)) spos.line X.env = pure true) (hi : PI X tg iter (tI G C mi)) (ok : BlkOk X.N X.env.scope scope own)
    (hg : ∀ (s : Shared) (H : Hp) (D : Addr) (cl : List (Str × Addr)) (fp : List Addr), PG (X.blk s H scope (compEnvC scope cl D X.env) fp) tg (tG G t)) (ht : ∀ (s : Shared) (H : Hp) (D : Addr) (cl : List (Str × Addr)) (fp : List Addr), PTs (X.blk s H scope (compEnvC scope cl D X.env) fp) ifs (tT G C mc))
    (he : ∀ (s : Shared) (H : Hp) (D : Addr) (cl : List (Str × Addr)) (fp : List Addr), PE (X.blk s H scope (compEnvC scope cl D X.env) fp) elt (tE G C me)) (hs : ∀ x, foldedSetIterable iter X.env x = pure x := by intro _; rfl) :
    PS X (.Assign [.Name y py] (.ListComp elt [⟨tg, iter, ifs, 0⟩] scope pos) spos) (tS G C (.set (.nm i) (.comp t (own.map (·.2)) mi mc me))) := (ps_setLc hc hN hy hyl hsw hi ok hg ht he hs).mono fun D σ H h => by
  obtain ⟨A, ρ, fl, ρ', mh', rfl, S, N, e, q⟩ := h
  obtain ⟨v, e1, e2, rfl⟩ := ex_set e
  simp only [asg] at e2
  split at e2
  · cases e2
    exact lc_frozen hown S N e1 fun B x k em SB r => q B k em SB _ ((N.keep S k).set r i)
  · cases e2
theorem ss_setLcA {t : Tg} {mi me : ME} {i : Nat} {y : Str} {py : Pos} {elt tg iter : Expr} {ifs : List Expr} {scope : Scope} {own : List (Str × Nat)} {pos spos : Pos} (hown : ∀ i ∈ tgN t, i ∈ own.map (·.2)) (hc : X.calm = true) (hN : X.N.Nodup) (hy : X.N[i]? = some y) (hyl : X.env.scope.names.lookup y = some .local)
    (hsw : swapsWith (.ListComp elt [⟨tg, iter, ifs, 0⟩] scope pos) (some (.Name y py)) spos.line X.env = pure true) (hi : PI X tg iter (tI G C mi)) (ok : BlkOk X.N X.env.scope scope own)
    (hg : ∀ (s : Shared) (H : Hp) (D : Addr) (cl : List (Str × Addr)) (fp : List Addr), PG (X.blk s H scope (compEnvC scope cl D X.env) fp) tg (tG G t)) (ht : ∀ (s : Shared) (H : Hp) (D : Addr) (cl : List (Str × Addr)) (fp : List Addr), PTs (X.blk s H scope (compEnvC scope cl D X.env) fp) ifs (tT G C mc))
    (he : ∀ (s : Shared) (H : Hp) (D : Addr) (cl : List (Str × Addr)) (fp : List Addr), PE (X.blk s H scope (compEnvC scope cl D X.env) fp) elt (tE G C me)) (hs : ∀ x, foldedSetIterable iter X.env x = pure x := by intro _; rfl) :
    PS X (.Assign [.Name y py] (.ListComp elt [⟨tg, iter, ifs, 0⟩] scope pos) spos) (tS G C (.set (.nm i) (.al (.comp t (own.map (·.2)) mi mc me)))) := (ps_setLc hc hN hy hyl hsw hi ok hg ht he hs).mono fun D σ H h => by
  obtain ⟨A, ρ, fl, ρ', mh', rfl, S, N, e, q⟩ := h
  obtain ⟨v, e1, e2, rfl⟩ := ex_set e
  simp only [asg] at e2
  split at e2
  · cases e2
    exact lc_live hown S N e1 fun B x k em SB r => q B k em SB _ ((N.keep S k).set r i)
  · cases e2
theorem ss_par {i j : Nat} {x y : Str} {px py pt : Pos} {kt k2 pt2} (hc : X.calm = true) (hN : X.N.Nodup) (hi : X.N[i]? = some x) (hj : X.N[j]? = some y) (hij : i ≠ j)
    (hx : X.env.scope.names.lookup x = some .local) (hy : X.env.scope.names.lookup y = some .local) (ha : PE X a (tE G C ma)) (hb : PE X b (tE G C mb))
    (hw : swappedStores [.Tuple [.Name x px, .Name y py] kt pt] (.Tuple [a, b] k2 pt2) X.env = pure (some [x, y]))
    (hs : swapsWithSole [.Tuple [.Name x px, .Name y py] kt pt] (.Tuple [a, b] k2 pt2) pos.line X.env = pure false := by rfl)
    (hs1 : starEach [a, b] X.env = (false, eval a X.env) :: starEach [b] X.env := by rfl) (hs2 : starEach [b] X.env = (false, eval b X.env) :: starEach [] X.env := by rfl) :
    PS X (.Assign [.Tuple [.Name x px, .Name y py] kt pt] (.Tuple [a, b] k2 pt2) pos) (tS G C (.par i j ma mb)) := (ps_par hc hN hi hj hij hx hy (sa_cons ha (sa_cons hb sa_nil hs2) hs1) hw hs).mono fun D σ H h => by
  obtain ⟨A, ρ, fl, ρ', mh', rfl, S, N, e, q⟩ := h
  simp only [ex] at e
  split at e
  · cases e
  rename_i v mh1 e1
  split at e
  · cases e
  rename_i w mh2 e2
  split at e
  · cases e
    refine tEs.go (vs := [v, w]) (mh1 := mh') S N (by simp only [evs, e1, e2]) fun B xs k em SB NB r => ?_
    unfold Reps at r
    obtain ⟨v', r', rfl, r1, r2⟩ := r
    unfold Reps at r2
    obtain ⟨w', r'', rfl, r3, r4⟩ := r2
    unfold Reps at r4
    subst r4
    exact ⟨v', w', rfl, q B k em SB _ ((NB.set r1 i).set r3 j)⟩
  · cases e
theorem ss_ret (he : PE X e (tE G C m)) : PS X (.Return (some e) pos) (tS G C (.ret m)) := (ps_ret he).mono fun D σ H h => by
  obtain ⟨A, ρ, fl, ρ', mh', rfl, S, N, e, q⟩ := h
  simp only [ex] at e
  split at e
  · cases e
  rename_i v mh1 e1
  cases e
  exact tE.go S N e1 fun B x k em SB NB r => q B k em SB x r
theorem ss_retN : PS X (.Return none pos) (tS G C (.ret (.c .non))) := ps_retN.mono fun D σ H h => by
  obtain ⟨A, ρ, fl, ρ', mh', rfl, S, N, e, q⟩ := h
  simp only [ex, ev] at e
  cases e
  exact q A (Keep.refl A) rfl S _ rep_non
theorem ss_if {sa sb : List Stmt} {na nb : List MS} (hc : PT X c (tT G C mc)) (ha : PSs X sa (tSs G C na)) (hb : PSs X sb (tSs G C nb)) : PS X (.If c sa sb pos) (tS G C (.ite mc na nb)) := (ps_if hc ha hb).mono fun D σ H h => by
  obtain ⟨A, ρ, fl, ρ', mh', rfl, S, N, e, q⟩ := h
  simp only [ex] at e
  split at e
  · rename_i mh1 e1
    refine tT.go S N e1 fun B k em SB NB => ?_
    rw [if_pos rfl]
    exact ⟨B, ρ, fl, ρ', mh', rfl, SB, NB, by rw [k.base, em]; exact e, q.step k⟩
  · rename_i mh1 e1
    refine tT.go S N e1 fun B k em SB NB => ?_
    rw [if_neg Bool.false_ne_true]
    exact ⟨B, ρ, fl, ρ', mh', rfl, SB, NB, by rw [k.base, em]; exact e, q.step k⟩
  · cases e
/-! ### for -/
theorem forGo_nil {J : Its} {f : MV → Env → MHp → Option (Fl × Env × MHp)} {ρ ρ' : Env} {mh mh' : MHp} {fl : Fl} (e : forGo J f [] ρ mh = some (fl, ρ', mh')) : J.ok mh ∧ fl = .nx ∧ ρ' = ρ ∧ mh' = mh := by
  unfold forGo at e
  split at e
  · cases e; exact ⟨by assumption, rfl, rfl, rfl⟩
  · cases e
theorem forGo_cons {J : Its} {f : MV → Env → MHp → Option (Fl × Env × MHp)} {x : MV} {xs : List MV} {ρ ρ' : Env} {mh mh' : MHp} {fl : Fl} (e : forGo J f (x :: xs) ρ mh = some (fl, ρ', mh')) :
    J.ok mh ∧ ∃ g ρ1 mh1, f x ρ mh = some (g, ρ1, mh1) ∧ (((g = .nx ∨ g = .ct) ∧ forGo J f xs ρ1 mh1 = some (fl, ρ', mh')) ∨ (g = .bk ∧ fl = .nx ∧ ρ' = ρ1 ∧ mh' = mh1) ∨ (∃ v, g = .rt v ∧ fl = .rt v ∧ ρ' = ρ1 ∧ mh' = mh1)) := by
  unfold forGo at e
  split at e
  · rename_i ho
    refine ⟨ho, ?_⟩
    split at e
    · cases e
    · rename_i ρ1 mh1 e1; exact ⟨_, _, _, e1, .inl ⟨.inl rfl, e⟩⟩
    · rename_i ρ1 mh1 e1; exact ⟨_, _, _, e1, .inl ⟨.inr rfl, e⟩⟩
    · rename_i ρ1 mh1 e1; cases e; exact ⟨_, _, _, e1, .inr (.inl ⟨rfl, rfl, rfl, rfl⟩)⟩
    · rename_i v ρ1 mh1 e1; cases e; exact ⟨_, _, _, e1, .inr (.inr ⟨v, rfl, rfl, rfl, rfl⟩)⟩
  · cases e
theorem ss_for {t : Tg} {tg iter : Expr} {mi : ME} (hp : PassesOwn (model X.prog X.w) X.A X.env X.xe) (hc : X.calm = true) (hi : PI X tg iter (tI G C mi)) (hg : PG X tg (tG G t)) (hb : PSs X body (tSs G C ms))
    (hs : ∀ x, foldedSetIterable iter X.env x = pure x := by intro _; rfl) : PS X (.For tg iter body [] pos) (tS G C (.for t mi ms)) := (ps_for hp hc hi hg hb hs).mono fun D σ H h => by
  obtain ⟨A, ρ, fl, ρ', mh', rfl, S, N, e, q⟩ := h
  simp only [ex] at e
  split at e
  · cases e
  rename_i J mh1 e1
  refine ⟨A, ρ, J, mh1, rfl, S, N, e1, fun B I k em SB wk => ?_⟩
  let f : MV → Env → MHp → Option (Fl × Env × MHp) := fun x ρ1 mh2 => match asg mh2 t x ρ1 with
      | none => none
      | some ρ2 => exs C A.base ms ρ2 mh2
  let W : Nat → Nat → L2.St → Hp → Prop := fun i m σ H => m = J.items.length - i ∧ i ≤ J.items.length ∧ ∃ (E : Wd) (ρ1 : Env), Keep B E ∧ Sim G E ∧ E.H = H ∧ Envs G E ρ1 σ ∧ forGo J f (J.items.drop i) ρ1 E.mh = some (fl, ρ', mh')
  refine ⟨W, ⟨J.items.length, by simp, Nat.zero_le _, B, ρ, Keep.refl B, SB, rfl, N.keep S k, by rw [em]; exact e⟩, ?_⟩
  rintro i m σ1 H ⟨rfl, hi, E, ρ1, kE, SE, rfl, NE, cE⟩
  by_cases hlt : i < J.items.length
  · have hd : J.items.drop i = J.items[i] :: J.items.drop (i + 1) := List.drop_eq_getElem_cons hlt
    rw [hd] at cE
    obtain ⟨oE, g, ρ2, mh2, f1, c1⟩ := forGo_cons cE
    refine .inr ⟨wk.go E kE SE oE i hlt, fun σ' H' => W (i + 1) (J.items.length - (i + 1)) σ' H', fun σ' H' w => ⟨_, by omega, w⟩, fun x H' y => ?_⟩
    obtain ⟨F, z, kF, mF, rfl, SF, hz, rz⟩ := wk.yld E kE SE oE i x H' hlt y
    have hz' : J.items[i] = z := by
      rw [List.getElem?_eq_getElem hlt] at hz
      exact Option.some.inj hz
    rw [hz', ← mF] at f1
    have f1' : (match asg F.mh t z ρ1 with
      | none => none
      | some ρ2 => exs C A.base ms ρ2 F.mh) = some (g, ρ2, mh2) := f1
    split at f1'
    · cases f1'
    rename_i ρ3 g1
    refine ⟨F, ρ1, ρ3, z, rfl, SF, NE.keep SE kF, rz, g1, fun σ2 N2 off => ?_⟩
    have kAF := k.trans (kE.trans kF)
    refine ⟨F, ρ3, g, ρ2, mh2, rfl, SF, N2, by rw [kAF.base]; exact f1', fun L kL mL SL => ?_⟩
    have kBL := (kE.trans kF).trans kL
    rcases c1 with ⟨hg, c1⟩ | ⟨rfl, rfl, rfl, rfl⟩ | ⟨v, rfl, rfl, rfl, rfl⟩
    · have fin : ∀ σ', Envs G L ρ2 σ' → W (i + 1) (J.items.length - (i + 1)) σ' L.H := fun σ' N' => ⟨rfl, hlt, L, ρ2, kBL, SL, rfl, N', by rw [mL]; exact c1⟩
      rcases hg with rfl | rfl
      · exact fin
      · exact fin
    · exact q L (k.trans kBL) mL SL
    · exact q L (k.trans kBL) mL SL
  · have hi' : i = J.items.length := by omega
    subst hi'
    rw [List.drop_length] at cE
    obtain ⟨oE, rfl, rfl, e5⟩ := forGo_nil cE
    exact .inl ⟨wk.stop E kE SE oE, q E (k.trans kE) e5.symm SE σ1 NE⟩
/-! ### while -/
theorem whileM_of {cf : Env → MHp → Option (Bool × MHp)} {f : Env → MHp → Option (Fl × Env × MHp)} {ρ : Env} {mh : MHp} {r : Fl × Env × MHp} (e : whileM cf f ρ mh = some r) : ∃ n, whileN cf f n ρ mh = some r := by
  unfold whileM at e
  split at e
  · exact ⟨_, e⟩
  · cases e
theorem ss_while (hp : PassesOwn (model X.prog X.w) X.A X.env X.xe) (hc : PT X c (tT G C mc)) (hb : PSs X body (tSs G C ms)) : PS X (.While c body [] pos) (tS G C (.while mc ms)) := (ps_while hp hc hb).mono fun D σ H h => by
  obtain ⟨A, ρ, fl, ρ', mh', rfl, S, N, e, q⟩ := h
  simp only [ex] at e
  obtain ⟨n, e⟩ := whileM_of e
  let cf : Env → MHp → Option (Bool × MHp) := fun ρ1 mh1 => match ev C A.base mc ρ1 mh1 with
      | some (.bl b, mh2) => some (b, mh2)
      | _ => none
  let f : Env → MHp → Option (Fl × Env × MHp) := fun ρ1 mh1 => exs C A.base ms ρ1 mh1
  let W : Nat → L2.St → Hp → Prop := fun n σ H => ∃ (E : Wd) (ρ1 : Env), Keep A E ∧ Sim G E ∧ E.H = H ∧ Envs G E ρ1 σ ∧ whileN cf f n ρ1 E.mh = some (fl, ρ', mh')
  refine ⟨W, ⟨n, A, ρ, Keep.refl A, S, rfl, N, e⟩, ?_⟩
  rintro m σ1 H ⟨E, ρ1, kE, SE, rfl, NE, cE⟩
  cases m with
  | zero => unfold whileN at cE; cases cE
  | succ m =>
    unfold whileN at cE
    have hcf : ∀ {b mh1}, cf ρ1 E.mh = some (b, mh1) → ev C A.base mc ρ1 E.mh = some (.bl b, mh1) := fun {b mh1} z => by
      have z' : (match ev C A.base mc ρ1 E.mh with
        | some (.bl b, mh2) => some (b, mh2)
        | _ => none) = some (b, mh1) := z
      split at z'
      · rename_i b' mh2 e9
        cases z'; exact e9
      · cases z'
    split at cE
    · cases cE
    · rename_i mh1 e1
      cases cE
      refine tT.go SE NE (by rw [kE.base]; exact hcf e1) fun F kF mF SF NF => ?_
      rw [if_neg Bool.false_ne_true]
      exact q F (kE.trans kF) mF SF σ1 NF
    · rename_i mh1 e1
      refine tT.go SE NE (by rw [kE.base]; exact hcf e1) fun F kF mF SF NF => ?_
      rw [if_pos rfl]
      refine ⟨W m, fun σ' H' w => ⟨m, Nat.lt_succ_self m, w⟩, ?_⟩
      have kAF := kE.trans kF
      have go : ∀ {g ρ2 mh2}, f ρ1 mh1 = some (g, ρ2, mh2) → (∀ L, Keep F L → L.mh = mh2 → Sim G L → FlOk G L ρ2 { D with nx := W m, ct := W m, bk := D.nx } g) → tSs G C ms { D with nx := W m, ct := W m, bk := D.nx } σ1 F.H := fun {g ρ2 mh2} z l =>
        ⟨F, ρ1, g, ρ2, mh2, rfl, SF, NF, by rw [kAF.base, mF]; exact z, l⟩
      split at cE
      · cases cE
      · rename_i ρ2 mh2 e2
        exact go e2 fun L kL mL SL σ' N' => ⟨L, ρ2, kAF.trans kL, SL, rfl, N', by rw [mL]; exact cE⟩
      · rename_i ρ2 mh2 e2
        exact go e2 fun L kL mL SL σ' N' => ⟨L, ρ2, kAF.trans kL, SL, rfl, N', by rw [mL]; exact cE⟩
      · rename_i ρ2 mh2 e2
        cases cE
        exact go e2 fun L kL mL SL => q L (kAF.trans kL) mL SL
      · rename_i v ρ2 mh2 e2
        cases cE
        exact go e2 fun L kL mL SL => q L (kAF.trans kL) mL SL
/-! ### o[i] = e, name op= e -/
theorem dPutV_mem {ks : List MKey} {ms : List MV} {k : MKey} {m x : MV} (h : x ∈ dPutV ks ms k m) : x ∈ ms ++ [m] := by
  unfold dPutV at h
  split at h
  · have gen : ∀ (ks : List MKey) (ms : List MV), x ∈ List.zipWith (fun k' m' => if k' = k then m else m') ks ms → x ∈ ms ++ [m] := by
      intro ks
      induction ks with
      | nil => intro ms h; simp at h
      | cons k' ks ih =>
        intro ms h
        cases ms with
        | nil => simp at h
        | cons m' ms =>
          rw [List.zipWith_cons_cons] at h
          rcases List.mem_cons.mp h with h | h
          · split at h
            · subst h; simp
            · subst h; simp
          · exact List.mem_cons_of_mem _ (ih ms h)
    exact gen ks ms h
  · exact h
theorem dct_wr {A : Wd} (S : Sim G A) {l : Nat} {a : Addr} {ks ls : List MKey} {ms ns : List MV} {ws : List V} (hl : A.mh[l]? = some (some (.dct ks ms))) (hb : A.β[l]? = some a) (hz : ls.length = ns.length) (r : Reps G A ns ws) (hbd : ∀ b ∈ A.bs, l < b → bds b ns = true) :
    Keep A (A.wr l a (.dK ((ls.map kOf).zip ws)) (.dct ls ns)) ∧ Sim G (A.wr l a (.dK ((ls.map kOf).zip ws)) (.dct ls ns)) := by
  have k : Keep A (A.wr l a (.dK ((ls.map kOf).zip ws)) (.dct ls ns)) := keep_wr S hl hb
  exact ⟨k, S.wr hl hb ⟨ws, upd_same, hz, Reps.keep S k _ _ r⟩ ⟨(fun _ z => nomatch z), (fun _ _ z => nomatch z)⟩ hbd⟩
/-- d[k] = v, from what was reckoned -/
theorem dput_go {A B3 : Wd} {l : Nat} {ks : List MKey} {ms : List MV} {k : MKey} {v : MV} {vx y : V} {w : V} (S3 : Sim G B3) (hl : B3.mh[l]? = some (some (.dct ks ms))) (ry : Rep G B3 (.loc l) w) (hy : y = kV (kOf k)) (rx : Rep G B3 v vx) (hw : wr B3.base l v = true) (hz : ks.length < line) :
    ∃ a H4, w = .ref a ∧ DPut B3.H a y vx H4 ∧ ∃ W : Wd, W.H = H4 ∧ Keep B3 W ∧ Sim G W ∧ W.mh = B3.mh.set l (some (.dct (dPutK ks k) (dPutV ks ms k v))) := by
  obtain ⟨a, rfl, hb⟩ := ry.loc_
  obtain ⟨vs, eH, h3, rr⟩ := S3.obj l _ hl a hb
  obtain ⟨ws, e1, r1⟩ := dput_rep (k := k) h3 rr rx
  obtain ⟨kW, SW⟩ := dct_wr S3 hl hb (dput_len k v h3) r1 fun b hbs hlb => by
    have h1 : bds b ms = true := S3.bnd b hbs l _ hlb hl
    have h2 : bds b (ms ++ [v]) = true := by
      rw [bds_app, h1]
      show (true && (bd b v && true)) = true
      rw [wr_bd S3 hw hbs hlb]
      rfl
    exact bds_sub h2 fun z hz => dPutV_mem hz
  refine ⟨a, _, rfl, .inl ⟨_, kOf k, eH, hy, ?_, rfl⟩, _, ?_, kW, SW, rfl⟩
  · have : ((ks.map kOf).zip vs).length = ks.length := by rw [List.length_zip, List.length_map, ← rr.len, ← h3, Nat.min_self]
    rw [this]; exact hz
  · rw [e1]
theorem PS.or' {X : Cx} {s : Stmt} {t t' : TS} (h : PS X s t) (h' : PS X s t') : PS X s (fun D σ H => t D σ H ∨ t' D σ H) := ⟨fun pins s σ H D I q => q.elim (h.run pins s σ H D I) (h'.run pins s σ H D I)⟩
theorem ss_sti {o i : Expr} {mo mi : ME} {pos' : Pos} (hu : X.A.units + 65 < cLine) (he : PE X e (tE G C m)) (ho : PE X o (tE G C mo)) (hi : PE X i (tE G C mi))
    (ha : ∀ v, assign (.Subscript o i pos') X.env v = (do
      let ov ← holding [v] (eval o X.env)
      let iv ← holding [v, ov] (eval i X.env)
      standAt pos'
      holding [v, ov, iv] (setItem ov iv v)
      release [v, ov, iv] []) := by intro _; rfl)
    (hs : swapsWithSole [.Subscript o i pos'] e pos.line X.env = pure false := by rfl) (hw : swappedStores [.Subscript o i pos'] e X.env = pure none := by rfl)
    (h1 : (assignEach [.Subscript o i pos'] X.env).map (·.2) = [assign (.Subscript o i pos') X.env] := by rfl) (hs2 : swapsWith e (some (.Subscript o i pos')) pos.line X.env = pure false := by rfl) : PS X (.Assign [.Subscript o i pos'] e pos) (tS G C (.sti mo mi m)) := (PS.or' (ps_asg he (pg_sub ho hi set_list ha) hs hw h1) (ps_dput (by omega) ho hi he hs2)).mono fun D σ H h => by
  obtain ⟨A, ρ, fl, ρ', mh', rfl, S, N, e, q⟩ := h
  simp only [ex] at e
  split at e
  · cases e
  rename_i v mh1 e1
  split at e
  · rename_i l mh2 e2
    split at e
    · rename_i j mh3 e3
      split at e
      · rename_i xs hl
        split at e
        · cases e
        rename_i jj hj
        split at e
        · rename_i hw
          cases e
          refine .inl ?_
          refine tE.go S N e1 fun B x k em SB NB r => tE.go SB NB (ev.at k em e2) fun B2 y k2 em2 S2 N2 r2 => tE.go S2 N2 (ev.at (k.trans k2) em2 e3) fun B3 z k3 em3 S3 N3 r3 => ?_
          rw [← em3] at hl
          obtain ⟨a, rfl, hb⟩ := (Rep.keep S2 k3 _ _ r2).loc_
          obtain ⟨vs, eH, rr⟩ := S3.obj l _ hl a hb
          have rx := Rep.keep S2 k3 _ _ (Rep.keep SB k2 _ _ r)
          have kk := (k.trans k2).trans k3
          obtain ⟨kW, SW⟩ := lst_wr S3 hl hb (rr.set rx jj) fun b hbs hlb => by
            have h1 : bds b xs = true := S3.bnd b hbs l _ hlb hl
            have h2 : bds b (xs ++ [v]) = true := by
              rw [bds_app, h1]
              show (true && (bd b v && true)) = true
              rw [wr_bd S3 (by rw [kk.base]; exact hw) hbs hlb]
              rfl
            exact bds_sub h2 fun z hz => by
              rcases List.mem_or_eq_of_mem_set hz with hz | rfl
              · exact List.mem_append_left _ hz
              · simp
          exact ⟨a, vs, j, jj, rfl, r3.int_, eH, by rw [← rr.len]; exact hj, q _ (kk.trans kW) (by show B3.mh.set l _ = _; rw [em3]) SW _ ((N3.keep S3 kW))⟩
        · cases e
      · rename_i ks ms hl
        split at e
        · rename_i hc
          cases e
          refine .inr ?_
          refine tE.go S N e1 fun B x k em SB NB r => tE.go SB NB (ev.at k em e2) fun B2 y k2 em2 S2 N2 r2 => tE.go S2 N2 (ev.at (k.trans k2) em2 e3) fun B3 z k3 em3 S3 N3 r3 => ?_
          have kk := (k.trans k2).trans k3
          obtain ⟨a, H4, h1, h2, W, rfl, kW, SW, mW⟩ := dput_go (A := A) (k := .inl j) S3 (by rw [em3]; exact hl) (Rep.keep S2 k3 _ _ r2) r3.int_ (Rep.keep S2 k3 _ _ (Rep.keep SB k2 _ _ r)) (by rw [kk.base]; exact hc.1) hc.2
          exact ⟨a, _, h1, h2, q _ (kk.trans kW) (by rw [mW, em3]) SW _ (N3.keep S3 kW)⟩
        · cases e
      · cases e
    · rename_i s mh3 e3
      split at e
      · rename_i ks ms hl
        split at e
        · rename_i hc
          cases e
          refine .inr ?_
          refine tE.go S N e1 fun B x k em SB NB r => tE.go SB NB (ev.at k em e2) fun B2 y k2 em2 S2 N2 r2 => tE.go S2 N2 (ev.at (k.trans k2) em2 e3) fun B3 z k3 em3 S3 N3 r3 => ?_
          have kk := (k.trans k2).trans k3
          obtain ⟨a, H4, h1, h2, W, rfl, kW, SW, mW⟩ := dput_go (A := A) (k := .inr s) S3 (by rw [em3]; exact hl) (Rep.keep S2 k3 _ _ r2) r3.str_ (Rep.keep S2 k3 _ _ (Rep.keep SB k2 _ _ r)) (by rw [kk.base]; exact hc.1) hc.2
          exact ⟨a, _, h1, h2, q _ (kk.trans kW) (by rw [mW, em3]) SW _ (N3.keep S3 kW)⟩
        · cases e
      · cases e
    · cases e
  · cases e
theorem ss_aug {i : Nat} {x : Str} {o : Op} {pos' : Pos} (ho : o = .add ∨ o = .sub) (hN : X.N.Nodup) (hi : X.N[i]? = some x) (hx : Loc X.env.scope x) (he : PE X e (tE G C m)) (hf : X.fn x = true ∨ X.env.scope.names.lookup x = some .local := by first | exact .inl rfl | exact .inr rfl | assumption) :
    PS X (.AugAssign (.Name x pos') (opOf o) e pos) (tS G C (.aug i o m)) := by
  have main : ∀ (f : Int → Int → Int), PIp X (opOf o) (ipI f) → (∀ base ρ mh ρ' mh' fl, ex C base (.aug i o m) ρ mh = some (fl, ρ', mh') → ∃ a b, ρ[i]? = some (some (.int a)) ∧ ev C base m ρ mh = some (.int b, mh') ∧ fl = .nx ∧ ρ' = ρ.set i (some (.int (f a b)))) → PS X (.AugAssign (.Name x pos') (opOf o) e pos) (tS G C (.aug i o m)) := fun f hip hex =>
    (ps_aug hN hi hx he hip hf).mono fun D σ H h => by
      obtain ⟨A, ρ, fl, ρ', mh', rfl, S, N, e, q⟩ := h
      obtain ⟨a, b, e1, e2, rfl, rfl⟩ := hex _ _ _ _ _ _ e
      obtain ⟨y, h1, h2⟩ := N.2 i _ e1
      refine ⟨y, h1, tE.go S N e2 fun B z k em SB NB r => ⟨a, b, h2.int_, r.int_, q B k em SB _ (NB.set (rep_int _) i)⟩⟩
  rcases ho with rfl | rfl
  · refine main (fun a b => a + b) ip_add fun base ρ mh ρ' mh' fl e => ?_
    simp only [ex] at e
    split at e
    · rename_i a ha
      split at e
      · rename_i b mh1 hb
        cases e
        exact ⟨a, b, ha, hb, rfl, rfl⟩
      · cases e
    · cases e
  · refine main (fun a b => a - b) ip_sub fun base ρ mh ρ' mh' fl e => ?_
    simp only [ex] at e
    split at e
    · rename_i a ha
      split at e
      · rename_i b mh1 hb
        cases e
        exact ⟨a, b, ha, hb, rfl, rfl⟩
      · cases e
    · cases e
end
end L2.Mi

set_option Elab.async false
set_option linter.all false
set_option maxRecDepth 100000
set_option maxHeartbeats 4000000
/-! Mini11: a call's entry and exit; all defs of a table. -/
namespace L2.Mi
open PySem PySem.Spec PyProof.Rows

/-! ### worlds that hold less -/
structure Les (A B : Wd) (n : Nat) : Prop where
  H : B.H = A.H
  β : ∀ (l : Nat) (a : Addr), l < n → A.β[l]? = some a → B.β[l]? = some a
  liv : ∀ a, B.live a → A.live a
  ex : ∀ a ∈ B.ex, a ∈ A.ex
mutual
theorem Rep.les {G : Gb} {A B : Wd} {n : Nat} (h : Les A B n) : ∀ (x : MV) (v : V), bd n x = true → Rep G A x v → Rep G B x v
  | .non, v, _, r => r
  | .bl b, v, _, r => r
  | .int i, v, _, r => r
  | .str s, v, _, r => r
  | .fn f, v, _, r => r
  | .tup xs, v, d, r => by
    unfold Rep at r ⊢
    unfold bd at d
    obtain ⟨a, vs, e, h1, h2⟩ := r
    exact ⟨a, vs, e, by rw [h.H]; exact h1, Reps.les h xs vs d h2⟩
  | .lst xs, v, d, r => by
    unfold Rep at r ⊢
    unfold bd at d
    obtain ⟨a, vs, e, h1, h2, h3⟩ := r
    exact ⟨a, vs, e, by rw [h.H]; exact h1, ⟨fun z => h2.1 (h.liv a z), fun z => h2.2 (h.ex a z)⟩, Reps.les h xs vs d h3⟩
  | .dct ks ms, v, d, r => by
    unfold Rep at r ⊢
    unfold bd at d
    obtain ⟨a, vs, e, h1, h2, h3, h4⟩ := r
    exact ⟨a, vs, e, by rw [h.H]; exact h1, ⟨fun z => h2.1 (h.liv a z), fun z => h2.2 (h.ex a z)⟩, h3, Reps.les h ms vs d h4⟩
  | .loc l, v, d, r => by
    unfold Rep at r ⊢
    unfold bd at d
    obtain ⟨a, e, h1⟩ := r
    exact ⟨a, e, h.β l a (of_decide_eq_true d) h1⟩
  | .scr ns, v, _, r => by
    unfold Rep at r ⊢
    obtain ⟨a, e, h1⟩ := r
    refine ⟨a, e, ?_⟩
    rcases h1 with ⟨h1, h2⟩ | h1
    · exact .inl ⟨by rw [h.H]; exact h1, fun z => h2.1 (h.liv a z), fun z => h2.2 (h.ex a z)⟩
    · exact .inr h1
theorem Reps.les {G : Gb} {A B : Wd} {n : Nat} (h : Les A B n) : ∀ (xs : List MV) (vs : List V), bds n xs = true → Reps G A xs vs → Reps G B xs vs
  | [], vs, _, r => r
  | x :: xs, vs, d, r => by
    unfold Reps at r ⊢
    unfold bds at d
    rw [Bool.and_eq_true] at d
    obtain ⟨v, t, e, h1, h2⟩ := r
    exact ⟨v, t, e, Rep.les h x v d.1 h1, Reps.les h xs t d.2 h2⟩
end
theorem ORep.les {G : Gb} {A B : Wd} {n : Nat} (h : Les A B n) {o : MO} {a : Addr} (d : obd n o = true) (r : ORep G A o a) : ORep G B o a := by
  cases o with
  | lst xs => obtain ⟨vs, q, r⟩ := r; exact ⟨vs, by rw [h.H]; exact q, Reps.les h _ _ d r⟩
  | dct ks ms => obtain ⟨vs, q, l, r⟩ := r; exact ⟨vs, by rw [h.H]; exact q, l, Reps.les h _ _ d r⟩
mutual
theorem Rep.bd {G : Gb} {A : Wd} : ∀ (x : MV) (v : V), Rep G A x v → bd A.β.length x = true
  | .non, v, r => rfl
  | .bl b, v, r => rfl
  | .int i, v, r => rfl
  | .str s, v, r => rfl
  | .fn f, v, r => rfl
  | .scr ns, v, r => rfl
  | .tup xs, v, r => by
    unfold Rep at r
    unfold Mi.bd
    obtain ⟨a, vs, e, h1, h2⟩ := r
    exact Reps.bd xs vs h2
  | .lst xs, v, r => by
    unfold Rep at r
    unfold Mi.bd
    obtain ⟨a, vs, e, h1, h2, h3⟩ := r
    exact Reps.bd xs vs h3
  | .dct ks ms, v, r => by
    unfold Rep at r
    unfold Mi.bd
    obtain ⟨a, vs, e, h1, h2, h3, h4⟩ := r
    exact Reps.bd ms vs h4
  | .loc l, v, r => by
    unfold Rep at r
    unfold Mi.bd
    obtain ⟨a, e, h1⟩ := r
    exact decide_eq_true (List.getElem?_eq_some_iff.mp h1).1
theorem Reps.bd {G : Gb} {A : Wd} : ∀ (xs : List MV) (vs : List V), Reps G A xs vs → bds A.β.length xs = true
  | [], vs, r => rfl
  | x :: xs, vs, r => by
    unfold Reps at r
    unfold bds
    obtain ⟨v, t, e, h1, h2⟩ := r
    rw [Rep.bd x v h1, Reps.bd xs t h2]
    rfl
end
theorem ORep.bd {G : Gb} {A : Wd} {o : MO} {a : Addr} (r : ORep G A o a) : obd A.β.length o = true := by
  cases o with
  | lst xs => obtain ⟨vs, q, r⟩ := r; exact Reps.bd _ _ r
  | dct ks ms => obtain ⟨vs, q, l, r⟩ := r; exact Reps.bd _ _ r
/-! ### entry -/
abbrev Wd.ent (A : Wd) : Wd := { A with bs := A.mh.length :: A.bs }
theorem les_ent {A : Wd} (n : Nat) : Les A A.ent n := ⟨rfl, fun _ _ _ h => h, fun _ h => h, fun _ h => h⟩
theorem Sim.ent {G : Gb} {A : Wd} (S : Sim G A) : Sim G A.ent where
  len := S.len
  ble := fun b hb => by
    rcases List.mem_cons.mp hb with rfl | hb
    · exact Nat.le_refl _
    · exact S.ble b hb
  top := fun b hb => by
    show b ≤ A.mh.length
    rcases List.mem_cons.mp hb with rfl | hb
    · exact Nat.le_refl _
    · exact S.ble b hb
  obj := fun l o e a q => (S.obj l o e a q).les (les_ent A.β.length) (S.obj l o e a q).bd
  inj := S.inj
  exo := S.exo
  exl := S.exl
  bnd := fun b hb l o hl e => by
    rcases List.mem_cons.mp hb with rfl | hb
    · have hl' : l < A.β.length := by rw [S.len]; exact hl
      have := (S.obj l o e A.β[l] (List.getElem?_eq_getElem hl')).bd
      rw [S.len] at this
      exact this
    · exact S.bnd b hb l o hl e
theorem envs_start {G : Gb} {A : Wd} {args : List MV} {vs : List V} {N : List Str} {ns : Nat} (hN : N.length = ns) (r : Reps G A args vs) : Envs G A (args.map some ++ List.replicate (ns - args.length) none) (L2.start N vs) := by
  have hl := r.len
  refine ⟨by unfold L2.start; simp [hl, hN], fun i v e => ?_⟩
  by_cases hi : i < args.length
  · rw [List.getElem?_append_left (by simpa using hi)] at e
    rw [List.getElem?_map] at e
    cases q : args[i]? with
    | none => rw [q] at e; cases e
    | some x =>
      rw [q] at e
      cases e
      obtain ⟨w, h1, h2⟩ := r.get q
      refine ⟨w, ?_, h2⟩
      unfold L2.start
      rw [List.getElem?_append_left (by rw [List.length_map, ← hl]; exact hi), List.getElem?_map, h1]
      rfl
  · rw [List.getElem?_append_right (by simpa using hi)] at e
    rw [List.getElem?_replicate] at e
    split at e
    · cases e
    · cases e
/-! ### exit -/
abbrev Wd.exi (A B : Wd) : Wd := { B with bs := A.bs }
theorem les_exi {A B : Wd} (n : Nat) : Les B (A.exi B) n := ⟨rfl, fun _ _ _ h => h, fun _ h => h, fun _ h => h⟩
theorem keep_exi {A B : Wd} (k : Keep A.ent B) : Keep A (A.exi B) := ⟨k.ex, k.exn, k.dom, rfl, k.pre, k.obj, k.liv, k.exk⟩
theorem Sim.exi {G : Gb} {A B : Wd} (SA : Sim G A) (S : Sim G B) (k : Keep A.ent B) : Sim G (A.exi B) where
  len := S.len
  ble := fun b hb => S.ble b (by rw [k.bs]; exact List.mem_cons_of_mem _ hb)
  top := fun b hb => SA.top b hb
  obj := fun l o e a q => (S.obj l o e a q).les (les_exi B.β.length) (S.obj l o e a q).bd
  inj := S.inj
  exo := S.exo
  exl := S.exl
  bnd := fun b hb => S.bnd b (by rw [k.bs]; exact List.mem_cons_of_mem _ hb)
abbrev Wd.cutd (A B : Wd) : Wd := { B with bs := A.bs, mh := B.mh.take A.mh.length, β := B.β.take A.mh.length }
theorem take_lt {α : Type} {xs : List α} {n l : Nat} {x : α} (h : (xs.take n)[l]? = some x) : l < n ∧ xs[l]? = some x := by
  rw [List.getElem?_take] at h
  split at h
  · exact ⟨by assumption, h⟩
  · cases h
theorem cutd_live {A B : Wd} {a : Addr} (h : (A.cutd B).live a) : ∃ (l : Nat) (o : MO), l < A.mh.length ∧ B.mh[l]? = some (some o) ∧ B.β[l]? = some a := by
  obtain ⟨l, o, e1, e2⟩ := h
  obtain ⟨h1, h2⟩ := take_lt e1
  obtain ⟨_, h3⟩ := take_lt e2
  exact ⟨l, o, h1, h2, h3⟩
theorem les_cutd {A B : Wd} : Les B (A.cutd B) A.mh.length := ⟨rfl, fun l a hl h => by
    show (B.β.take A.mh.length)[l]? = some a
    rw [List.getElem?_take, if_pos hl]; exact h, fun a z => let ⟨l, o, _, h2, h3⟩ := cutd_live z; ⟨l, o, h2, h3⟩, fun _ h => h⟩
theorem keep_cutd {G : Gb} {A B : Wd} (SA : Sim G A) (S : Sim G B) (k : Keep A.ent B) : Keep A (A.cutd B) := by
  refine ⟨k.ex, k.exn, k.dom, rfl, ⟨[], ?_⟩, k.obj, fun a z => ?_, k.exk⟩
  · obtain ⟨t, e⟩ := k.pre
    show B.β.take A.mh.length = A.β ++ []
    have e' : B.β = A.β ++ t := e
    rw [e', ← SA.len, List.take_left', List.append_nil]
    rfl
  · obtain ⟨l, o, _, h2, h3⟩ := cutd_live z
    exact k.liv a ⟨l, o, h2, h3⟩
theorem ent_len {G : Gb} {A B : Wd} (S : Sim G B) (k : Keep A.ent B) : A.mh.length ≤ B.mh.length := S.ble _ (by rw [k.bs]; simp)
theorem Sim.cutd {G : Gb} {A B : Wd} (SA : Sim G A) (S : Sim G B) (k : Keep A.ent B) : Sim G (A.cutd B) where
  len := by
    show (B.β.take A.mh.length).length = (B.mh.take A.mh.length).length
    rw [List.length_take, List.length_take, S.len]
  ble := fun b hb => by
    show b ≤ (B.mh.take A.mh.length).length
    rw [List.length_take]
    have h1 := ent_len S k
    have h2 := SA.ble b hb
    omega
  top := fun b hb => SA.top b hb
  obj := fun l o e a q => by
    obtain ⟨h1, h2⟩ := take_lt e
    obtain ⟨_, h3⟩ := take_lt q
    exact (S.obj l o h2 a h3).les les_cutd (S.bnd _ (by rw [k.bs]; simp) l o h1 h2)
  inj := fun l l' a o o' e1 e2 q1 q2 => S.inj l l' a o o' (take_lt e1).2 (take_lt e2).2 (take_lt q1).2 (take_lt q2).2
  exo := S.exo
  exl := fun a ha z => S.exl a ha (by obtain ⟨l, o, _, h2, h3⟩ := cutd_live z; exact ⟨l, o, h2, h3⟩)
  bnd := fun b hb l o hl e => S.bnd b (by rw [k.bs]; exact List.mem_cons_of_mem _ hb) l o hl (take_lt e).2
section
variable {G : Gb} {A B : Wd}
mutual
theorem frz_rep (SA : Sim G A) (S : Sim G B) : ∀ (k : Nat) (x x' : MV) (v : V), frz A.mh.length B.mh k x = some x' → Rep G B x v → Rep G (A.cutd B) x' v
  | k, .non, x', v, e, r => by unfold frz at e; cases e; exact r
  | k, .bl b, x', v, e, r => by unfold frz at e; cases e; exact r
  | k, .int i, x', v, e, r => by unfold frz at e; cases e; exact r
  | k, .str s, x', v, e, r => by unfold frz at e; cases e; exact r
  | k, .fn f, x', v, e, r => by unfold frz at e; cases e; exact r
  | k, .scr ns, x', v, e, r => by unfold frz at e; cases e; exact Rep.les les_cutd _ _ rfl r
  | k, .tup xs, x', v, e, r => by
    unfold frz at e
    cases q : frzs A.mh.length B.mh k xs with
    | none => rw [q] at e; exact nomatch e
    | some ys =>
      rw [q] at e; cases e
      unfold Rep at r ⊢
      obtain ⟨a, vs, e1, h1, h2⟩ := r
      exact ⟨a, vs, e1, h1, frzs_rep SA S k xs ys vs q h2⟩
  | k, .lst xs, x', v, e, r => by
    unfold frz at e
    cases q : frzs A.mh.length B.mh k xs with
    | none => rw [q] at e; exact nomatch e
    | some ys =>
      rw [q] at e; cases e
      unfold Rep at r ⊢
      obtain ⟨a, vs, e1, h1, h2, h3⟩ := r
      exact ⟨a, vs, e1, h1, ⟨fun z => h2.1 (les_cutd.liv a z), h2.2⟩, frzs_rep SA S k xs ys vs q h3⟩
  | k, .dct ks ms, x', v, e, r => by
    unfold frz at e
    cases q : frzs A.mh.length B.mh k ms with
    | none => rw [q] at e; exact nomatch e
    | some ys =>
      rw [q] at e; cases e
      unfold Rep at r ⊢
      obtain ⟨a, vs, e1, h1, h2, h3, h4⟩ := r
      have r' := frzs_rep SA S k ms ys vs q h4
      exact ⟨a, vs, e1, h1, ⟨fun z => h2.1 (les_cutd.liv a z), h2.2⟩, by rw [h3, h4.len, r'.len], r'⟩
  | 0, .loc l, x', v, e, r => by
    unfold frz at e
    split at e
    · rename_i hl
      cases e
      exact Rep.les les_cutd _ _ (by unfold Mi.bd; exact decide_eq_true hl) r
    · simp at e
  | k + 1, .loc l, x', v, e, r => by
    unfold frz at e
    split at e
    · rename_i hl
      cases e
      exact Rep.les les_cutd _ _ (by unfold Mi.bd; exact decide_eq_true hl) r
    · rename_i hl
      obtain ⟨a, rfl, e2⟩ := r.loc_
      have off : ∀ {o}, B.mh[l]? = some (some o) → ¬ (A.cutd B).live a ∧ a ∉ (A.cutd B).ex := fun {o} ho => by
        refine ⟨fun z => ?_, fun z => S.exl a z ⟨l, o, ho, e2⟩⟩
        obtain ⟨l', o', h1, h2, h3⟩ := cutd_live z
        have := S.inj l' l a o' o h2 ho h3 e2
        omega
      simp only at e
      split at e
      · rename_i xs ho
        cases q : frzs A.mh.length B.mh k xs with
        | none => rw [q] at e; exact nomatch e
        | some ys =>
          rw [q] at e; cases e
          obtain ⟨vs, e3, r3⟩ := S.obj l _ ho a e2
          unfold Rep
          exact ⟨a, vs, rfl, e3, off ho, frzs_rep SA S k xs ys vs q r3⟩
      · rename_i ks ms ho
        cases q : frzs A.mh.length B.mh k ms with
        | none => rw [q] at e; exact nomatch e
        | some ys =>
          rw [q] at e; cases e
          obtain ⟨vs, e3, hl', r3⟩ := S.obj l _ ho a e2
          have r' := frzs_rep SA S k ms ys vs q r3
          unfold Rep
          exact ⟨a, vs, rfl, .inl e3, off ho, by rw [hl', r3.len, r'.len], r'⟩
      · exact nomatch e
  termination_by k x => (k, sizeOf x)
theorem frzs_rep (SA : Sim G A) (S : Sim G B) : ∀ (k : Nat) (xs ys : List MV) (vs : List V), frzs A.mh.length B.mh k xs = some ys → Reps G B xs vs → Reps G (A.cutd B) ys vs
  | k, [], ys, vs, e, r => by unfold frzs at e; cases e; exact r
  | k, x :: xs, ys, vs, e, r => by
    unfold frzs at e
    unfold Reps at r
    obtain ⟨v, t, rfl, h1, h2⟩ := r
    cases q : frz A.mh.length B.mh k x with
    | none => rw [q] at e; exact nomatch e
    | some y =>
      rw [q] at e
      simp only at e
      cases q2 : frzs A.mh.length B.mh k xs with
      | none => rw [q2] at e; exact nomatch e
      | some ys' =>
        rw [q2] at e; cases e
        unfold Reps
        exact ⟨v, t, rfl, frz_rep SA S k x y v q h1, frzs_rep SA S k xs ys' t q2 h2⟩
  termination_by k xs => (k, sizeOf xs)
end
end
/-- the body of a def keeps the word of runD -/
theorem run_ok {G : Gb} {C : CallF} {d : Df} {N : List Str} {vs : List V} {Q : VK} {A : Wd} {args : List MV} {r : MV} {mh' : MHp} (hN : N.length = d.ns) (S : Sim G A) (ra : Reps G A args vs) (e : runD C d args A.mh = some (r, mh')) (q : Post G A mh' r Q) :
    args.length = d.np ∧ tSs G C d.body { nx := fun _ H' => Q .non H', rt := Q } (L2.start N vs) A.H := by
  unfold runD at e
  split at e
  · rename_i hl
    refine ⟨hl, ?_⟩
    split at e
    · cases e
    rename_i fl ρ' mh1 e1
    split at e
    · cases e
    rename_i v e2
    have SE := S.ent
    refine ⟨A.ent, _, fl, ρ', mh1, rfl, SE, (envs_start hN (Reps.les (les_ent A.β.length) _ _ ra.bd ra) : Envs G A.ent (args.map some ++ List.replicate (d.ns - args.length) none) _), ?_, fun B k em SB => ?_⟩
    · rw [hl]; exact e1
    have fin : ∀ x, Rep G B v x → Q x B.H := fun x rx => by
      split at e
      · cases e
        exact q (A.exi B) x (keep_exi k) em (S.exi SB k) (Rep.les (les_exi B.β.length) _ _ rx.bd rx)
      · simp only [Option.map_eq_some_iff] at e
        obtain ⟨w, e3, e4⟩ := e
        cases e4
        refine q (A.cutd B) x (keep_cutd S SB k) ?_ (S.cutd SB k) ?_
        · show B.mh.take _ = _; rw [em]
        · exact frz_rep S SB 8 v _ x (by rw [em]; exact e3) rx
    cases fl with
    | nx =>
      cases e2
      exact fun σ _ => fin .non rep_non
    | rt w =>
      cases e2
      exact fin
    | bk => cases e2
    | ct => cases e2
  · cases e
theorem _root_.L2.PSs.noxM {X : Cx} {sts : List Stmt} {t : TS} (h : PSs X.nox sts t) : PSs X.nox sts t := h
/-! ### the table -/
structure DefOk (P : Program) (w : World) (K : PySem.W.Frag) (mg : Str → Option Value) (base : Heap) (G : Gb) (T : List Df) (f : Nat) (a : Addr) : Prop where
  ex : ∃ (d : Df) (x qual : Str) (st : Stmt) (fd : FuncData) (N ps : List Str), T[f]? = some d ∧ FunD K x qual (defArgs st) (defBody st) (defScope st) [] [] a fd ∧ FnScope N ps (defScope st) ∧ N.length = d.ns ∧ ps.length = d.np ∧ Binds K fd ps [] ∧
    ∀ (k : Nat) (C : CallF) (cdv : Value) (A : Around) (outer : List PySem.Env) (s : Shared) (H : Hp) (E : XK), (∀ f a, G.fa f = some a → FnC P w K mg base G C k f a) → Room k (A.deeper (envOfC qual (defScope st) s.heap.objs.size a cdv)) →
      PSs (cxOf CX0 P w K mg base N qual (defScope st) a cdv A outer s H E).nox (defBody st) (tSs G C d.body)
theorem fnC_of {P : Program} {w : World} {K : PySem.W.Frag} {mg : Str → Option Value} {base : Heap} {G : Gb} {T : List Df} (h : ∀ f a, G.fa f = some a → DefOk P w K mg base G T f a) : ∀ k f a, G.fa f = some a → FnC P w K mg base G (callM T k) k f a := by
  intro k
  induction k with
  | zero =>
    intro f a hf
    obtain ⟨d, x, qual, st, fd, N, ps, hd, F, S, hN, hp, hb, hbody⟩ := (h f a hf).ex
    refine ⟨fd, ps, ⟨fun vs H Q E q => q.1, fun A outer s H args us vs Q E _ _ _ _ q => ?_⟩, F.kp, hb, fun args mh r e => ?_⟩
    · obtain ⟨_, A, args, r, mh', _, _, _, e, _⟩ := q
      unfold callM at e
      cases e
    · unfold callM at e
      cases e
  | succ k ih =>
    intro f a hf
    obtain ⟨d, x, qual, st, fd, N, ps, hd, F, S, hN, hp, hb, hbody⟩ := (h f a hf).ex
    refine ⟨fd, ps, F.ok S (fun vs H Q E q => q.1) (fun cdv A outer s H vs Q E hr q => ⟨_, (hbody k (callM T k) cdv A outer s H E ih hr).nox, ?_⟩), F.kp, hb, fun args mh r e => ?_⟩
    · obtain ⟨hl, W, args, r, mh', rfl, SW, ra, e, q⟩ := q
      unfold callM at e
      rw [hd] at e
      exact (run_ok hN SW ra e q).2
    · unfold callM at e
      rw [hd] at e
      simp only [runD] at e
      split at e
      · rename_i hl; rw [hl, hp]
      · cases e
end L2.Mi

set_option Elab.async false
set_option linter.all false
set_option maxRecDepth 100000
set_option maxHeartbeats 4000000
/-! Mini12: short words for printed derivations. -/
namespace L2.Mi
open PySem PySem.Spec PyProof.Rows

theorem bt_len : bootBuiltins "len" = some (.builtin "len") := by decide +kernel
theorem bt_abs : bootBuiltins "abs" = some (.builtin "abs") := by decide +kernel
theorem bt_all : bootBuiltins "all" = some (.builtin "all") := by decide +kernel
theorem bt_any : bootBuiltins "any" = some (.builtin "any") := by decide +kernel
theorem bt_sum : bootBuiltins "sum" = some (.builtin "sum") := by decide +kernel
theorem bt_max : bootBuiltins "max" = some (.builtin "max") := by decide +kernel
theorem bt_min : bootBuiltins "min" = some (.builtin "min") := by decide +kernel
theorem bt_isinstance : bootBuiltins "isinstance" = some (.builtin "isinstance") := by decide +kernel
theorem bt_int : bootBuiltins "int" = some (.type "int") := by decide +kernel
theorem bt_str : bootBuiltins "str" = some (.type "str") := by decide +kernel
theorem bt_bool : bootBuiltins "bool" = some (.type "bool") := by decide +kernel
theorem bt_tuple : bootBuiltins "tuple" = some (.type "tuple") := by decide +kernel
theorem bt_list : bootBuiltins "list" = some (.type "list") := by decide +kernel
theorem bt_dict : bootBuiltins "dict" = some (.type "dict") := by decide +kernel
section
variable {G : Gb} {C : CallF} {X : Cx} {pos p : Pos} {e a b c : Expr} {ma mb mc m : ME} {k : Nat}
/-- the i-th name -/
theorem sv (i : Nat) {x : Str} (hN : X.N[i]? = some x := by rfl) (hv : Vis X.env.scope x := by first | exact Or.inl rfl | exact Or.inr (Or.inl rfl) | exact Or.inr (Or.inr rfl)) (hd : (x == ("__debug__" : Str)) = false := by decide)
    (hcd : (x == ("__classdict__" : Str)) = false := by decide) : PE X (.Name x pos) (tE G C (.var i)) := se_var hN hv hd hcd
theorem sgl {x : Str} {i : Int} (hm : ∃ t, X.mg x = some (.int i t)) (hg : Gl X x := by rfl) (hd : (x == ("__debug__" : Str)) = false := by decide) : PE X (.Name x pos) (tE G C (.c (.int i))) := by
  obtain ⟨t, h⟩ := hm
  exact se_glob hg h hd
theorem sfn {x : Str} (f : Nat) {a : Addr} (hm : X.mg x = some (.ref a)) (hf : G.fa f = some a := by rfl) (hg : Gl X x := by rfl) (hd : (x == ("__debug__" : Str)) = false := by decide) : PE X (.Name x pos) (tE G C (.c (.fn f))) := se_fn hg hm hf hd
theorem scall {x : Str} (f : Nat) {fa : Addr} {es : List Expr} {ms : List ME} (F : ∀ f a, G.fa f = some a → FnC X.prog X.w X.K X.mg X.base G C k f a) (hr : Room k X.A) (hm : X.mg x = some (.ref fa)) (ha : PA X (e :: es) (tEs G C ms)) (hf : G.fa f = some fa := by rfl) (hg : Gl X x := by rfl)
    (hdb : (x == ("__debug__" : Str)) = false := by decide) (he : starEach (e :: es) X.env = (false, eval e X.env) :: starEach es X.env := by rfl) (hpl : (backTo pos (starEach es X.env)).any (·.1) = false := by rfl) :
    PE X (.Call (.Name x p) (e :: es) [] pos) (tE G C (.call f ms)) := se_call (F f fa hf) hr hg hm ha hdb he hpl
theorem scallv {x : Str} (i : Nat) {es : List Expr} {ms : List ME} (F : ∀ f fa, G.fa f = some fa → FnC X.prog X.w X.K X.mg X.base G C k f fa) (hr : Room k X.A) (ha : PA X (e :: es) (tEs G C ms)) (hN : X.N[i]? = some x := by rfl) (hv : Vis X.env.scope x := by first | exact Or.inl rfl | exact Or.inr (Or.inl rfl) | exact Or.inr (Or.inr rfl))
    (hdb : (x == ("__debug__" : Str)) = false := by decide) (hcd : (x == ("__classdict__" : Str)) = false := by decide) (he : starEach (e :: es) X.env = (false, eval e X.env) :: starEach es X.env := by rfl) (hpl : (backTo pos (starEach es X.env)).any (·.1) = false := by rfl) :
    PE X (.Call (.Name x p) (e :: es) [] pos) (tE G C (.callv i ms)) := se_callv F hr hN hv ha hdb hcd he hpl
theorem sgn (i : Nat) {x : Str} (hN : X.N.Nodup) (hi : X.N[i]? = some x := by rfl) (hx : Loc X.env.scope x := by first | exact Or.inl rfl | exact Or.inr rfl) (hf : X.fn x = true ∨ X.env.scope.names.lookup x = some .local := by first | exact .inl rfl | exact .inr rfl) : PG X (.Name x pos) (tG G (.nm i)) := sg_name hN hi hx hf
theorem sset (i : Nat) {x : Str} {pos' : Pos} (hN : X.N.Nodup) (he : PE X e (tE G C m)) (hi : X.N[i]? = some x := by rfl) (hx : Loc X.env.scope x := by first | exact Or.inl rfl | exact Or.inr rfl) (hs : swapsWith e (some (.Name x pos')) pos.line X.env = pure false := by rfl) (hf : X.fn x = true ∨ X.env.scope.names.lookup x = some .local := by first | exact .inl rfl | exact .inr rfl) :
    PS X (.Assign [.Name x pos'] e pos) (tS G C (.set (.nm i) m)) := ss_set hN hi hx he hs hf
theorem spar (i j : Nat) {x y : Str} {px py pt : Pos} {kt k2 pt2} (hN : X.N.Nodup) (ha : PE X a (tE G C ma)) (hb : PE X b (tE G C mb)) (hw : swappedStores [.Tuple [.Name x px, .Name y py] kt pt] (.Tuple [a, b] k2 pt2) X.env = pure (some [x, y]))
    (hc : X.calm = true := by rfl) (hi : X.N[i]? = some x := by rfl) (hj : X.N[j]? = some y := by rfl) (hij : i ≠ j := by decide)
    (hx : X.env.scope.names.lookup x = some .local := by rfl) (hy : X.env.scope.names.lookup y = some .local := by rfl) 
    (hs : swapsWithSole [.Tuple [.Name x px, .Name y py] kt pt] (.Tuple [a, b] k2 pt2) pos.line X.env = pure false := by rfl)
    (hs1 : starEach [a, b] X.env = (false, eval a X.env) :: starEach [b] X.env := by rfl) (hs2 : starEach [b] X.env = (false, eval b X.env) :: starEach [] X.env := by rfl) :
    PS X (.Assign [.Tuple [.Name x px, .Name y py] kt pt] (.Tuple [a, b] k2 pt2) pos) (tS G C (.par i j ma mb)) := ss_par hc hN hi hj hij hx hy ha hb hw hs hs1 hs2
theorem saug (i : Nat) {x : Str} {o : Op} {pos' : Pos} (ho : o = .add ∨ o = .sub) (hN : X.N.Nodup) (he : PE X e (tE G C m)) (hi : X.N[i]? = some x := by rfl) (hx : Loc X.env.scope x := by first | exact Or.inl rfl | exact Or.inr rfl) (hf : X.fn x = true ∨ X.env.scope.names.lookup x = some .local := by first | exact .inl rfl | exact .inr rfl) :
    PS X (.AugAssign (.Name x pos') (opOf o) e pos) (tS G C (.aug i o m)) := ss_aug ho hN hi hx he hf
/-! built-ins -/
theorem sb_len (hm : X.mg "len" = none) (hK : X.K = G.K) {es : List Expr} {ms : List ME} (ha : PA X (e :: es) (tEs G C ms)) (hg : Gl X "len" := by rfl) (he : starEach (e :: es) X.env = (false, eval e X.env) :: starEach es X.env := by rfl) (hpl : (backTo pos (starEach es X.env)).any (·.1) = false := by rfl) : PE X (.Call (.Name "len" p) (e :: es) [] pos) (tE G C (.bi .len ms)) := se_biB bi_len (call_len.or call_lenR) hK hg hm bt_len ha (by decide) (by decide) he hpl
theorem sb_abs (hm : X.mg "abs" = none) (hK : X.K = G.K) {es : List Expr} {ms : List ME} (ha : PA X (e :: es) (tEs G C ms)) (hg : Gl X "abs" := by rfl) (he : starEach (e :: es) X.env = (false, eval e X.env) :: starEach es X.env := by rfl) (hpl : (backTo pos (starEach es X.env)).any (·.1) = false := by rfl) : PE X (.Call (.Name "abs" p) (e :: es) [] pos) (tE G C (.bi .abs ms)) := se_biB bi_abs call_abs hK hg hm bt_abs ha (by decide) (by decide) he hpl
theorem sb_all (hm : X.mg "all" = none) (hK : X.K = G.K) {es : List Expr} {ms : List ME} (ha : PA X (e :: es) (tEs G C ms)) (hc : X.calm = true := by rfl) (hg : Gl X "all" := by rfl) (he : starEach (e :: es) X.env = (false, eval e X.env) :: starEach es X.env := by rfl) (hpl : (backTo pos (starEach es X.env)).any (·.1) = false := by rfl) : PE X (.Call (.Name "all" p) (e :: es) [] pos) (tE G C (.bi .all ms)) := se_biB bi_all (cr_all hc) hK hg hm bt_all ha (by decide) (by decide) he hpl
theorem sb_any (hm : X.mg "any" = none) (hK : X.K = G.K) {es : List Expr} {ms : List ME} (ha : PA X (e :: es) (tEs G C ms)) (hc : X.calm = true := by rfl) (hg : Gl X "any" := by rfl) (he : starEach (e :: es) X.env = (false, eval e X.env) :: starEach es X.env := by rfl) (hpl : (backTo pos (starEach es X.env)).any (·.1) = false := by rfl) : PE X (.Call (.Name "any" p) (e :: es) [] pos) (tE G C (.bi .any ms)) := se_biB bi_any (cr_any hc) hK hg hm bt_any ha (by decide) (by decide) he hpl
theorem sb_sum (hm : X.mg "sum" = none) (hK : X.K = G.K) {es : List Expr} {ms : List ME} (ha : PA X (e :: es) (tEs G C ms)) (hc : X.calm = true := by rfl) (hg : Gl X "sum" := by rfl) (he : starEach (e :: es) X.env = (false, eval e X.env) :: starEach es X.env := by rfl) (hpl : (backTo pos (starEach es X.env)).any (·.1) = false := by rfl) : PE X (.Call (.Name "sum" p) (e :: es) [] pos) (tE G C (.bi .sum ms)) := se_biB bi_sum (cr_sum hc) hK hg hm bt_sum ha (by decide) (by decide) he hpl
theorem sb_int (hm : X.mg "int" = none) (hK : X.K = G.K) {es : List Expr} {ms : List ME} (ha : PA X (e :: es) (tEs G C ms)) (hg : Gl X "int" := by rfl) (he : starEach (e :: es) X.env = (false, eval e X.env) :: starEach es X.env := by rfl) (hpl : (backTo pos (starEach es X.env)).any (·.1) = false := by rfl) : PE X (.Call (.Name "int" p) (e :: es) [] pos) (tE G C (.bi .int ms)) := se_biT bi_int call_int1 hK hg hm bt_int ha (by decide) (by decide) he hpl
theorem sb_str (hm : X.mg "str" = none) (hK : X.K = G.K) {es : List Expr} {ms : List ME} (ha : PA X (e :: es) (tEs G C ms)) (hg : Gl X "str" := by rfl) (he : starEach (e :: es) X.env = (false, eval e X.env) :: starEach es X.env := by rfl) (hpl : (backTo pos (starEach es X.env)).any (·.1) = false := by rfl) : PE X (.Call (.Name "str" p) (e :: es) [] pos) (tE G C (.bi .strI ms)) := se_biT bi_strI call_str_int hK hg hm bt_str ha (by decide) (by decide) he hpl
theorem sb_tuple (hm : X.mg "tuple" = none) (hK : X.K = G.K) {es : List Expr} {ms : List ME} (ha : PA X (e :: es) (tEs G C ms)) (hg : Gl X "tuple" := by rfl) (he : starEach (e :: es) X.env = (false, eval e X.env) :: starEach es X.env := by rfl) (hpl : (backTo pos (starEach es X.env)).any (·.1) = false := by rfl) : PE X (.Call (.Name "tuple" p) (e :: es) [] pos) (tE G C (.bi .tuple ms)) := se_biT bi_tuple call_tuple_of hK hg hm bt_tuple ha (by decide) (by decide) he hpl
theorem sb_list (hm : X.mg "list" = none) (hK : X.K = G.K) {es : List Expr} {ms : List ME} (ha : PA X (e :: es) (tEs G C ms)) (hc : X.calm = true := by rfl) (hg : Gl X "list" := by rfl) (he : starEach (e :: es) X.env = (false, eval e X.env) :: starEach es X.env := by rfl) (hpl : (backTo pos (starEach es X.env)).any (·.1) = false := by rfl) : PE X (.Call (.Name "list" p) (e :: es) [] pos) (tE G C (.bi .list ms)) := se_biT bi_list (call_lstC hc) hK hg hm bt_list ha (by decide) (by decide) he hpl
theorem sisi (t : Ty) {y : Str} {p2 : Pos} (hm : X.mg "isinstance" = none) (hm2 : X.mg y = none) (hv2 : bootBuiltins y = some (.type (tyN t))) (hK : X.K = G.K) (ha : PE X e (tE G C m)) (hg : Gl X "isinstance" := by rfl) (hg2 : Gl X y := by rfl)
    (hn2 : y ≠ "__name__" := by decide) (hdb2 : (y == ("__debug__" : Str)) = false := by decide)
    (he : starEach [e, .Name y p2] X.env = (false, eval e X.env) :: starEach [.Name y p2] X.env := by rfl) (hpl : (backTo pos (starEach [.Name y p2] X.env)).any (·.1) = false := by rfl) :
    PE X (.Call (.Name "isinstance" p) [e, .Name y p2] [] pos) (tE G C (.isi m t)) := se_isi hK hg hm bt_isinstance hg2 hm2 hv2 ha (by decide) (by decide) hn2 hdb2 he hpl
/-! methods -/
theorem sm_append {apos cpos : Pos} {es : List Expr} {ms : List ME} (hK : X.K = G.K) (ho : PE X a (tE G C m)) (ha : PA X (e :: es) (tEs G C ms)) (hbase : attributeBase a "append" X.env (eval a X.env) = eval a X.env := by rfl)
    (hfew : ((backTo cpos (starEach (e :: es) X.env)).all (fun x => !x.1) && (backToKw cpos (keywordEach [] X.env)).all (fun x => x.1.isSome)
      && decide ((e :: es).length + ([] : List Keyword).length + (if ([] : List Keyword).isEmpty then 0 else 1) < 30)) = true := by rfl)
    (hline : (apos.endLine == cpos.line) = true := by rfl) (hs : starEach (e :: es) X.env = (false, eval e X.env) :: starEach es X.env := by rfl) (hplain : (backTo cpos (starEach es X.env)).any (·.1) = false := by rfl) :
    PE X (.Call (.Attribute a "append" apos) (e :: es) [] cpos) (tE G C (.meth .append m ms)) := se_meth me_append hK PySem.F.plainAttrs_list PySem.F.slot_list_append PySem.F.type_list_append mt_append ho ha hbase hfew hline hs hplain
theorem sm_extend {apos cpos : Pos} {es : List Expr} {ms : List ME} (hK : X.K = G.K) (ho : PE X a (tE G C m)) (ha : PA X (e :: es) (tEs G C ms)) (hbase : attributeBase a "extend" X.env (eval a X.env) = eval a X.env := by rfl)
    (hfew : ((backTo cpos (starEach (e :: es) X.env)).all (fun x => !x.1) && (backToKw cpos (keywordEach [] X.env)).all (fun x => x.1.isSome)
      && decide ((e :: es).length + ([] : List Keyword).length + (if ([] : List Keyword).isEmpty then 0 else 1) < 30)) = true := by rfl)
    (hline : (apos.endLine == cpos.line) = true := by rfl) (hs : starEach (e :: es) X.env = (false, eval e X.env) :: starEach es X.env := by rfl) (hplain : (backTo cpos (starEach es X.env)).any (·.1) = false := by rfl) :
    PE X (.Call (.Attribute a "extend" apos) (e :: es) [] cpos) (tE G C (.meth .extend m ms)) := se_meth me_extend hK PySem.F.plainAttrs_list PySem.F.slot_list_extend PySem.F.type_list_extend mt_extB ho ha hbase hfew hline hs hplain
theorem sm_pop0 {apos cpos : Pos} (hK : X.K = G.K) (ho : PE X a (tE G C m)) (hbase : attributeBase a "pop" X.env (eval a X.env) = eval a X.env := by rfl) (hline : (apos.endLine == cpos.line) = true := by rfl) :
    PE X (.Call (.Attribute a "pop" apos) [] [] cpos) (tE G C (.meth .pop m [])) := se_meth0 me_pop hK PySem.F.plainAttrs_list PySem.F.slot_list_pop PySem.F.type_list_pop mt_pop ho hbase hline
theorem sm_pop1 {apos cpos : Pos} {es : List Expr} {ms : List ME} (hK : X.K = G.K) (ho : PE X a (tE G C m)) (ha : PA X (e :: es) (tEs G C ms)) (hbase : attributeBase a "pop" X.env (eval a X.env) = eval a X.env := by rfl)
    (hfew : ((backTo cpos (starEach (e :: es) X.env)).all (fun x => !x.1) && (backToKw cpos (keywordEach [] X.env)).all (fun x => x.1.isSome)
      && decide ((e :: es).length + ([] : List Keyword).length + (if ([] : List Keyword).isEmpty then 0 else 1) < 30)) = true := by rfl)
    (hline : (apos.endLine == cpos.line) = true := by rfl) (hs : starEach (e :: es) X.env = (false, eval e X.env) :: starEach es X.env := by rfl) (hplain : (backTo cpos (starEach es X.env)).any (·.1) = false := by rfl) :
    PE X (.Call (.Attribute a "pop" apos) (e :: es) [] cpos) (tE G C (.meth .popAt m ms)) := se_meth me_popAt hK PySem.F.plainAttrs_list PySem.F.slot_list_pop PySem.F.type_list_pop mt_popAt ho ha hbase hfew hline hs hplain
theorem sm_upper {apos cpos : Pos} (hK : X.K = G.K) (ho : PE X a (tE G C m)) (hbase : attributeBase a "upper" X.env (eval a X.env) = eval a X.env := by rfl) (hline : (apos.endLine == cpos.line) = true := by rfl) :
    PE X (.Call (.Attribute a "upper" apos) [] [] cpos) (tE G C (.meth .upper m [])) := se_meth0 me_upper hK PySem.F.plainAttrs_str PySem.F.slot_str_upper PySem.F.type_str_upper mt_upper ho hbase hline
end
end L2.Mi

set_option Elab.async false
set_option linter.all false
set_option maxRecDepth 100000
set_option maxHeartbeats 4000000
/-! Mini13: t[::-1] of a tuple. -/
namespace L2.Mi
open PySem PySem.Spec PyProof.Rows
section
variable {prog : Program} {w : World} {A : Around} {E : Value → Shared → Prop} {s : Shared}
theorem adjust_back (n : Nat) : Builtin.Slice.sliceAdjust none none (-1) (n : Int) = ((n : Int) - 1, -1) := by
  unfold Builtin.Slice.sliceAdjust
  simp
theorem places_back (n : Nat) : Builtin.Slice.slicePlaces ((n : Int) - 1) (-1) (-1) = n := by
  unfold Builtin.Slice.slicePlaces
  simp
  omega
theorem applied_back {sl : Addr} {vk : Value} {n : Nat} {Q : Int × Int × Nat → Shared → Prop} (hs : s.heap.IsSliceOf sl .none .none vk) (pk : IsPart vk (some (-1))) (h : Q ((n : Int) - 1, -1, n) s) :
    wpAny (model prog w) A (Builtin.Slice.sliceApplied (.ref sl) (pure (n : Int))) Q E s := by
  obtain ⟨os, hos, hcs, hds⟩ := id hs
  unfold Builtin.Slice.sliceApplied Builtin.Slice.sliceFields
  refine wpAny_bind (wpAny_bind (wpAny_field hos hds (x := .none) rfl (wpAny_bind (wpAny_field hos hds (x := .none) rfl (wpAny_bind (wpAny_field hos hds (x := vk) rfl (wpAny_pure ?_)))))))
  refine wpAny_bind (HT.slicePart_ pk ?_)
  show wpAny _ _ (if ((-1 : Int) == 0) = true then _ else _) _ _ s
  rw [if_neg (by decide)]
  refine wpAny_bind (HT.slicePart_ .none (wpAny_bind (HT.slicePart_ .none (wpAny_bind (wpAny_pure ?_)))))
  show wpAny _ _ (match Builtin.Slice.sliceAdjust none none (-1) (n : Int) with | (lo, hi) => pure (lo, (-1 : Int), Builtin.Slice.slicePlaces lo hi (-1))) _ _ s
  rw [adjust_back n]
  show wpAny _ _ (pure ((n : Int) - 1, (-1 : Int), Builtin.Slice.slicePlaces ((n : Int) - 1) (-1) (-1))) _ _ s
  rw [places_back]
  exact wpAny_pure h
theorem pick_back (xs : Array Value) : ((List.range xs.size).filterMap fun (m : Nat) => xs[(((xs.size : Int) - 1) + (m : Int) * (-1)).toNat]?).toArray = xs.toList.reverse.toArray := by
  have cong : ∀ {l : List Nat} {f g : Nat → Option Value}, (∀ m ∈ l, f m = g m) → l.filterMap f = l.filterMap g := fun {l f g} h => by
    induction l with
    | nil => rfl
    | cons a l ih => rw [List.filterMap_cons, List.filterMap_cons, h a (by simp), ih fun m hm => h m (List.mem_cons_of_mem _ hm)]
  have e : ((List.range xs.size).filterMap fun (m : Nat) => xs[(((xs.size : Int) - 1) + (m : Int) * (-1)).toNat]?) = ((List.range xs.size).map fun k => xs.size - 1 - k).filterMap (xs[·]?) := by
    rw [List.filterMap_map]
    refine cong fun m hm => ?_
    have : (((xs.size : Int) - 1) + (m : Int) * (-1)).toNat = xs.size - 1 - m := by
      have := List.mem_range.mp hm
      omega
    rw [this]
    rfl
  rw [e, PySem.W.krv_range, List.filterMap_reverse, PySem.W.krv_all]
theorem getItem_back {t sl : Addr} {items : Array Value} {vk : Value} {Q : Value → Shared → Prop} (ht : IsTup s.heap t items) (hs : s.heap.IsSliceOf sl .none .none vk) (pk : IsPart vk (some (-1)))
    (h : Q (.ref s.heap.objs.size) { s with heap := s.heap.push { cls := .type "tuple", data := .seq items.toList.reverse.toArray } }) (hsz : items.size ≤ sizeLine) : wpAny (model prog w) A (getItem (.ref t) (.ref sl)) Q E s := by
  have hok : sizeOk (.seq items.toList.reverse.toArray) := by
    show items.toList.reverse.toArray.size ≤ sizeLine
    rw [List.size_toArray, List.length_reverse, Array.length_toList]
    exact hsz
  obtain ⟨os, hos, hcs, hds⟩ := id hs
  have hTs : s.TypeIs (.ref sl) "slice" := ⟨os, hos, hcs⟩
  unfold getItem
  try with_reducible refine wpAny_holding ?_
  first | refine wpAny_bind (wpAny_pure ?_) | skip
  refine wpAny_bind (wpAny_sequenceKey ht.typeIs (by decide) ?_)
  refine wpAny_bind (wpAny_callSpecial?_slot (name := Str.ofString "__getitem__") ht.typeIs PyProof.Rows.slot_tuple_getitem
    (wpAny_call_entry PyProof.Rows.slot_tuple_getitem ht.typeIs entry_tuple_getitem ?_ (args_tuple_getitem _ _)))
  show wpAny _ _ (Builtin.Tuple.tupleItemsOf (.ref t) >>= _) _ _ s
  refine wpAny_bind (tupleItemsOf_ ht ?_)
  refine wpAny_bind (wpAny_typeOf hTs ?_)
  rw [if_pos (by decide)]
  refine wpAny_bind (applied_back hs pk ?_)
  have hno : ¬ ((((items.size : Int) - 1) == 0 && (-1 : Int) == 1 && items.size == items.size) = true) := by
    have : ((-1 : Int) == 1) = false := by decide
    rw [this]; simp
  show wpAny _ _ (if (((items.size : Int) - 1) == 0 && (-1 : Int) == 1 && items.size == items.size) = true then _ else _) _ _ s
  rw [if_neg hno, pick_back]
  first
    | exact wpAny_bind (m := Builtin.Tuple.tupleExact _) (wpAny_newObj_type (wpAny_pure ⟨_, rfl, wpAny_pure h⟩) hok)
    | exact wpAny_bind (m := Builtin.Tuple.tupleExact _) (wpAny_newObj_type (wpAny_bind (wpAny_pure (wpAny_pure ⟨_, rfl, wpAny_pure h⟩))) hok)
    | exact wpAny_bind (wpAny_bind (m := Builtin.Tuple.tupleExact _) (wpAny_newObj_type (wpAny_pure (wpAny_pure ⟨_, rfl, wpAny_pure h⟩)) hok))
    | exact wpAny_bind (wpAny_bind (m := Builtin.Tuple.tupleExact _) (wpAny_newObj_type (wpAny_pure ⟨_, rfl, wpAny_pure h⟩) hok))
end
section
variable {G : Gb} {C : CallF} {X : Cx} {pos p2 p3 p4 : Pos} {e : Expr} {m : ME} {j}
def tRev (K : PySem.W.Frag) (te : TE) : TE := fun σ H Q => te σ H fun x H1 => ∃ a xs, x = .ref a ∧ SqT K H1 a xs ∧ ∀ p, H1 p = none → Q (.ref p) (upd H1 p (.tup xs.reverse))
theorem pe_rev {te : TE} (he : PE X e te) : PE X (.Subscript e (.Slice none none (some (.UnaryOp .USub (.Constant (.int 1) j p3) p4)) p2) pos) (tRev X.K te) := by
  refine ⟨fun pins s σ H Q I h => ?_⟩
  refine Subscript_ (thn (he.run pins s σ H _ I h) fun v s1 ⟨x, H1, I1, r1, q1⟩ => ?_)
  obtain ⟨a, xs, rfl, hx, q⟩ := q1
  cases r1
  refine wpAny_Slice ?_
  rw [evalPart_none]
  refine wpAny_pure (wpAny_pure ?_)
  refine thn ((po_some (pe_un un_neg (pe_int (i := 1)))).run pins s1 σ H1 (fun k H2 => k = some (-1) ∧ H2 = H1) I1 ⟨1, rfl, -1, rfl, rfl, rfl⟩) fun vk s3 ⟨k, H3, I3, pk, ek, eH⟩ => ?_
  subst ek eH
  have I4 : Inv X pins σ H3 { s3 with heap := s3.heap.push { cls := .type "slice", data := .fields #[.none, .none, vk] } } := I3.kept (t' := s3.toks) fun b ob q => Heap.get?_push_of_some _ q
  obtain ⟨its, r, ht, hz⟩ := I4.tuple hx
  have hlen : its.toArray.size = xs.length := by rw [List.size_toArray]; exact r.length.symm
  show wpAny (model X.prog X.w) X.A (subscriptTail e (.Slice none none _ p2) (.ref a) (.ref s3.heap.objs.size)) (EP X pins σ Q) X.xe { s3 with heap := s3.heap.push { cls := .type "slice", data := .fields #[.none, .none, vk] } }
  refine tail_any (ops := [.ref a, .ref s3.heap.objs.size]) ht.typeIs PyProof.Rows.slot_tuple_getitem.lookup ?_ (by with_unfolding_all rfl)
  refine getItem_back ht (Heap.IsSliceOf.new ..) pk ?_ (by rw [hlen]; exact hz)
  refine ⟨V.ref _, _, I4.laid (t' := s3.toks) (o := .tup xs.reverse) (fun b ob q => Heap.get?_push_of_some _ q) (Nat.le_refl _) ?_, rfl, q _ (I4.hok.fresh (Nat.le_refl _))⟩
  exact ⟨by rw [List.length_reverse]; exact hz, _, r.reverse, IsTup.new _ _⟩
theorem Reps.reverse {W : Wd} {xs : List MV} {vs : List V} (h : Reps G W xs vs) : Reps G W xs.reverse vs.reverse := by
  refine Reps.of (by rw [List.length_reverse, List.length_reverse, h.len]) fun i x v e1 e2 => ?_
  have l1 : i < xs.length := by
    have := (List.getElem?_eq_some_iff.mp e1).1
    simpa using this
  have l2 : i < vs.length := by rw [← h.len]; exact l1
  rw [List.getElem?_reverse l1] at e1
  rw [List.getElem?_reverse l2, ← h.len] at e2
  exact h.at e1 e2
theorem se_rev (hK : X.K = G.K) (he : PE X e (tE G C m)) : PE X (.Subscript e (.Slice none none (some (.UnaryOp .USub (.Constant (.int 1) j p3) p4)) p2) pos) (tE G C (.rev m)) := by
  refine (PE.or' (pe_rev he) (pe_revL he)).mono fun σ H Q h => ?_
  obtain ⟨A, ρ, v, mh', rfl, S, N, e, q⟩ := h
  simp only [ev] at e
  split at e
  · rename_i xs mh1 e1
    cases e
    refine .inl (tE.go S N e1 fun B x k em SB _ r => ?_)
    obtain ⟨a, vs, rfl, h1, h2⟩ := r.tup_
    rw [hK]
    refine ⟨a, vs, rfl, h1, fun p hp => ?_⟩
    have q' := Post.step q k
    rw [← em] at q'
    exact q'.newTup SB h2.reverse hp
  · rename_i xs mh1 e1
    cases e
    refine .inr (tE.go S N e1 fun B x k em SB _ r => ?_)
    obtain ⟨a, vs, rfl, h1, h2⟩ := getL_rep (xs := xs) SB rfl r
    rw [hK]
    refine ⟨a, vs, rfl, SqL.of h1, fun p hp => ?_⟩
    have q' := Post.step q k
    rw [← em] at q'
    exact q'.newLst SB h2.reverse hp
  · cases e
end
end L2.Mi

set_option Elab.async false
set_option linter.all false
set_option maxRecDepth 100000
set_option maxHeartbeats 4000000
/-! Mini14: the law itself. -/
namespace L2.Mi
open PySem PySem.Spec PyProof.Rows
theorem fnOk_of {P : Program} {w : World} {K : PySem.W.Frag} {mg : Str → Option Value} {base : Heap} {G : Gb} {T : List Df} {k f : Nat} {a : Addr} {d : Df} {x qual : Str} {st : Stmt} {fd : FuncData} {N ps : List Str}
    (ih : ∀ f a, G.fa f = some a → FnC P w K mg base G (callM T k) k f a) (hd : T[f]? = some d) (F : FunD K x qual (defArgs st) (defBody st) (defScope st) [] [] a fd) (S : FnScope N ps (defScope st)) (hN : N.length = d.ns)
    (hbody : ∀ (k : Nat) (C : CallF) (cdv : Value) (A : Around) (outer : List PySem.Env) (s : Shared) (H : Hp) (E : XK), (∀ f a, G.fa f = some a → FnC P w K mg base G C k f a) → Room k (A.deeper (envOfC qual (defScope st) s.heap.objs.size a cdv)) →
      PSs (cxOf CX0 P w K mg base N qual (defScope st) a cdv A outer s H E).nox (defBody st) (tSs G C d.body)) : FnOk P w K mg base CX0 (k + 1) a fd ps (spC G (callM T (k + 1)) f ps.length) := by
  refine F.ok S (fun vs H Q E q => q.1) (fun cdv A outer s H vs Q E hr q => ⟨_, (hbody k (callM T k) cdv A outer s H E ih hr).nox, ?_⟩)
  obtain ⟨hl, W, args, r, mh', rfl, SW, ra, e, q⟩ := q
  unfold callM at e
  rw [hd] at e
  exact (run_ok hN SW ra e q).2
theorem scr_noH {K : PySem.W.Frag} {H : Hp} {a : Addr} {xs : List V} (h : SqL K H a xs) : Rd H a (.lst xs) ∨ SqL K noH a xs := by
  rcases h with h | h
  · exact .inl h
  · exact .inr (.inr h)
/-- the law's promise -/
theorem sp_law {G : Gb} {C : CallF} {f : Nat} {mh' : MHp} {H : Hp} {a : Addr} {ns : List Int} (e : C f [.scr ns] [] = some (.bl true, mh')) (h : SqL G.K H a (ns.map V.int)) {E : XK} : spC G C f 1 [.ref a] H (fun v _ => v = .bl true) E := by
  refine ⟨rfl, ⟨H, [], [], [], []⟩, [.scr ns], .bl true, mh', rfl, ?_, ?_, e, fun B x _ _ _ r => r.bl_⟩
  · exact ⟨rfl, fun b hb => by simp at hb, fun b hb => by simp at hb, fun l o e => by simp at e, fun l l' a o o' e => by simp at e, fun a ha => by simp at ha, fun a ha => by simp at ha, fun b hb => by simp at hb⟩
  · refine Reps.one ?_
    unfold Rep
    refine ⟨a, rfl, ?_⟩
    rcases scr_noH h with h | h
    · refine .inl ⟨h, fun z => ?_, fun z => by simp at z⟩
      obtain ⟨l, o, e, _⟩ := z
      simp at e
    · exact .inr h
end L2.Mi

set_option Elab.async false
set_option linter.all false
set_option maxRecDepth 100000
set_option maxHeartbeats 4000000
/-! Mini15: sorted of whole numbers. -/
namespace L2.Mi
open PySem PySem.Spec PyProof.Rows
theorem sort_uniq {l m : List Int} (h1 : l.Pairwise (· ≤ ·)) (h2 : m.Pairwise (· ≤ ·)) (p : l.Perm m) : l = m := List.Perm.eq_of_pairwise (fun a b _ _ x y => Int.le_antisymm x y) h1 h2 p
theorem bt_sorted : bootBuiltins "sorted" = some (.builtin "sorted") := by decide +kernel
section
variable {G : Gb} {C : CallF} {X : Cx} {pos p : Pos} {e : Expr}
theorem sb_max (hm : X.mg "max" = none) (hK : X.K = G.K) {es : List Expr} {ms : List ME} (ha : PA X (e :: es) (tEs G C ms)) (hc : X.calm = true := by rfl) (hg : Gl X "max" := by rfl) (he : starEach (e :: es) X.env = (false, eval e X.env) :: starEach es X.env := by rfl) (hpl : (backTo pos (starEach es X.env)).any (·.1) = false := by rfl) : PE X (.Call (.Name "max" p) (e :: es) [] pos) (tE G C (.bi .max ms)) := se_biB bi_max (cr_max hc) hK hg hm bt_max ha (by decide) (by decide) he hpl
theorem sb_min (hm : X.mg "min" = none) (hK : X.K = G.K) {es : List Expr} {ms : List ME} (ha : PA X (e :: es) (tEs G C ms)) (hc : X.calm = true := by rfl) (hg : Gl X "min" := by rfl) (he : starEach (e :: es) X.env = (false, eval e X.env) :: starEach es X.env := by rfl) (hpl : (backTo pos (starEach es X.env)).any (·.1) = false := by rfl) : PE X (.Call (.Name "min" p) (e :: es) [] pos) (tE G C (.bi .min ms)) := se_biB bi_min ((cr_min hc).or (call_min2 hc)) hK hg hm bt_min ha (by decide) (by decide) he hpl
end
end L2.Mi

set_option Elab.async false
set_option linter.all false
set_option maxRecDepth 100000
set_option maxHeartbeats 4000000
/-! Mini16: sorted of tuples of whole numbers, the first of them empty. -/
namespace L2.Mi
open PySem PySem.Spec PyProof.Rows
section
variable {M : Model} {A : Around} {E : Value → Shared → Prop} {s : Shared}
theorem mapM_to {α β : Type} {f : α → Sem β} {g : α → β} : ∀ (l : List α) {Q : List β → Shared → Prop}, (∀ v ∈ l, ∀ (Q' : β → Shared → Prop), Q' (g v) s → wpAny M A (f v) Q' E s) → Q (l.map g) s → wpAny M A (l.mapM f) Q E s
  | [], _, _, h => by rw [List.mapM_nil]; exact wpAny_pure h
  | x :: l, Q, hf, h => by
    rw [List.mapM_cons]
    exact wpAny_bind (hf x (.head _) _ (wpAny_bind (mapM_to l (g := g) (Q := fun bs s' => wpAny M A (pure (g x :: bs)) Q E s') (fun v hv => hf v (.tail _ hv)) (wpAny_pure h))))
/-- the first item of the tuple at v -/
def fst0 (h : Heap) (v : Value) : Option Value := match v with
  | .ref a => match h.get? a with
    | some o => match o.data with
      | .seq its _ => its[0]?
      | _ => none
    | none => none
  | _ => none
/-- v is a tuple with these numbers -/
def IsTI (h : Heap) (v : Value) (ns : List Int) : Prop := ∃ (a : Addr) (its : Array Value), v = .ref a ∧ IsTup h a its ∧ IntsAre its.toList ns
theorem IsTI.type {h : Heap} {v : Value} {ns : List Int} (x : IsTI h v ns) : PySem.W.Looks M h (typeOf v) (.type "tuple") := by
  obtain ⟨a, its, rfl, ⟨o, ho, hc, n, hd⟩, _⟩ := x
  have z : PySem.W.Looks M h (typeOf (.ref a)) o.cls := (PySem.W.Looks.ld ho).andThen .now
  rw [hc] at z
  exact z
theorem kind_t0 {prog : Program} {w : World} {vs : List Value} {k : Value → List Int} {Q : SortKind → Shared → Prop} (h2 : 2 ≤ vs.length) (hv : ∀ v ∈ vs, IsTI s.heap v (k v)) (h0 : ∀ v, vs.head? = some v → k v = []) (h : Q oneType' s) : wpAny (model prog w) A (keyKind' vs.toArray) Q E s := by
  obtain ⟨v₁, v₂, rest, rfl⟩ : ∃ v₁ v₂ rest, vs = v₁ :: v₂ :: rest := by
    match vs, h2 with
    | [], h2 => simp at h2
    | [_], h2 => simp at h2
    | v₁ :: v₂ :: rest, _ => exact ⟨v₁, v₂, rest, rfl⟩
  have hf : fst0 s.heap v₁ = none := by
    obtain ⟨a, its, rfl, ⟨o, ho, hc, n, hd⟩, hi⟩ := hv v₁ (by simp)
    rw [h0 _ rfl] at hi
    have : its.toList = [] := by cases hq : its.toList with
      | nil => rfl
      | cons => rw [hq] at hi; cases hi
    unfold fst0
    simp only [ho, hd]
    have hz : its.size = 0 := by rw [← Array.length_toList, this]; rfl
    exact Array.getElem?_eq_none (by omega)
  rw [keyKind'_eq, List.mapM_toArray, map_eq_pure_bind]
  refine wpAny_bind (wpAny_bind (mapM_to (g := fst0 s.heap) _ (fun v hm Q' hq => ?_) (wpAny_pure ?_)))
  · have ty := (hv v hm).type (M := model prog w)
    obtain ⟨a, its, rfl, ⟨o, ho, hc, n, hd⟩, hi⟩ := hv v hm
    rw [PySem.W.kas_first_eq]
    refine wpAny_bind (ty.here ?_)
    rw [if_neg (by decide)]
    refine wpAny_bind (wpAny_listItems ho hd (wpAny_pure ?_))
    unfold fst0 at hq
    simp only [ho, hd] at hq
    exact hq
  · have e1 : (List.map (fst0 s.heap) (v₁ :: v₂ :: rest)).toArray.all (fun x => x.isSome) = false := by simp [hf]
    have e2 : ((List.map (fst0 s.heap) (v₁ :: v₂ :: rest)).toArray[0]?.bind id).isSome = false := by simp [hf]
    rw [if_neg (by rw [e1]; exact Bool.false_ne_true), if_neg (by rw [e2]; exact Bool.false_ne_true)]
    rw [oneTypeOnly'_eq, List.mapM_toArray, map_eq_pure_bind]
    refine wpAny_bind (wpAny_bind (wpAny_bind (PySem.W.kas_mapM (r := Value.type "tuple") _ (fun v hm Q' hq => ((hv v hm).type (M := model prog w)).here hq) (wpAny_pure ?_))))
    have hall : ((List.map (fun _ => Value.type "tuple") (v₁ :: v₂ :: rest)).toArray.all fun x => x == Value.type "tuple") = true := by
      simp only [List.all_toArray, List.all_map, List.all_eq_true]
      intro _ _
      rfl
    have h0' : (List.map (fun _ => Value.type "tuple") (v₁ :: v₂ :: rest)).toArray[0]? = some (Value.type "tuple") := by simp
    rw [h0']
    simp only [hall, if_true]
    exact wpAny_pure (wpAny_pure h)
end
section
variable {prog : Program} {w : World} {A : Around} {E : Value → Shared → Prop} {s : Shared}
theorem lt_ti {v u : Value} {ns ms : List Int} {Q : Bool → Shared → Prop} (hu : A.units < cLine) (hv : IsTI s.heap v ns) (hw : IsTI s.heap u ms) (h : Q (HT.lexLt ns ms) s) : wpAny (model prog w) A (keyLt' oneType' v u) Q E s := by
  have tv := hv.type (M := model prog w)
  have sp : PySem.W.Looks (model prog w) s.heap (specialOf v "__lt__") (some (.builtin "tuple.__lt__")) := tv.andThen (PySem.W.Looks.of_pure PySem.F.slot_tuple_lt.lookup)
  obtain ⟨a, its, rfl, ta, ia⟩ := hv
  obtain ⟨b, its2, rfl, tb, ib⟩ := hw
  obtain ⟨⟨cls, dd, data, sl⟩, ho, hc, n, hd⟩ := id ta
  obtain ⟨⟨cls2, dd2, data2, sl2⟩, ho2, hc2, n2, hd2⟩ := id tb
  simp only at hc hd hc2 hd2
  subst hc hd hc2 hd2
  rw [keyLt'_oneType, oneLt'_eq]
  simp only [if_true]
  refine wpAny_bind (wpAny_cRoomFor hu ?_)
  refine wpAny_bind (NtL.csib (E := E) sp (PySem.F.slot_tuple_lt.bind _) ?_)
  exact call_meets PySem.F.slot_tuple_lt ⟨_, ho, rfl⟩ PySem.F.entry_tuple_lt (PySem.F.args_tuple_lt_2 _ _) (HT.tuple_lt_ints a b its its2 n n2 dd dd2 sl sl2 ns ms ia ib) ⟨ho, ho2, wpAny_truthy_bool h⟩
end
/-- sorted(xs), tuples of ints in order already, the first of them empty: a new list of the same -/
def rSortedT0 (K : PySem.W.Frag) : List V → Hp → VK → Prop := fun vs H Q => ∃ (a : Addr) (xs : List V) (k : V → List Int), vs = [V.ref a] ∧ SqL K H a xs ∧ (∀ x ∈ xs, ∃ t, x = V.ref t ∧ SqT K H t ((k x).map V.int)) ∧
  (∀ x, xs.head? = some x → k x = []) ∧ xs.Pairwise (fun x y => HT.lexLt (k y) (k x) = false) ∧ ∀ p, H p = none → Q (.ref p) (upd H p (.lst xs))
theorem cr_sortedT0 {X : Cx} (hu : X.A.units + 64 < cLine) : CallR X (.builtin "sorted") (rSortedT0 X.K) := by
  intro pins s σ H vs us Q I r h
  obtain ⟨a, xs, k, rfl, hs, hx, h0, hp, q⟩ := h
  obtain ⟨its, rv, hl, hz⟩ := I.list hs
  obtain ⟨u, rfl, ru⟩ := vals1 r
  obtain rfl : u = Value.ref a := ru
  obtain ⟨e1, e2⟩ := refs_back rv fun x m => by
    obtain ⟨t, e, _⟩ := hx x m
    exact ⟨t, e⟩
  have hti : ∀ v ∈ its, IsTI s.heap v (k (backV v)) := fun v hv => by
    obtain ⟨t, rfl⟩ := e2 v hv
    have hm : V.ref t ∈ xs := by rw [e1]; exact List.mem_map.mpr ⟨_, hv, rfl⟩
    obtain ⟨t', e, ht⟩ := hx _ hm
    cases e
    obtain ⟨its2, r2, ht2, _⟩ := I.tuple ht
    exact ⟨t, its2.toArray, rfl, ht2, by show IntsAre its2.toArray.toList (k (V.ref t)); simpa using intsAre_of r2⟩
  have keeps : ∀ {h' : Heap} {v : Value} {ns : List Int}, (∀ b o, s.heap.get? b = some o → h'.get? b = some o) → IsTI s.heap v ns → IsTI h' v ns := fun {h' v ns} kk x => by
    obtain ⟨b, it, rfl, ⟨o, ho, hc, n, hd⟩, hi⟩ := x
    exact ⟨b, it, rfl, ⟨o, kk _ _ ho, hc, n, hd⟩, hi⟩
  refine SrtO.sorted_ord (NtL.swo_lexL fun u => k (backV u)) hl.isList (by rw [← rv.length]; exact hz) (fun h2 h₁ a' ha kk h' keep => ?_) fun out h1 h2 => ?_
  · have hti' : ∀ v ∈ its, IsTI h' v (k (backV v)) := fun v hv => keeps (fun b o e => by
      obtain ⟨hne, e'⟩ := kk b o e
      exact keep b o hne e') (hti v hv)
    refine ⟨oneType', fun Q' E' hq => kind_t0 (s := { s with heap := h' }) (k := fun v => k (backV v)) h2 hti' (fun v hv => ?_) hq, fun p q' hp' hq' => ?_⟩
    · refine h0 _ ?_
      rw [e1, List.head?_map, hv]
      rfl
    · exact lt_ti (s := { s with heap := h' }) (Q := fun r s' => s' = { s with heap := h' } ∧ r = HT.lexLt (k (backV p.1)) (k (backV q'.1))) (E := fun _ _ => False) (by show X.A.in1.in1.units < cLine; simp only [Around.in1]; omega) (hti' p.1 hp') (hti' q'.1 hq') ⟨rfl, rfl⟩
  · have hin : SrtO.Srtd (fun v u => HT.lexLt (k (backV v)) (k (backV u))) its := by
      have : (its.map backV).Pairwise (fun x y => HT.lexLt (k y) (k x) = false) := by rw [← e1]; exact hp
      exact (List.pairwise_map.mp this)
    have eo : out = its := SrtO.stb_uniq (NtL.swo_lexL fun u => k (backV u)) h1 hin h2
    subst eo
    obtain ⟨ep, he'⟩ := PyProof.Rows.sortedAll_at s.heap out out.toArray
    exact ⟨.ref _, upd H (s.heap.objs.size + 1) (.lst xs), I.laid (t' := s.toks) (fun _ _ => PyProof.Rows.sortedAll_old) (Nat.le_succ _) ⟨hz, out, ep, rv, he'⟩, rfl, q _ (I.hok.fresh (Nat.le_succ _))⟩
/-- the same, the numbers told place by place -/
def rSortedT1 (K : PySem.W.Frag) : List V → Hp → VK → Prop := fun vs H Q => ∃ (a : Addr) (xs : List V) (nss : List (List Int)), vs = [V.ref a] ∧ SqL K H a xs ∧ xs.length = nss.length ∧ (∀ (i : Nat) (x : V) (ns : List Int), xs[i]? = some x → nss[i]? = some ns → ∃ t, x = V.ref t ∧ SqT K H t (ns.map V.int)) ∧
  nss.head? = some [] ∧ nss.Pairwise (fun x y => HT.lexLt y x = false) ∧ ∀ p, H p = none → Q (.ref p) (upd H p (.lst xs))
theorem map_int_inj : ∀ {a b : List Int}, a.map V.int = b.map V.int → a = b
  | [], [], _ => rfl
  | [], _ :: _, h => by simp at h
  | _ :: _, [], h => by simp at h
  | x :: a, y :: b, h => by
    simp only [List.map_cons, List.cons.injEq] at h
    obtain ⟨h1, h2⟩ := h
    cases h1
    rw [map_int_inj h2]
open Classical in
theorem cr_sortedT1 {X : Cx} (hu : X.A.units + 64 < cLine) : CallR X (.builtin "sorted") (rSortedT1 X.K) := by
  intro pins s σ H vs us Q I r h
  obtain ⟨a, xs, nss, rfl, hs, hl, hx, h0, hp, q⟩ := h
  let k : V → List Int := fun x => if h : ∃ ns : List Int, ∃ t, x = V.ref t ∧ SqT X.K H t (ns.map V.int) then Classical.choose h else []
  have hk : ∀ (x : V) (ns : List Int), (∃ t, x = V.ref t ∧ SqT X.K H t (ns.map V.int)) → k x = ns := fun x ns hh => by
    have ex : ∃ ns : List Int, ∃ t, x = V.ref t ∧ SqT X.K H t (ns.map V.int) := ⟨ns, hh⟩
    obtain ⟨t, rfl, ht⟩ := hh
    obtain ⟨t', e, ht'⟩ := Classical.choose_spec ex
    cases e
    have : k (V.ref t) = Classical.choose ex := dif_pos ex
    rw [this]
    exact map_int_inj (I.tuple_inj ht' ht)
  have hm : xs.map k = nss := by
    apply List.ext_getElem?
    intro i
    rw [List.getElem?_map]
    by_cases hi : i < xs.length
    · have e1 : xs[i]? = some xs[i] := List.getElem?_eq_getElem hi
      have hi2 : i < nss.length := by rw [← hl]; exact hi
      have e2 : nss[i]? = some nss[i] := List.getElem?_eq_getElem hi2
      rw [e1, e2, Option.map_some, hk _ _ (hx i _ _ e1 e2)]
    · rw [List.getElem?_eq_none (by omega), List.getElem?_eq_none (by omega)]; rfl
  refine cr_sortedT0 hu pins s σ H [V.ref a] us Q I r ⟨a, xs, k, rfl, hs, fun x hxm => ?_, fun x hh => ?_, ?_, q⟩
  · obtain ⟨i, hi⟩ := List.mem_iff_getElem?.mp hxm
    have hi1 := (List.getElem?_eq_some_iff.mp hi).1
    have e2 : nss[i]? = some nss[i] := List.getElem?_eq_getElem (by rw [← hl]; exact hi1)
    obtain ⟨t, e, ht⟩ := hx i _ _ hi e2
    exact ⟨t, e, by rw [hk _ _ ⟨t, e, ht⟩]; exact ht⟩
  · rw [← hm, List.head?_map, hh] at h0
    exact Option.some.inj h0
  · rw [← hm] at hp
    exact List.pairwise_map.mp hp
def rSortedDS : List V → Hp → VK → Prop := fun xs H Q => ∃ (a : Addr) (kvs : List (Key × V)) (ks : List Str), xs = [.ref a] ∧ Rd H a (.dK kvs) ∧ kvs.map (·.1) = ks.map Sum.inr ∧ ks.length < 64 ∧
    ∀ ys p, ys.Perm ks → sortedS ys = true → H p = none → Q (.ref p) (upd H p (.lst (ys.map V.str)))
def rSortedB (K : PySem.W.Frag) : List V → Hp → VK → Prop := fun vs H Q => L2.rSortedI K vs H Q ∨ rSortedT1 K vs H Q ∨ rSortedS K vs H Q ∨ rSortedDS vs H Q
/-! the order of texts -/
theorem sx_le_trans {a b c : Sx} (h : a ≤ b) (h' : b ≤ c) : a ≤ c := List.le_trans h h'
theorem sx_le_anti {a b : Sx} (h : a ≤ b) (h' : b ≤ a) : a = b := List.le_antisymm h h'
theorem sx_le_total (a b : Sx) : a ≤ b ∨ b ≤ a := List.le_total a b
theorem sortS_pair (xs : List Sx) : (sortS xs).Pairwise (· ≤ ·) := by
  have := List.pairwise_mergeSort (le := fun a b : Sx => decide (a ≤ b)) (fun a b c x y => by simp only [decide_eq_true_eq] at x y ⊢; exact sx_le_trans x y) (fun a b => by simp only [Bool.or_eq_true, decide_eq_true_eq]; exact sx_le_total a b) xs
  exact this.imp fun {a b} z => of_decide_eq_true z
theorem risingS_pair : ∀ (p : Str) (l : List Str), risingS p l = true → (∀ x ∈ l, p.cps.toList ≤ x.cps.toList) ∧ l.Pairwise fun a b => a.cps.toList ≤ b.cps.toList
  | p, [], _ => ⟨fun x h => by simp at h, .nil⟩
  | p, x :: r, h => by
    have h' : (!ltCps x.cps.toList p.cps.toList && risingS x r) = true := h
    rw [Bool.and_eq_true, PyProof.Rows.ltCps_eq] at h'
    obtain ⟨h1, h2⟩ := risingS_pair x r h'.2
    have h3 : p.cps.toList ≤ x.cps.toList := by
      have := h'.1
      simp only [Bool.not_eq_true', decide_eq_false_iff_not] at this
      exact this
    refine ⟨fun y hy => ?_, List.pairwise_cons.mpr ⟨h1, h2⟩⟩
    rcases List.mem_cons.mp hy with rfl | hy
    · exact h3
    · exact sx_le_trans h3 (h1 y hy)
theorem sortedS_pair : ∀ (l : List Str), sortedS l = true → l.Pairwise fun a b => a.cps.toList ≤ b.cps.toList
  | [], _ => .nil
  | x :: r, h => List.pairwise_cons.mpr (risingS_pair x r h)
theorem sortS_of {ys : List Str} {ss : List Sx} (hp : ys.Perm (ss.map fun s => (⟨s.toArray⟩ : Str))) (hs : sortedS ys = true) : ys = (sortS ss).map fun s => (⟨s.toArray⟩ : Str) := by
  have h1 : (ys.map fun y => y.cps.toList).Perm ss := by
    have := hp.map fun y : Str => y.cps.toList
    rw [List.map_map] at this
    have e : (ss.map ((fun y : Str => y.cps.toList) ∘ fun s => (⟨s.toArray⟩ : Str))) = ss := by
      have : ((fun y : Str => y.cps.toList) ∘ fun s : Sx => (⟨s.toArray⟩ : Str)) = id := by funext s; simp
      rw [this, List.map_id]
    rw [e] at this
    exact this
  have h2 : (ys.map fun y => y.cps.toList) = sortS ss := by
    refine List.Perm.eq_of_pairwise (le := (· ≤ ·)) (fun a b _ _ x y => sx_le_anti x y) ?_ (sortS_pair ss) (h1.trans (List.mergeSort_perm ss _).symm)
    exact List.pairwise_map.mpr (sortedS_pair ys hs)
  rw [← h2, List.map_map]
  have : ((fun s : Sx => (⟨s.toArray⟩ : Str)) ∘ fun y : Str => y.cps.toList) = id := by
    funext y
    exact str_toList_eq (by simp)
  rw [this, List.map_id]
theorem Reps.strOf {G : Gb} {A : Wd} : ∀ {xs : List MV} {vs : List V} {ss : List Sx}, Reps G A xs vs → xs.mapM strOf = some ss → vs = ss.map fun s => V.str ⟨s.toArray⟩
  | [], vs, ss, h, e => by
    unfold Reps at h
    simp at e
    subst e h
    rfl
  | x :: xs, vs, ss, h, e => by
    unfold Reps at h
    obtain ⟨v, r, rfl, h1, h2⟩ := h
    simp only [List.mapM_cons, Option.bind_eq_bind, Option.bind_eq_some_iff] at e
    obtain ⟨b, e1, cs, e2, e3⟩ := e
    cases x with
    | str s =>
      cases e1
      cases e3
      rw [h1.str_, Reps.strOf h2 e2]
      rfl
    | _ => exact absurd e1 (by simp [Mi.strOf])
theorem Reps.strs {G : Gb} {A : Wd} : ∀ ss : List Sx, Reps G A (ss.map .str) (ss.map fun s => V.str ⟨s.toArray⟩)
  | [] => by unfold Reps; rfl
  | s :: ss => by rw [List.map_cons, List.map_cons]; unfold Reps; exact ⟨_, _, rfl, rep_str s, Reps.strs ss⟩
theorem keys_str : ∀ {ks : List MKey} {ss : List Sx}, (ks.map kM).mapM strOf = some ss → ks.map kOf = (ss.map fun s => (⟨s.toArray⟩ : Str)).map Sum.inr
  | [], ss, e => by simp at e; subst e; rfl
  | k :: ks, ss, e => by
    rw [List.map_cons] at e
    simp only [List.mapM_cons, Option.bind_eq_bind, Option.bind_eq_some_iff] at e
    obtain ⟨b, e1, cs, e2, e3⟩ := e
    cases e3
    cases k with
    | inl i => cases e1
    | inr s =>
      cases e1
      rw [List.map_cons, keys_str e2]
      rfl
theorem cr_sortedB {X : Cx} (hc : X.calm = true) (hu : X.A.units + 65 < cLine) : CallR X (.builtin "sorted") (rSortedB X.K) := CallR.or L2.cr_sortedI (CallR.or (cr_sortedT1 (by omega)) (CallR.or cr_sortedS (call_sortedD hc)))
theorem mapM_at {α β : Type} {f : α → Option β} : ∀ {xs : List α} {ys : List β}, xs.mapM f = some ys → xs.length = ys.length ∧ ∀ (i : Nat) x y, xs[i]? = some x → ys[i]? = some y → f x = some y
  | [], ys, h => by
    simp at h
    subst h
    exact ⟨rfl, fun i x y e => by simp at e⟩
  | a :: xs, ys, h => by
    simp only [List.mapM_cons, Option.bind_eq_bind, Option.bind_eq_some_iff] at h
    obtain ⟨b, e1, bs, e2, e3⟩ := h
    cases e3
    obtain ⟨l, r⟩ := mapM_at e2
    refine ⟨by simp [l], fun i x y h1 h2 => ?_⟩
    cases i with
    | zero => simp at h1 h2; subst h1 h2; exact e1
    | succ i => simp only [List.getElem?_cons_succ] at h1 h2; exact r i x y h1 h2
theorem bi_sorted : BiS .sorted rSortedB := by
  intro G A xs v vs Q S e r h
  obtain ⟨x, hx, e'⟩ := one1_some e
  subst hx
  replace e := e'
  clear e'
  obtain ⟨w, rfl, rx⟩ := r.one_
  unfold sortedV at e
  split at e
  · split at e
    · cases e
    rename_i d hd
    split at e
    · rename_i ss hss
      split at e
      · rename_i h64
        cases e
        obtain ⟨ks, ms⟩ := d
        obtain ⟨a, ws, rfl, hH, hl, rr⟩ := getD_rep S hd rx
        refine .inr (.inr (.inr ⟨a, _, ss.map fun s => (⟨s.toArray⟩ : Str), rfl, hH, ?_, by rw [List.length_map]; exact h64, fun zs p hp hs hq => ?_⟩))
        · rw [← keys_str hss]
          exact List.map_fst_zip (by rw [List.length_map, hl, rr.len]; exact Nat.le_refl _)
        · rw [sortS_of hp hs, List.map_map]
          exact h.newLst S (Reps.strs _) hq
      · cases e
    · cases e
  rename_i ys hy
  obtain ⟨a, ws, rfl, hH, rr⟩ := getL_rep S hy rx
  split at e
  · rename_i ns hn
    cases e
    have hv := rr.intOf hn
    subst hv
    refine .inl ⟨a, ns, rfl, SqL.of hH, fun ns' p perm rising hp => ?_⟩
    have e2 : ns' = ns.mergeSort fun a b => decide (a ≤ b) := by
      refine sort_uniq rising ?_ (perm.trans (List.mergeSort_perm ns _).symm)
      have := List.pairwise_mergeSort (le := fun a b : Int => decide (a ≤ b)) (fun a b c x y => by simp at x y ⊢; omega) (fun a b => by simp; omega) ns
      exact this.imp fun {a b} z => of_decide_eq_true z
    rw [e2]
    exact h.newLst S Reps.map_int hp
  · split at e
    · rename_i nss hn
      split at e
      · rename_i hc
        cases e
        obtain ⟨ml, ma⟩ := mapM_at hn
        refine .inr (.inl ⟨a, ws, nss, rfl, SqL.of hH, by rw [← rr.len]; exact ml, fun i u ns h1 h2 => ?_, hc.1, hc.2, fun p hp => h.newLst S rr hp⟩)
        have hi : i < ys.length := by rw [rr.len]; exact (List.getElem?_eq_some_iff.mp h1).1
        have h3 : ys[i]? = some ys[i] := List.getElem?_eq_getElem hi
        have ht := ma i _ _ h3 h2
        have ru := rr.at h3 h1
        cases hq : ys[i] with
        | tup zs =>
          rw [hq] at ht ru
          obtain ⟨t, us, e, h5, h6⟩ := ru.tup_
          have := h6.intOf (show zs.mapM intOf = some ns from ht)
          exact ⟨t, e, by rw [← this]; exact h5⟩
        | _ => rw [hq] at ht; cases ht
      · cases e
    · split at e
      · rename_i ss hss
        split at e
        · rename_i h64
          cases e
          have := rr.strOf hss
          subst this
          refine .inr (.inr (.inl ⟨a, ss.map fun s => (⟨s.toArray⟩ : Str), rfl, ?_, by rw [List.length_map]; exact h64, fun zs p hp hs hq => ?_⟩))
          · rw [List.map_map]; exact SqL.of hH
          · rw [sortS_of hp hs, List.map_map]
            exact h.newLst S (Reps.strs _) hq
        · cases e
      · cases e
section
variable {G : Gb} {C : CallF} {X : Cx} {pos p : Pos} {e : Expr}
theorem sb_sorted (hm : X.mg "sorted" = none) (hK : X.K = G.K) {es : List Expr} {ms : List ME} (hu : X.A.units + 65 < cLine) (ha : PA X (e :: es) (tEs G C ms)) (hc : X.calm = true := by rfl) (hg : Gl X "sorted" := by rfl) (he : starEach (e :: es) X.env = (false, eval e X.env) :: starEach es X.env := by rfl) (hpl : (backTo pos (starEach es X.env)).any (·.1) = false := by rfl) : PE X (.Call (.Name "sorted" p) (e :: es) [] pos) (tE G C (.bi .sorted ms)) := se_biB bi_sorted (cr_sortedB hc hu) hK hg hm bt_sorted ha (by decide) (by decide) he hpl
end
end L2.Mi

set_option Elab.async false
set_option linter.all false
set_option maxRecDepth 100000
set_option maxHeartbeats 4000000
/-! Mini17: dicts made: {}, {k: v}, comprehensions, dict(pairs). -/
namespace L2.Mi
open PySem PySem.Spec PyProof.Rows
section
variable {G : Gb} {C : CallF} {X : Cx} {pos p : Pos} {e a b c : Expr} {ma mb mc m mk me mi : ME}
theorem Post.alDct {A : Wd} {ks : List MKey} {ms : List MV} {vs : List V} {Q : VK} {p : Addr} (h : Post G A (A.mh ++ [some (.dct ks ms)]) (.loc A.mh.length) Q) (S : Sim G A) (hl : ks.length = ms.length) (r : Reps G A ms vs) (hp : A.H p = none) : Q (.ref p) (upd A.H p (.dK ((ks.map kOf).zip vs))) := by
  have k : Keep A (A.al p (.dK ((ks.map kOf).zip vs)) (.dct ks ms)) := keep_al S hp
  refine h (A.al p (.dK ((ks.map kOf).zip vs)) (.dct ks ms)) (.ref p) k rfl (S.al hp ⟨vs, upd_same, hl, Reps.keep S k _ _ r⟩ ⟨(fun _ z => nomatch z), (fun _ _ z => nomatch z)⟩) ?_
  unfold Rep
  refine ⟨p, rfl, ?_⟩
  show (A.β ++ [p])[A.mh.length]? = some p
  rw [← S.len, List.getElem?_append_right (Nat.le_refl _)]
  simp
theorem se_dnew : PE X (.Dict [] [] pos) (tE G C .dnew) := pe_dnewK.mono fun σ H Q h => by
  obtain ⟨A, ρ, v, mh', rfl, S, N, e, q⟩ := h
  simp only [ev] at e
  cases e
  exact fun p hp => Post.newDct (ks := []) (ms := []) (vs := []) q S rfl (by unfold Reps; rfl) hp
theorem sal_dnew : PE X (.Dict [] [] pos) (tE G C (.al .dnew)) := pe_dnewK.mono fun σ H Q h => by
  obtain ⟨A, ρ, v, mh', rfl, S, N, e, q⟩ := h
  simp only [ev] at e
  cases e
  exact fun p hp => Post.alDct (ks := []) (ms := []) (vs := []) q S rfl (by unfold Reps; rfl) hp
theorem noTup_dK {kvs : List (Key × V)} : NoTup (.dK kvs) := ⟨(fun _ z => nomatch z), (fun _ _ z => nomatch z)⟩
theorem se_disp1 {k v : Expr} {mv : ME} (hk : PE X k (tE G C mk)) (hv : PE X v (tE G C mv)) : PE X (.Dict [some k] [v] pos) (tE G C (.disp1 mk mv)) := by
  refine (pe_disp (pps_cons hk hv pps_nil) rfl rfl (by simp) (by simp)).mono fun σ H Q h => ?_
  obtain ⟨A, ρ, r, mh', rfl, S, N, e, q⟩ := h
  simp only [ev] at e
  split at e
  · cases e
  rename_i x mh1 e1
  split at e
  · cases e
  rename_i y mh2 e2
  simp only [Option.map_eq_some_iff] at e
  obtain ⟨ky, e3, e4⟩ := e
  cases e4
  intro p hp
  have SA := S.hid (o := .dK []) hp noTup_dK
  have kA : Keep A (A.hid p (.dK [])) := keep_hid hp
  refine tE.go SA (N.keep S kA) (by rw [kA.base]; exact e1) fun B vx kB em SB NB rx => tE.go SB NB (ev.at (kA.trans kB) em e2) fun D vy kD em2 SD ND ry => ?_
  have pA : p ∈ (A.hid p (.dK [])).ex := List.mem_cons_self
  have pB : p ∈ B.ex := kB.ex p pA
  have pD : p ∈ D.ex := kD.ex p pB
  have eB := kB.exk p pA _ upd_same (SA.exl p pA)
  have eD := kD.exk p pB _ eB (SB.exl p pB)
  have rx' := Rep.keep SB kD _ _ rx
  refine ⟨eD, [(kOf ky, vy)], ?_, by simp, ?_⟩
  · rw [kyV_rep e3 rx']; rfl
  · have nx : p ∉ A.ex := (off_new S hp).2
    have S1 := SD.put pD (o := .dK [(kOf ky, vy)]) noTup_dK
    have hx : ∀ a ∈ A.ex, a ∈ (D.up p (.dK [(kOf ky, vy)])).ex := fun a ha => kD.ex a (kB.ex a (List.mem_cons_of_mem _ ha))
    have kF : Keep A ((D.up p (.dK [(kOf ky, vy)])).out A.ex) := keep_out (keep_put ((kA.trans kB).trans kD) hp)
    refine q ((D.up p (.dK [(kOf ky, vy)])).out A.ex) (.ref p) kF em2 (S1.out hx) ?_
    unfold Rep
    refine ⟨p, [vy], rfl, .inl upd_same, ⟨SD.exl p pD, nx⟩, rfl, Reps.one (Rep.out hx _ _ (Rep.put SD pD _ _ ry))⟩
/-! ### {k: v for x in it if c} -/
noncomputable def dcompF (C : CallF) (base : Nat) (t : Tg) (own : List Nat) (mc mk me : ME) (ρ : Env) : MV → MHp → Option (Option MV × MHp) := fun x mh2 => match asg mh2 t x (wipeE ρ own) with
  | none => none
  | some ρ' => match ev C base mc ρ' mh2 with
    | some (.bl true, mh3) => match ev C base mk ρ' mh3 with
      | none => none
      | some (z, mh4) => match ev C base me ρ' mh4 with
        | none => none
        | some (y, mh5) => some (some (.tup [z, y]), mh5)
    | some (.bl false, mh3) => some (none, mh3)
    | _ => none
variable {t : Tg} {own : List Nat}
theorem ev_dcomp {base : Nat} {ρ : Env} {mh mh' : MHp} {v : MV} (e : ev C base (.dcomp t own mi mc mk me) ρ mh = some (v, mh')) : ∃ J mh1 ys ps, evI C base mi ρ mh = some (J, mh1) ∧ J.items.length ≤ line ∧ compGo J (dcompF C base t own mc mk me ρ) J.items mh1 = some (ys, mh') ∧ ys.mapM pairK = some ps ∧ v = .dct (dFold ps [] []).1 (dFold ps [] []).2 := by
  simp only [ev] at e
  split at e
  · cases e
  rename_i J mh1 e1
  split at e
  · rename_i hl
    split at e
    · cases e
    rename_i ys mh5 e2
    split at e
    · rename_i ps e3
      cases e
      exact ⟨J, mh1, ys, ps, e1, hl, e2, e3, rfl⟩
    · cases e
  · cases e
theorem dcompF_of {base : Nat} {ρ : Env} {mh mh' : MHp} {x : MV} {r : Option MV} (e : dcompF C base t own mc mk me ρ x mh = some (r, mh')) : ∃ ρ' c mh3, asg mh t x (wipeE ρ own) = some ρ' ∧ ev C base mc ρ' mh = some (.bl c, mh3) ∧
    ((c = true ∧ ∃ z mh4 y, ev C base mk ρ' mh3 = some (z, mh4) ∧ ev C base me ρ' mh4 = some (y, mh') ∧ r = some (.tup [z, y])) ∨ (c = false ∧ mh' = mh3 ∧ r = none)) := by
  unfold dcompF at e
  split at e
  · cases e
  rename_i ρ' e1
  split at e
  · rename_i mh3 e2
    split at e
    · cases e
    rename_i z mh4 e3
    split at e
    · cases e
    rename_i y mh5 e4
    cases e
    exact ⟨ρ', true, mh3, e1, e2, .inl ⟨rfl, z, mh4, y, e3, e4, rfl⟩⟩
  · rename_i mh3 e2
    cases e
    exact ⟨ρ', false, _, e1, e2, .inr ⟨rfl, rfl, rfl⟩⟩
  · cases e
theorem dPutK_len (ks : List MKey) (k : MKey) : (dPutK ks k).length ≤ ks.length + 1 := by
  unfold dPutK
  split <;> simp
theorem dc_loop {B : Wd} {ρ : Env} {σ : L2.St} {J : Its} {I : L2.It} {ys : List MV} {ps : List (MKey × MV)} {mh5 : MHp} {Q : Hp → Prop} (hown : ∀ i ∈ tgN t, i ∈ own) (SB : Sim G B) (NB : Envs G B ρ σ) (wk : Wk G B J I) (hl : J.items.length ≤ line)
    (hc : compGo J (dcompF C B.base t own mc mk me ρ) J.items B.mh = some (ys, mh5)) (hps : ys.mapM pairK = some ps) {p : Addr} (hp : B.H p = none)
    (fin : ∀ D vs, Keep B D → Sim G D → p ∈ D.ex → D.mh = mh5 → D.H p = some (.dK (((dFold ps [] []).1.map kOf).zip vs)) → Reps G D (dFold ps [] []).2 vs → Q D.H) :
    ∃ W : Nat → Nat → Hp → Prop, (∃ m, W 0 m (upd B.H p (.dK []))) ∧ ∀ i m H, W i m H →
  (I.stop i H ∧ Q H) ∨ (I.go i H ∧ ∃ Nx : Hp → Prop, (∀ H', Nx H' → ∃ m', m' < m ∧ W (i + 1) m' H') ∧ ∀ x H', I.yld i H x H' → tG G t x (L2.wipe σ own) H' fun σ2 H2 => L2.wipe σ2 own = L2.wipe σ own ∧ tT G C mc σ2 H2 fun b H3 =>
    if b = true then tE G C mk σ2 H3 fun y H4 => tE G C me σ2 H4 fun z H5 => ∃ kvs k, y = kV k ∧ H5 p = some (.dK kvs) ∧ kvs.length < sizeLine ∧ Nx (upd H5 p (.dK (putK kvs k z))) else Nx H3) := by
  let W : Nat → Nat → Hp → Prop := fun i m H => m = J.items.length - i ∧ i ≤ J.items.length ∧ ∃ (D : Wd) (ks : List MKey) (ms rs : List MV) (qs : List (MKey × MV)) (vs : List V), Keep B D ∧ Sim G D ∧ p ∈ D.ex ∧ D.H = H ∧ H p = some (.dK ((ks.map kOf).zip vs)) ∧ ks.length = ms.length ∧ Reps G D ms vs ∧ ks.length ≤ i ∧
    compGo J (dcompF C B.base t own mc mk me ρ) (J.items.drop i) D.mh = some (rs, mh5) ∧ rs.mapM pairK = some qs ∧ dFold ps [] [] = dFold qs ks ms
  refine ⟨W, ⟨J.items.length, by simp, Nat.zero_le _, B.hid p (.dK []), [], [], ys, ps, [], keep_hid hp, SB.hid hp noTup_dK, by simp, rfl, upd_same, rfl, by unfold Reps; rfl, Nat.le_refl _, hc, hps, rfl⟩, ?_⟩
  rintro i m H ⟨rfl, hi, D, ks, ms, rs, qs, vs, kD, SD, pD, rfl, eD, hkl, rD, lD, cD, hq, yD⟩
  by_cases hlt : i < J.items.length
  · have hd : J.items.drop i = J.items[i] :: J.items.drop (i + 1) := List.drop_eq_getElem_cons hlt
    rw [hd] at cD
    obtain ⟨oD, r, mh1, rs', f1, c1, rfl⟩ := compGo_cons cD
    refine .inr ⟨wk.go D kD SD oD i hlt, fun H' => W (i + 1) (J.items.length - (i + 1)) H', fun H' w => ⟨_, by omega, w⟩, fun x H' y => ?_⟩
    obtain ⟨E, z, kE, mE, rfl, SE, hz, rz⟩ := wk.yld D kD SD oD i x H' hlt y
    have hz' : J.items[i] = z := by
      rw [List.getElem?_eq_getElem hlt] at hz
      exact Option.some.inj hz
    rw [hz', ← mE] at f1
    obtain ⟨ρ', c, mh3, g1, g2, g3⟩ := dcompF_of f1
    have kBE := kD.trans kE
    refine ⟨E, wipeE ρ own, ρ', z, rfl, SE, (NB.keep SB kBE).wipe own, rz, g1, fun σ' N' off => ⟨?_, ?_⟩⟩
    · rw [off.wipe hown, wipe_wipe]
    have pE : p ∈ E.ex := kE.ex p pD
    have eE := kE.exk p pD _ eD (SD.exl p pD)
    have rE : Reps G E ms vs := Reps.keep SD kE _ _ rD
    refine tT.go SE N' (by rw [kBE.base]; exact g2) fun F kF mF SF NF => ?_
    have pF : p ∈ F.ex := kF.ex p pE
    have eF := kF.exk p pE _ eE (SE.exl p pE)
    have rF : Reps G F ms vs := Reps.keep SE kF _ _ rE
    have kBF := kBE.trans kF
    rcases g3 with ⟨rfl, z', mh4, y', g4, g6, rfl⟩ | ⟨rfl, g5, rfl⟩
    · rw [if_pos rfl]
      rw [Option.toList_some, List.singleton_append] at hq
      simp only [List.mapM_cons, Option.bind_eq_bind, Option.bind_eq_some_iff] at hq
      obtain ⟨q0, hq0, qs', hqs, hq1⟩ := hq
      cases hq1
      simp only [pairK, Option.map_eq_some_iff] at hq0
      obtain ⟨k, hk, rfl⟩ := hq0
      refine tE.go SF NF (by rw [kBF.base, mF]; exact g4) fun K vz kK mK SK NK rz' => ?_
      have pK : p ∈ K.ex := kK.ex p pF
      have eK := kK.exk p pF _ eF (SF.exl p pF)
      have rK : Reps G K ms vs := Reps.keep SF kK _ _ rF
      have kBK := kBF.trans kK
      refine tE.go SK NK (ev.at kBK mK g6) fun L vy kL mL SL NL ry => ?_
      have pL : p ∈ L.ex := kL.ex p pK
      have eL := kL.exk p pK _ eK (SK.exl p pK)
      have rL : Reps G L ms vs := Reps.keep SK kL _ _ rK
      have kBL := kBK.trans kL
      obtain ⟨ws, e1, r1⟩ := dput_rep (k := k) hkl rL ry
      refine ⟨_, kOf k, kyV_rep hk (Rep.keep SK kL _ _ rz'), eL, ?_, rfl, hlt, L.up p (.dK (putK ((ks.map kOf).zip vs) (kOf k) vy)), dPutK ks k, dPutV ks ms k y', rs', qs', ws, keep_put kBL hp, SL.put pL noTup_dK, pL, rfl, ?_, dput_len k y' hkl, Reps.put SL pL _ _ r1, ?_, ?_, hqs, ?_⟩
      · have : ((ks.map kOf).zip vs).length ≤ ks.length := by rw [List.length_zip, List.length_map]; omega
        exact Nat.lt_of_le_of_lt (Nat.le_trans this lD) (Nat.lt_of_lt_of_le hlt hl)
      · rw [← e1]; exact upd_same
      · have := dPutK_len ks k
        omega
      · show compGo J _ _ L.mh = _
        rw [mL]; exact c1
      · rw [yD]; rfl
    · rw [if_neg Bool.false_ne_true]
      refine ⟨rfl, hlt, F, ks, ms, rs', qs, vs, kBF, SF, pF, rfl, eF, hkl, rF, Nat.le_succ_of_le lD, ?_, ?_, yD⟩
      · rw [mF, ← g5]; exact c1
      · exact hq
  · have e : i = J.items.length := by omega
    subst e
    rw [List.drop_length] at cD
    obtain ⟨oD, rfl, e5⟩ := compGo_nil cD
    simp at hq
    subst hq
    refine .inl ⟨wk.stop D kD SD oD, fin D vs kD SD pD e5.symm ?_ ?_⟩
    · rw [yD]; exact eD
    · rw [yD]; exact rD
theorem dc_frozen {A : Wd} {ρ : Env} {σ : L2.St} {v : MV} {mh' : MHp} {Q : VK} (hown : ∀ i ∈ tgN t, i ∈ own) (S : Sim G A) (N : Envs G A ρ σ) (e : ev C A.base (.dcomp t own mi mc mk me) ρ A.mh = some (v, mh')) (q : Post G A mh' v Q) :
    tDc (tI G C mi) (tG G t) (tT G C mc) (tE G C mk) (tE G C me) own σ A.H Q := by
  obtain ⟨J, mh1, ys, ps, e1, hl, e2, e3, rfl⟩ := ev_dcomp e
  refine ⟨A, ρ, J, mh1, rfl, S, N, e1, fun B I k em SB wk p hp => ?_⟩
  refine dc_loop hown SB (N.keep S k) wk hl (by rw [k.base, em]; exact e2) e3 hp fun D vs kD SD pD mD eD rD => ?_
  have hx : ∀ a ∈ B.ex, a ∈ D.ex := kD.ex
  refine q (D.out B.ex) (.ref p) (k.trans (keep_out kD)) mD (SD.out hx) ?_
  unfold Rep
  refine ⟨p, vs, rfl, .inl eD, ⟨SD.exl p pD, fun z => ?_⟩, dfold_len ps [] [] rfl, Reps.out hx _ _ rD⟩
  obtain ⟨u, e9, _⟩ := SB.exo p z
  rw [hp] at e9; cases e9
end
section
variable {G : Gb} {C : CallF} {X : Cx} {mc mk me mi : ME} {t : Tg} {kx vx tg iter : Expr} {ifs : List Expr} {scope : Scope} {own : List (Str × Nat)} {pos : Pos}
theorem se_dcomp (hown : ∀ i ∈ tgN t, i ∈ own.map (·.2)) (hc : X.calm = true) (hN : X.N.Nodup) (hi : PI X tg iter (tI G C mi)) (ok : BlkOk X.N X.env.scope scope own)
    (hg : ∀ (s : Shared) (H : Hp) (D : Addr) (cl : List (Str × Addr)) (fp : List Addr), PG (X.blk s H scope (compEnvC scope cl D X.env) fp) tg (tG G t)) (ht : ∀ (s : Shared) (H : Hp) (D : Addr) (cl : List (Str × Addr)) (fp : List Addr), PTs (X.blk s H scope (compEnvC scope cl D X.env) fp) ifs (tT G C mc))
    (hk : ∀ (s : Shared) (H : Hp) (D : Addr) (cl : List (Str × Addr)) (fp : List Addr), PE (X.blk s H scope (compEnvC scope cl D X.env) fp) kx (tE G C mk))
    (he : ∀ (s : Shared) (H : Hp) (D : Addr) (cl : List (Str × Addr)) (fp : List Addr), PE (X.blk s H scope (compEnvC scope cl D X.env) fp) vx (tE G C me)) (hs : ∀ x, foldedSetIterable iter X.env x = pure x := by intro _; rfl) :
    PE X (.DictComp kx vx [⟨tg, iter, ifs, 0⟩] scope pos) (tE G C (.dcomp t (own.map (·.2)) mi mc mk me)) := by
  refine (pe_dc hc hN hi ok hg ht hk he hs).mono fun σ H Q h => ?_
  obtain ⟨A, ρ, v, mh', rfl, S, N, e, q⟩ := h
  exact dc_frozen hown S N e q
end
section
variable {G : Gb} {C : CallF} {X : Cx} {pos p : Pos} {e : Expr}
theorem sb_dict (hm : X.mg "dict" = none) (hK : X.K = G.K) {es : List Expr} {ms : List ME} (ha : PA X (e :: es) (tEs G C ms)) (hc : X.calm = true := by rfl) (hg : Gl X "dict" := by rfl) (he : starEach (e :: es) X.env = (false, eval e X.env) :: starEach es X.env := by rfl) (hpl : (backTo pos (starEach es X.env)).any (·.1) = false := by rfl) : PE X (.Call (.Name "dict" p) (e :: es) [] pos) (tE G C (.bi .dict ms)) := se_biT bi_dict (call_dictP hc) hK hg hm bt_dict ha (by decide) (by decide) he hpl
end
end L2.Mi

set_option Elab.async false
set_option linter.all false
set_option maxRecDepth 100000
set_option maxHeartbeats 4000000
/-! Mini18: list(zip(a, b)) of two tuples. -/
namespace L2.Mi.Lz
open PySem PySem.W PyProof.Rows
open PySem.Sem (wp)
section
variable {prog : Program} {w : World} {A : Around} {E : Value → Shared → Prop} {s : Shared}
/-- the zip's next pair, the last one being held elsewhere -/
theorem held_item {z TI TO T i1 i2 l1 l2 : Addr} {f : Bool} {oT : Obj} {m n : Nat} {us vs : Array Value} {x y : Value} {Q : Value → Shared → Prop} (D : ZipApart z TI TO i1 i2 l1 l2)
    (hz : IsZipHeld s.heap z TI TO T f) (hT : s.heap.get? T = some oT) (hI : IsPair s.heap TI (.ref i1) (.ref i2))
    (p1 : s.heap.IsTupleIter i1 l1 m) (p2 : s.heap.IsTupleIter i2 l2 n) (q1 : s.heap.IsTuple l1 us) (q2 : s.heap.IsTuple l2 vs) (hx : us[m]? = some x) (hy : vs[n]? = some y)
    (k : ∀ h', IsZipHeld h' z TI TO T true → h'.IsTupleIter i1 l1 (m + 1) → h'.IsTupleIter i2 l2 (n + 1) → IsPair h' s.heap.objs.size x y → h'.objs.size = s.heap.objs.size + 1 →
      (∀ c o, c ≠ z → c ≠ i1 → c ≠ i2 → s.heap.get? c = some o → h'.get? c = some o) → Q (.ref s.heap.objs.size) { s with heap := h' }) :
    wpAny (model prog w) A (Builtin.«zip.__next__» ⟨[.ref z], []⟩) (fun fin s' => ∃ v, fin = .done (.ret v) ∧ Q v s') E s := by
  show wpAny _ _ (field (.ref z) 2 >>= _) _ _ _
  refine wpAny_bind (wpAny_field hz rfl (x := .bool false) rfl ?_)
  show wpAny _ _ (field (.ref z) 3 >>= _) _ _ _
  refine wpAny_bind (wpAny_field hz rfl (x := .ref TI) rfl (wpAny_bind (wpAny_seqItems hI rfl ?_)))
  show wpAny _ _ (Builtin.SmallTypes.ownedTupleIsFree (.ref z) >>= _) _ _ _
  refine wpAny_bind (wpAny_tupleHeld_zip hz hT fun a za sa => ?_)
  simp only [Bool.false_eq_true, if_false]
  refine wpAny_bind ?_
  rw [← Array.forIn_toList]
  simp only [List.forIn_cons, List.forIn_nil]
  refine wpAny_bind (wpAny_bind (wpAny_holding ?_))
  show wpAny _ _ (Builtin.SmallTypes.nextOf (.ref i1) >>= _) _ _ _
  refine wpAny_bind (RZ.nextOf_tuple_item (s := { s with heap := a }) (p1.extBut sa.extBut D.i1z) (q1.extBut sa.extBut D.l1z) hx fun b pb sb => wpAny_pure (wpAny_pure ?_))
  refine wpAny_bind (wpAny_bind (wpAny_holding ?_))
  show wpAny _ _ (Builtin.SmallTypes.nextOf (.ref i2) >>= _) _ _ _
  refine wpAny_bind (RZ.nextOf_tuple_item (s := { s with heap := b }) ((p2.extBut sa.extBut D.i2z).extBut sb.extBut D.i12.symm) ((q2.extBut sa.extBut D.l2z).extBut sb.extBut D.l2i1) hy fun c pc sc => wpAny_pure (wpAny_pure (wpAny_pure ?_)))
  show wpAny _ _ (newTuple [x, y] >>= _) _ _ _
  refine wpAny_bind (wpAny_newTuple ?_)
  have size : c.objs.size = s.heap.objs.size := by rw [sc.1, sb.1, sa.1]
  have zc : IsZipHeld c z TI TO T true := sc.extBut _ _ D.i2z.symm (sb.extBut _ _ D.i1z.symm za)
  have keep : ∀ d o, d ≠ z → d ≠ i1 → d ≠ i2 → s.heap.get? d = some o → c.get? d = some o := fun d o d1 d2 d3 e => sc.extBut _ _ d3 (sb.extBut _ _ d2 (sa.extBut _ _ d1 e))
  have pb' : c.IsTupleIter i1 l1 (m + 1) := pb.extBut sc.extBut D.i12
  refine wpAny_pure ⟨_, rfl, ?_⟩
  show Q (.ref c.objs.size) _
  have pr : IsPair (c.push { cls := .type "tuple", data := .seq #[x, y] }) c.objs.size x y := Heap.get?_push_size _ rfl
  have big : (c.push { cls := .type "tuple", data := .seq #[x, y] }).objs.size = c.objs.size + 1 := Heap.size_push ..
  rw [size] at pr big ⊢
  have up : ∀ d o, c.get? d = some o → (c.push { cls := .type "tuple", data := .seq #[x, y] }).get? d = some o := fun d o e => Heap.get?_push_of_some _ e
  have it : ∀ {i l : Addr} {j : Nat}, c.IsTupleIter i l j → (c.push { cls := .type "tuple", data := .seq #[x, y] }).IsTupleIter i l j := fun ⟨o, e, r⟩ => ⟨o, up _ _ e, r⟩
  exact k _ (up _ _ zc) (it pb') (it pc) pr big fun d o d1 d2 d3 e => up _ _ (keep d o d1 d2 d3 e)
theorem held_end {z TI TO T i1 i2 l1 l2 : Addr} {f : Bool} {oT : Obj} {m n : Nat} {us vs : Array Value} {Q : Fin → Shared → Prop} (hh : A.handled = none) (D : ZipApart z TI TO i1 i2 l1 l2)
    (hz : IsZipHeld s.heap z TI TO T f) (hT : s.heap.get? T = some oT) (hI : IsPair s.heap TI (.ref i1) (.ref i2))
    (p1 : s.heap.IsTupleIter i1 l1 m) (p2 : s.heap.IsTupleIter i2 l2 n) (q1 : s.heap.IsTuple l1 us) (q2 : s.heap.IsTuple l2 vs) (he : us[m]? = none ∨ vs[n]? = none)
    (k : ∀ h' e, (∀ c o, c ≠ z → c ≠ i1 → c ≠ i2 → s.heap.get? c = some o → h'.get? c = some o) → (∃ o, h'.get? e = some o ∧ o.cls = .type "StopIteration") → E (.ref e) { s with heap := h' }) :
    wpAny (model prog w) A (Builtin.«zip.__next__» ⟨[.ref z], []⟩) Q E s := by
  show wpAny _ _ (field (.ref z) 2 >>= _) _ _ _
  refine wpAny_bind (wpAny_field hz rfl (x := .bool false) rfl ?_)
  show wpAny _ _ (field (.ref z) 3 >>= _) _ _ _
  refine wpAny_bind (wpAny_field hz rfl (x := .ref TI) rfl (wpAny_bind (wpAny_seqItems hI rfl ?_)))
  show wpAny _ _ (Builtin.SmallTypes.ownedTupleIsFree (.ref z) >>= _) _ _ _
  refine wpAny_bind (wpAny_tupleHeld_zip hz hT fun a za sa => ?_)
  simp only [Bool.false_eq_true, if_false]
  refine wpAny_bind ?_
  rw [← Array.forIn_toList]
  simp only [List.forIn_cons, List.forIn_nil]
  refine wpAny_bind (wpAny_bind (wpAny_holding ?_))
  show wpAny _ _ (Builtin.SmallTypes.nextOf (.ref i1) >>= _) _ _ _
  cases hx : us[m]? with
  | none =>
    refine wpAny_bind (RZ.nextOf_tuple_end (s := { s with heap := a }) hh (p1.extBut sa.extBut D.i1z) (q1.extBut sa.extBut D.l1z) hx fun b e sb be => ?_)
    exact k b e (fun c o c1 c2 _ x => sb _ _ c2 (sa.extBut _ _ c1 x)) be
  | some x =>
    have hy : vs[n]? = none := he.elim (fun h => by rw [hx] at h; cases h) id
    refine wpAny_bind (RZ.nextOf_tuple_item (s := { s with heap := a }) (p1.extBut sa.extBut D.i1z) (q1.extBut sa.extBut D.l1z) hx fun b pb sb => wpAny_pure (wpAny_pure ?_))
    refine wpAny_bind (wpAny_bind (wpAny_holding ?_))
    show wpAny _ _ (Builtin.SmallTypes.nextOf (.ref i2) >>= _) _ _ _
    refine wpAny_bind (RZ.nextOf_tuple_end (s := { s with heap := b }) hh ((p2.extBut sa.extBut D.i2z).extBut sb.extBut D.i12.symm) ((q2.extBut sa.extBut D.l2z).extBut sb.extBut D.l2i1) hy fun c e sc ce => ?_)
    exact k c e (fun d o d1 d2 d3 x => sc _ _ d3 (sb.extBut _ _ d2 (sa.extBut _ _ d1 x))) ce
/-- where the zip stands at turn i; S: the list that is being made -/
structure Zs (h : Heap) (z TI TO i1 i2 l1 l2 S : Addr) (us vs : Array Value) (i : Nat) : Prop where
  zip : (IsZip h z TI TO .none ∧ ∃ a b, IsPair h TO a b) ∨ ∃ T f oT, IsZipHeld h z TI TO T f ∧ h.get? T = some oT ∧ S < T
  ti : IsPair h TI (.ref i1) (.ref i2)
  p1 : h.IsTupleIter i1 l1 i
  p2 : h.IsTupleIter i2 l2 i
  q1 : h.IsTuple l1 us
  q2 : h.IsTuple l2 vs
structure Low (z TI TO i1 i2 l1 l2 S : Addr) : Prop where
  z : z < S
  ti : TI < S
  to : TO < S
  i1 : i1 < S
  i2 : i2 < S
  l1 : l1 < S
  l2 : l2 < S
variable {z TI TO i1 i2 l1 l2 S : Addr} {us vs : Array Value} {i : Nat}
theorem zs_next {x y : Value} {Q : Option Value → Shared → Prop} (D : ZipApart z TI TO i1 i2 l1 l2) (L : Low z TI TO i1 i2 l1 l2 S) (hS : S < s.heap.objs.size) (Z : Zs s.heap z TI TO i1 i2 l1 l2 S us vs i) (hx : us[i]? = some x) (hy : vs[i]? = some y)
    (k : ∀ h', Zs h' z TI TO i1 i2 l1 l2 S us vs (i + 1) → IsPair h' s.heap.objs.size x y → h'.objs.size = s.heap.objs.size + 1 →
      (∀ c o, c ≠ z → c ≠ TO → c ≠ i1 → c ≠ i2 → s.heap.get? c = some o → h'.get? c = some o) → Q (some (.ref s.heap.objs.size)) { s with heap := h' }) : wpAny (model prog w) A (pyNext (.ref z)) Q E s := by
  have tup : ∀ {h h' : Heap} {l : Addr} {ws : Array Value}, (∀ o, h.get? l = some o → h'.get? l = some o) → h.IsTuple l ws → h'.IsTuple l ws := fun kp ⟨o, e, r⟩ => ⟨o, kp o e, r⟩
  rcases Z.zip with ⟨z1, a, b, z2⟩ | ⟨T, f, oT, z1, z2, z3⟩
  · refine RZ.pyNext_zipT_item D z1 Z.ti z2 Z.p1 Z.p2 Z.q1 Z.q2 hx hy fun h' a1 a2 a3 a4 a5 a6 a7 => k h' ⟨.inr ⟨_, false, _, a1, a5, hS⟩, ?_, a3, a4, ?_, ?_⟩ a5 a6 a7
    · exact a7 _ _ D.TIz D.TITO D.TIi1 D.TIi2 Z.ti
    · exact tup (fun o => a7 _ o D.l1z D.l1TO D.l1i1 D.l1i2) Z.q1
    · exact tup (fun o => a7 _ o D.l2z D.l2TO D.l2i1 D.l2i2) Z.q2
  · have ty : s.TypeIs (.ref z) "zip" := ⟨_, z1, rfl⟩
    unfold pyNext
    refine wpAny_bind (wpAny_attempt (wpAny_callSpecial?_slot (name := Str.ofString "__next__") ty F.slot_zip_next ?_))
    refine wpAny_call_entry F.slot_zip_next ty F.entry_zip_next (held_item D z1 z2 Z.ti Z.p1 Z.p2 Z.q1 Z.q2 hx hy fun h' a1 a3 a4 a5 a6 a7 => wpAny_pure ?_) (F.args_zip_next_1 _)
    have ne : ∀ {c : Addr}, c < S → T ≠ c := fun hc e => by rw [e] at z3; exact absurd (Nat.lt_trans z3 hc) (Nat.lt_irrefl _)
    refine k h' ⟨.inr ⟨T, true, oT, a1, a7 _ _ (ne L.z) (ne L.i1) (ne L.i2) z2, z3⟩, a7 _ _ D.TIz D.TIi1 D.TIi2 Z.ti, a3, a4, ?_, ?_⟩ a5 a6 fun c o c1 _ c3 c4 e => a7 c o c1 c3 c4 e
    · exact tup (fun o => a7 _ o D.l1z D.l1i1 D.l1i2) Z.q1
    · exact tup (fun o => a7 _ o D.l2z D.l2i1 D.l2i2) Z.q2
theorem zs_end {Q : Option Value → Shared → Prop} (hh : A.handled = none) (D : ZipApart z TI TO i1 i2 l1 l2) (Z : Zs s.heap z TI TO i1 i2 l1 l2 S us vs i) (he : us[i]? = none ∨ vs[i]? = none)
    (k : ∀ h', (∀ c o, c ≠ z → c ≠ TO → c ≠ i1 → c ≠ i2 → s.heap.get? c = some o → h'.get? c = some o) → Q none { s with heap := h' }) : wpAny (model prog w) A (pyNext (.ref z)) Q E s := by
  rcases Z.zip with ⟨z1, a, b, z2⟩ | ⟨T, f, oT, z1, z2, z3⟩
  · exact RZ.pyNext_zipT_end hh D z1 Z.ti z2 Z.p1 Z.p2 Z.q1 Z.q2 he k
  · have ty : s.TypeIs (.ref z) "zip" := ⟨_, z1, rfl⟩
    unfold pyNext
    refine wpAny_bind (wpAny_attempt (wpAny_callSpecial?_slot (name := Str.ofString "__next__") ty F.slot_zip_next ?_))
    refine wpAny_call_entry F.slot_zip_next ty F.entry_zip_next (held_end hh D z1 z2 Z.ti Z.p1 Z.p2 Z.q1 Z.q2 he fun h' e kp ⟨o, ho, hc⟩ => ?_) (F.args_zip_next_1 _)
    refine wpAny_bind (wpAny_isInstance (T := "StopIteration") (b := true) ⟨o, ho, hc⟩ isSubtype_stop ?_)
    exact wpAny_pure (k _ fun c o c1 _ c3 c4 x => kp c o c1 c3 c4 x)
abbrev lstO (acc : Array Value) (c : Nat) : Obj := { cls := .type "list", dict := none, data := .seq acc c, slots := #[] }
/-- the pairs that were made -/
def Prs (h : Heap) (S : Addr) (us vs : Array Value) (as : List Addr) : Prop := as.Pairwise (· < ·) ∧ ∀ (j : Nat) (a : Addr), as[j]? = some a → S < a ∧ ∃ x y, us[j]? = some x ∧ vs[j]? = some y ∧ IsPair h a x y
theorem zl_loop {R : Result → Shared → Prop} {h₁ : Heap} {n : Nat} (hh : A.handled = none) (D : ZipApart z TI TO i1 i2 l1 l2) (L : Low z TI TO i1 i2 l1 l2 S) (hn : n = min us.size vs.size) (hz : n ≤ sizeLine) (res : Value)
    (hR : ∀ h' tk acc c as, (∀ b o, b < z → b ≠ TO → b ≠ i1 → b ≠ i2 → h₁.get? b = some o → h'.get? b = some o) → h'.get? S = some (lstO acc c) → as.length = n → Prs h' S us vs as → acc.toList = as.map Value.ref → R (.ok (.ret res)) { s with heap := h', toks := tk }) :
    ∀ (k i : Nat) (h : Heap) (tk c : Nat) (acc : Array Value) (as : List Addr), n - i = k → i ≤ n → Zs h z TI TO i1 i2 l1 l2 S us vs i → (∀ b o, b < z → b ≠ TO → b ≠ i1 → b ≠ i2 → h₁.get? b = some o → h.get? b = some o) →
      h.get? S = some (lstO acc c) → acc.toList = as.map Value.ref → as.length = i → Prs h S us vs as →
      codeAny (model prog w) A (.builtin "list.extend.loop" ⟨[.ref S, .ref z, res], []⟩) R { s with heap := h, toks := tk } := by
  intro k
  induction k with
  | zero =>
    intro i h tk c acc as hk hi Z keep hS hacc hal hP
    refine codeAny_builtin PySem.F.entry_extend_loop ?_
    rw [Around.under_plainId PySem.F.plain_extend_loop _]
    show wpAny _ A.in1 (pyNext (.ref z) >>= _) _ _ _
    have he : us[i]? = none ∨ vs[i]? = none := by
      rcases Nat.le_total us.size vs.size with l | l
      · exact .inl (Array.getElem?_eq_none (by omega))
      · exact .inr (Array.getElem?_eq_none (by omega))
    refine wpAny_bind (zs_end (s := { s with heap := h, toks := tk }) (A := A.in1) hh D Z he fun h' kp => wpAny_pure ?_)
    have ne : ∀ {c : Addr}, c < S → ∀ {a : Addr}, S ≤ a → a ≠ c := fun hc a ha e => by rw [e] at ha; exact absurd (Nat.lt_of_lt_of_le hc ha) (Nat.lt_irrefl _)
    have kS : ∀ a o, S ≤ a → h.get? a = some o → h'.get? a = some o := fun a o ha => kp a o (ne L.z ha) (ne L.to ha) (ne L.i1 ha) (ne L.i2 ha)
    refine hR h' tk acc c as (fun b o b1 b2 b3 b4 e => kp b o (Nat.ne_of_lt b1) b2 b3 b4 (keep b o b1 b2 b3 b4 e)) (kS S _ (Nat.le_refl _) hS) (by omega) ⟨hP.1, fun j a hj => ?_⟩ hacc
    obtain ⟨ha, x, y, e1, e2, e3⟩ := hP.2 j a hj
    exact ⟨ha, x, y, e1, e2, kS a _ (Nat.le_of_lt ha) e3⟩
  | succ k ih =>
    intro i h tk c acc as hk hi Z keep hS hacc hal hP
    have lt1 : i < us.size := by omega
    have lt2 : i < vs.size := by omega
    have hsz : acc.size = i := by rw [← Array.length_toList, hacc, List.length_map, hal]
    have hSl : S < h.objs.size := Heap.lt_size hS
    refine codeAny_builtin PySem.F.entry_extend_loop ?_
    rw [Around.under_plainId PySem.F.plain_extend_loop _]
    show wpAny _ A.in1 (pyNext (.ref z) >>= _) _ _ _
    refine wpAny_bind (zs_next (s := { s with heap := h, toks := tk }) D L hSl Z (Array.getElem?_eq_getElem lt1) (Array.getElem?_eq_getElem lt2) fun h' Z' pr big kp => ?_)
    dsimp only at pr big kp ⊢
    have ne : ∀ {c : Addr}, c < S → ∀ {a : Addr}, S ≤ a → a ≠ c := fun hc a ha e => by rw [e] at ha; exact absurd (Nat.lt_of_lt_of_le hc ha) (Nat.lt_irrefl _)
    have kS : ∀ a o, S ≤ a → h.get? a = some o → h'.get? a = some o := fun a o ha => kp a o (ne L.z ha) (ne L.to ha) (ne L.i1 ha) (ne L.i2 ha)
    have hS' := kS S _ (Nat.le_refl _) hS
    have up : ∀ b o, b ≠ S → h'.get? b = some o → (h'.update S (Obj.mapSeq (·.push (Value.ref h.objs.size)))).get? b = some o := fun b o hb e => (Heap.get?_update_other _ _ (Ne.symm hb)).trans e
    have upl : ∀ {b : Addr} {o}, b < S → h'.get? b = some o → (h'.update S (Obj.mapSeq (·.push (Value.ref h.objs.size)))).get? b = some o := fun hb e => up _ _ (Nat.ne_of_lt hb) e
    have Z2 : Zs (h'.update S (Obj.mapSeq (·.push (Value.ref h.objs.size)))) z TI TO i1 i2 l1 l2 S us vs (i + 1) := by
      refine ⟨?_, upl L.ti Z'.ti, ?_, ?_, ?_, ?_⟩
      · rcases Z'.zip with ⟨z1, a, b, z2⟩ | ⟨T, f, oT, z1, z2, z3⟩
        · exact .inl ⟨upl L.z z1, a, b, upl L.to z2⟩
        · exact .inr ⟨T, f, oT, upl L.z z1, up _ _ (Nat.ne_of_gt z3) z2, z3⟩
      · obtain ⟨o, e, r⟩ := Z'.p1; exact ⟨o, upl L.i1 e, r⟩
      · obtain ⟨o, e, r⟩ := Z'.p2; exact ⟨o, upl L.i2 e, r⟩
      · obtain ⟨o, e, r⟩ := Z'.q1; exact ⟨o, upl L.l1 e, r⟩
      · obtain ⟨o, e, r⟩ := Z'.q2; exact ⟨o, upl L.l2 e, r⟩
    show wpAny _ A.in1 (updateSeq S (·.push (Value.ref h.objs.size)) >>= _) _ _ _
    refine wpAny_bind (wpAny_updateSeq hS' rfl (wpAny_pure ⟨plainId_quiet PySem.F.plain_extend_loop _, ih (i + 1) _ tk _ (acc.push (Value.ref h.objs.size)) (as ++ [h.objs.size]) (by omega) (by omega) Z2 ?_ (Heap.get?_update_self _ hS' rfl) (by rw [Array.toList_push, hacc, List.map_append]; rfl) (by rw [List.length_append, hal]; rfl) ?_⟩) (by rw [hsz]; omega) (by rw [Array.size_push, hsz]; omega))
    · exact fun b o b1 b2 b3 b4 e => upl (Nat.lt_trans b1 L.z) (kp b o (Nat.ne_of_lt b1) b2 b3 b4 (keep b o b1 b2 b3 b4 e))
    · refine ⟨List.pairwise_append.mpr ⟨hP.1, List.pairwise_singleton _ _, fun a ha b hb => ?_⟩, fun j b hj => ?_⟩
      · rw [List.mem_singleton.mp hb]
        obtain ⟨j, hj⟩ := List.mem_iff_getElem?.mp ha
        obtain ⟨_, x, y, _, _, e3⟩ := hP.2 j a hj
        exact Heap.lt_size e3
      rcases Nat.lt_trichotomy j as.length with g | g | g
      · rw [List.getElem?_append_left g] at hj
        obtain ⟨ha, x, y, e1, e2, e3⟩ := hP.2 j b hj
        exact ⟨ha, x, y, e1, e2, up b _ (Nat.ne_of_gt ha) (kS b _ (Nat.le_of_lt ha) e3)⟩
      · subst g
        have hb : h.objs.size = b := by simpa using hj
        subst hb
        refine ⟨hSl, us[i], vs[i], ?_, ?_, up _ _ (Nat.ne_of_gt hSl) pr⟩
        · rw [hal]; exact Array.getElem?_eq_getElem lt1
        · rw [hal]; exact Array.getElem?_eq_getElem lt2
      · rw [List.getElem?_eq_none (by rw [List.length_append, List.length_singleton]; omega)] at hj
        cases hj
theorem no_len : typeLookup (.type "zip") "__len__" = pure none := am_miss_of_fast (by first | decide +kernel | rfl)
theorem no_hint : typeLookup (.type "zip") "__length_hint__" = pure none := am_miss_of_fast (by first | decide +kernel | rfl)
theorem zip_hint {Q : Bool → Shared → Prop} (ty : s.TypeIs (.ref z) "zip") (h : Q true s) : wpAny (model prog w) A (Builtin.List.listLengthHint (.ref z)) Q E s := by
  unfold Builtin.List.listLengthHint
  refine wpAny_bind (wpAny_specialOf ty no_len ?_)
  refine wpAny_ite_split (fun c => absurd c (by decide)) (fun _ => ?_)
  refine wpAny_ite_split (fun c => absurd c (by decide)) (fun _ => ?_)
  exact wpAny_bind (wpAny_specialOf ty no_hint (wpAny_pure h))
theorem Zs.other {h h' : Heap} (L : Low z TI TO i1 i2 l1 l2 S) (Z : Zs h z TI TO i1 i2 l1 l2 S us vs i) (k : ∀ b o, b ≠ S → h.get? b = some o → h'.get? b = some o) : Zs h' z TI TO i1 i2 l1 l2 S us vs i := by
  have kl : ∀ {b : Addr} {o}, b < S → h.get? b = some o → h'.get? b = some o := fun hb e => k _ _ (Nat.ne_of_lt hb) e
  refine ⟨?_, kl L.ti Z.ti, ?_, ?_, ?_, ?_⟩
  · rcases Z.zip with ⟨z1, a, b, z2⟩ | ⟨T, f, oT, z1, z2, z3⟩
    · exact .inl ⟨kl L.z z1, a, b, kl L.to z2⟩
    · exact .inr ⟨T, f, oT, kl L.z z1, k _ _ (Nat.ne_of_gt z3) z2, z3⟩
  · obtain ⟨o, e, r⟩ := Z.p1; exact ⟨o, kl L.i1 e, r⟩
  · obtain ⟨o, e, r⟩ := Z.p2; exact ⟨o, kl L.i2 e, r⟩
  · obtain ⟨o, e, r⟩ := Z.q1; exact ⟨o, kl L.l1 e, r⟩
  · obtain ⟨o, e, r⟩ := Z.q2; exact ⟨o, kl L.l2 e, r⟩
theorem zl_call {Q : Value → Shared → Prop} (hh : A.handled = none) (D : ZipApart z TI TO i1 i2 l1 l2) (L : Low z TI TO i1 i2 l1 l2 s.heap.objs.size) (hz0 : IsZip s.heap z TI TO .none) (Z : Zs s.heap z TI TO i1 i2 l1 l2 s.heap.objs.size us vs 0) (hn : min us.size vs.size ≤ sizeLine)
    (hQ : ∀ h' tk acc c as, (∀ b o, b < z → b ≠ TO → b ≠ i1 → b ≠ i2 → s.heap.get? b = some o → h'.get? b = some o) → h'.get? s.heap.objs.size = some (lstO acc c) → as.length = min us.size vs.size → Prs h' s.heap.objs.size us vs as → acc.toList = as.map Value.ref →
      Q (.ref s.heap.objs.size) { s with heap := h', toks := tk }) : wpAny (model prog w) A (call (.type "list") [.ref z]) Q E s := by
  have hS : (s.heap.push { cls := .type "list", data := .seq #[] }).get? s.heap.objs.size = some { cls := .type "list", data := .seq #[] } := Heap.get?_push_size _ rfl
  have zne : z ≠ s.heap.objs.size := Nat.ne_of_lt L.z
  refine callType_codes (Q₁ := fun obj s₁ => obj = .ref s.heap.objs.size ∧ s₁ = { s with heap := s.heap.push { cls := .type "list", data := .seq #[] } }) PySem.F.called_list (PySem.F.typeCall_list_1 _) PySem.F.entry_list_init (code_list_new _ ⟨rfl, rfl⟩) fun obj s₁ h₁ => ?_
  obtain ⟨rfl, rfl⟩ := h₁
  refine ⟨⟨_, hS, rfl⟩, PySem.F.args_list_init_2 _ _, ?_⟩
  have key : ∀ (h : Heap) (c tk : Nat), (∀ b o, b ≠ s.heap.objs.size → s.heap.get? b = some o → h.get? b = some o) → h.get? s.heap.objs.size = some { cls := .type "list", data := .seq #[] c } →
      codeAny (model prog w) A.in1 (.builtin "list.extend.loop" ⟨[.ref s.heap.objs.size, .ref z, .none], []⟩) (fun r s' => r = .ok (.ret .none) ∧ Q (.ref s.heap.objs.size) s') { s with heap := h, toks := tk } := by
    intro h c tk k hS₁
    refine zl_loop (s := s) (h₁ := s.heap) (A := A.in1) (S := s.heap.objs.size) (us := us) (vs := vs) hh D L rfl hn .none (fun h' tk' acc c' as k1 k2 k3 k4 k5 => ⟨rfl, hQ h' tk' acc c' as k1 k2 k3 k4 k5⟩) _ 0 h tk c #[] [] (Nat.sub_zero _) (Nat.zero_le _) (Z.other L k) ?_ hS₁ rfl rfl ⟨List.Pairwise.nil, fun j a hj => by simp at hj⟩
    exact fun b o b1 _ _ _ e => k b o (Nat.ne_of_lt (Nat.lt_trans b1 L.z)) e
  show wpAny _ _ (do let old ← Builtin.List.listItems (.ref s.heap.objs.size); Builtin.List.listUpdate (.ref s.heap.objs.size) (fun _ => #[]); letGo old.toList.reverse; Builtin.List.listExtendWith (.ref s.heap.objs.size) (.ref z) .none) _ _ _
  refine wpAny_bind ?_
  unfold Builtin.List.listItems
  refine wpAny_bind (wpAny_seqItems hS rfl (wpAny_pure ?_))
  show wpAny _ _ (updateSeq s.heap.objs.size (fun _ => #[]) >>= fun _ => letGo (#[] : Array Value).toList.reverse >>= fun _ => Builtin.List.listExtendWith (.ref s.heap.objs.size) (.ref z) .none) _ _ _
  refine wpAny_bind (wpAny_updateSeq hS rfl ?_)
  have hS₂ := Heap.get?_update_self (Obj.mapSeq (fun _ => (#[] : Array Value))) hS rfl
  have k2 : ∀ b o, b ≠ s.heap.objs.size → s.heap.get? b = some o → ((s.heap.push { cls := .type "list", data := .seq #[] }).update s.heap.objs.size (Obj.mapSeq (fun _ => (#[] : Array Value)))).get? b = some o := fun b o hb e => (Heap.get?_update_other _ _ (Ne.symm hb)).trans (Heap.get?_push_of_some _ e)
  refine wpAny_bind (wpAny_letGo ?_)
  have Z2 := Z.other L k2
  have ty : ∀ {hp : Heap} {tk : Nat}, Zs hp z TI TO i1 i2 l1 l2 s.heap.objs.size us vs 0 → ({ s with heap := hp, toks := tk } : Shared).TypeIs (.ref z) "zip" := fun Z => by
    rcases Z.zip with ⟨z1, _⟩ | ⟨T, f, oT, z1, _⟩
    · exact ⟨_, z1, rfl⟩
    · exact ⟨_, z1, rfl⟩
  unfold Builtin.List.listExtendWith
  refine wpAny_bind (wpAny_typeOf (T := "zip") (ty Z2) ?_)
  have h1 : Builtin.List.listSameRef (.ref s.heap.objs.size) (.ref z) = false := by simp [Builtin.List.listSameRef, Ne.symm zne]
  have h2 : (Value.type "zip" == Value.type "list") = false := by decide
  have h3 : (Value.type "zip" == Value.type "tuple") = false := by decide
  simp only [h1, h2, h3, Bool.or_false, Bool.false_eq_true, if_false]
  have hz2 := k2 z _ zne hz0
  refine wpAny_bind (wpAny_pyIter_zip hz2 ?_)
  refine wpAny_bind (wpAny_holding (zip_hint (ty Z2) ?_))
  refine wpAny_ite_split (fun _ => ?_) (fun c => absurd rfl c)
  refine wpAny_bind (wpAny_rule (wpAny_bind ?_))
  show wpAny _ _ (updateSeq s.heap.objs.size (·.push .none) >>= fun _ => updateSeq s.heap.objs.size (·.pop)) _ _ _
  refine wpAny_bind (wpAny_updateSeq hS₂ rfl ?_)
  have hS₃ := Heap.get?_update_self (Obj.mapSeq (·.push Value.none)) hS₂ rfl
  refine wpAny_updateSeq (hz := by seq_fits) hS₃ rfl ?_
  have hS₄ := Heap.get?_update_self (Obj.mapSeq (·.pop)) hS₃ rfl
  refine wpAny_pure ⟨plainId_quiet PySem.F.plain_extend_loop _, ?_⟩
  refine codeAny_mono (key _ _ _ (fun b o hb e => ?_) hS₄) fun r s' x => ?_
  · exact (Heap.get?_update_other _ _ (Ne.symm hb)).trans ((Heap.get?_update_other _ _ (Ne.symm hb)).trans (k2 b o hb e))
  · obtain ⟨rfl, q⟩ := x
    exact ⟨rfl, q⟩
end
end L2.Mi.Lz

set_option Elab.async false
set_option linter.all false
set_option maxRecDepth 100000
set_option maxHeartbeats 4000000
/-! Mini19: list(zip(a, b)) in the evaluator. -/
namespace L2.Mi
open PySem PySem.Spec PyProof.Rows
/-- list(zip(a, b)) of two tuples -/
def tLz (K : PySem.W.Frag) (ta : TA) : TE := fun σ H Q => ta σ H fun vs H1 => ∃ a b xs ys, vs = [.ref a, .ref b] ∧ SqT K H1 a xs ∧ SqT K H1 b ys ∧ min xs.length ys.length ≤ sizeLine ∧
  ∀ (H' : Hp) (p : Addr) (as : List Addr), (∀ c o, H1 c = some o → H' c = some o) → H1 p = none → (∀ c ∈ as, H1 c = none) → H' p = some (.lst (as.map V.ref)) → as.length = min xs.length ys.length →
    (∀ (j : Nat) c x y, as[j]? = some c → xs[j]? = some x → ys[j]? = some y → H' c = some (.tup [x, y])) → Q (.ref p) H'
section
variable {X : Cx} {a b : Expr} {ta : TA} {p p2 pos pos2 : Pos}
theorem pe_lzip (hc : X.calm = true) (hg : Gl X "list") (hm : X.mg "list" = none) (hg2 : Gl X "zip") (hm2 : X.mg "zip" = none) (ha : PA X [a, b] ta)
    (hs : starEach [a, b] X.env = (false, eval a X.env) :: starEach [b] X.env := by rfl) (hpl : (backTo pos2 (starEach [b] X.env)).any (·.1) = false := by rfl)
    (na : starEach [.Call (.Name "zip" p2) [a, b] [] pos2] X.env = (false, eval (.Call (.Name "zip" p2) [a, b] [] pos2) X.env) :: starEach [] X.env := by rfl) :
    PE X (.Call (.Name "list" p) [.Call (.Name "zip" p2) [a, b] [] pos2] [] pos) (tLz X.K ta) := by
  refine ⟨fun pins s σ H Q I h => ?_⟩
  refine Call_ (ld_blt I hg hm boot_list (PyProof.Rows.callWith_type1 (args_cons ?_ na) na))
  refine Call_ (ld_blt I hg2 hm2 PyProof.Rows.boot_zip (PyProof.Rows.callWith_type1 (thn (ha.run pos2 pins s σ H _ I h) fun us s1 ⟨vs, H1, I1, r1, q1⟩ => ?_) hs hpl))
  obtain ⟨l1, l2, xs, ys, rfl, hx, hy, hz, q⟩ := q1
  cases r1 with
  | cons r rr =>
    cases rr with
    | cons r' rr =>
      cases rr
      cases r
      cases r'
      obtain ⟨it1, rv1, p1, _⟩ := I1.tuple hx
      obtain ⟨it2, rv2, p2', _⟩ := I1.tuple hy
      obtain ⟨o1, ho1, _⟩ := id p1
      obtain ⟨o2, ho2, _⟩ := id p2'
      have b1 := Heap.lt_size ho1
      have b2 := Heap.lt_size ho2
      refine RZ.call_zipT (show s1.heap.IsTuple l1 it1.toArray from p1) (show s1.heap.IsTuple l2 it2.toArray from p2') fun h' z1 z2 z3 z4 z5 hsz hk => args_nil ?_
      have D := PySem.W.ktu_apart s1.heap.objs.size l1 l2 b1 b2
      have len1 := rv1.length
      have len2 := rv2.length
      have e1 : it1.toArray.size = xs.length := by rw [List.size_toArray, len1]
      have e2 : it2.toArray.size = ys.length := by rw [List.size_toArray, len2]
      have I2 : Inv X pins σ H1 { s1 with heap := h' } := I1.kept (t' := s1.toks) hk
      have tup : ∀ {l : Addr} {ws : Array Value}, s1.heap.IsTuple l ws → h'.IsTuple l ws := fun ⟨o, e, r⟩ => ⟨o, hk _ _ e, r⟩
      refine Lz.zl_call (s := { s1 with heap := h' }) (us := it1.toArray) (vs := it2.toArray) (I1.ok.hd hc) D ⟨?_, ?_, ?_, ?_, ?_, ?_, ?_⟩ z1 ⟨.inl ⟨z1, _, _, z3⟩, z2, z4, z5, tup p1, tup p2'⟩ (by rw [e1, e2]; exact hz) fun h2 tk acc c as k1 k2 k3 k4 k5 => ?_
      · show _ < h'.objs.size; omega
      · show _ < h'.objs.size; omega
      · show _ < h'.objs.size; omega
      · show _ < h'.objs.size; omega
      · show _ < h'.objs.size; omega
      · show _ < h'.objs.size
        rw [hsz]; exact Nat.lt_of_lt_of_le b1 (Nat.le_add_right _ _)
      · show _ < h'.objs.size
        rw [hsz]; exact Nat.lt_of_lt_of_le b2 (Nat.le_add_right _ _)
      have keep : ∀ d o, s1.heap.get? d = some o → h2.get? d = some o := fun d o e => by
        have hd := Heap.lt_size e
        have far : ∀ n, d < s1.heap.objs.size + n := fun n => Nat.lt_of_lt_of_le hd (Nat.le_add_right _ _)
        exact k1 d o (far 4) (Nat.ne_of_lt (far 3)) (Nat.ne_of_lt hd) (Nat.ne_of_lt (far 1)) (hk d o e)
      have I3 : Inv X pins σ H1 { s1 with heap := h2, toks := tk } := I1.kept keep
      have big : s1.heap.objs.size ≤ h'.objs.size := by omega
      have nd : as.Nodup := k4.1.imp fun h => Nat.ne_of_lt h
      have pair : ∀ (j : Nat) (d : Addr), as[j]? = some d → ∃ x y, xs[j]? = some x ∧ ys[j]? = some y ∧ ∀ H2, ObjOk X.prog X.w H2 h2 d (.tup [x, y]) := fun j d hj => by
        obtain ⟨_, u, v, g1, g2, g3⟩ := k4.2 j d hj
        rw [List.getElem?_toArray] at g1 g2
        have j1 := (List.getElem?_eq_some_iff.mp g1).1
        have j2 := (List.getElem?_eq_some_iff.mp g2).1
        obtain ⟨u', f1, f2⟩ := rv1.get (List.getElem?_eq_getElem (l := xs) (i := j) (by omega))
        obtain ⟨v', f3, f4⟩ := rv2.get (List.getElem?_eq_getElem (l := ys) (i := j) (by omega))
        rw [g1] at f1
        rw [g2] at f3
        cases f1
        cases f3
        exact ⟨_, _, List.getElem?_eq_getElem (by omega), List.getElem?_eq_getElem (by omega), fun H2 => ⟨by show 2 ≤ sizeLine; decide, [u, v], .cons f2 (.cons f4 .nil), ⟨_, g3, rfl, _, rfl⟩⟩⟩
      have fresh : ∀ d, s1.heap.objs.size ≤ d → H1 d = none := fun d hd => I1.hok.fresh hd
      have hS0 : H1 h'.objs.size = none := fresh _ big
      have vals : Vals (as.map V.ref) acc.toList := by
        rw [k5]
        clear k5 k4 k3 pair nd
        induction as with
        | nil => exact .nil
        | cons d ds ih => rw [List.map_cons, List.map_cons]; exact .cons rfl ih
      have newL : ObjOk X.prog X.w (upd H1 h'.objs.size (.lst (as.map V.ref))) h2 h'.objs.size (.lst (as.map V.ref)) := ⟨by rw [List.length_map, k3, e1, e2]; exact hz, acc.toList, c, vals, by rw [Array.toArray_toList]; exact k2⟩
      have I4 : Inv X pins σ (upd H1 h'.objs.size (.lst (as.map V.ref))) { s1 with heap := h2, toks := tk } := I3.take (h' := h2) (t' := tk) (fun _ _ _ e => e) (I1.fpOk big hS0) newL
      obtain ⟨H2, I5, g, tps⟩ := L2.DX.takeT (P := fun d vs => ∀ (j : Nat) x y, as[j]? = some d → xs[j]? = some x → ys[j]? = some y → vs = [x, y]) (s := s1) (h' := h2) (tk := tk) I1 as _ I4 nd fun d hd => by
        obtain ⟨j, hj⟩ := List.mem_iff_getElem?.mp hd
        have hgt := (k4.2 j d hj).1
        obtain ⟨x, y, f1, f2, f3⟩ := pair j d hj
        refine ⟨Nat.le_trans big (Nat.le_of_lt hgt), by rw [upd_ne (Nat.ne_of_gt hgt)]; exact fresh d (Nat.le_trans big (Nat.le_of_lt hgt)), [x, y], fun j' x' y' hj' hx' hy' => ?_, f3⟩
        have : j' = j := by
          have i1 := (List.getElem?_eq_some_iff.mp hj).1
          have i2 := (List.getElem?_eq_some_iff.mp hj').1
          have q1 : as[j] = d := (List.getElem?_eq_some_iff.mp hj).2
          have q2 : as[j'] = d := (List.getElem?_eq_some_iff.mp hj').2
          have pw := List.pairwise_iff_getElem.mp nd
          rcases Nat.lt_trichotomy j' j with g | g | g
          · exact absurd (q2.trans q1.symm) (pw j' j i2 i1 g)
          · exact g
          · exact absurd (q1.trans q2.symm) (pw j j' i1 i2 g)
        subst this
        rw [f1] at hx'
        rw [f2] at hy'
        cases hx'
        cases hy'
        rfl
      refine ⟨.ref h'.objs.size, H2, I5, rfl, q H2 h'.objs.size as (fun d o e => g d o (by rw [upd_ne fun z => by rw [z, hS0] at e; cases e]; exact e)) hS0 (fun d hd => ?_) (g _ _ upd_same) (by rw [k3, e1, e2]) fun j d x y hj hx hy => ?_⟩
      · obtain ⟨j, hj⟩ := List.mem_iff_getElem?.mp hd
        exact fresh d (Nat.le_trans big (Nat.le_of_lt (k4.2 j d hj).1))
      · obtain ⟨ws, f1, f2⟩ := tps d (List.mem_of_getElem? hj)
        rw [f1 j x y hj hx hy] at f2
        exact f2
end
section
variable {G : Gb} {C : CallF} {X : Cx} {a b : Expr} {ma mb : ME} {p p2 pos pos2 : Pos}
theorem se_lzip (hm : X.mg "list" = none) (hm2 : X.mg "zip" = none) (hK : X.K = G.K) (ha : PA X [a, b] (tEs G C [ma, mb])) (hc : X.calm = true := by rfl) (hg : Gl X "list" := by rfl) (hg2 : Gl X "zip" := by rfl)
    (hs : starEach [a, b] X.env = (false, eval a X.env) :: starEach [b] X.env := by rfl) (hpl : (backTo pos2 (starEach [b] X.env)).any (·.1) = false := by rfl)
    (na : starEach [.Call (.Name "zip" p2) [a, b] [] pos2] X.env = (false, eval (.Call (.Name "zip" p2) [a, b] [] pos2) X.env) :: starEach [] X.env := by rfl) :
    PE X (.Call (.Name "list" p) [.Call (.Name "zip" p2) [a, b] [] pos2] [] pos) (tE G C (.lzip ma mb)) := by
  refine (pe_lzip hc hg hm hg2 hm2 ha hs hpl na).mono fun σ H Q h => ?_
  obtain ⟨A, ρ, v, mh', rfl, S, N, e, q⟩ := h
  simp only [ev] at e
  split at e
  · rename_i xs mh1 e1
    split at e
    · rename_i ys mh2 e2
      split at e
      · rename_i hl
        cases e
        refine tEs.go (vs := [.tup xs, .tup ys]) (mh1 := mh') S N (by simp only [evs, e1, e2]) fun B vs k em SB NB r => ?_
        unfold Reps at r
        obtain ⟨v1, r', rfl, r1, r2⟩ := r
        obtain ⟨v2, rfl, r3⟩ := r2.one_
        obtain ⟨l1, us, rfl, h1, s1⟩ := r1.tup_
        obtain ⟨l2, ws, rfl, h2, s2⟩ := r3.tup_
        refine ⟨l1, l2, us, ws, rfl, by rw [hK]; exact h1, by rw [hK]; exact h2, ?_, fun H' p as g hp hf hL hlen htp => ?_⟩
        · rw [← s1.len, sizeLine_eq]; omega
        -- the new world
        have kB : Keep B { B with H := H' } := ⟨fun _ h => h, fun _ h => .inl h, fun c h z => h (by cases e : B.H c with | none => rfl | some o => exact absurd ((g c o e).symm.trans z) (fun z => nomatch z)), rfl, ⟨[], by simp⟩, fun c o e _ => ⟨o, g c o e, .inl rfl⟩, fun _ h => .inl h, fun c _ o e _ => g c o e⟩
        have SB' : Sim G { B with H := H' } := by
          refine ⟨SB.len, SB.ble, SB.top, fun l o e c q => ?_, SB.inj, fun c hc => ?_, SB.exl, SB.bnd⟩
          · have r := SB.obj l o e c q
            obtain ⟨u, e', _⟩ := r.at
            exact r.keep SB kB (by rw [e']; exact g c u e')
          · obtain ⟨u, e, n⟩ := SB.exo c hc
            exact ⟨u, g c u e, n⟩
        refine q _ (.ref p) (k.trans kB) em SB' ?_
        unfold Rep
        refine ⟨p, as.map V.ref, rfl, hL, off_new SB hp, ?_⟩
        have l1' := s1.len
        have l2' := s2.len
        refine Reps.of (by rw [List.length_map, List.length_zipWith, hlen]; omega) fun i m w e3 e4 => ?_
        rw [List.getElem?_map, Option.map_eq_some_iff] at e4
        obtain ⟨c, e5, rfl⟩ := e4
        have hi := (List.getElem?_eq_some_iff.mp e5).1
        have i1 : i < xs.length := by omega
        have i2 : i < ys.length := by omega
        have e6 : (List.zipWith (fun x y => MV.tup [x, y]) xs ys)[i]? = some (.tup [xs[i], ys[i]]) := by
          rw [List.getElem?_eq_getElem (by rw [List.length_zipWith]; omega)]; simp
        rw [e6] at e3
        cases e3
        have g1 := s1.at (List.getElem?_eq_getElem i1) (List.getElem?_eq_getElem (l := us) (i := i) (by omega))
        have g2 := s2.at (List.getElem?_eq_getElem i2) (List.getElem?_eq_getElem (l := ws) (i := i) (by omega))
        unfold Rep
        refine ⟨c, _, rfl, .inl (.inl (htp i c _ _ e5 (List.getElem?_eq_getElem (by omega)) (List.getElem?_eq_getElem (by omega)))), ?_⟩
        unfold Reps
        exact ⟨_, _, rfl, Rep.keep SB kB _ _ g1, Reps.one (Rep.keep SB kB _ _ g2)⟩
      · cases e
    · cases e
  · cases e
end
end L2.Mi

set_option Elab.async false
set_option linter.all false
set_option maxRecDepth 100000
set_option maxHeartbeats 4000000
/-! Mini20: startswith at a place, join of a list, x or a list, three stores at once, a module's text. -/
namespace L2.Mi
open PySem PySem.Spec PyProof.Rows
def rStart2 (_ : PySem.W.Frag) : V → List V → Hp → VK → Prop := fun x xs H Q => ∃ (a b : Str) (i : Int), x = .str a ∧ xs = [.str b, .int i] ∧ Q (.bl (Txt.startswith3 a b i)) H
theorem me_start2 : MeS .start2 rStart2 := by
  intro G A o xs v mh' w vs Q S e ro r h
  simp only [methV, startV] at e
  split at e
  · rename_i s t i
    cases e
    unfold Reps at r
    obtain ⟨u, r', rfl, r1, r2⟩ := r
    obtain ⟨u', rfl, r3⟩ := Reps.one_ r2
    exact ⟨_, _, _, ro.str_, by rw [r1.str_, r3.int_], h.here S (rep_bl _)⟩
  · cases e
def rJoin (K : PySem.W.Frag) : V → List V → Hp → VK → Prop := fun x xs H Q => ∃ a p, ∃ ys : List Str, x = .str a ∧ xs = [.ref p] ∧ (SqL K H p (ys.map V.str) ∨ SqT K H p (ys.map V.str)) ∧
    (ys.map (·.length)).sum + ys.length * a.length ≤ 16777216 ∧ Q (.str (Txt.join a ys)) H
theorem me_join : MeS .join rJoin := by
  intro G A o xs v mh' w vs Q S e ro r h
  simp only [methV, joinV] at e
  split at e
  · rename_i s x
    split at e
    · rename_i ys e1
      split at e
      · rename_i ss e2
        split at e
        · rename_i hz
          cases e
          obtain ⟨u, rfl, r1⟩ := Reps.one_ r
          obtain ⟨a, us, rfl, h1, h2⟩ := getL_rep S e1 r1
          have h1' : A.H a = some (.lst ((ss.map fun t => (⟨t.toArray⟩ : Str)).map V.str)) := by rw [h1, Reps.strOf h2 e2, List.map_map]; rfl
          refine ⟨_, a, ss.map fun t => ⟨t.toArray⟩, ro.str_, rfl, .inl (SqL.of h1'), ?_, ?_⟩
          · rw [List.map_map, List.length_map, str_len]
            have : ((fun x : Str => x.length) ∘ fun t : Sx => (⟨t.toArray⟩ : Str)) = List.length := funext fun t => by simp [Str.length]
            rw [this]
            exact hz
          · have q := h.here S (rep_str _)
            have e3 : ∀ z : Str, (⟨z.cps.toList.toArray⟩ : Str) = z := fun z => str_toList_eq (by simp)
            rw [e3] at q
            exact q
        · cases e
      · cases e
    · cases e
  · cases e
section
variable {G : Gb} {C : CallF} {X : Cx} {pos p : Pos} {e a b c : Expr} {ma mb mc m : ME} {k : Nat}
theorem sm_start2 {apos cpos : Pos} {es : List Expr} {ms : List ME} (hK : X.K = G.K) (ho : PE X a (tE G C m)) (ha : PA X (e :: es) (tEs G C ms)) (hbase : attributeBase a "startswith" X.env (eval a X.env) = eval a X.env := by rfl)
    (hfew : ((backTo cpos (starEach (e :: es) X.env)).all (fun x => !x.1) && (backToKw cpos (keywordEach [] X.env)).all (fun x => x.1.isSome)
      && decide ((e :: es).length + ([] : List Keyword).length + (if ([] : List Keyword).isEmpty then 0 else 1) < 30)) = true := by rfl)
    (hline : (apos.endLine == cpos.line) = true := by rfl) (hs : starEach (e :: es) X.env = (false, eval e X.env) :: starEach es X.env := by rfl) (hplain : (backTo cpos (starEach es X.env)).any (·.1) = false := by rfl) :
    PE X (.Call (.Attribute a "startswith" apos) (e :: es) [] cpos) (tE G C (.meth .start2 m ms)) := se_meth me_start2 hK PySem.F.plainAttrs_str PySem.F.slot_str_startswith PySem.F.type_str_startswith mt_startswith3 ho ha hbase hfew hline hs hplain
theorem sm_join {apos cpos : Pos} {es : List Expr} {ms : List ME} (hK : X.K = G.K) (ho : PE X a (tE G C m)) (ha : PA X (e :: es) (tEs G C ms)) (hbase : attributeBase a "join" X.env (eval a X.env) = eval a X.env := by rfl)
    (hfew : ((backTo cpos (starEach (e :: es) X.env)).all (fun x => !x.1) && (backToKw cpos (keywordEach [] X.env)).all (fun x => x.1.isSome)
      && decide ((e :: es).length + ([] : List Keyword).length + (if ([] : List Keyword).isEmpty then 0 else 1) < 30)) = true := by rfl)
    (hline : (apos.endLine == cpos.line) = true := by rfl) (hs : starEach (e :: es) X.env = (false, eval e X.env) :: starEach es X.env := by rfl) (hplain : (backTo cpos (starEach es X.env)).any (·.1) = false := by rfl) :
    PE X (.Call (.Attribute a "join" apos) (e :: es) [] cpos) (tE G C (.meth .join m ms)) := se_meth me_join hK PySem.F.plainAttrs_str PySem.F.slot_str_join PySem.F.type_str_join mt_join ho ha hbase hfew hline hs hplain
/-- a module's text -/
theorem sgls {x z : Str} {s : Sx} (hm : ∃ t, X.mg x = some (.str z t)) (hz : z = ⟨s.toArray⟩ := by decide +kernel) (hg : Gl X x := by rfl) (hd : (x == ("__debug__" : Str)) = false := by decide) : PE X (.Name x pos) (tE G C (.c (.str s))) := by
  obtain ⟨t, h⟩ := hm
  subst hz
  exact se_c (pe_glob (v := .str ⟨s.toArray⟩) hg h ⟨t, rfl⟩ hd) fun _ => rep_str s
theorem tru_rep {A : Wd} (S : Sim G A) {x : MV} {k : Bool} {v : V} (e : truM A.mh x = some k) (r : Rep G A x v) : TruV G.K v A.H k := by
  unfold truM at e
  split at e
  · cases e
    rw [r.non_]
    rfl
  · simp only [Option.map_eq_some_iff] at e
    obtain ⟨xs, e1, rfl⟩ := e
    obtain ⟨a, vs, rfl, h1, r1⟩ := getL_rep S e1 r
    refine .inl ⟨vs, SqL.of h1, ?_⟩
    have := r1.len
    cases xs <;> cases vs <;> first | rfl | simp at this
/-- x or y, by truth -/
theorem se_orv {rest : List Expr} (hK : X.K = G.K) (ha : PE X a (tE G C ma)) (hb : PE X (.BoolOp .Or (b :: rest) pos) (tE G C mb)) : PE X (.BoolOp .Or (a :: b :: rest) pos) (tE G C (.orv ma mb)) := by
  refine (pe_orT ha hb).mono fun σ H Q h => ?_
  obtain ⟨A, ρ, v, mh', rfl, S, N, e, q⟩ := h
  simp only [ev] at e
  split at e
  · cases e
  rename_i x mh1 e1
  split at e
  · rename_i ht
    cases e
    refine tE.go S N e1 fun B vx k em SB NB r => ⟨true, by rw [hK]; exact tru_rep SB (by rw [em]; exact ht) r, ?_⟩
    rw [if_pos rfl]
    exact q B _ k em SB r
  · rename_i ht
    refine tE.go S N e1 fun B vx k em SB NB r => ⟨false, by rw [hK]; exact tru_rep SB (by rw [em]; exact ht) r, ?_⟩
    rw [if_neg Bool.false_ne_true]
    exact tE.go SB NB (ev.at k em e) fun B2 x2 k2 em2 S2 _ r2 => q B2 x2 (k.trans k2) em2 S2 r2
  · cases e
theorem spar3 (i j l : Nat) {x y z : Str} {px py pz pt : Pos} {kt k2 pt2} (hN : X.N.Nodup) (ha : PE X a (tE G C ma)) (hb : PE X b (tE G C mb)) (hcc : PE X c (tE G C mc)) (hw : swappedStores [.Tuple [.Name x px, .Name y py, .Name z pz] kt pt] (.Tuple [a, b, c] k2 pt2) X.env = pure (some [x, y, z]))
    (hc : X.calm = true := by rfl) (hi : X.N[i]? = some x := by rfl) (hj : X.N[j]? = some y := by rfl) (hl : X.N[l]? = some z := by rfl) (hij : i ≠ j := by decide) (hil : i ≠ l := by decide) (hjl : j ≠ l := by decide)
    (hx : X.env.scope.names.lookup x = some .local := by rfl) (hy : X.env.scope.names.lookup y = some .local := by rfl) (hz : X.env.scope.names.lookup z = some .local := by rfl)
    (hs : swapsWithSole [.Tuple [.Name x px, .Name y py, .Name z pz] kt pt] (.Tuple [a, b, c] k2 pt2) pos.line X.env = pure false := by rfl)
    (hs1 : starEach [a, b, c] X.env = (false, eval a X.env) :: starEach [b, c] X.env := by rfl) (hs2 : starEach [b, c] X.env = (false, eval b X.env) :: starEach [c] X.env := by rfl) (hs3 : starEach [c] X.env = (false, eval c X.env) :: starEach [] X.env := by rfl) :
    PS X (.Assign [.Tuple [.Name x px, .Name y py, .Name z pz] kt pt] (.Tuple [a, b, c] k2 pt2) pos) (tS G C (.par3 i j l ma mb mc)) := (ps_par3 hc hN hi hj hl hij hil hjl hx hy hz (sa_cons ha (sa_cons hb (sa_cons hcc sa_nil hs3) hs2) hs1) hw hs).mono fun D σ H h => by
  obtain ⟨A, ρ, fl, ρ', mh', rfl, S, N, e, q⟩ := h
  simp only [ex] at e
  split at e
  · cases e
  rename_i v mh1 e1
  split at e
  · cases e
  rename_i w mh2 e2
  split at e
  · cases e
  rename_i u mh3 e3
  split at e
  · cases e
    refine tEs.go (vs := [v, w, u]) (mh1 := mh') S N (by simp only [evs, e1, e2, e3]) fun B xs k em SB NB r => ?_
    unfold Reps at r
    obtain ⟨v', r', rfl, r1, r2⟩ := r
    unfold Reps at r2
    obtain ⟨w', r'', rfl, r3, r4⟩ := r2
    unfold Reps at r4
    obtain ⟨u', r''', rfl, r5, r6⟩ := r4
    unfold Reps at r6
    subst r6
    exact ⟨v', w', u', rfl, q B k em SB _ (((NB.set r1 i).set r3 j).set r5 l)⟩
  · cases e
end
end L2.Mi

set_option Elab.async false
set_option linter.all false
set_option maxRecDepth 100000
set_option maxHeartbeats 4000000

namespace L2.Mi.k55
open PySem PySem.Spec PyProof.Rows L2.Mi
/-! the text by places -/
def top (i : Nat) : Stmt := PySem.Challenge.pw_termwright_k55_words_and_their_rules.main.body.getD i (.Pass ⟨0, 0, 0, 0⟩)
abbrev s_is_whole : Stmt := top 1
abbrev s_is_word : Stmt := top 6
abbrev s_are_letters : Stmt := top 7
abbrev s_are_word_rules : Stmt := top 8
abbrev s_word_steps : Stmt := top 9
abbrev s_word_turned : Stmt := top 10
abbrev s_is_word_step : Stmt := top 11
abbrev s_behind_word_row : Stmt := top 12
abbrev s_is_before : Stmt := top 13
abbrev s_go_down : Stmt := top 14
abbrev s_word_normal : Stmt := top 15
abbrev s_overlaps : Stmt := top 16
abbrev s_words_meet : Stmt := top 17
abbrev s_are_same_words : Stmt := top 18
abbrev s_product : Stmt := top 19
abbrev s_l_state : Stmt := top 21
abbrev s_l_take : Stmt := top 22
abbrev s_l_pick : Stmt := top 23
abbrev s_l_letters : Stmt := top 24
abbrev s_l_word : Stmt := top 25
abbrev s_l_before : Stmt := top 26
abbrev s_l_rules : Stmt := top 27
abbrev s_l_steps : Stmt := top 28
abbrev s_l_turned : Stmt := top 29
abbrev s_l_normal : Stmt := top 30
abbrev s_l_pairs : Stmt := top 31
abbrev s_l_ends : Stmt := top 32
abbrev s_l_row : Stmt := top 33
abbrev s_l_behind : Stmt := top 34
abbrev s_l_any : Stmt := top 35
abbrev s_l_odd : Stmt := top 36
abbrev s_law : Stmt := top 37
/-! the defs -/
def d_is_whole : Df := ⟨3, 3, false, [(.ret (.and (.isi (.var 0) .int) (.and (.not (.isi (.var 0) .bool)) (.chn .le .le (.var 1) (.var 0) (.var 2)))))]⟩
abbrev N_is_whole : List Str := ["value", "low", "high"]
abbrev P_is_whole : List Str := ["value", "low", "high"]
def d_is_word : Df := ⟨2, 3, false, [(.ret (.and (.isi (.var 0) .str) (.and (.cmp .le (.bi .len [(.var 0)]) (.c (.int (60)))) (.bi .all [(.comp (.nm 2) [2] (.var 0) (.c (.bl true)) (.cmp .mem (.var 2) (.var 1)))]))))]⟩
abbrev N_is_word : List Str := ["value", "letters", "sign"]
abbrev P_is_word : List Str := ["value", "letters"]
def d_are_letters : Df := ⟨1, 3, false, [(.ite (.or (.not (.isi (.var 0) .str)) (.or (.cmp .eq (.bi .len [(.var 0)]) (.c (.int (0)))) (.not (.bi .all [(.comp (.nm 2) [2] (.var 0) (.c (.bl true)) (.cmp .mem (.var 2) (.c (.str [97, 98, 99, 100, 101, 102, 103, 104, 105, 106, 107, 108, 109, 110, 111, 112, 113, 114, 115, 116, 117, 118, 119, 120, 121, 122]))))])))) [(.ret (.c (.bl false)))] []), (.ret (.bi .all [(.comp (.nm 1) [1] (.rng1 (.bin .sub (.bi .len [(.var 0)]) (.c (.int (1))))) (.c (.bl true)) (.cmp .lt (.sub (.var 0) (.var 1)) (.sub (.var 0) (.bin .add (.var 1) (.c (.int (1)))))))]))]⟩
abbrev N_are_letters : List Str := ["value", "k", "sign"]
abbrev P_are_letters : List Str := ["value"]
def d_are_word_rules : Df := ⟨2, 4, false, [(.ite (.or (.not (.isi (.var 0) .tuple)) (.cmp .gt (.bi .len [(.var 0)]) (.c (.int (20))))) [(.ret (.c (.bl false)))] []), (.for (.nm 2) (.var 0) [(.ite (.or (.not (.isi (.var 2) .tuple)) (.or (.cmp .ne (.bi .len [(.var 2)]) (.c (.int (2)))) (.not (.bi .all [(.comp (.nm 3) [3] (.var 2) (.c (.bl true)) (.call 1 [(.var 3), (.var 1)]))])))) [(.ret (.c (.bl false)))] []), (.ite (.cmp .eq (.sub (.var 2) (.c (.int (0)))) (.c (.str []))) [(.ret (.c (.bl false)))] [])]), (.ret (.c (.bl true)))]⟩
abbrev N_are_word_rules : List Str := ["value", "letters", "pair", "word"]
abbrev P_are_word_rules : List Str := ["value", "letters"]
def d_word_steps : Df := ⟨2, 5, false, [(.set (.nm 2) (.al (.lst []))), (.for (.nm 3) (.rng1 (.bi .len [(.var 1)])) [(.ex (.meth .extend (.var 2) [(.comp (.nm 4) [4] (.rng1 (.bi .len [(.var 0)])) (.meth .start2 (.var 1) [(.sub (.sub (.var 0) (.var 4)) (.c (.int (0)))), (.var 3)]) (.tup [(.var 4), (.var 3)]))]))]), (.ret (.var 2))]⟩
abbrev N_word_steps : List Str := ["rules", "word", "found", "place", "k"]
abbrev P_word_steps : List Str := ["rules", "word"]
def d_word_turned : Df := ⟨3, 5, false, [(.set (.tp [(.nm 3), (.nm 4)]) (.var 2)), (.ret (.bin .add (.bin .add (.slcH (.var 1) (.var 4)) (.sub (.sub (.var 0) (.var 3)) (.c (.int (1))))) (.slcL (.var 1) (.bin .add (.var 4) (.bi .len [(.sub (.sub (.var 0) (.var 3)) (.c (.int (0))))])))))]⟩
abbrev N_word_turned : List Str := ["rules", "word", "step", "k", "place"]
abbrev P_word_turned : List Str := ["rules", "word", "step"]
def d_is_word_step : Df := ⟨3, 3, false, [(.ite (.or (.not (.isi (.var 0) .tuple)) (.or (.cmp .ne (.bi .len [(.var 0)]) (.c (.int (2)))) (.not (.call 0 [(.sub (.var 0) (.c (.int (0)))), (.c (.int (0))), (.bin .sub (.bi .len [(.var 1)]) (.c (.int (1))))])))) [(.ret (.c (.bl false)))] []), (.ret (.and (.call 0 [(.sub (.var 0) (.c (.int (1)))), (.c (.int (0))), (.bin .sub (.bi .len [(.var 2)]) (.c (.int (1))))]) (.meth .start2 (.var 2) [(.sub (.sub (.var 1) (.sub (.var 0) (.c (.int (0))))) (.c (.int (0)))), (.sub (.var 0) (.c (.int (1))))])))]⟩
abbrev N_is_word_step : List Str := ["value", "rules", "word"]
abbrev P_is_word_step : List Str := ["value", "rules", "word"]
def d_behind_word_row : Df := ⟨3, 4, false, [(.ite (.not (.isi (.var 2) .tuple)) [(.ret (.c .non))] []), (.for (.nm 3) (.var 2) [(.ite (.not (.call 6 [(.var 3), (.var 0), (.var 1)])) [(.ret (.c .non))] []), (.set (.nm 1) (.call 5 [(.var 0), (.var 1), (.var 3)]))]), (.ret (.var 1))]⟩
abbrev N_behind_word_row : List Str := ["rules", "word", "row", "step"]
abbrev P_behind_word_row : List Str := ["rules", "word", "row"]
def d_is_before : Df := ⟨2, 2, false, [(.ret (.cmp .lt (.tup [(.bi .len [(.var 0)]), (.var 0)]) (.tup [(.bi .len [(.var 1)]), (.var 1)])))]⟩
abbrev N_is_before : List Str := ["one", "other"]
abbrev P_is_before : List Str := ["one", "other"]
def d_go_down : Df := ⟨1, 2, false, [(.ret (.bi .all [(.comp (.nm 1) [1] (.var 0) (.c (.bl true)) (.call 8 [(.sub (.var 1) (.c (.int (1)))), (.sub (.var 1) (.c (.int (0))))]))]))]⟩
abbrev N_go_down : List Str := ["rules", "pair"]
abbrev P_go_down : List Str := ["rules"]
def d_word_normal : Df := ⟨2, 4, false, [(.set (.nm 2) (.al (.lst []))), (.set (.nm 3) (.call 4 [(.var 0), (.var 1)])), (.while (.cmp .gt (.bi .len [(.var 3)]) (.c (.int (0)))) [(.set (.nm 1) (.call 5 [(.var 0), (.var 1), (.sub (.var 3) (.c (.int (0))))])), (.ex (.meth .append (.var 2) [(.sub (.var 3) (.c (.int (0))))])), (.set (.nm 3) (.call 4 [(.var 0), (.var 1)]))]), (.ret (.tup [(.var 1), (.bi .tuple [(.var 2)])]))]⟩
abbrev N_word_normal : List Str := ["rules", "word", "row", "found"]
abbrev P_word_normal : List Str := ["rules", "word"]
def d_overlaps : Df := ⟨1, 8, false, [(.set (.nm 1) (.al (.lst []))), (.for (.tp [(.nm 2), (.nm 3)]) (.var 0) [(.for (.tp [(.nm 4), (.nm 5)]) (.var 0) [(.for (.nm 6) (.rng2 (.c (.int (1))) (.bi .min [(.bi .len [(.var 2)]), (.bi .len [(.var 4)])])) [(.ite (.cmp .eq (.slcL (.var 2) (.neg (.var 6))) (.slcH (.var 4) (.var 6))) [(.ex (.meth .append (.var 1) [(.tup [(.bin .add (.var 2) (.slcL (.var 4) (.var 6))), (.bin .add (.var 3) (.slcL (.var 4) (.var 6))), (.bin .add (.slcH (.var 2) (.neg (.var 6))) (.var 5))])]))] [])]), (.for (.nm 7) (.rng1 (.bin .add (.bin .sub (.bi .len [(.var 2)]) (.bi .len [(.var 4)])) (.c (.int (1))))) [(.ite (.and (.meth .start2 (.var 2) [(.var 4), (.var 7)]) (.cmp .ne (.tup [(.var 2), (.var 3)]) (.tup [(.var 4), (.var 5)]))) [(.ex (.meth .append (.var 1) [(.tup [(.var 2), (.var 3), (.bin .add (.bin .add (.slcH (.var 2) (.var 7)) (.var 5)) (.slcL (.var 2) (.bin .add (.var 7) (.bi .len [(.var 4)]))))])]))] [])])])]), (.ret (.var 1))]⟩
abbrev N_overlaps : List Str := ["rules", "found", "one", "first", "other", "second", "many", "place"]
abbrev P_overlaps : List Str := ["rules"]
def d_words_meet : Df := ⟨1, 6, false, [(.for (.tp [(.nm 1), (.nm 2), (.nm 3)]) (.call 11 [(.var 0)]) [(.par 4 5 (.sub (.call 10 [(.var 0), (.var 2)]) (.c (.int (0)))) (.sub (.call 10 [(.var 0), (.var 3)]) (.c (.int (0))))), (.ite (.cmp .ne (.var 4) (.var 5)) [(.ret (.tup [(.c (.str [112, 97, 114, 116, 115])), (.var 1), (.var 4), (.var 5)]))] [])]), (.ret (.tup [(.c (.str [109, 101, 101, 116, 115]))]))]⟩
abbrev N_words_meet : List Str := ["rules", "peak", "one", "other", "first", "second"]
abbrev P_words_meet : List Str := ["rules"]
def d_are_same_words : Df := ⟨3, 3, false, [(.ret (.cmp .eq (.sub (.call 10 [(.var 0), (.var 1)]) (.c (.int (0)))) (.sub (.call 10 [(.var 0), (.var 2)]) (.c (.int (0))))))]⟩
abbrev N_are_same_words : List Str := ["rules", "one", "other"]
abbrev P_are_same_words : List Str := ["rules", "one", "other"]
def d_product : Df := ⟨3, 3, false, [(.ret (.sub (.call 10 [(.var 0), (.bin .add (.var 1) (.var 2))]) (.c (.int (0)))))]⟩
abbrev N_product : List Str := ["rules", "one", "other"]
abbrev P_product : List Str := ["rules", "one", "other"]
def d_l_state : Df := ⟨1, 3, true, [(.set (.nm 1) (.al (.comp (.nm 2) [2] (.slcH (.var 0) (.c (.int (63)))) (.c (.bl true)) (.bi .abs [(.var 2)])))), (.ite (.cmp .eq (.bi .len [(.var 1)]) (.c (.int (0)))) [(.set (.nm 1) (.al (.lst [(.c (.int (0)))])))] []), (.ret (.al (.lst [(.c (.int (0))), (.var 1)])))]⟩
abbrev N_l_state : List Str := ["script", "cells", "cell"]
abbrev P_l_state : List Str := ["script"]
def d_l_take : Df := ⟨2, 6, false, [(.ite (.cmp .lt (.var 1) (.c (.int (2)))) [(.ret (.c (.int (0))))] []), (.set (.nm 2) (.sub (.var 0) (.c (.int (1))))), (.set (.nm 3) (.bin .mod (.bi .int [(.sub (.var 0) (.c (.int (0))))]) (.bi .len [(.var 2)]))), (.set (.nm 4) (.sub (.var 2) (.var 3))), (.ite (.cmp .ge (.var 4) (.c (.int (1000000000000000000)))) [(.sti (.var 2) (.var 3) (.bin .fdiv (.var 4) (.var 1))), (.ret (.bin .mod (.bi .int [(.var 4)]) (.var 1)))] []), (.sti (.var 0) (.c (.int (0))) (.bin .add (.sub (.var 0) (.c (.int (0)))) (.c (.int (1))))), (.set (.nm 5) (.bin .mod (.bi .int [(.bin .add (.bin .mul (.var 4) (.c (.int (48271)))) (.bin .mul (.sub (.var 0) (.c (.int (0)))) (.c (.int (69621)))))]) (.c (.int (2147483647))))), (.set (.nm 5) (.bin .mod (.bi .int [(.bin .add (.bin .mul (.var 5) (.c (.int (16807)))) (.bin .mul (.sub (.var 0) (.c (.int (0)))) (.c (.int (7919)))))]) (.c (.int (1000000007))))), (.ret (.bin .mod (.bi .int [(.bin .fdiv (.var 5) (.c (.int (7))))]) (.var 1)))]⟩
abbrev N_l_take : List Str := ["state", "most", "cells", "at", "cell", "mixed"]
abbrev P_l_take : List Str := ["state", "most"]
def d_l_pick : Df := ⟨2, 2, false, [(.ret (.sub (.var 1) (.call 16 [(.var 0), (.bi .len [(.var 1)])])))]⟩
abbrev N_l_pick : List Str := ["state", "row"]
abbrev P_l_pick : List Str := ["state", "row"]
def d_l_letters : Df := ⟨1, 1, false, [(.ret (.call 17 [(.var 0), (.lst [(.c (.str [97, 98])), (.c (.str [97, 98, 99])), (.c (.str [120, 121])), (.c (.str [97]))])]))]⟩
abbrev N_l_letters : List Str := ["state"]
abbrev P_l_letters : List Str := ["state"]
def d_l_word : Df := ⟨3, 4, false, [(.ret (.meth .join (.c (.str [])) [(.comp (.nm 3) [3] (.rng1 (.call 16 [(.var 0), (.bin .add (.var 2) (.c (.int (1))))])) (.c (.bl true)) (.call 17 [(.var 0), (.var 1)]))]))]⟩
abbrev N_l_word : List Str := ["state", "letters", "most", "k"]
abbrev P_l_word : List Str := ["state", "letters", "most"]
def d_l_before : Df := ⟨2, 2, false, [(.ret (.or (.cmp .lt (.bi .len [(.var 0)]) (.bi .len [(.var 1)])) (.and (.cmp .eq (.bi .len [(.var 0)]) (.bi .len [(.var 1)])) (.cmp .lt (.var 0) (.var 1)))))]⟩
abbrev N_l_before : List Str := ["one", "other"]
abbrev P_l_before : List Str := ["one", "other"]
def d_l_rules : Df := ⟨3, 7, false, [(.set (.nm 3) (.al (.lst []))), (.for (.nm 4) (.rng1 (.call 16 [(.var 0), (.bin .add (.var 2) (.c (.int (1))))])) [(.par 5 6 (.call 19 [(.var 0), (.var 1), (.c (.int (4)))]) (.call 19 [(.var 0), (.var 1), (.c (.int (4)))])), (.ite (.cmp .ne (.var 5) (.var 6)) [(.ex (.meth .append (.var 3) [(.ite (.call 20 [(.var 5), (.var 6)]) (.tup [(.var 6), (.var 5)]) (.tup [(.var 5), (.var 6)]))]))] [])]), (.ret (.bi .tuple [(.var 3)]))]⟩
abbrev N_l_rules : List Str := ["state", "letters", "most", "found", "turn", "one", "other"]
abbrev P_l_rules : List Str := ["state", "letters", "most"]
def d_l_steps : Df := ⟨2, 5, false, [(.set (.nm 2) (.lst [])), (.for (.nm 3) (.rng1 (.bi .len [(.var 1)])) [(.set (.nm 2) (.bin .add (.var 2) (.comp (.nm 4) [4] (.rng1 (.bi .len [(.var 0)])) (.cmp .eq (.slcB (.var 1) (.var 3) (.bin .add (.var 3) (.bi .len [(.sub (.sub (.var 0) (.var 4)) (.c (.int (0))))]))) (.sub (.sub (.var 0) (.var 4)) (.c (.int (0))))) (.tup [(.var 4), (.var 3)]))))]), (.ret (.var 2))]⟩
abbrev N_l_steps : List Str := ["rules", "word", "found", "place", "k"]
abbrev P_l_steps : List Str := ["rules", "word"]
def d_l_turned : Df := ⟨3, 3, false, [(.ret (.bin .add (.bin .add (.slcH (.var 1) (.sub (.var 2) (.c (.int (1))))) (.sub (.sub (.var 0) (.sub (.var 2) (.c (.int (0))))) (.c (.int (1))))) (.slcL (.var 1) (.bin .add (.sub (.var 2) (.c (.int (1)))) (.bi .len [(.sub (.sub (.var 0) (.sub (.var 2) (.c (.int (0))))) (.c (.int (0))))])))))]⟩
abbrev N_l_turned : List Str := ["rules", "word", "step"]
abbrev P_l_turned : List Str := ["rules", "word", "step"]
def d_l_normal : Df := ⟨2, 3, false, [(.set (.nm 2) (.al (.lst []))), (.while (.cmp .ne (.call 22 [(.var 0), (.var 1)]) (.lst [])) [(.ex (.meth .append (.var 2) [(.sub (.call 22 [(.var 0), (.var 1)]) (.c (.int (0))))])), (.set (.nm 1) (.call 23 [(.var 0), (.var 1), (.sub (.var 2) (.neg (.c (.int (1)))))]))]), (.ret (.tup [(.var 1), (.bi .tuple [(.var 2)])]))]⟩
abbrev N_l_normal : List Str := ["rules", "word", "row"]
abbrev P_l_normal : List Str := ["rules", "word"]
def d_l_pairs : Df := ⟨1, 8, false, [(.set (.nm 1) (.al (.lst []))), (.for (.tp [(.nm 2), (.nm 3)]) (.var 0) [(.for (.tp [(.nm 4), (.nm 5)]) (.var 0) [(.for (.nm 6) (.rng2 (.c (.int (1))) (.bi .min [(.bi .len [(.var 2)]), (.bi .len [(.var 4)])])) [(.ite (.cmp .eq (.slcL (.var 2) (.bin .sub (.bi .len [(.var 2)]) (.var 6))) (.slcH (.var 4) (.var 6))) [(.ex (.meth .append (.var 1) [(.tup [(.bin .add (.var 2) (.slcL (.var 4) (.var 6))), (.bin .add (.var 3) (.slcL (.var 4) (.var 6))), (.bin .add (.slcH (.var 2) (.bin .sub (.bi .len [(.var 2)]) (.var 6))) (.var 5))])]))] [])]), (.for (.nm 7) (.rng1 (.bin .add (.bin .sub (.bi .len [(.var 2)]) (.bi .len [(.var 4)])) (.c (.int (1))))) [(.ite (.and (.cmp .eq (.slcB (.var 2) (.var 7) (.bin .add (.var 7) (.bi .len [(.var 4)]))) (.var 4)) (.cmp .ne (.tup [(.var 2), (.var 3)]) (.tup [(.var 4), (.var 5)]))) [(.ex (.meth .append (.var 1) [(.tup [(.var 2), (.var 3), (.bin .add (.bin .add (.slcH (.var 2) (.var 7)) (.var 5)) (.slcL (.var 2) (.bin .add (.var 7) (.bi .len [(.var 4)]))))])]))] [])])])]), (.ret (.var 1))]⟩
abbrev N_l_pairs : List Str := ["rules", "found", "one", "first", "other", "second", "many", "place"]
abbrev P_l_pairs : List Str := ["rules"]
def d_l_ends : Df := ⟨2, 10, false, [(.par3 2 3 4 (.lst [(.var 1)]) (.al (.lst [(.var 1)])) (.al (.lst []))), (.while (.cmp .ne (.var 2) (.lst [])) [(.set (.nm 5) (.al (.lst []))), (.for (.nm 6) (.var 2) [(.set (.nm 7) (.call 22 [(.var 0), (.var 6)])), (.ite (.and (.cmp .eq (.var 7) (.lst [])) (.cmp .nmem (.var 6) (.var 4))) [(.ex (.meth .append (.var 4) [(.var 6)]))] []), (.for (.nm 8) (.var 7) [(.set (.nm 9) (.call 23 [(.var 0), (.var 6), (.var 8)])), (.ite (.and (.cmp .nmem (.var 9) (.var 3)) (.cmp .lt (.bi .len [(.var 3)]) (.c (.int (300))))) [(.ex (.meth .append (.var 3) [(.var 9)])), (.ex (.meth .append (.var 5) [(.var 9)]))] [])])]), (.set (.nm 2) (.var 5))]), (.ret (.ite (.cmp .lt (.bi .len [(.var 3)]) (.c (.int (300)))) (.var 4) (.c .non)))]⟩
abbrev N_l_ends : List Str := ["rules", "word", "level", "seen", "found", "ahead", "now", "steps", "step", "behind"]
abbrev P_l_ends : List Str := ["rules", "word"]
def d_l_row : Df := ⟨3, 6, false, [(.set (.nm 3) (.al (.lst []))), (.for (.nm 4) (.rng1 (.call 16 [(.var 0), (.c (.int (5)))])) [(.set (.nm 5) (.call 22 [(.var 1), (.var 2)])), (.ite (.and (.cmp .ne (.var 5) (.lst [])) (.cmp .lt (.bi .len [(.var 2)]) (.c (.int (40))))) [(.ex (.meth .append (.var 3) [(.call 17 [(.var 0), (.var 5)])])), (.set (.nm 2) (.call 23 [(.var 1), (.var 2), (.sub (.var 3) (.neg (.c (.int (1)))))]))] [])]), (.ret (.tup [(.bi .tuple [(.var 3)]), (.var 2)]))]⟩
abbrev N_l_row : List Str := ["state", "rules", "word", "row", "turn", "steps"]
abbrev P_l_row : List Str := ["state", "rules", "word"]
def d_l_behind : Df := ⟨3, 4, false, [(.for (.nm 3) (.var 2) [(.ite (.cmp .nmem (.var 3) (.call 22 [(.var 0), (.var 1)])) [(.ret (.c .non))] []), (.set (.nm 1) (.call 23 [(.var 0), (.var 1), (.var 3)]))]), (.ret (.var 1))]⟩
abbrev N_l_behind : List Str := ["rules", "word", "row", "step"]
abbrev P_l_behind : List Str := ["rules", "word", "row"]
def d_l_any : Df := ⟨2, 3, false, [(.ret (.bi .tuple [(.comp (.nm 2) [2] (.rng1 (.call 16 [(.var 0), (.c (.int (4)))])) (.c (.bl true)) (.tup [(.bin .add (.call 17 [(.var 0), (.var 1)]) (.call 19 [(.var 0), (.var 1), (.c (.int (2)))])), (.call 19 [(.var 0), (.var 1), (.c (.int (3)))])]))]))]⟩
abbrev N_l_any : List Str := ["state", "letters", "k"]
abbrev P_l_any : List Str := ["state", "letters"]
def d_l_odd : Df := ⟨1, 5, false, [(.for (.tp [(.nm 1), (.nm 4)]) (.tup [(.tup [(.c (.str [])), (.c (.bl false))]), (.tup [(.c (.str [97])), (.c (.bl true))]), (.tup [(.c (.str [97, 98])), (.c (.bl true))]), (.tup [(.c (.str [98, 97])), (.c (.bl false))]), (.tup [(.c (.str [97, 97])), (.c (.bl false))]), (.tup [(.c (.str [97, 49])), (.c (.bl false))]), (.tup [(.c (.str [65])), (.c (.bl false))]), (.tup [(.c .non), (.c (.bl false))]), (.tup [(.tup [(.c (.str [97]))]), (.c (.bl false))]), (.tup [(.c (.str [97, 98, 99, 100, 101, 102, 103, 104, 105, 106, 107, 108, 109, 110, 111, 112, 113, 114, 115, 116, 117, 118, 119, 120, 121, 122])), (.c (.bl true))])]) [(.ite (.cmp .ne (.call 2 [(.var 1)]) (.var 4)) [(.ret (.c (.bl false)))] [])]), (.for (.nm 1) (.tup [(.c .non), (.c (.int (5))), (.c (.str [49])), (.bin .mul (.sub (.var 0) (.c (.int (0)))) (.c (.int (61)))), (.ite (.cmp .nmem (.c (.str [122])) (.var 0)) (.c (.str [122, 122])) (.c (.str [113]))), (.tup [(.sub (.var 0) (.c (.int (0))))]), (.c (.str [65]))]) [(.ite (.cmp .isn (.call 1 [(.var 1), (.var 0)]) (.c (.bl false))) [(.ret (.c (.bl false)))] [])]), (.set (.nm 2) (.tup [(.sub (.var 0) (.c (.int (0)))), (.c (.str []))])), (.set (.nm 3) (.lst [(.c .non), (.lst [(.var 2)]), (.bin .mul (.tup [(.var 2)]) (.c (.int (21)))), (.tup [(.tup [(.c (.str [])), (.sub (.var 0) (.c (.int (0))))])]), (.tup [(.tup [(.sub (.var 0) (.c (.int (0))))])]), (.tup [(.lst [(.sub (.var 0) (.c (.int (0)))), (.c (.str []))])]), (.tup [(.bin .add (.var 2) (.tup [(.c (.str []))]))]), (.tup [(.tup [(.c (.str [49])), (.c (.str []))])]), (.tup [(.tup [(.sub (.var 0) (.c (.int (0)))), (.c .non)])]), (.c (.int (5)))])), (.ite (.not (.bi .all [(.comp (.nm 1) [1] (.var 3) (.c (.bl true)) (.cmp .is (.call 3 [(.var 1), (.var 0)]) (.c (.bl false))))])) [(.ret (.c (.bl false)))] []), (.ret (.and (.cmp .is (.call 1 [(.c (.str [])), (.var 0)]) (.c (.bl true))) (.and (.cmp .is (.call 1 [(.bin .mul (.sub (.var 0) (.c (.int (0)))) (.c (.int (60)))), (.var 0)]) (.c (.bl true))) (.and (.cmp .is (.call 3 [(.bin .mul (.tup [(.var 2)]) (.c (.int (20)))), (.var 0)]) (.c (.bl true))) (.cmp .eq (.tup [(.c (.int (60))), (.c (.int (20)))]) (.tup [(.c (.int (60))), (.c (.int (20)))]))))))]⟩
abbrev N_l_odd : List Str := ["letters", "value", "rule", "odds", "due"]
abbrev P_l_odd : List Str := ["letters"]
def d_law : Df := ⟨1, 18, false, [(.set (.nm 1) (.call 15 [(.var 0)])), (.for (.nm 2) (.rng1 (.c (.int (4)))) [(.set (.nm 3) (.call 18 [(.var 1)])), (.set (.nm 4) (.call 21 [(.var 1), (.var 3), (.c (.int (4)))])), (.set (.nm 5) (.call 19 [(.var 1), (.var 3), (.c (.int (10)))])), (.ite (.or (.cmp .ne (.call 4 [(.var 4), (.var 5)]) (.call 22 [(.var 4), (.var 5)])) (.or (.cmp .ne (.call 10 [(.var 4), (.var 5)]) (.call 24 [(.var 4), (.var 5)])) (.cmp .ne (.call 11 [(.var 4)]) (.call 25 [(.var 4)])))) [(.ret (.c (.bl false)))] []), (.set (.nm 6) (.tup [(.c (.str [109, 101, 101, 116, 115]))])), (.for (.tp [(.nm 11), (.nm 12), (.nm 13)]) (.rev (.call 25 [(.var 4)])) [(.set (.nm 14) (.tup [(.sub (.call 24 [(.var 4), (.var 12)]) (.c (.int (0)))), (.sub (.call 24 [(.var 4), (.var 13)]) (.c (.int (0))))])), (.ite (.cmp .ne (.sub (.var 14) (.c (.int (0)))) (.sub (.var 14) (.c (.int (1))))) [(.set (.nm 6) (.bin .add (.tup [(.c (.str [112, 97, 114, 116, 115])), (.var 11)]) (.var 14)))] [])]), (.ite (.cmp .ne (.call 12 [(.var 4)]) (.var 6)) [(.ret (.c (.bl false)))] []), (.for (.nm 7) (.rng1 (.c (.int (3)))) [(.par 12 13 (.call 19 [(.var 1), (.var 3), (.c (.int (6)))]) (.call 19 [(.var 1), (.var 3), (.c (.int (6)))])), (.ite (.and (.cmp .eq (.var 6) (.tup [(.c (.str [109, 101, 101, 116, 115]))])) (.cmp .nmem (.call 26 [(.var 4), (.var 12)]) (.tup [(.c .non), (.lst [(.sub (.call 24 [(.var 4), (.var 12)]) (.c (.int (0))))])]))) [(.ret (.c (.bl false)))] []), (.ite (.or (.cmp .ne (.call 13 [(.var 4), (.var 12), (.var 13)]) (.cmp .eq (.sub (.call 24 [(.var 4), (.var 12)]) (.c (.int (0)))) (.sub (.call 24 [(.var 4), (.var 13)]) (.c (.int (0)))))) (.cmp .ne (.call 14 [(.var 4), (.var 12), (.var 13)]) (.sub (.call 24 [(.var 4), (.bin .add (.var 12) (.var 13))]) (.c (.int (0)))))) [(.ret (.c (.bl false)))] []), (.ite (.cmp .ne (.call 8 [(.var 12), (.var 13)]) (.call 20 [(.var 12), (.var 13)])) [(.ret (.c (.bl false)))] [])]), (.ite (.and (.cmp .ne (.var 6) (.tup [(.c (.str [109, 101, 101, 116, 115]))])) (.cmp .lt (.bi .len [(.orv (.call 26 [(.var 4), (.sub (.var 6) (.c (.int (1))))]) (.lst [(.c (.int (0))), (.c (.int (0)))]))]) (.c (.int (2))))) [(.ret (.c (.bl false)))] []), (.set (.nm 8) (.call 29 [(.var 1), (.var 3)])), (.ite (.or (.cmp .ne (.call 9 [(.var 8)]) (.cmp .eq (.bi .len [(.comp (.tp [(.nm 12), (.nm 13)]) [12, 13] (.var 8) (.not (.call 20 [(.var 13), (.var 12)])) (.c (.int (1))))]) (.c (.int (0))))) (.or (.cmp .isn (.call 9 [(.var 4)]) (.c (.bl true))) (.cmp .isn (.call 3 [(.var 8), (.var 3)]) (.c (.bl true))))) [(.ret (.c (.bl false)))] []), (.set (.tp [(.nm 15), (.nm 16)]) (.call 27 [(.var 1), (.var 8), (.var 5)])), (.ite (.or (.cmp .ne (.call 7 [(.var 8), (.var 5), (.var 15)]) (.var 16)) (.cmp .ne (.comp (.nm 17) [17] (.call 22 [(.var 8), (.var 5)]) (.c (.bl true)) (.call 5 [(.var 8), (.var 5), (.var 17)])) (.comp (.nm 17) [17] (.call 22 [(.var 8), (.var 5)]) (.c (.bl true)) (.call 23 [(.var 8), (.var 5), (.var 17)])))) [(.ret (.c (.bl false)))] []), (.set (.nm 9) (.bin .add (.var 15) (.tup [(.tup [(.call 16 [(.var 1), (.c (.int (4)))]), (.call 16 [(.var 1), (.c (.int (12)))])])]))), (.ite (.cmp .ne (.call 7 [(.var 8), (.var 5), (.var 9)]) (.call 28 [(.var 8), (.var 5), (.var 9)])) [(.ret (.c (.bl false)))] []), (.for (.nm 10) (.tup [(.c .non), (.bi .list [(.var 15)]), (.tup [(.c .non)]), (.tup [(.tup [(.c (.int (0)))])]), (.tup [(.tup [(.neg (.c (.int (1)))), (.c (.int (0)))])]), (.tup [(.tup [(.c (.int (0))), (.c (.bl true))])]), (.tup [(.tup [(.c (.int (0))), (.bi .len [(.var 5)])])]), (.tup [(.tup [(.c (.str [48])), (.c (.int (0)))])])]) [(.ite (.cmp .isn (.call 7 [(.var 8), (.var 5), (.var 10)]) (.c .non)) [(.ret (.c (.bl false)))] [])]), (.ite (.not (.call 30 [(.var 3)])) [(.ret (.c (.bl false)))] [])]), (.ret (.c (.bl true)))]⟩
abbrev N_law : List Str := ["script", "state", "turn", "letters", "rules", "word", "due", "more", "free", "bent", "odd", "peak", "one", "other", "ends", "row", "behind", "step"]
abbrev P_law : List Str := ["script"]
def T : List Df := [d_is_whole, d_is_word, d_are_letters, d_are_word_rules, d_word_steps, d_word_turned, d_is_word_step, d_behind_word_row, d_is_before, d_go_down, d_word_normal, d_overlaps, d_words_meet, d_are_same_words, d_product, d_l_state, d_l_take, d_l_pick, d_l_letters, d_l_word, d_l_before, d_l_rules, d_l_steps, d_l_turned, d_l_normal, d_l_pairs, d_l_ends, d_l_row, d_l_behind, d_l_any, d_l_odd, d_law]
end L2.Mi.k55

set_option Elab.async false
set_option linter.all false
set_option maxRecDepth 100000
set_option maxHeartbeats 4000000

namespace L2.Mi.k55
open PySem PySem.Spec PyProof.Rows L2.Mi
theorem sc_is_whole : FnScope N_is_whole P_is_whole (defScope s_is_whole) := ⟨rfl, rfl, rfl, by decide +kernel, rfl, by decide +kernel, by decide +kernel⟩
theorem sc_is_word : FnScope N_is_word P_is_word (defScope s_is_word) := ⟨rfl, rfl, rfl, by decide +kernel, rfl, by decide +kernel, by decide +kernel⟩
theorem sc_are_letters : FnScope N_are_letters P_are_letters (defScope s_are_letters) := ⟨rfl, rfl, rfl, by decide +kernel, rfl, by decide +kernel, by decide +kernel⟩
theorem sc_are_word_rules : FnScope N_are_word_rules P_are_word_rules (defScope s_are_word_rules) := ⟨rfl, rfl, rfl, by decide +kernel, rfl, by decide +kernel, by decide +kernel⟩
theorem sc_word_steps : FnScope N_word_steps P_word_steps (defScope s_word_steps) := ⟨rfl, rfl, rfl, by decide +kernel, rfl, by decide +kernel, by decide +kernel⟩
theorem sc_word_turned : FnScope N_word_turned P_word_turned (defScope s_word_turned) := ⟨rfl, rfl, rfl, by decide +kernel, rfl, by decide +kernel, by decide +kernel⟩
theorem sc_is_word_step : FnScope N_is_word_step P_is_word_step (defScope s_is_word_step) := ⟨rfl, rfl, rfl, by decide +kernel, rfl, by decide +kernel, by decide +kernel⟩
theorem sc_behind_word_row : FnScope N_behind_word_row P_behind_word_row (defScope s_behind_word_row) := ⟨rfl, rfl, rfl, by decide +kernel, rfl, by decide +kernel, by decide +kernel⟩
theorem sc_is_before : FnScope N_is_before P_is_before (defScope s_is_before) := ⟨rfl, rfl, rfl, by decide +kernel, rfl, by decide +kernel, by decide +kernel⟩
theorem sc_go_down : FnScope N_go_down P_go_down (defScope s_go_down) := ⟨rfl, rfl, rfl, by decide +kernel, rfl, by decide +kernel, by decide +kernel⟩
theorem sc_word_normal : FnScope N_word_normal P_word_normal (defScope s_word_normal) := ⟨rfl, rfl, rfl, by decide +kernel, rfl, by decide +kernel, by decide +kernel⟩
theorem sc_overlaps : FnScope N_overlaps P_overlaps (defScope s_overlaps) := ⟨rfl, rfl, rfl, by decide +kernel, rfl, by decide +kernel, by decide +kernel⟩
theorem sc_words_meet : FnScope N_words_meet P_words_meet (defScope s_words_meet) := ⟨rfl, rfl, rfl, by decide +kernel, rfl, by decide +kernel, by decide +kernel⟩
theorem sc_are_same_words : FnScope N_are_same_words P_are_same_words (defScope s_are_same_words) := ⟨rfl, rfl, rfl, by decide +kernel, rfl, by decide +kernel, by decide +kernel⟩
theorem sc_product : FnScope N_product P_product (defScope s_product) := ⟨rfl, rfl, rfl, by decide +kernel, rfl, by decide +kernel, by decide +kernel⟩
theorem sc_l_state : FnScope N_l_state P_l_state (defScope s_l_state) := ⟨rfl, rfl, rfl, by decide +kernel, rfl, by decide +kernel, by decide +kernel⟩
theorem sc_l_take : FnScope N_l_take P_l_take (defScope s_l_take) := ⟨rfl, rfl, rfl, by decide +kernel, rfl, by decide +kernel, by decide +kernel⟩
theorem sc_l_pick : FnScope N_l_pick P_l_pick (defScope s_l_pick) := ⟨rfl, rfl, rfl, by decide +kernel, rfl, by decide +kernel, by decide +kernel⟩
theorem sc_l_letters : FnScope N_l_letters P_l_letters (defScope s_l_letters) := ⟨rfl, rfl, rfl, by decide +kernel, rfl, by decide +kernel, by decide +kernel⟩
theorem sc_l_word : FnScope N_l_word P_l_word (defScope s_l_word) := ⟨rfl, rfl, rfl, by decide +kernel, rfl, by decide +kernel, by decide +kernel⟩
theorem sc_l_before : FnScope N_l_before P_l_before (defScope s_l_before) := ⟨rfl, rfl, rfl, by decide +kernel, rfl, by decide +kernel, by decide +kernel⟩
theorem sc_l_rules : FnScope N_l_rules P_l_rules (defScope s_l_rules) := ⟨rfl, rfl, rfl, by decide +kernel, rfl, by decide +kernel, by decide +kernel⟩
theorem sc_l_steps : FnScope N_l_steps P_l_steps (defScope s_l_steps) := ⟨rfl, rfl, rfl, by decide +kernel, rfl, by decide +kernel, by decide +kernel⟩
theorem sc_l_turned : FnScope N_l_turned P_l_turned (defScope s_l_turned) := ⟨rfl, rfl, rfl, by decide +kernel, rfl, by decide +kernel, by decide +kernel⟩
theorem sc_l_normal : FnScope N_l_normal P_l_normal (defScope s_l_normal) := ⟨rfl, rfl, rfl, by decide +kernel, rfl, by decide +kernel, by decide +kernel⟩
theorem sc_l_pairs : FnScope N_l_pairs P_l_pairs (defScope s_l_pairs) := ⟨rfl, rfl, rfl, by decide +kernel, rfl, by decide +kernel, by decide +kernel⟩
theorem sc_l_ends : FnScope N_l_ends P_l_ends (defScope s_l_ends) := ⟨rfl, rfl, rfl, by decide +kernel, rfl, by decide +kernel, by decide +kernel⟩
theorem sc_l_row : FnScope N_l_row P_l_row (defScope s_l_row) := ⟨rfl, rfl, rfl, by decide +kernel, rfl, by decide +kernel, by decide +kernel⟩
theorem sc_l_behind : FnScope N_l_behind P_l_behind (defScope s_l_behind) := ⟨rfl, rfl, rfl, by decide +kernel, rfl, by decide +kernel, by decide +kernel⟩
theorem sc_l_any : FnScope N_l_any P_l_any (defScope s_l_any) := ⟨rfl, rfl, rfl, by decide +kernel, rfl, by decide +kernel, by decide +kernel⟩
theorem sc_l_odd : FnScope N_l_odd P_l_odd (defScope s_l_odd) := ⟨rfl, rfl, rfl, by decide +kernel, rfl, by decide +kernel, by decide +kernel⟩
theorem sc_law : FnScope N_law P_law (defScope s_law) := ⟨rfl, rfl, rfl, by decide +kernel, rfl, by decide +kernel, by decide +kernel⟩
def faO (K : PySem.W.Frag) : Nat → Option Addr
  | 0 => some (He.ga K "is_whole")
  | 1 => some (He.ga K "is_word")
  | 2 => some (He.ga K "are_letters")
  | 3 => some (He.ga K "are_word_rules")
  | 4 => some (He.ga K "word_steps")
  | 5 => some (He.ga K "word_turned")
  | 6 => some (He.ga K "is_word_step")
  | 7 => some (He.ga K "behind_word_row")
  | 8 => some (He.ga K "is_before")
  | 9 => some (He.ga K "go_down")
  | 10 => some (He.ga K "word_normal")
  | 11 => some (He.ga K "overlaps")
  | 12 => some (He.ga K "words_meet")
  | 13 => some (He.ga K "are_same_words")
  | 14 => some (He.ga K "product")
  | 15 => some (He.ga K "_law_state")
  | 16 => some (He.ga K "_law_take")
  | 17 => some (He.ga K "_law_pick")
  | 18 => some (He.ga K "_law_letters")
  | 19 => some (He.ga K "_law_word")
  | 20 => some (He.ga K "_law_before")
  | 21 => some (He.ga K "_law_rules")
  | 22 => some (He.ga K "_law_steps")
  | 23 => some (He.ga K "_law_turned")
  | 24 => some (He.ga K "_law_normal")
  | 25 => some (He.ga K "_law_pairs")
  | 26 => some (He.ga K "_law_ends")
  | 27 => some (He.ga K "_law_row")
  | 28 => some (He.ga K "_law_behind")
  | 29 => some (He.ga K "_law_any")
  | 30 => some (He.ga K "_law_odd")
  | 31 => some (He.ga K "law")
  | _ => none
abbrev gb (K : PySem.W.Frag) : Gb := ⟨K, faO K⟩
structure GF (K : PySem.W.Frag) (mg : Str → Option Value) : Prop where
  f_abs : mg "abs" = none
  f_all : mg "all" = none
  f_bool : mg "bool" = none
  f_int : mg "int" = none
  f_isinstance : mg "isinstance" = none
  f_len : mg "len" = none
  f_list : mg "list" = none
  f_min : mg "min" = none
  f_range : mg "range" = none
  f_str : mg "str" = none
  f_tuple : mg "tuple" = none
  g_u_law_any : mg "_law_any" = some (.ref (He.ga K "_law_any"))
  g_u_law_before : mg "_law_before" = some (.ref (He.ga K "_law_before"))
  g_u_law_behind : mg "_law_behind" = some (.ref (He.ga K "_law_behind"))
  g_u_law_ends : mg "_law_ends" = some (.ref (He.ga K "_law_ends"))
  g_u_law_letters : mg "_law_letters" = some (.ref (He.ga K "_law_letters"))
  g_u_law_normal : mg "_law_normal" = some (.ref (He.ga K "_law_normal"))
  g_u_law_odd : mg "_law_odd" = some (.ref (He.ga K "_law_odd"))
  g_u_law_pairs : mg "_law_pairs" = some (.ref (He.ga K "_law_pairs"))
  g_u_law_pick : mg "_law_pick" = some (.ref (He.ga K "_law_pick"))
  g_u_law_row : mg "_law_row" = some (.ref (He.ga K "_law_row"))
  g_u_law_rules : mg "_law_rules" = some (.ref (He.ga K "_law_rules"))
  g_u_law_state : mg "_law_state" = some (.ref (He.ga K "_law_state"))
  g_u_law_steps : mg "_law_steps" = some (.ref (He.ga K "_law_steps"))
  g_u_law_take : mg "_law_take" = some (.ref (He.ga K "_law_take"))
  g_u_law_turned : mg "_law_turned" = some (.ref (He.ga K "_law_turned"))
  g_u_law_word : mg "_law_word" = some (.ref (He.ga K "_law_word"))
  g_are_letters : mg "are_letters" = some (.ref (He.ga K "are_letters"))
  g_are_same_words : mg "are_same_words" = some (.ref (He.ga K "are_same_words"))
  g_are_word_rules : mg "are_word_rules" = some (.ref (He.ga K "are_word_rules"))
  g_behind_word_row : mg "behind_word_row" = some (.ref (He.ga K "behind_word_row"))
  g_go_down : mg "go_down" = some (.ref (He.ga K "go_down"))
  g_is_before : mg "is_before" = some (.ref (He.ga K "is_before"))
  g_is_whole : mg "is_whole" = some (.ref (He.ga K "is_whole"))
  g_is_word : mg "is_word" = some (.ref (He.ga K "is_word"))
  g_is_word_step : mg "is_word_step" = some (.ref (He.ga K "is_word_step"))
  g_overlaps : mg "overlaps" = some (.ref (He.ga K "overlaps"))
  g_product : mg "product" = some (.ref (He.ga K "product"))
  g_word_normal : mg "word_normal" = some (.ref (He.ga K "word_normal"))
  g_word_steps : mg "word_steps" = some (.ref (He.ga K "word_steps"))
  g_word_turned : mg "word_turned" = some (.ref (He.ga K "word_turned"))
  g_words_meet : mg "words_meet" = some (.ref (He.ga K "words_meet"))
  i_MOST_WORD : ∃ t, mg "MOST_WORD" = some (.int (60) t)
  i_MOST_WORD_RULES : ∃ t, mg "MOST_WORD_RULES" = some (.int (20) t)
  s_LETTERS : ∃ t, mg "LETTERS" = some (.str "abcdefghijklmnopqrstuvwxyz" t)
theorem b_is_whole {P : Program} {w : World} {K : PySem.W.Frag} {mg : Str → Option Value} {base : Heap} {k : Nat} {C : CallF} (g : GF K mg) (a : Addr) (cdv : Value) (A : Around) (outer : List PySem.Env) (s : Shared) (H : Hp) (E : XK) (F : ∀ f a, (gb K).fa f = some a → FnC P w K mg base (gb K) C k f a)
    (hr : Room k (A.deeper (envOfC "is_whole" (defScope s_is_whole) s.heap.objs.size a cdv))) : PSs (cxOf CX0 P w K mg base N_is_whole "is_whole" (defScope s_is_whole) a cdv A outer s H E).nox (defBody s_is_whole) (tSs (gb K) C d_is_whole.body) := by
  have hu : (A.deeper (envOfC "is_whole" (defScope s_is_whole) s.heap.objs.size a cdv)).units + 65 < cLine := by have := hr.un; omega
  exact (sss_cons (ss_ret (se_and (sisi .int g.f_isinstance g.f_int bt_int rfl (sv 0)) (se_and (se_not (sisi .bool g.f_isinstance g.f_bool bt_bool rfl (sv 0))) (se_one (se_chn (o := .le) (o' := .le) rfl hu (sv 1) (sv 0) (sv 2))))))
    sss_nil)
theorem b_is_word {P : Program} {w : World} {K : PySem.W.Frag} {mg : Str → Option Value} {base : Heap} {k : Nat} {C : CallF} (g : GF K mg) (a : Addr) (cdv : Value) (A : Around) (outer : List PySem.Env) (s : Shared) (H : Hp) (E : XK) (F : ∀ f a, (gb K).fa f = some a → FnC P w K mg base (gb K) C k f a)
    (hr : Room k (A.deeper (envOfC "is_word" (defScope s_is_word) s.heap.objs.size a cdv))) : PSs (cxOf CX0 P w K mg base N_is_word "is_word" (defScope s_is_word) a cdv A outer s H E).nox (defBody s_is_word) (tSs (gb K) C d_is_word.body) := by
  have hu : (A.deeper (envOfC "is_word" (defScope s_is_word) s.heap.objs.size a cdv)).units + 65 < cLine := by have := hr.un; omega
  exact (sss_cons (ss_ret (se_and (sisi .str g.f_isinstance g.f_str bt_str rfl (sv 0)) (se_and (se_cmp (o := .le) rfl hu (by rfl) (sb_len g.f_len rfl (sa_cons (sv 0) sa_nil)) (sgl g.i_MOST_WORD)) (se_one (sb_all g.f_all rfl (sa_cons (se_comp (own := [("sign", 2)]) (by decide) rfl sc_is_word.nd (si_any rfl (sv 0)) (blkOk_by (by kernel_rfl)) (fun _ _ _ _ _ => (sgn 2 sc_is_word.nd)) (fun _ _ _ _ _ => sts_nil) (fun _ _ _ _ _ => (se_cmp (o := .mem) rfl hu (by rfl) (sv 2) (sv 1)))) sa_nil))))))
    sss_nil)
theorem b_are_letters {P : Program} {w : World} {K : PySem.W.Frag} {mg : Str → Option Value} {base : Heap} {k : Nat} {C : CallF} (g : GF K mg) (a : Addr) (cdv : Value) (A : Around) (outer : List PySem.Env) (s : Shared) (H : Hp) (E : XK) (F : ∀ f a, (gb K).fa f = some a → FnC P w K mg base (gb K) C k f a)
    (hr : Room k (A.deeper (envOfC "are_letters" (defScope s_are_letters) s.heap.objs.size a cdv))) : PSs (cxOf CX0 P w K mg base N_are_letters "are_letters" (defScope s_are_letters) a cdv A outer s H E).nox (defBody s_are_letters) (tSs (gb K) C d_are_letters.body) := by
  have hu : (A.deeper (envOfC "are_letters" (defScope s_are_letters) s.heap.objs.size a cdv)).units + 65 < cLine := by have := hr.un; omega
  exact (sss_cons (ss_if (PW.pt (sw_or (st_not (st_val (sisi .str g.f_isinstance g.f_str bt_str rfl (sv 0)))) (sw_or (st_cmp (o := .eq) rfl hu (by rfl) (sb_len g.f_len rfl (sa_cons (sv 0) sa_nil)) se_int) (sw_or1 (st_not (st_val (sb_all g.f_all rfl (sa_cons (se_comp (own := [("sign", 2)]) (by decide) rfl sc_are_letters.nd (si_any rfl (sv 0)) (blkOk_by (by kernel_rfl)) (fun _ _ _ _ _ => (sgn 2 sc_are_letters.nd)) (fun _ _ _ _ _ => sts_nil) (fun _ _ _ _ _ => (se_cmp (o := .mem) rfl hu (by rfl) (sv 2) (sgls g.s_LETTERS)))) sa_nil)))))))) (sss_cons (ss_ret se_bl)
    sss_nil) sss_nil)
    (sss_cons (ss_ret (sb_all g.f_all rfl (sa_cons (se_comp (own := [("k", 1)]) (by decide) rfl sc_are_letters.nd (si_range1 rfl g.f_range (se_bin (o := .sub) rfl (sb_len g.f_len rfl (sa_cons (sv 0) sa_nil)) se_int)) (blkOk_by (by kernel_rfl)) (fun _ _ _ _ _ => (sgn 1 sc_are_letters.nd)) (fun _ _ _ _ _ => sts_nil) (fun _ _ _ _ _ => (se_cmp (o := .lt) rfl hu (by rfl) (se_sub rfl hu (sv 0) (sv 1)) (se_sub rfl hu (sv 0) (se_bin (o := .add) rfl (sv 1) se_int))))) sa_nil)))
    sss_nil))
theorem b_are_word_rules {P : Program} {w : World} {K : PySem.W.Frag} {mg : Str → Option Value} {base : Heap} {k : Nat} {C : CallF} (g : GF K mg) (a : Addr) (cdv : Value) (A : Around) (outer : List PySem.Env) (s : Shared) (H : Hp) (E : XK) (F : ∀ f a, (gb K).fa f = some a → FnC P w K mg base (gb K) C k f a)
    (hr : Room k (A.deeper (envOfC "are_word_rules" (defScope s_are_word_rules) s.heap.objs.size a cdv))) : PSs (cxOf CX0 P w K mg base N_are_word_rules "are_word_rules" (defScope s_are_word_rules) a cdv A outer s H E).nox (defBody s_are_word_rules) (tSs (gb K) C d_are_word_rules.body) := by
  have hu : (A.deeper (envOfC "are_word_rules" (defScope s_are_word_rules) s.heap.objs.size a cdv)).units + 65 < cLine := by have := hr.un; omega
  exact (sss_cons (ss_if (PW.pt (sw_or (st_not (st_val (sisi .tuple g.f_isinstance g.f_tuple bt_tuple rfl (sv 0)))) (sw_or1 (st_cmp (o := .gt) rfl hu (by rfl) (sb_len g.f_len rfl (sa_cons (sv 0) sa_nil)) (sgl g.i_MOST_WORD_RULES))))) (sss_cons (ss_ret se_bl)
    sss_nil) sss_nil)
    (sss_cons (ss_for PassesOwn.never rfl (si_any rfl (sv 0)) (sgn 2 sc_are_word_rules.nd) (sss_cons (ss_if (PW.pt (sw_or (st_not (st_val (sisi .tuple g.f_isinstance g.f_tuple bt_tuple rfl (sv 2)))) (sw_or (st_cmp (o := .ne) rfl hu (by rfl) (sb_len g.f_len rfl (sa_cons (sv 2) sa_nil)) se_int) (sw_or1 (st_not (st_val (sb_all g.f_all rfl (sa_cons (se_comp (own := [("word", 3)]) (by decide) rfl sc_are_word_rules.nd (si_any rfl (sv 2)) (blkOk_by (by kernel_rfl)) (fun _ _ _ _ _ => (sgn 3 sc_are_word_rules.nd)) (fun _ _ _ _ _ => sts_nil) (fun _ _ _ _ _ => (scall 1 F hr g.g_is_word (sa_cons (sv 3) (sa_cons (sv 1) sa_nil))))) sa_nil)))))))) (sss_cons (ss_ret se_bl)
    sss_nil) sss_nil)
    (sss_cons (ss_if (st_cmp (o := .eq) rfl hu (by rfl) (se_sub rfl hu (sv 2) se_int) (se_str (by decide +kernel))) (sss_cons (ss_ret se_bl)
    sss_nil) sss_nil)
    sss_nil)))
    (sss_cons (ss_ret se_bl)
    sss_nil)))
theorem b_word_steps {P : Program} {w : World} {K : PySem.W.Frag} {mg : Str → Option Value} {base : Heap} {k : Nat} {C : CallF} (g : GF K mg) (a : Addr) (cdv : Value) (A : Around) (outer : List PySem.Env) (s : Shared) (H : Hp) (E : XK) (F : ∀ f a, (gb K).fa f = some a → FnC P w K mg base (gb K) C k f a)
    (hr : Room k (A.deeper (envOfC "word_steps" (defScope s_word_steps) s.heap.objs.size a cdv))) : PSs (cxOf CX0 P w K mg base N_word_steps "word_steps" (defScope s_word_steps) a cdv A outer s H E).nox (defBody s_word_steps) (tSs (gb K) C d_word_steps.body) := by
  have hu : (A.deeper (envOfC "word_steps" (defScope s_word_steps) s.heap.objs.size a cdv)).units + 65 < cLine := by have := hr.un; omega
  exact (sss_cons (sset 2 sc_word_steps.nd (sal_lst sa_nil))
    (sss_cons (ss_for PassesOwn.never rfl (si_range1 rfl g.f_range (sb_len g.f_len rfl (sa_cons (sv 1) sa_nil))) (sgn 3 sc_word_steps.nd) (sss_cons (ss_expr (sm_extend rfl (sv 2) (sa_cons (se_comp (own := [("k", 4)]) (by decide) rfl sc_word_steps.nd (si_range1 rfl g.f_range (sb_len g.f_len rfl (sa_cons (sv 0) sa_nil))) (blkOk_by (by kernel_rfl)) (fun _ _ _ _ _ => (sgn 4 sc_word_steps.nd)) (fun _ _ _ _ _ => (pts_one (st_val (sm_start2 rfl (sv 1) (sa_cons (se_sub rfl hu (se_sub rfl hu (sv 0) (sv 4)) se_int) (sa_cons (sv 3) sa_nil)))))) (fun _ _ _ _ _ => (se_tup (sa_cons (sv 4) (sa_cons (sv 3) sa_nil))))) sa_nil)))
    sss_nil))
    (sss_cons (ss_ret (sv 2))
    sss_nil)))
theorem b_word_turned {P : Program} {w : World} {K : PySem.W.Frag} {mg : Str → Option Value} {base : Heap} {k : Nat} {C : CallF} (g : GF K mg) (a : Addr) (cdv : Value) (A : Around) (outer : List PySem.Env) (s : Shared) (H : Hp) (E : XK) (F : ∀ f a, (gb K).fa f = some a → FnC P w K mg base (gb K) C k f a)
    (hr : Room k (A.deeper (envOfC "word_turned" (defScope s_word_turned) s.heap.objs.size a cdv))) : PSs (cxOf CX0 P w K mg base N_word_turned "word_turned" (defScope s_word_turned) a cdv A outer s H E).nox (defBody s_word_turned) (tSs (gb K) C d_word_turned.body) := by
  have hu : (A.deeper (envOfC "word_turned" (defScope s_word_turned) s.heap.objs.size a cdv)).units + 65 < cLine := by have := hr.un; omega
  exact (sss_cons (ss_asg (sv 2) (sg_tup rfl rfl (sgs_cons (sgn 3 sc_word_turned.nd) (sgs_cons (sgn 4 sc_word_turned.nd) sgs_nil))))
    (sss_cons (ss_ret (se_bin (o := .add) rfl (se_bin (o := .add) rfl (se_slcH rfl (sv 1) (sv 4)) (se_sub rfl hu (se_sub rfl hu (sv 0) (sv 3)) se_int)) (se_slcL rfl (sv 1) (se_bin (o := .add) rfl (sv 4) (sb_len g.f_len rfl (sa_cons (se_sub rfl hu (se_sub rfl hu (sv 0) (sv 3)) se_int) sa_nil))))))
    sss_nil))
theorem b_is_word_step {P : Program} {w : World} {K : PySem.W.Frag} {mg : Str → Option Value} {base : Heap} {k : Nat} {C : CallF} (g : GF K mg) (a : Addr) (cdv : Value) (A : Around) (outer : List PySem.Env) (s : Shared) (H : Hp) (E : XK) (F : ∀ f a, (gb K).fa f = some a → FnC P w K mg base (gb K) C k f a)
    (hr : Room k (A.deeper (envOfC "is_word_step" (defScope s_is_word_step) s.heap.objs.size a cdv))) : PSs (cxOf CX0 P w K mg base N_is_word_step "is_word_step" (defScope s_is_word_step) a cdv A outer s H E).nox (defBody s_is_word_step) (tSs (gb K) C d_is_word_step.body) := by
  have hu : (A.deeper (envOfC "is_word_step" (defScope s_is_word_step) s.heap.objs.size a cdv)).units + 65 < cLine := by have := hr.un; omega
  exact (sss_cons (ss_if (PW.pt (sw_or (st_not (st_val (sisi .tuple g.f_isinstance g.f_tuple bt_tuple rfl (sv 0)))) (sw_or (st_cmp (o := .ne) rfl hu (by rfl) (sb_len g.f_len rfl (sa_cons (sv 0) sa_nil)) se_int) (sw_or1 (st_not (st_val (scall 0 F hr g.g_is_whole (sa_cons (se_sub rfl hu (sv 0) se_int) (sa_cons se_int (sa_cons (se_bin (o := .sub) rfl (sb_len g.f_len rfl (sa_cons (sv 1) sa_nil)) se_int) sa_nil)))))))))) (sss_cons (ss_ret se_bl)
    sss_nil) sss_nil)
    (sss_cons (ss_ret (se_and (scall 0 F hr g.g_is_whole (sa_cons (se_sub rfl hu (sv 0) se_int) (sa_cons se_int (sa_cons (se_bin (o := .sub) rfl (sb_len g.f_len rfl (sa_cons (sv 2) sa_nil)) se_int) sa_nil)))) (se_one (sm_start2 rfl (sv 2) (sa_cons (se_sub rfl hu (se_sub rfl hu (sv 1) (se_sub rfl hu (sv 0) se_int)) se_int) (sa_cons (se_sub rfl hu (sv 0) se_int) sa_nil))))))
    sss_nil))
theorem b_behind_word_row {P : Program} {w : World} {K : PySem.W.Frag} {mg : Str → Option Value} {base : Heap} {k : Nat} {C : CallF} (g : GF K mg) (a : Addr) (cdv : Value) (A : Around) (outer : List PySem.Env) (s : Shared) (H : Hp) (E : XK) (F : ∀ f a, (gb K).fa f = some a → FnC P w K mg base (gb K) C k f a)
    (hr : Room k (A.deeper (envOfC "behind_word_row" (defScope s_behind_word_row) s.heap.objs.size a cdv))) : PSs (cxOf CX0 P w K mg base N_behind_word_row "behind_word_row" (defScope s_behind_word_row) a cdv A outer s H E).nox (defBody s_behind_word_row) (tSs (gb K) C d_behind_word_row.body) := by
  have hu : (A.deeper (envOfC "behind_word_row" (defScope s_behind_word_row) s.heap.objs.size a cdv)).units + 65 < cLine := by have := hr.un; omega
  exact (sss_cons (ss_if (st_not (st_val (sisi .tuple g.f_isinstance g.f_tuple bt_tuple rfl (sv 2)))) (sss_cons (ss_ret se_non)
    sss_nil) sss_nil)
    (sss_cons (ss_for PassesOwn.never rfl (si_any rfl (sv 2)) (sgn 3 sc_behind_word_row.nd) (sss_cons (ss_if (st_not (st_val (scall 6 F hr g.g_is_word_step (sa_cons (sv 3) (sa_cons (sv 0) (sa_cons (sv 1) sa_nil)))))) (sss_cons (ss_ret se_non)
    sss_nil) sss_nil)
    (sss_cons (sset 1 sc_behind_word_row.nd (scall 5 F hr g.g_word_turned (sa_cons (sv 0) (sa_cons (sv 1) (sa_cons (sv 3) sa_nil)))))
    sss_nil)))
    (sss_cons (ss_ret (sv 1))
    sss_nil)))
theorem b_is_before {P : Program} {w : World} {K : PySem.W.Frag} {mg : Str → Option Value} {base : Heap} {k : Nat} {C : CallF} (g : GF K mg) (a : Addr) (cdv : Value) (A : Around) (outer : List PySem.Env) (s : Shared) (H : Hp) (E : XK) (F : ∀ f a, (gb K).fa f = some a → FnC P w K mg base (gb K) C k f a)
    (hr : Room k (A.deeper (envOfC "is_before" (defScope s_is_before) s.heap.objs.size a cdv))) : PSs (cxOf CX0 P w K mg base N_is_before "is_before" (defScope s_is_before) a cdv A outer s H E).nox (defBody s_is_before) (tSs (gb K) C d_is_before.body) := by
  have hu : (A.deeper (envOfC "is_before" (defScope s_is_before) s.heap.objs.size a cdv)).units + 65 < cLine := by have := hr.un; omega
  exact (sss_cons (ss_ret (se_cmp (o := .lt) rfl hu (by rfl) (se_tup (sa_cons (sb_len g.f_len rfl (sa_cons (sv 0) sa_nil)) (sa_cons (sv 0) sa_nil))) (se_tup (sa_cons (sb_len g.f_len rfl (sa_cons (sv 1) sa_nil)) (sa_cons (sv 1) sa_nil)))))
    sss_nil)
theorem b_go_down {P : Program} {w : World} {K : PySem.W.Frag} {mg : Str → Option Value} {base : Heap} {k : Nat} {C : CallF} (g : GF K mg) (a : Addr) (cdv : Value) (A : Around) (outer : List PySem.Env) (s : Shared) (H : Hp) (E : XK) (F : ∀ f a, (gb K).fa f = some a → FnC P w K mg base (gb K) C k f a)
    (hr : Room k (A.deeper (envOfC "go_down" (defScope s_go_down) s.heap.objs.size a cdv))) : PSs (cxOf CX0 P w K mg base N_go_down "go_down" (defScope s_go_down) a cdv A outer s H E).nox (defBody s_go_down) (tSs (gb K) C d_go_down.body) := by
  have hu : (A.deeper (envOfC "go_down" (defScope s_go_down) s.heap.objs.size a cdv)).units + 65 < cLine := by have := hr.un; omega
  exact (sss_cons (ss_ret (sb_all g.f_all rfl (sa_cons (se_comp (own := [("pair", 1)]) (by decide) rfl sc_go_down.nd (si_any rfl (sv 0)) (blkOk_by (by kernel_rfl)) (fun _ _ _ _ _ => (sgn 1 sc_go_down.nd)) (fun _ _ _ _ _ => sts_nil) (fun _ _ _ _ _ => (scall 8 F hr g.g_is_before (sa_cons (se_sub rfl hu (sv 1) se_int) (sa_cons (se_sub rfl hu (sv 1) se_int) sa_nil))))) sa_nil)))
    sss_nil)
theorem b_word_normal {P : Program} {w : World} {K : PySem.W.Frag} {mg : Str → Option Value} {base : Heap} {k : Nat} {C : CallF} (g : GF K mg) (a : Addr) (cdv : Value) (A : Around) (outer : List PySem.Env) (s : Shared) (H : Hp) (E : XK) (F : ∀ f a, (gb K).fa f = some a → FnC P w K mg base (gb K) C k f a)
    (hr : Room k (A.deeper (envOfC "word_normal" (defScope s_word_normal) s.heap.objs.size a cdv))) : PSs (cxOf CX0 P w K mg base N_word_normal "word_normal" (defScope s_word_normal) a cdv A outer s H E).nox (defBody s_word_normal) (tSs (gb K) C d_word_normal.body) := by
  have hu : (A.deeper (envOfC "word_normal" (defScope s_word_normal) s.heap.objs.size a cdv)).units + 65 < cLine := by have := hr.un; omega
  exact (sss_cons (sset 2 sc_word_normal.nd (sal_lst sa_nil))
    (sss_cons (sset 3 sc_word_normal.nd (scall 4 F hr g.g_word_steps (sa_cons (sv 0) (sa_cons (sv 1) sa_nil))))
    (sss_cons (ss_while PassesOwn.never (st_cmp (o := .gt) rfl hu (by rfl) (sb_len g.f_len rfl (sa_cons (sv 3) sa_nil)) se_int) (sss_cons (sset 1 sc_word_normal.nd (scall 5 F hr g.g_word_turned (sa_cons (sv 0) (sa_cons (sv 1) (sa_cons (se_sub rfl hu (sv 3) se_int) sa_nil)))))
    (sss_cons (ss_expr (sm_append rfl (sv 2) (sa_cons (se_sub rfl hu (sv 3) se_int) sa_nil)))
    (sss_cons (sset 3 sc_word_normal.nd (scall 4 F hr g.g_word_steps (sa_cons (sv 0) (sa_cons (sv 1) sa_nil))))
    sss_nil))))
    (sss_cons (ss_ret (se_tup (sa_cons (sv 1) (sa_cons (sb_tuple g.f_tuple rfl (sa_cons (sv 2) sa_nil)) sa_nil))))
    sss_nil))))
theorem b_overlaps {P : Program} {w : World} {K : PySem.W.Frag} {mg : Str → Option Value} {base : Heap} {k : Nat} {C : CallF} (g : GF K mg) (a : Addr) (cdv : Value) (A : Around) (outer : List PySem.Env) (s : Shared) (H : Hp) (E : XK) (F : ∀ f a, (gb K).fa f = some a → FnC P w K mg base (gb K) C k f a)
    (hr : Room k (A.deeper (envOfC "overlaps" (defScope s_overlaps) s.heap.objs.size a cdv))) : PSs (cxOf CX0 P w K mg base N_overlaps "overlaps" (defScope s_overlaps) a cdv A outer s H E).nox (defBody s_overlaps) (tSs (gb K) C d_overlaps.body) := by
  have hu : (A.deeper (envOfC "overlaps" (defScope s_overlaps) s.heap.objs.size a cdv)).units + 65 < cLine := by have := hr.un; omega
  exact (sss_cons (sset 1 sc_overlaps.nd (sal_lst sa_nil))
    (sss_cons (ss_for PassesOwn.never rfl (si_any rfl (sv 0)) (sg_tup rfl rfl (sgs_cons (sgn 2 sc_overlaps.nd) (sgs_cons (sgn 3 sc_overlaps.nd) sgs_nil))) (sss_cons (ss_for PassesOwn.never rfl (si_any rfl (sv 0)) (sg_tup rfl rfl (sgs_cons (sgn 4 sc_overlaps.nd) (sgs_cons (sgn 5 sc_overlaps.nd) sgs_nil))) (sss_cons (ss_for PassesOwn.never rfl (si_range2 rfl g.f_range se_int (sb_min g.f_min rfl (sa_cons (sb_len g.f_len rfl (sa_cons (sv 2) sa_nil)) (sa_cons (sb_len g.f_len rfl (sa_cons (sv 4) sa_nil)) sa_nil)))) (sgn 6 sc_overlaps.nd) (sss_cons (ss_if (st_cmp (o := .eq) rfl hu (by rfl) (se_slcL rfl (sv 2) (se_neg (sv 6))) (se_slcH rfl (sv 4) (sv 6))) (sss_cons (ss_expr (sm_append rfl (sv 1) (sa_cons (se_tup (sa_cons (se_bin (o := .add) rfl (sv 2) (se_slcL rfl (sv 4) (sv 6))) (sa_cons (se_bin (o := .add) rfl (sv 3) (se_slcL rfl (sv 4) (sv 6))) (sa_cons (se_bin (o := .add) rfl (se_slcH rfl (sv 2) (se_neg (sv 6))) (sv 5)) sa_nil)))) sa_nil)))
    sss_nil) sss_nil)
    sss_nil))
    (sss_cons (ss_for PassesOwn.never rfl (si_range1 rfl g.f_range (se_bin (o := .add) rfl (se_bin (o := .sub) rfl (sb_len g.f_len rfl (sa_cons (sv 2) sa_nil)) (sb_len g.f_len rfl (sa_cons (sv 4) sa_nil))) se_int)) (sgn 7 sc_overlaps.nd) (sss_cons (ss_if (PW.pt (sw_and (st_val (sm_start2 rfl (sv 2) (sa_cons (sv 4) (sa_cons (sv 7) sa_nil)))) (sw_and1 (st_cmp (o := .ne) rfl hu (by rfl) (se_tup (sa_cons (sv 2) (sa_cons (sv 3) sa_nil))) (se_tup (sa_cons (sv 4) (sa_cons (sv 5) sa_nil))))))) (sss_cons (ss_expr (sm_append rfl (sv 1) (sa_cons (se_tup (sa_cons (sv 2) (sa_cons (sv 3) (sa_cons (se_bin (o := .add) rfl (se_bin (o := .add) rfl (se_slcH rfl (sv 2) (sv 7)) (sv 5)) (se_slcL rfl (sv 2) (se_bin (o := .add) rfl (sv 7) (sb_len g.f_len rfl (sa_cons (sv 4) sa_nil))))) sa_nil)))) sa_nil)))
    sss_nil) sss_nil)
    sss_nil))
    sss_nil)))
    sss_nil))
    (sss_cons (ss_ret (sv 1))
    sss_nil)))
theorem b_words_meet {P : Program} {w : World} {K : PySem.W.Frag} {mg : Str → Option Value} {base : Heap} {k : Nat} {C : CallF} (g : GF K mg) (a : Addr) (cdv : Value) (A : Around) (outer : List PySem.Env) (s : Shared) (H : Hp) (E : XK) (F : ∀ f a, (gb K).fa f = some a → FnC P w K mg base (gb K) C k f a)
    (hr : Room k (A.deeper (envOfC "words_meet" (defScope s_words_meet) s.heap.objs.size a cdv))) : PSs (cxOf CX0 P w K mg base N_words_meet "words_meet" (defScope s_words_meet) a cdv A outer s H E).nox (defBody s_words_meet) (tSs (gb K) C d_words_meet.body) := by
  have hu : (A.deeper (envOfC "words_meet" (defScope s_words_meet) s.heap.objs.size a cdv)).units + 65 < cLine := by have := hr.un; omega
  exact (sss_cons (ss_for PassesOwn.never rfl (si_any rfl (scall 11 F hr g.g_overlaps (sa_cons (sv 0) sa_nil))) (sg_tup rfl rfl (sgs_cons (sgn 1 sc_words_meet.nd) (sgs_cons (sgn 2 sc_words_meet.nd) (sgs_cons (sgn 3 sc_words_meet.nd) sgs_nil)))) (sss_cons (spar 4 5 sc_words_meet.nd (se_sub rfl hu (scall 10 F hr g.g_word_normal (sa_cons (sv 0) (sa_cons (sv 2) sa_nil))) se_int) (se_sub rfl hu (scall 10 F hr g.g_word_normal (sa_cons (sv 0) (sa_cons (sv 3) sa_nil))) se_int) (by rfl))
    (sss_cons (ss_if (st_cmp (o := .ne) rfl hu (by rfl) (sv 4) (sv 5)) (sss_cons (ss_ret (se_tup (sa_cons (se_str (by decide +kernel)) (sa_cons (sv 1) (sa_cons (sv 4) (sa_cons (sv 5) sa_nil))))))
    sss_nil) sss_nil)
    sss_nil)))
    (sss_cons (ss_ret (se_tup (sa_cons (se_str (by decide +kernel)) sa_nil)))
    sss_nil))
theorem b_are_same_words {P : Program} {w : World} {K : PySem.W.Frag} {mg : Str → Option Value} {base : Heap} {k : Nat} {C : CallF} (g : GF K mg) (a : Addr) (cdv : Value) (A : Around) (outer : List PySem.Env) (s : Shared) (H : Hp) (E : XK) (F : ∀ f a, (gb K).fa f = some a → FnC P w K mg base (gb K) C k f a)
    (hr : Room k (A.deeper (envOfC "are_same_words" (defScope s_are_same_words) s.heap.objs.size a cdv))) : PSs (cxOf CX0 P w K mg base N_are_same_words "are_same_words" (defScope s_are_same_words) a cdv A outer s H E).nox (defBody s_are_same_words) (tSs (gb K) C d_are_same_words.body) := by
  have hu : (A.deeper (envOfC "are_same_words" (defScope s_are_same_words) s.heap.objs.size a cdv)).units + 65 < cLine := by have := hr.un; omega
  exact (sss_cons (ss_ret (se_cmp (o := .eq) rfl hu (by rfl) (se_sub rfl hu (scall 10 F hr g.g_word_normal (sa_cons (sv 0) (sa_cons (sv 1) sa_nil))) se_int) (se_sub rfl hu (scall 10 F hr g.g_word_normal (sa_cons (sv 0) (sa_cons (sv 2) sa_nil))) se_int)))
    sss_nil)
theorem b_product {P : Program} {w : World} {K : PySem.W.Frag} {mg : Str → Option Value} {base : Heap} {k : Nat} {C : CallF} (g : GF K mg) (a : Addr) (cdv : Value) (A : Around) (outer : List PySem.Env) (s : Shared) (H : Hp) (E : XK) (F : ∀ f a, (gb K).fa f = some a → FnC P w K mg base (gb K) C k f a)
    (hr : Room k (A.deeper (envOfC "product" (defScope s_product) s.heap.objs.size a cdv))) : PSs (cxOf CX0 P w K mg base N_product "product" (defScope s_product) a cdv A outer s H E).nox (defBody s_product) (tSs (gb K) C d_product.body) := by
  have hu : (A.deeper (envOfC "product" (defScope s_product) s.heap.objs.size a cdv)).units + 65 < cLine := by have := hr.un; omega
  exact (sss_cons (ss_ret (se_sub rfl hu (scall 10 F hr g.g_word_normal (sa_cons (sv 0) (sa_cons (se_bin (o := .add) rfl (sv 1) (sv 2)) sa_nil))) se_int))
    sss_nil)
theorem b_l_state {P : Program} {w : World} {K : PySem.W.Frag} {mg : Str → Option Value} {base : Heap} {k : Nat} {C : CallF} (g : GF K mg) (a : Addr) (cdv : Value) (A : Around) (outer : List PySem.Env) (s : Shared) (H : Hp) (E : XK) (F : ∀ f a, (gb K).fa f = some a → FnC P w K mg base (gb K) C k f a)
    (hr : Room k (A.deeper (envOfC "_law_state" (defScope s_l_state) s.heap.objs.size a cdv))) : PSs (cxOf CX0 P w K mg base N_l_state "_law_state" (defScope s_l_state) a cdv A outer s H E).nox (defBody s_l_state) (tSs (gb K) C d_l_state.body) := by
  have hu : (A.deeper (envOfC "_law_state" (defScope s_l_state) s.heap.objs.size a cdv)).units + 65 < cLine := by have := hr.un; omega
  exact (sss_cons (ss_setLcA (i := 1) (own := [("cell", 2)]) (by decide) rfl sc_l_state.nd rfl rfl (sw_true rfl rfl rfl (by rfl)) (si_any rfl (se_slcH rfl (sv 0) se_int)) (blkOk_by (by kernel_rfl)) (fun _ _ _ _ _ => (sgn 2 sc_l_state.nd)) (fun _ _ _ _ _ => sts_nil) (fun _ _ _ _ _ => (sb_abs g.f_abs rfl (sa_cons (sv 2) sa_nil))))
    (sss_cons (ss_if (st_cmp (o := .eq) rfl hu (by rfl) (sb_len g.f_len rfl (sa_cons (sv 1) sa_nil)) se_int) (sss_cons (sset 1 sc_l_state.nd (sal_lst (sa_cons se_int sa_nil)))
    sss_nil) sss_nil)
    (sss_cons (ss_ret (sal_lst (sa_cons se_int (sa_cons (sv 1) sa_nil))))
    sss_nil)))
theorem b_l_take {P : Program} {w : World} {K : PySem.W.Frag} {mg : Str → Option Value} {base : Heap} {k : Nat} {C : CallF} (g : GF K mg) (a : Addr) (cdv : Value) (A : Around) (outer : List PySem.Env) (s : Shared) (H : Hp) (E : XK) (F : ∀ f a, (gb K).fa f = some a → FnC P w K mg base (gb K) C k f a)
    (hr : Room k (A.deeper (envOfC "_law_take" (defScope s_l_take) s.heap.objs.size a cdv))) : PSs (cxOf CX0 P w K mg base N_l_take "_law_take" (defScope s_l_take) a cdv A outer s H E).nox (defBody s_l_take) (tSs (gb K) C d_l_take.body) := by
  have hu : (A.deeper (envOfC "_law_take" (defScope s_l_take) s.heap.objs.size a cdv)).units + 65 < cLine := by have := hr.un; omega
  exact (sss_cons (ss_if (st_cmp (o := .lt) rfl hu (by rfl) (sv 1) se_int) (sss_cons (ss_ret se_int)
    sss_nil) sss_nil)
    (sss_cons (sset 2 sc_l_take.nd (se_sub rfl hu (sv 0) se_int))
    (sss_cons (sset 3 sc_l_take.nd (se_bin (o := .mod) rfl (sb_int g.f_int rfl (sa_cons (se_sub rfl hu (sv 0) se_int) sa_nil)) (sb_len g.f_len rfl (sa_cons (sv 2) sa_nil))))
    (sss_cons (sset 4 sc_l_take.nd (se_sub rfl hu (sv 2) (sv 3)))
    (sss_cons (ss_if (st_cmp (o := .ge) rfl hu (by rfl) (sv 4) se_int) (sss_cons (ss_sti hu (se_bin (o := .fdiv) rfl (sv 4) (sv 1)) (sv 2) (sv 3))
    (sss_cons (ss_ret (se_bin (o := .mod) rfl (sb_int g.f_int rfl (sa_cons (sv 4) sa_nil)) (sv 1)))
    sss_nil)) sss_nil)
    (sss_cons (ss_sti hu (se_bin (o := .add) rfl (se_sub rfl hu (sv 0) se_int) se_int) (sv 0) se_int)
    (sss_cons (sset 5 sc_l_take.nd (se_bin (o := .mod) rfl (sb_int g.f_int rfl (sa_cons (se_bin (o := .add) rfl (se_bin (o := .mul) rfl (sv 4) se_int) (se_bin (o := .mul) rfl (se_sub rfl hu (sv 0) se_int) se_int)) sa_nil)) se_int))
    (sss_cons (sset 5 sc_l_take.nd (se_bin (o := .mod) rfl (sb_int g.f_int rfl (sa_cons (se_bin (o := .add) rfl (se_bin (o := .mul) rfl (sv 5) se_int) (se_bin (o := .mul) rfl (se_sub rfl hu (sv 0) se_int) se_int)) sa_nil)) se_int))
    (sss_cons (ss_ret (se_bin (o := .mod) rfl (sb_int g.f_int rfl (sa_cons (se_bin (o := .fdiv) rfl (sv 5) se_int) sa_nil)) (sv 1)))
    sss_nil)))))))))
theorem b_l_pick {P : Program} {w : World} {K : PySem.W.Frag} {mg : Str → Option Value} {base : Heap} {k : Nat} {C : CallF} (g : GF K mg) (a : Addr) (cdv : Value) (A : Around) (outer : List PySem.Env) (s : Shared) (H : Hp) (E : XK) (F : ∀ f a, (gb K).fa f = some a → FnC P w K mg base (gb K) C k f a)
    (hr : Room k (A.deeper (envOfC "_law_pick" (defScope s_l_pick) s.heap.objs.size a cdv))) : PSs (cxOf CX0 P w K mg base N_l_pick "_law_pick" (defScope s_l_pick) a cdv A outer s H E).nox (defBody s_l_pick) (tSs (gb K) C d_l_pick.body) := by
  have hu : (A.deeper (envOfC "_law_pick" (defScope s_l_pick) s.heap.objs.size a cdv)).units + 65 < cLine := by have := hr.un; omega
  exact (sss_cons (ss_ret (se_sub rfl hu (sv 1) (scall 16 F hr g.g_u_law_take (sa_cons (sv 0) (sa_cons (sb_len g.f_len rfl (sa_cons (sv 1) sa_nil)) sa_nil)))))
    sss_nil)
theorem b_l_letters {P : Program} {w : World} {K : PySem.W.Frag} {mg : Str → Option Value} {base : Heap} {k : Nat} {C : CallF} (g : GF K mg) (a : Addr) (cdv : Value) (A : Around) (outer : List PySem.Env) (s : Shared) (H : Hp) (E : XK) (F : ∀ f a, (gb K).fa f = some a → FnC P w K mg base (gb K) C k f a)
    (hr : Room k (A.deeper (envOfC "_law_letters" (defScope s_l_letters) s.heap.objs.size a cdv))) : PSs (cxOf CX0 P w K mg base N_l_letters "_law_letters" (defScope s_l_letters) a cdv A outer s H E).nox (defBody s_l_letters) (tSs (gb K) C d_l_letters.body) := by
  have hu : (A.deeper (envOfC "_law_letters" (defScope s_l_letters) s.heap.objs.size a cdv)).units + 65 < cLine := by have := hr.un; omega
  exact (sss_cons (ss_ret (scall 17 F hr g.g_u_law_pick (sa_cons (sv 0) (sa_cons (se_lst (sa_cons (se_str (by decide +kernel)) (sa_cons (se_str (by decide +kernel)) (sa_cons (se_str (by decide +kernel)) (sa_cons (se_str (by decide +kernel)) sa_nil))))) sa_nil))))
    sss_nil)
theorem b_l_word {P : Program} {w : World} {K : PySem.W.Frag} {mg : Str → Option Value} {base : Heap} {k : Nat} {C : CallF} (g : GF K mg) (a : Addr) (cdv : Value) (A : Around) (outer : List PySem.Env) (s : Shared) (H : Hp) (E : XK) (F : ∀ f a, (gb K).fa f = some a → FnC P w K mg base (gb K) C k f a)
    (hr : Room k (A.deeper (envOfC "_law_word" (defScope s_l_word) s.heap.objs.size a cdv))) : PSs (cxOf CX0 P w K mg base N_l_word "_law_word" (defScope s_l_word) a cdv A outer s H E).nox (defBody s_l_word) (tSs (gb K) C d_l_word.body) := by
  have hu : (A.deeper (envOfC "_law_word" (defScope s_l_word) s.heap.objs.size a cdv)).units + 65 < cLine := by have := hr.un; omega
  exact (sss_cons (ss_ret (sm_join rfl (se_str (by decide +kernel)) (sa_cons (se_comp (own := [("k", 3)]) (by decide) rfl sc_l_word.nd (si_range1 rfl g.f_range (scall 16 F hr g.g_u_law_take (sa_cons (sv 0) (sa_cons (se_bin (o := .add) rfl (sv 2) se_int) sa_nil)))) (blkOk_by (by kernel_rfl)) (fun _ _ _ _ _ => (sgn 3 sc_l_word.nd)) (fun _ _ _ _ _ => sts_nil) (fun _ _ _ _ _ => (scall 17 F hr g.g_u_law_pick (sa_cons (sv 0) (sa_cons (sv 1) sa_nil))))) sa_nil)))
    sss_nil)
theorem b_l_before {P : Program} {w : World} {K : PySem.W.Frag} {mg : Str → Option Value} {base : Heap} {k : Nat} {C : CallF} (g : GF K mg) (a : Addr) (cdv : Value) (A : Around) (outer : List PySem.Env) (s : Shared) (H : Hp) (E : XK) (F : ∀ f a, (gb K).fa f = some a → FnC P w K mg base (gb K) C k f a)
    (hr : Room k (A.deeper (envOfC "_law_before" (defScope s_l_before) s.heap.objs.size a cdv))) : PSs (cxOf CX0 P w K mg base N_l_before "_law_before" (defScope s_l_before) a cdv A outer s H E).nox (defBody s_l_before) (tSs (gb K) C d_l_before.body) := by
  have hu : (A.deeper (envOfC "_law_before" (defScope s_l_before) s.heap.objs.size a cdv)).units + 65 < cLine := by have := hr.un; omega
  exact (sss_cons (ss_ret (se_or (se_cmp (o := .lt) rfl hu (by rfl) (sb_len g.f_len rfl (sa_cons (sv 0) sa_nil)) (sb_len g.f_len rfl (sa_cons (sv 1) sa_nil))) (se_one (se_and (se_cmp (o := .eq) rfl hu (by rfl) (sb_len g.f_len rfl (sa_cons (sv 0) sa_nil)) (sb_len g.f_len rfl (sa_cons (sv 1) sa_nil))) (se_one (se_cmp (o := .lt) rfl hu (by rfl) (sv 0) (sv 1)))))))
    sss_nil)
theorem b_l_rules {P : Program} {w : World} {K : PySem.W.Frag} {mg : Str → Option Value} {base : Heap} {k : Nat} {C : CallF} (g : GF K mg) (a : Addr) (cdv : Value) (A : Around) (outer : List PySem.Env) (s : Shared) (H : Hp) (E : XK) (F : ∀ f a, (gb K).fa f = some a → FnC P w K mg base (gb K) C k f a)
    (hr : Room k (A.deeper (envOfC "_law_rules" (defScope s_l_rules) s.heap.objs.size a cdv))) : PSs (cxOf CX0 P w K mg base N_l_rules "_law_rules" (defScope s_l_rules) a cdv A outer s H E).nox (defBody s_l_rules) (tSs (gb K) C d_l_rules.body) := by
  have hu : (A.deeper (envOfC "_law_rules" (defScope s_l_rules) s.heap.objs.size a cdv)).units + 65 < cLine := by have := hr.un; omega
  exact (sss_cons (sset 3 sc_l_rules.nd (sal_lst sa_nil))
    (sss_cons (ss_for PassesOwn.never rfl (si_range1 rfl g.f_range (scall 16 F hr g.g_u_law_take (sa_cons (sv 0) (sa_cons (se_bin (o := .add) rfl (sv 2) se_int) sa_nil)))) (sgn 4 sc_l_rules.nd) (sss_cons (spar 5 6 sc_l_rules.nd (scall 19 F hr g.g_u_law_word (sa_cons (sv 0) (sa_cons (sv 1) (sa_cons se_int sa_nil)))) (scall 19 F hr g.g_u_law_word (sa_cons (sv 0) (sa_cons (sv 1) (sa_cons se_int sa_nil)))) (by rfl))
    (sss_cons (ss_if (st_cmp (o := .ne) rfl hu (by rfl) (sv 5) (sv 6)) (sss_cons (ss_expr (sm_append rfl (sv 3) (sa_cons (se_ite (st_val (scall 20 F hr g.g_u_law_before (sa_cons (sv 5) (sa_cons (sv 6) sa_nil)))) (se_tup (sa_cons (sv 6) (sa_cons (sv 5) sa_nil))) (se_tup (sa_cons (sv 5) (sa_cons (sv 6) sa_nil)))) sa_nil)))
    sss_nil) sss_nil)
    sss_nil)))
    (sss_cons (ss_ret (sb_tuple g.f_tuple rfl (sa_cons (sv 3) sa_nil)))
    sss_nil)))
theorem b_l_steps {P : Program} {w : World} {K : PySem.W.Frag} {mg : Str → Option Value} {base : Heap} {k : Nat} {C : CallF} (g : GF K mg) (a : Addr) (cdv : Value) (A : Around) (outer : List PySem.Env) (s : Shared) (H : Hp) (E : XK) (F : ∀ f a, (gb K).fa f = some a → FnC P w K mg base (gb K) C k f a)
    (hr : Room k (A.deeper (envOfC "_law_steps" (defScope s_l_steps) s.heap.objs.size a cdv))) : PSs (cxOf CX0 P w K mg base N_l_steps "_law_steps" (defScope s_l_steps) a cdv A outer s H E).nox (defBody s_l_steps) (tSs (gb K) C d_l_steps.body) := by
  have hu : (A.deeper (envOfC "_law_steps" (defScope s_l_steps) s.heap.objs.size a cdv)).units + 65 < cLine := by have := hr.un; omega
  exact (sss_cons (sset 2 sc_l_steps.nd (se_lst sa_nil))
    (sss_cons (ss_for PassesOwn.never rfl (si_range1 rfl g.f_range (sb_len g.f_len rfl (sa_cons (sv 1) sa_nil))) (sgn 3 sc_l_steps.nd) (sss_cons (sset 2 sc_l_steps.nd (se_bin (o := .add) rfl (sv 2) (se_comp (own := [("k", 4)]) (by decide) rfl sc_l_steps.nd (si_range1 rfl g.f_range (sb_len g.f_len rfl (sa_cons (sv 0) sa_nil))) (blkOk_by (by kernel_rfl)) (fun _ _ _ _ _ => (sgn 4 sc_l_steps.nd)) (fun _ _ _ _ _ => (pts_one (st_cmp (o := .eq) rfl hu (by rfl) (se_slcB rfl (sv 1) (sv 3) (se_bin (o := .add) rfl (sv 3) (sb_len g.f_len rfl (sa_cons (se_sub rfl hu (se_sub rfl hu (sv 0) (sv 4)) se_int) sa_nil)))) (se_sub rfl hu (se_sub rfl hu (sv 0) (sv 4)) se_int)))) (fun _ _ _ _ _ => (se_tup (sa_cons (sv 4) (sa_cons (sv 3) sa_nil)))))))
    sss_nil))
    (sss_cons (ss_ret (sv 2))
    sss_nil)))
theorem b_l_turned {P : Program} {w : World} {K : PySem.W.Frag} {mg : Str → Option Value} {base : Heap} {k : Nat} {C : CallF} (g : GF K mg) (a : Addr) (cdv : Value) (A : Around) (outer : List PySem.Env) (s : Shared) (H : Hp) (E : XK) (F : ∀ f a, (gb K).fa f = some a → FnC P w K mg base (gb K) C k f a)
    (hr : Room k (A.deeper (envOfC "_law_turned" (defScope s_l_turned) s.heap.objs.size a cdv))) : PSs (cxOf CX0 P w K mg base N_l_turned "_law_turned" (defScope s_l_turned) a cdv A outer s H E).nox (defBody s_l_turned) (tSs (gb K) C d_l_turned.body) := by
  have hu : (A.deeper (envOfC "_law_turned" (defScope s_l_turned) s.heap.objs.size a cdv)).units + 65 < cLine := by have := hr.un; omega
  exact (sss_cons (ss_ret (se_bin (o := .add) rfl (se_bin (o := .add) rfl (se_slcH rfl (sv 1) (se_sub rfl hu (sv 2) se_int)) (se_sub rfl hu (se_sub rfl hu (sv 0) (se_sub rfl hu (sv 2) se_int)) se_int)) (se_slcL rfl (sv 1) (se_bin (o := .add) rfl (se_sub rfl hu (sv 2) se_int) (sb_len g.f_len rfl (sa_cons (se_sub rfl hu (se_sub rfl hu (sv 0) (se_sub rfl hu (sv 2) se_int)) se_int) sa_nil))))))
    sss_nil)
theorem b_l_normal {P : Program} {w : World} {K : PySem.W.Frag} {mg : Str → Option Value} {base : Heap} {k : Nat} {C : CallF} (g : GF K mg) (a : Addr) (cdv : Value) (A : Around) (outer : List PySem.Env) (s : Shared) (H : Hp) (E : XK) (F : ∀ f a, (gb K).fa f = some a → FnC P w K mg base (gb K) C k f a)
    (hr : Room k (A.deeper (envOfC "_law_normal" (defScope s_l_normal) s.heap.objs.size a cdv))) : PSs (cxOf CX0 P w K mg base N_l_normal "_law_normal" (defScope s_l_normal) a cdv A outer s H E).nox (defBody s_l_normal) (tSs (gb K) C d_l_normal.body) := by
  have hu : (A.deeper (envOfC "_law_normal" (defScope s_l_normal) s.heap.objs.size a cdv)).units + 65 < cLine := by have := hr.un; omega
  exact (sss_cons (sset 2 sc_l_normal.nd (sal_lst sa_nil))
    (sss_cons (ss_while PassesOwn.never (st_cmp (o := .ne) rfl hu (by rfl) (scall 22 F hr g.g_u_law_steps (sa_cons (sv 0) (sa_cons (sv 1) sa_nil))) (se_lst sa_nil)) (sss_cons (ss_expr (sm_append rfl (sv 2) (sa_cons (se_sub rfl hu (scall 22 F hr g.g_u_law_steps (sa_cons (sv 0) (sa_cons (sv 1) sa_nil))) se_int) sa_nil)))
    (sss_cons (sset 1 sc_l_normal.nd (scall 23 F hr g.g_u_law_turned (sa_cons (sv 0) (sa_cons (sv 1) (sa_cons (se_sub rfl hu (sv 2) (se_neg se_int)) sa_nil)))))
    sss_nil)))
    (sss_cons (ss_ret (se_tup (sa_cons (sv 1) (sa_cons (sb_tuple g.f_tuple rfl (sa_cons (sv 2) sa_nil)) sa_nil))))
    sss_nil)))
theorem b_l_pairs {P : Program} {w : World} {K : PySem.W.Frag} {mg : Str → Option Value} {base : Heap} {k : Nat} {C : CallF} (g : GF K mg) (a : Addr) (cdv : Value) (A : Around) (outer : List PySem.Env) (s : Shared) (H : Hp) (E : XK) (F : ∀ f a, (gb K).fa f = some a → FnC P w K mg base (gb K) C k f a)
    (hr : Room k (A.deeper (envOfC "_law_pairs" (defScope s_l_pairs) s.heap.objs.size a cdv))) : PSs (cxOf CX0 P w K mg base N_l_pairs "_law_pairs" (defScope s_l_pairs) a cdv A outer s H E).nox (defBody s_l_pairs) (tSs (gb K) C d_l_pairs.body) := by
  have hu : (A.deeper (envOfC "_law_pairs" (defScope s_l_pairs) s.heap.objs.size a cdv)).units + 65 < cLine := by have := hr.un; omega
  exact (sss_cons (sset 1 sc_l_pairs.nd (sal_lst sa_nil))
    (sss_cons (ss_for PassesOwn.never rfl (si_any rfl (sv 0)) (sg_tup rfl rfl (sgs_cons (sgn 2 sc_l_pairs.nd) (sgs_cons (sgn 3 sc_l_pairs.nd) sgs_nil))) (sss_cons (ss_for PassesOwn.never rfl (si_any rfl (sv 0)) (sg_tup rfl rfl (sgs_cons (sgn 4 sc_l_pairs.nd) (sgs_cons (sgn 5 sc_l_pairs.nd) sgs_nil))) (sss_cons (ss_for PassesOwn.never rfl (si_range2 rfl g.f_range se_int (sb_min g.f_min rfl (sa_cons (sb_len g.f_len rfl (sa_cons (sv 2) sa_nil)) (sa_cons (sb_len g.f_len rfl (sa_cons (sv 4) sa_nil)) sa_nil)))) (sgn 6 sc_l_pairs.nd) (sss_cons (ss_if (st_cmp (o := .eq) rfl hu (by rfl) (se_slcL rfl (sv 2) (se_bin (o := .sub) rfl (sb_len g.f_len rfl (sa_cons (sv 2) sa_nil)) (sv 6))) (se_slcH rfl (sv 4) (sv 6))) (sss_cons (ss_expr (sm_append rfl (sv 1) (sa_cons (se_tup (sa_cons (se_bin (o := .add) rfl (sv 2) (se_slcL rfl (sv 4) (sv 6))) (sa_cons (se_bin (o := .add) rfl (sv 3) (se_slcL rfl (sv 4) (sv 6))) (sa_cons (se_bin (o := .add) rfl (se_slcH rfl (sv 2) (se_bin (o := .sub) rfl (sb_len g.f_len rfl (sa_cons (sv 2) sa_nil)) (sv 6))) (sv 5)) sa_nil)))) sa_nil)))
    sss_nil) sss_nil)
    sss_nil))
    (sss_cons (ss_for PassesOwn.never rfl (si_range1 rfl g.f_range (se_bin (o := .add) rfl (se_bin (o := .sub) rfl (sb_len g.f_len rfl (sa_cons (sv 2) sa_nil)) (sb_len g.f_len rfl (sa_cons (sv 4) sa_nil))) se_int)) (sgn 7 sc_l_pairs.nd) (sss_cons (ss_if (PW.pt (sw_and (st_cmp (o := .eq) rfl hu (by rfl) (se_slcB rfl (sv 2) (sv 7) (se_bin (o := .add) rfl (sv 7) (sb_len g.f_len rfl (sa_cons (sv 4) sa_nil)))) (sv 4)) (sw_and1 (st_cmp (o := .ne) rfl hu (by rfl) (se_tup (sa_cons (sv 2) (sa_cons (sv 3) sa_nil))) (se_tup (sa_cons (sv 4) (sa_cons (sv 5) sa_nil))))))) (sss_cons (ss_expr (sm_append rfl (sv 1) (sa_cons (se_tup (sa_cons (sv 2) (sa_cons (sv 3) (sa_cons (se_bin (o := .add) rfl (se_bin (o := .add) rfl (se_slcH rfl (sv 2) (sv 7)) (sv 5)) (se_slcL rfl (sv 2) (se_bin (o := .add) rfl (sv 7) (sb_len g.f_len rfl (sa_cons (sv 4) sa_nil))))) sa_nil)))) sa_nil)))
    sss_nil) sss_nil)
    sss_nil))
    sss_nil)))
    sss_nil))
    (sss_cons (ss_ret (sv 1))
    sss_nil)))
theorem b_l_ends {P : Program} {w : World} {K : PySem.W.Frag} {mg : Str → Option Value} {base : Heap} {k : Nat} {C : CallF} (g : GF K mg) (a : Addr) (cdv : Value) (A : Around) (outer : List PySem.Env) (s : Shared) (H : Hp) (E : XK) (F : ∀ f a, (gb K).fa f = some a → FnC P w K mg base (gb K) C k f a)
    (hr : Room k (A.deeper (envOfC "_law_ends" (defScope s_l_ends) s.heap.objs.size a cdv))) : PSs (cxOf CX0 P w K mg base N_l_ends "_law_ends" (defScope s_l_ends) a cdv A outer s H E).nox (defBody s_l_ends) (tSs (gb K) C d_l_ends.body) := by
  have hu : (A.deeper (envOfC "_law_ends" (defScope s_l_ends) s.heap.objs.size a cdv)).units + 65 < cLine := by have := hr.un; omega
  exact (sss_cons (spar3 2 3 4 sc_l_ends.nd (se_lst (sa_cons (sv 1) sa_nil)) (sal_lst (sa_cons (sv 1) sa_nil)) (sal_lst sa_nil) (by rfl))
    (sss_cons (ss_while PassesOwn.never (st_cmp (o := .ne) rfl hu (by rfl) (sv 2) (se_lst sa_nil)) (sss_cons (sset 5 sc_l_ends.nd (sal_lst sa_nil))
    (sss_cons (ss_for PassesOwn.never rfl (si_any rfl (sv 2)) (sgn 6 sc_l_ends.nd) (sss_cons (sset 7 sc_l_ends.nd (scall 22 F hr g.g_u_law_steps (sa_cons (sv 0) (sa_cons (sv 6) sa_nil))))
    (sss_cons (ss_if (PW.pt (sw_and (st_cmp (o := .eq) rfl hu (by rfl) (sv 7) (se_lst sa_nil)) (sw_and1 (st_cmp (o := .nmem) rfl hu (by rfl) (sv 6) (sv 4))))) (sss_cons (ss_expr (sm_append rfl (sv 4) (sa_cons (sv 6) sa_nil)))
    sss_nil) sss_nil)
    (sss_cons (ss_for PassesOwn.never rfl (si_any rfl (sv 7)) (sgn 8 sc_l_ends.nd) (sss_cons (sset 9 sc_l_ends.nd (scall 23 F hr g.g_u_law_turned (sa_cons (sv 0) (sa_cons (sv 6) (sa_cons (sv 8) sa_nil)))))
    (sss_cons (ss_if (PW.pt (sw_and (st_cmp (o := .nmem) rfl hu (by rfl) (sv 9) (sv 3)) (sw_and1 (st_cmp (o := .lt) rfl hu (by rfl) (sb_len g.f_len rfl (sa_cons (sv 3) sa_nil)) se_int)))) (sss_cons (ss_expr (sm_append rfl (sv 3) (sa_cons (sv 9) sa_nil)))
    (sss_cons (ss_expr (sm_append rfl (sv 5) (sa_cons (sv 9) sa_nil)))
    sss_nil)) sss_nil)
    sss_nil)))
    sss_nil))))
    (sss_cons (sset 2 sc_l_ends.nd (sv 5))
    sss_nil))))
    (sss_cons (ss_ret (se_ite (st_cmp (o := .lt) rfl hu (by rfl) (sb_len g.f_len rfl (sa_cons (sv 3) sa_nil)) se_int) (sv 4) se_non))
    sss_nil)))
theorem b_l_row {P : Program} {w : World} {K : PySem.W.Frag} {mg : Str → Option Value} {base : Heap} {k : Nat} {C : CallF} (g : GF K mg) (a : Addr) (cdv : Value) (A : Around) (outer : List PySem.Env) (s : Shared) (H : Hp) (E : XK) (F : ∀ f a, (gb K).fa f = some a → FnC P w K mg base (gb K) C k f a)
    (hr : Room k (A.deeper (envOfC "_law_row" (defScope s_l_row) s.heap.objs.size a cdv))) : PSs (cxOf CX0 P w K mg base N_l_row "_law_row" (defScope s_l_row) a cdv A outer s H E).nox (defBody s_l_row) (tSs (gb K) C d_l_row.body) := by
  have hu : (A.deeper (envOfC "_law_row" (defScope s_l_row) s.heap.objs.size a cdv)).units + 65 < cLine := by have := hr.un; omega
  exact (sss_cons (sset 3 sc_l_row.nd (sal_lst sa_nil))
    (sss_cons (ss_for PassesOwn.never rfl (si_range1 rfl g.f_range (scall 16 F hr g.g_u_law_take (sa_cons (sv 0) (sa_cons se_int sa_nil)))) (sgn 4 sc_l_row.nd) (sss_cons (sset 5 sc_l_row.nd (scall 22 F hr g.g_u_law_steps (sa_cons (sv 1) (sa_cons (sv 2) sa_nil))))
    (sss_cons (ss_if (PW.pt (sw_and (st_cmp (o := .ne) rfl hu (by rfl) (sv 5) (se_lst sa_nil)) (sw_and1 (st_cmp (o := .lt) rfl hu (by rfl) (sb_len g.f_len rfl (sa_cons (sv 2) sa_nil)) se_int)))) (sss_cons (ss_expr (sm_append rfl (sv 3) (sa_cons (scall 17 F hr g.g_u_law_pick (sa_cons (sv 0) (sa_cons (sv 5) sa_nil))) sa_nil)))
    (sss_cons (sset 2 sc_l_row.nd (scall 23 F hr g.g_u_law_turned (sa_cons (sv 1) (sa_cons (sv 2) (sa_cons (se_sub rfl hu (sv 3) (se_neg se_int)) sa_nil)))))
    sss_nil)) sss_nil)
    sss_nil)))
    (sss_cons (ss_ret (se_tup (sa_cons (sb_tuple g.f_tuple rfl (sa_cons (sv 3) sa_nil)) (sa_cons (sv 2) sa_nil))))
    sss_nil)))
theorem b_l_behind {P : Program} {w : World} {K : PySem.W.Frag} {mg : Str → Option Value} {base : Heap} {k : Nat} {C : CallF} (g : GF K mg) (a : Addr) (cdv : Value) (A : Around) (outer : List PySem.Env) (s : Shared) (H : Hp) (E : XK) (F : ∀ f a, (gb K).fa f = some a → FnC P w K mg base (gb K) C k f a)
    (hr : Room k (A.deeper (envOfC "_law_behind" (defScope s_l_behind) s.heap.objs.size a cdv))) : PSs (cxOf CX0 P w K mg base N_l_behind "_law_behind" (defScope s_l_behind) a cdv A outer s H E).nox (defBody s_l_behind) (tSs (gb K) C d_l_behind.body) := by
  have hu : (A.deeper (envOfC "_law_behind" (defScope s_l_behind) s.heap.objs.size a cdv)).units + 65 < cLine := by have := hr.un; omega
  exact (sss_cons (ss_for PassesOwn.never rfl (si_any rfl (sv 2)) (sgn 3 sc_l_behind.nd) (sss_cons (ss_if (st_cmp (o := .nmem) rfl hu (by rfl) (sv 3) (scall 22 F hr g.g_u_law_steps (sa_cons (sv 0) (sa_cons (sv 1) sa_nil)))) (sss_cons (ss_ret se_non)
    sss_nil) sss_nil)
    (sss_cons (sset 1 sc_l_behind.nd (scall 23 F hr g.g_u_law_turned (sa_cons (sv 0) (sa_cons (sv 1) (sa_cons (sv 3) sa_nil)))))
    sss_nil)))
    (sss_cons (ss_ret (sv 1))
    sss_nil))
theorem b_l_any {P : Program} {w : World} {K : PySem.W.Frag} {mg : Str → Option Value} {base : Heap} {k : Nat} {C : CallF} (g : GF K mg) (a : Addr) (cdv : Value) (A : Around) (outer : List PySem.Env) (s : Shared) (H : Hp) (E : XK) (F : ∀ f a, (gb K).fa f = some a → FnC P w K mg base (gb K) C k f a)
    (hr : Room k (A.deeper (envOfC "_law_any" (defScope s_l_any) s.heap.objs.size a cdv))) : PSs (cxOf CX0 P w K mg base N_l_any "_law_any" (defScope s_l_any) a cdv A outer s H E).nox (defBody s_l_any) (tSs (gb K) C d_l_any.body) := by
  have hu : (A.deeper (envOfC "_law_any" (defScope s_l_any) s.heap.objs.size a cdv)).units + 65 < cLine := by have := hr.un; omega
  exact (sss_cons (ss_ret (sb_tuple g.f_tuple rfl (sa_cons (se_comp (own := [("k", 2)]) (by decide) rfl sc_l_any.nd (si_range1 rfl g.f_range (scall 16 F hr g.g_u_law_take (sa_cons (sv 0) (sa_cons se_int sa_nil)))) (blkOk_by (by kernel_rfl)) (fun _ _ _ _ _ => (sgn 2 sc_l_any.nd)) (fun _ _ _ _ _ => sts_nil) (fun _ _ _ _ _ => (se_tup (sa_cons (se_bin (o := .add) rfl (scall 17 F hr g.g_u_law_pick (sa_cons (sv 0) (sa_cons (sv 1) sa_nil))) (scall 19 F hr g.g_u_law_word (sa_cons (sv 0) (sa_cons (sv 1) (sa_cons se_int sa_nil))))) (sa_cons (scall 19 F hr g.g_u_law_word (sa_cons (sv 0) (sa_cons (sv 1) (sa_cons se_int sa_nil)))) sa_nil))))) sa_nil)))
    sss_nil)
theorem b_l_odd {P : Program} {w : World} {K : PySem.W.Frag} {mg : Str → Option Value} {base : Heap} {k : Nat} {C : CallF} (g : GF K mg) (a : Addr) (cdv : Value) (A : Around) (outer : List PySem.Env) (s : Shared) (H : Hp) (E : XK) (F : ∀ f a, (gb K).fa f = some a → FnC P w K mg base (gb K) C k f a)
    (hr : Room k (A.deeper (envOfC "_law_odd" (defScope s_l_odd) s.heap.objs.size a cdv))) : PSs (cxOf CX0 P w K mg base N_l_odd "_law_odd" (defScope s_l_odd) a cdv A outer s H E).nox (defBody s_l_odd) (tSs (gb K) C d_l_odd.body) := by
  have hu : (A.deeper (envOfC "_law_odd" (defScope s_l_odd) s.heap.objs.size a cdv)).units + 65 < cLine := by have := hr.un; omega
  exact (sss_cons (ss_for PassesOwn.never rfl (si_any rfl (se_tup (sa_cons (se_tup (sa_cons (se_str (by decide +kernel)) (sa_cons se_bl sa_nil))) (sa_cons (se_tup (sa_cons (se_str (by decide +kernel)) (sa_cons se_bl sa_nil))) (sa_cons (se_tup (sa_cons (se_str (by decide +kernel)) (sa_cons se_bl sa_nil))) (sa_cons (se_tup (sa_cons (se_str (by decide +kernel)) (sa_cons se_bl sa_nil))) (sa_cons (se_tup (sa_cons (se_str (by decide +kernel)) (sa_cons se_bl sa_nil))) (sa_cons (se_tup (sa_cons (se_str (by decide +kernel)) (sa_cons se_bl sa_nil))) (sa_cons (se_tup (sa_cons (se_str (by decide +kernel)) (sa_cons se_bl sa_nil))) (sa_cons (se_tup (sa_cons se_non (sa_cons se_bl sa_nil))) (sa_cons (se_tup (sa_cons (se_tup (sa_cons (se_str (by decide +kernel)) sa_nil)) (sa_cons se_bl sa_nil))) (sa_cons (se_tup (sa_cons (se_str (by decide +kernel)) (sa_cons se_bl sa_nil))) sa_nil)))))))))))) (sg_tup rfl rfl (sgs_cons (sgn 1 sc_l_odd.nd) (sgs_cons (sgn 4 sc_l_odd.nd) sgs_nil))) (sss_cons (ss_if (st_cmp (o := .ne) rfl hu (by rfl) (scall 2 F hr g.g_are_letters (sa_cons (sv 1) sa_nil)) (sv 4)) (sss_cons (ss_ret se_bl)
    sss_nil) sss_nil)
    sss_nil))
    (sss_cons (ss_for PassesOwn.never rfl (si_any rfl (se_tup (sa_cons se_non (sa_cons se_int (sa_cons (se_str (by decide +kernel)) (sa_cons (se_bin (o := .mul) rfl (se_sub rfl hu (sv 0) se_int) se_int) (sa_cons (se_ite (st_cmp (o := .nmem) rfl hu (by rfl) (se_str (by decide +kernel)) (sv 0)) (se_str (by decide +kernel)) (se_str (by decide +kernel))) (sa_cons (se_tup (sa_cons (se_sub rfl hu (sv 0) se_int) sa_nil)) (sa_cons (se_str (by decide +kernel)) sa_nil))))))))) (sgn 1 sc_l_odd.nd) (sss_cons (ss_if (st_cmp (o := .isn) rfl hu (by rfl) (scall 1 F hr g.g_is_word (sa_cons (sv 1) (sa_cons (sv 0) sa_nil))) se_bl) (sss_cons (ss_ret se_bl)
    sss_nil) sss_nil)
    sss_nil))
    (sss_cons (sset 2 sc_l_odd.nd (se_tup (sa_cons (se_sub rfl hu (sv 0) se_int) (sa_cons (se_str (by decide +kernel)) sa_nil))))
    (sss_cons (sset 3 sc_l_odd.nd (se_lst (sa_cons se_non (sa_cons (se_lst (sa_cons (sv 2) sa_nil)) (sa_cons (se_bin (o := .mul) rfl (se_tup (sa_cons (sv 2) sa_nil)) se_int) (sa_cons (se_tup (sa_cons (se_tup (sa_cons (se_str (by decide +kernel)) (sa_cons (se_sub rfl hu (sv 0) se_int) sa_nil))) sa_nil)) (sa_cons (se_tup (sa_cons (se_tup (sa_cons (se_sub rfl hu (sv 0) se_int) sa_nil)) sa_nil)) (sa_cons (se_tup (sa_cons (se_lst (sa_cons (se_sub rfl hu (sv 0) se_int) (sa_cons (se_str (by decide +kernel)) sa_nil))) sa_nil)) (sa_cons (se_tup (sa_cons (se_bin (o := .add) rfl (sv 2) (se_tup (sa_cons (se_str (by decide +kernel)) sa_nil))) sa_nil)) (sa_cons (se_tup (sa_cons (se_tup (sa_cons (se_str (by decide +kernel)) (sa_cons (se_str (by decide +kernel)) sa_nil))) sa_nil)) (sa_cons (se_tup (sa_cons (se_tup (sa_cons (se_sub rfl hu (sv 0) se_int) (sa_cons se_non sa_nil))) sa_nil)) (sa_cons se_int sa_nil))))))))))))
    (sss_cons (ss_if (st_not (st_val (sb_all g.f_all rfl (sa_cons (se_comp (own := [("value", 1)]) (by decide) rfl sc_l_odd.nd (si_any rfl (sv 3)) (blkOk_by (by kernel_rfl)) (fun _ _ _ _ _ => (sgn 1 sc_l_odd.nd)) (fun _ _ _ _ _ => sts_nil) (fun _ _ _ _ _ => (se_cmp (o := .is) rfl hu (by rfl) (scall 3 F hr g.g_are_word_rules (sa_cons (sv 1) (sa_cons (sv 0) sa_nil))) se_bl))) sa_nil)))) (sss_cons (ss_ret se_bl)
    sss_nil) sss_nil)
    (sss_cons (ss_ret (se_and (se_cmp (o := .is) rfl hu (by rfl) (scall 1 F hr g.g_is_word (sa_cons (se_str (by decide +kernel)) (sa_cons (sv 0) sa_nil))) se_bl) (se_and (se_cmp (o := .is) rfl hu (by rfl) (scall 1 F hr g.g_is_word (sa_cons (se_bin (o := .mul) rfl (se_sub rfl hu (sv 0) se_int) se_int) (sa_cons (sv 0) sa_nil))) se_bl) (se_and (se_cmp (o := .is) rfl hu (by rfl) (scall 3 F hr g.g_are_word_rules (sa_cons (se_bin (o := .mul) rfl (se_tup (sa_cons (sv 2) sa_nil)) se_int) (sa_cons (sv 0) sa_nil))) se_bl) (se_one (se_cmp (o := .eq) rfl hu (by rfl) (se_tup (sa_cons (sgl g.i_MOST_WORD) (sa_cons (sgl g.i_MOST_WORD_RULES) sa_nil))) (se_tup (sa_cons se_int (sa_cons se_int sa_nil)))))))))
    sss_nil))))))
theorem b_law {P : Program} {w : World} {K : PySem.W.Frag} {mg : Str → Option Value} {base : Heap} {k : Nat} {C : CallF} (g : GF K mg) (a : Addr) (cdv : Value) (A : Around) (outer : List PySem.Env) (s : Shared) (H : Hp) (E : XK) (F : ∀ f a, (gb K).fa f = some a → FnC P w K mg base (gb K) C k f a)
    (hr : Room k (A.deeper (envOfC "law" (defScope s_law) s.heap.objs.size a cdv))) : PSs (cxOf CX0 P w K mg base N_law "law" (defScope s_law) a cdv A outer s H E).nox (defBody s_law) (tSs (gb K) C d_law.body) := by
  have hu : (A.deeper (envOfC "law" (defScope s_law) s.heap.objs.size a cdv)).units + 65 < cLine := by have := hr.un; omega
  exact (sss_cons (sset 1 sc_law.nd (scall 15 F hr g.g_u_law_state (sa_cons (sv 0) sa_nil)))
    (sss_cons (ss_for PassesOwn.never rfl (si_range1 rfl g.f_range se_int) (sgn 2 sc_law.nd) (sss_cons (sset 3 sc_law.nd (scall 18 F hr g.g_u_law_letters (sa_cons (sv 1) sa_nil)))
    (sss_cons (sset 4 sc_law.nd (scall 21 F hr g.g_u_law_rules (sa_cons (sv 1) (sa_cons (sv 3) (sa_cons se_int sa_nil)))))
    (sss_cons (sset 5 sc_law.nd (scall 19 F hr g.g_u_law_word (sa_cons (sv 1) (sa_cons (sv 3) (sa_cons se_int sa_nil)))))
    (sss_cons (ss_if (PW.pt (sw_or (st_cmp (o := .ne) rfl hu (by rfl) (scall 4 F hr g.g_word_steps (sa_cons (sv 4) (sa_cons (sv 5) sa_nil))) (scall 22 F hr g.g_u_law_steps (sa_cons (sv 4) (sa_cons (sv 5) sa_nil)))) (sw_or (st_cmp (o := .ne) rfl hu (by rfl) (scall 10 F hr g.g_word_normal (sa_cons (sv 4) (sa_cons (sv 5) sa_nil))) (scall 24 F hr g.g_u_law_normal (sa_cons (sv 4) (sa_cons (sv 5) sa_nil)))) (sw_or1 (st_cmp (o := .ne) rfl hu (by rfl) (scall 11 F hr g.g_overlaps (sa_cons (sv 4) sa_nil)) (scall 25 F hr g.g_u_law_pairs (sa_cons (sv 4) sa_nil))))))) (sss_cons (ss_ret se_bl)
    sss_nil) sss_nil)
    (sss_cons (sset 6 sc_law.nd (se_tup (sa_cons (se_str (by decide +kernel)) sa_nil)))
    (sss_cons (ss_for PassesOwn.never rfl (si_any rfl (se_rev rfl (scall 25 F hr g.g_u_law_pairs (sa_cons (sv 4) sa_nil)))) (sg_tup rfl rfl (sgs_cons (sgn 11 sc_law.nd) (sgs_cons (sgn 12 sc_law.nd) (sgs_cons (sgn 13 sc_law.nd) sgs_nil)))) (sss_cons (sset 14 sc_law.nd (se_tup (sa_cons (se_sub rfl hu (scall 24 F hr g.g_u_law_normal (sa_cons (sv 4) (sa_cons (sv 12) sa_nil))) se_int) (sa_cons (se_sub rfl hu (scall 24 F hr g.g_u_law_normal (sa_cons (sv 4) (sa_cons (sv 13) sa_nil))) se_int) sa_nil))))
    (sss_cons (ss_if (st_cmp (o := .ne) rfl hu (by rfl) (se_sub rfl hu (sv 14) se_int) (se_sub rfl hu (sv 14) se_int)) (sss_cons (sset 6 sc_law.nd (se_bin (o := .add) rfl (se_tup (sa_cons (se_str (by decide +kernel)) (sa_cons (sv 11) sa_nil))) (sv 14)))
    sss_nil) sss_nil)
    sss_nil)))
    (sss_cons (ss_if (st_cmp (o := .ne) rfl hu (by rfl) (scall 12 F hr g.g_words_meet (sa_cons (sv 4) sa_nil)) (sv 6)) (sss_cons (ss_ret se_bl)
    sss_nil) sss_nil)
    (sss_cons (ss_for PassesOwn.never rfl (si_range1 rfl g.f_range se_int) (sgn 7 sc_law.nd) (sss_cons (spar 12 13 sc_law.nd (scall 19 F hr g.g_u_law_word (sa_cons (sv 1) (sa_cons (sv 3) (sa_cons se_int sa_nil)))) (scall 19 F hr g.g_u_law_word (sa_cons (sv 1) (sa_cons (sv 3) (sa_cons se_int sa_nil)))) (by rfl))
    (sss_cons (ss_if (PW.pt (sw_and (st_cmp (o := .eq) rfl hu (by rfl) (sv 6) (se_tup (sa_cons (se_str (by decide +kernel)) sa_nil))) (sw_and1 (st_cmp (o := .nmem) rfl hu (by rfl) (scall 26 F hr g.g_u_law_ends (sa_cons (sv 4) (sa_cons (sv 12) sa_nil))) (se_tup (sa_cons se_non (sa_cons (se_lst (sa_cons (se_sub rfl hu (scall 24 F hr g.g_u_law_normal (sa_cons (sv 4) (sa_cons (sv 12) sa_nil))) se_int) sa_nil)) sa_nil))))))) (sss_cons (ss_ret se_bl)
    sss_nil) sss_nil)
    (sss_cons (ss_if (PW.pt (sw_or (st_cmp (o := .ne) rfl hu (by rfl) (scall 13 F hr g.g_are_same_words (sa_cons (sv 4) (sa_cons (sv 12) (sa_cons (sv 13) sa_nil)))) (se_cmp (o := .eq) rfl hu (by rfl) (se_sub rfl hu (scall 24 F hr g.g_u_law_normal (sa_cons (sv 4) (sa_cons (sv 12) sa_nil))) se_int) (se_sub rfl hu (scall 24 F hr g.g_u_law_normal (sa_cons (sv 4) (sa_cons (sv 13) sa_nil))) se_int))) (sw_or1 (st_cmp (o := .ne) rfl hu (by rfl) (scall 14 F hr g.g_product (sa_cons (sv 4) (sa_cons (sv 12) (sa_cons (sv 13) sa_nil)))) (se_sub rfl hu (scall 24 F hr g.g_u_law_normal (sa_cons (sv 4) (sa_cons (se_bin (o := .add) rfl (sv 12) (sv 13)) sa_nil))) se_int))))) (sss_cons (ss_ret se_bl)
    sss_nil) sss_nil)
    (sss_cons (ss_if (st_cmp (o := .ne) rfl hu (by rfl) (scall 8 F hr g.g_is_before (sa_cons (sv 12) (sa_cons (sv 13) sa_nil))) (scall 20 F hr g.g_u_law_before (sa_cons (sv 12) (sa_cons (sv 13) sa_nil)))) (sss_cons (ss_ret se_bl)
    sss_nil) sss_nil)
    sss_nil)))))
    (sss_cons (ss_if (PW.pt (sw_and (st_cmp (o := .ne) rfl hu (by rfl) (sv 6) (se_tup (sa_cons (se_str (by decide +kernel)) sa_nil))) (sw_and1 (st_cmp (o := .lt) rfl hu (by rfl) (sb_len g.f_len rfl (sa_cons (se_orv rfl (scall 26 F hr g.g_u_law_ends (sa_cons (sv 4) (sa_cons (se_sub rfl hu (sv 6) se_int) sa_nil))) (se_one (se_lst (sa_cons se_int (sa_cons se_int sa_nil))))) sa_nil)) se_int)))) (sss_cons (ss_ret se_bl)
    sss_nil) sss_nil)
    (sss_cons (sset 8 sc_law.nd (scall 29 F hr g.g_u_law_any (sa_cons (sv 1) (sa_cons (sv 3) sa_nil))))
    (sss_cons (ss_if (PW.pt (sw_or (st_cmp (o := .ne) rfl hu (by rfl) (scall 9 F hr g.g_go_down (sa_cons (sv 8) sa_nil)) (se_cmp (o := .eq) rfl hu (by rfl) (sb_len g.f_len rfl (sa_cons (se_comp (own := [("one", 12), ("other", 13)]) (by decide) rfl sc_law.nd (si_any rfl (sv 8)) (blkOk_by (by kernel_rfl)) (fun _ _ _ _ _ => (sg_tup rfl rfl (sgs_cons (sgn 12 sc_law.nd) (sgs_cons (sgn 13 sc_law.nd) sgs_nil)))) (fun _ _ _ _ _ => (pts_one (st_not (st_val (scall 20 F hr g.g_u_law_before (sa_cons (sv 13) (sa_cons (sv 12) sa_nil))))))) (fun _ _ _ _ _ => se_int)) sa_nil)) se_int)) (sw_or (st_cmp (o := .isn) rfl hu (by rfl) (scall 9 F hr g.g_go_down (sa_cons (sv 4) sa_nil)) se_bl) (sw_or1 (st_cmp (o := .isn) rfl hu (by rfl) (scall 3 F hr g.g_are_word_rules (sa_cons (sv 8) (sa_cons (sv 3) sa_nil))) se_bl))))) (sss_cons (ss_ret se_bl)
    sss_nil) sss_nil)
    (sss_cons (ss_asg (scall 27 F hr g.g_u_law_row (sa_cons (sv 1) (sa_cons (sv 8) (sa_cons (sv 5) sa_nil)))) (sg_tup rfl rfl (sgs_cons (sgn 15 sc_law.nd) (sgs_cons (sgn 16 sc_law.nd) sgs_nil))))
    (sss_cons (ss_if (PW.pt (sw_or (st_cmp (o := .ne) rfl hu (by rfl) (scall 7 F hr g.g_behind_word_row (sa_cons (sv 8) (sa_cons (sv 5) (sa_cons (sv 15) sa_nil)))) (sv 16)) (sw_or1 (st_cmp (o := .ne) rfl hu (by rfl) (se_comp (own := [("step", 17)]) (by decide) rfl sc_law.nd (si_any rfl (scall 22 F hr g.g_u_law_steps (sa_cons (sv 8) (sa_cons (sv 5) sa_nil)))) (blkOk_by (by kernel_rfl)) (fun _ _ _ _ _ => (sgn 17 sc_law.nd)) (fun _ _ _ _ _ => sts_nil) (fun _ _ _ _ _ => (scall 5 F hr g.g_word_turned (sa_cons (sv 8) (sa_cons (sv 5) (sa_cons (sv 17) sa_nil)))))) (se_comp (own := [("step", 17)]) (by decide) rfl sc_law.nd (si_any rfl (scall 22 F hr g.g_u_law_steps (sa_cons (sv 8) (sa_cons (sv 5) sa_nil)))) (blkOk_by (by kernel_rfl)) (fun _ _ _ _ _ => (sgn 17 sc_law.nd)) (fun _ _ _ _ _ => sts_nil) (fun _ _ _ _ _ => (scall 23 F hr g.g_u_law_turned (sa_cons (sv 8) (sa_cons (sv 5) (sa_cons (sv 17) sa_nil)))))))))) (sss_cons (ss_ret se_bl)
    sss_nil) sss_nil)
    (sss_cons (sset 9 sc_law.nd (se_bin (o := .add) rfl (sv 15) (se_tup (sa_cons (se_tup (sa_cons (scall 16 F hr g.g_u_law_take (sa_cons (sv 1) (sa_cons se_int sa_nil))) (sa_cons (scall 16 F hr g.g_u_law_take (sa_cons (sv 1) (sa_cons se_int sa_nil))) sa_nil))) sa_nil))))
    (sss_cons (ss_if (st_cmp (o := .ne) rfl hu (by rfl) (scall 7 F hr g.g_behind_word_row (sa_cons (sv 8) (sa_cons (sv 5) (sa_cons (sv 9) sa_nil)))) (scall 28 F hr g.g_u_law_behind (sa_cons (sv 8) (sa_cons (sv 5) (sa_cons (sv 9) sa_nil))))) (sss_cons (ss_ret se_bl)
    sss_nil) sss_nil)
    (sss_cons (ss_for PassesOwn.never rfl (si_any rfl (se_tup (sa_cons se_non (sa_cons (sb_list g.f_list rfl (sa_cons (sv 15) sa_nil)) (sa_cons (se_tup (sa_cons se_non sa_nil)) (sa_cons (se_tup (sa_cons (se_tup (sa_cons se_int sa_nil)) sa_nil)) (sa_cons (se_tup (sa_cons (se_tup (sa_cons (se_neg se_int) (sa_cons se_int sa_nil))) sa_nil)) (sa_cons (se_tup (sa_cons (se_tup (sa_cons se_int (sa_cons se_bl sa_nil))) sa_nil)) (sa_cons (se_tup (sa_cons (se_tup (sa_cons se_int (sa_cons (sb_len g.f_len rfl (sa_cons (sv 5) sa_nil)) sa_nil))) sa_nil)) (sa_cons (se_tup (sa_cons (se_tup (sa_cons (se_str (by decide +kernel)) (sa_cons se_int sa_nil))) sa_nil)) sa_nil)))))))))) (sgn 10 sc_law.nd) (sss_cons (ss_if (st_cmp (o := .isn) rfl hu (by rfl) (scall 7 F hr g.g_behind_word_row (sa_cons (sv 8) (sa_cons (sv 5) (sa_cons (sv 10) sa_nil)))) se_non) (sss_cons (ss_ret se_bl)
    sss_nil) sss_nil)
    sss_nil))
    (sss_cons (ss_if (st_not (st_val (scall 30 F hr g.g_u_law_odd (sa_cons (sv 3) sa_nil)))) (sss_cons (ss_ret se_bl)
    sss_nil) sss_nil)
    sss_nil))))))))))))))))))
    (sss_cons (ss_ret se_bl)
    sss_nil)))
end L2.Mi.k55

set_option Elab.async false
set_option linter.all false
set_option maxRecDepth 100000
set_option maxHeartbeats 4000000
/-! Ev1: reckoning with the evaluator. -/
namespace L2.Mi
open PySem PySem.Spec PyProof.Rows

theorem callM_eq {T : List Df} {k f : Nat} {args : List MV} {mh : MHp} {d : Df} (h : T[f]? = some d) : callM T (k + 1) f args mh = runD (callM T k) d args mh := by
  show (match T[f]? with
    | none => none
    | some d => runD (callM T k) d args mh) = _
  rw [h]
mutual
/-- plain data: no live object, short texts -/
def dat : MV → Bool
  | .non => true
  | .bl _ => true
  | .int _ => true
  | .str s => decide (s.length ≤ 1000) && s.all fun c => decide (c < 1114112)
  | .tup xs => dats xs
  | .lst xs => dats xs
  | .fn _ => false
  | .loc _ => false
  | .dct _ _ => false
  | .scr _ => false
def dats : List MV → Bool
  | [] => true
  | x :: xs => dat x && dats xs
end
mutual
theorem frz_dat {n : Nat} {mh : MHp} {k : Nat} : ∀ x : MV, dat x = true → frz n mh k x = some x
  | .non, _ => by unfold frz; rfl
  | .bl _, _ => by unfold frz; rfl
  | .int _, _ => by unfold frz; rfl
  | .str _, _ => by unfold frz; rfl
  | .fn _, h => by unfold dat at h; cases h
  | .scr _, h => by unfold dat at h; cases h
  | .loc _, h => by unfold dat at h; cases h
  | .dct _ _, h => by unfold dat at h; cases h
  | .tup xs, h => by
    unfold dat at h
    unfold frz
    rw [frzs_dat xs h]; rfl
  | .lst xs, h => by
    unfold dat at h
    unfold frz
    rw [frzs_dat xs h]; rfl
theorem frzs_dat {n : Nat} {mh : MHp} {k : Nat} : ∀ xs : List MV, dats xs = true → frzs n mh k xs = some xs
  | [], _ => by unfold frzs; rfl
  | x :: xs, h => by
    unfold dats at h
    rw [Bool.and_eq_true] at h
    unfold frzs
    rw [frz_dat x h.1, frzs_dat xs h.2]; rfl
end
theorem dats_iff : ∀ {xs : List MV}, dats xs = true ↔ ∀ x ∈ xs, dat x = true
  | [] => by simp [dats]
  | x :: xs => by simp [dats, dats_iff (xs := xs)]
/-- a call whose body was reckoned -/
theorem run_of {C : CallF} {d : Df} {args : List MV} {mh mh1 : MHp} {fl : Fl} {ρ : Env} {v : MV} (hl : args.length = d.np) (hv : d.live = false) (e : exs C mh.length d.body (args.map some ++ List.replicate (d.ns - d.np) none) mh = some (fl, ρ, mh1))
    (he : endV fl = some v) (hd : dat v = true) : runD C d args mh = some (v, mh1.take mh.length) := by
  unfold runD
  rw [if_pos hl, e]
  simp only [he, hv]
  rw [frz_dat v hd]
  rfl
theorem run_of' {C : CallF} {d : Df} {args : List MV} {mh mh1 : MHp} {fl : Fl} {ρ : Env} {v : MV} (hl : args.length = d.np) (hv : d.live = false) (e : exs C mh.length d.body (args.map some ++ List.replicate (d.ns - d.np) none) mh = some (fl, ρ, mh1))
    (he : endV fl = some v) (hd : dat v = true) (hm : mh1.length = mh.length) : runD C d args mh = some (v, mh1) := by
  rw [run_of hl hv e he hd, ← hm, List.take_length]
/-! ### loops -/
theorem compGo_pure {J : Its} (hJ : J.src = none) {f : MV → MHp → Option (Option MV × MHp)} {g : MV → Option MV} {mh : MHp} : ∀ {xs : List MV}, (∀ x ∈ xs, f x mh = some (g x, mh)) → compGo J f xs mh = some (xs.filterMap g, mh)
  | [], h => by
    have ok : J.ok mh := by unfold Its.ok; rw [hJ]; trivial
    unfold compGo
    rw [if_pos ok]; rfl
  | x :: xs, h => by
    have ok : J.ok mh := by unfold Its.ok; rw [hJ]; trivial
    unfold compGo
    rw [if_pos ok, h x (by simp)]
    simp only
    rw [compGo_pure hJ fun y hy => h y (List.mem_cons_of_mem _ hy)]
    simp only [List.filterMap_cons]
    cases g x <;> rfl
/-- each turn gives an item; P of the heap stays -/
theorem compGo_st {J : Its} (hJ : J.src = none) {f : MV → MHp → Option (Option MV × MHp)} {P : MHp → Prop} {R : MV → Prop} : ∀ {xs : List MV} {mh : MHp}, P mh → (∀ x ∈ xs, ∀ mh, P mh → ∃ y mh', f x mh = some (some y, mh') ∧ P mh' ∧ R y) →
    ∃ ys mh', compGo J f xs mh = some (ys, mh') ∧ P mh' ∧ ys.length = xs.length ∧ ∀ y ∈ ys, R y
  | [], mh, p, h => by
    have ok : J.ok mh := by unfold Its.ok; rw [hJ]; trivial
    refine ⟨[], mh, ?_, p, rfl, fun y hy => by simp at hy⟩
    unfold compGo
    rw [if_pos ok]
  | x :: xs, mh, p, h => by
    have ok : J.ok mh := by unfold Its.ok; rw [hJ]; trivial
    obtain ⟨y, mh1, e1, p1, r1⟩ := h x (by simp) mh p
    obtain ⟨ys, mh2, e2, p2, l2, r2⟩ := compGo_st hJ p1 fun z hz => h z (List.mem_cons_of_mem _ hz)
    refine ⟨y :: ys, mh2, ?_, p2, by simp [l2], fun z hz => ?_⟩
    · unfold compGo
      rw [if_pos ok, e1]
      simp only [e2]
      rfl
    · rcases List.mem_cons.mp hz with rfl | hz
      · exact r1
      · exact r2 z hz
/-- a for that goes through -/
theorem forGo_st {J : Its} (hJ : J.src = none) {f : MV → Env → MHp → Option (Fl × Env × MHp)} {P : Env → MHp → Prop} : ∀ {xs : List MV} {ρ : Env} {mh : MHp}, P ρ mh → (∀ x ∈ xs, ∀ ρ mh, P ρ mh → ∃ ρ' mh', f x ρ mh = some (.nx, ρ', mh') ∧ P ρ' mh') →
    ∃ ρ' mh', forGo J f xs ρ mh = some (.nx, ρ', mh') ∧ P ρ' mh'
  | [], ρ, mh, p, h => by
    have ok : J.ok mh := by unfold Its.ok; rw [hJ]; trivial
    refine ⟨ρ, mh, ?_, p⟩
    unfold forGo
    rw [if_pos ok]
  | x :: xs, ρ, mh, p, h => by
    have ok : J.ok mh := by unfold Its.ok; rw [hJ]; trivial
    obtain ⟨ρ1, mh1, e1, p1⟩ := h x (by simp) ρ mh p
    obtain ⟨ρ2, mh2, e2, p2⟩ := forGo_st hJ p1 fun z hz => h z (List.mem_cons_of_mem _ hz)
    refine ⟨ρ2, mh2, ?_, p2⟩
    unfold forGo
    rw [if_pos ok, e1]
    exact e2
theorem forGo_cons_of {J : Its} (hJ : J.src = none) {f : MV → Env → MHp → Option (Fl × Env × MHp)} {x : MV} {xs : List MV} {ρ : Env} {mh : MHp} : forGo J f (x :: xs) ρ mh = match f x ρ mh with
    | none => none
    | some (.nx, ρ1, mh1) => forGo J f xs ρ1 mh1
    | some (.ct, ρ1, mh1) => forGo J f xs ρ1 mh1
    | some (.bk, ρ1, mh1) => some (.nx, ρ1, mh1)
    | some (.rt v, ρ1, mh1) => some (.rt v, ρ1, mh1) := by
  have ok : J.ok mh := by unfold Its.ok; rw [hJ]; trivial
  rw [forGo, if_pos ok] <;> rfl
theorem forGo_nil_of {J : Its} (hJ : J.src = none) {f : MV → Env → MHp → Option (Fl × Env × MHp)} {ρ : Env} {mh : MHp} : forGo J f [] ρ mh = some (.nx, ρ, mh) := by
  have ok : J.ok mh := by unfold Its.ok; rw [hJ]; trivial
  rw [forGo, if_pos ok]
theorem whileN_mono {c : Env → MHp → Option (Bool × MHp)} {f : Env → MHp → Option (Fl × Env × MHp)} {r : Fl × Env × MHp} : ∀ {n : Nat} {ρ : Env} {mh : MHp}, whileN c f n ρ mh = some r → ∀ m, n ≤ m → whileN c f m ρ mh = some r
  | 0, ρ, mh, h, m, hm => by unfold whileN at h; cases h
  | n + 1, ρ, mh, h, 0, hm => by omega
  | n + 1, ρ, mh, h, m + 1, hm => by
    rw [whileN] at h ⊢
    revert h
    cases e1 : c ρ mh with
    | none => exact fun h => nomatch h
    | some p =>
      obtain ⟨b, mh1⟩ := p
      cases b with
      | false => exact fun h => h
      | true =>
        show (match f ρ mh1 with
          | none => none
          | some (.nx, ρ1, mh2) => whileN c f n ρ1 mh2
          | some (.ct, ρ1, mh2) => whileN c f n ρ1 mh2
          | some (.bk, ρ1, mh2) => some (.nx, ρ1, mh2)
          | some (.rt v, ρ1, mh2) => some (.rt v, ρ1, mh2)) = some r → (match f ρ mh1 with
          | none => none
          | some (.nx, ρ1, mh2) => whileN c f m ρ1 mh2
          | some (.ct, ρ1, mh2) => whileN c f m ρ1 mh2
          | some (.bk, ρ1, mh2) => some (.nx, ρ1, mh2)
          | some (.rt v, ρ1, mh2) => some (.rt v, ρ1, mh2)) = some r
        cases e2 : f ρ mh1 with
        | none => exact fun h => nomatch h
        | some q =>
          obtain ⟨fl, ρ1, mh2⟩ := q
          cases fl with
          | nx => exact fun h => whileN_mono h m (by omega)
          | ct => exact fun h => whileN_mono h m (by omega)
          | bk => exact fun h => h
          | rt v => exact fun h => h
theorem whileM_eq {c : Env → MHp → Option (Bool × MHp)} {f : Env → MHp → Option (Fl × Env × MHp)} {r : Fl × Env × MHp} {n : Nat} {ρ : Env} {mh : MHp} (h : whileN c f n ρ mh = some r) : whileM c f ρ mh = some r := by
  have ex : ∃ n, whileN c f n ρ mh ≠ none := ⟨n, by rw [h]; exact fun z => nomatch z⟩
  unfold whileM
  rw [dif_pos ex]
  have hc := Classical.choose_spec ex
  cases e : whileN c f (Classical.choose ex) ρ mh with
  | none => exact absurd e hc
  | some r' =>
    rcases Nat.le_total n (Classical.choose ex) with l | l
    · rw [whileN_mono h _ l] at e; exact e.symm
    · rw [whileN_mono e _ l] at h; exact h
/-! the bodies of loops, kept whole -/
section
variable (C : CallF) (base : Nat)
noncomputable def forF (t : Tg) (body : List MS) : MV → Env → MHp → Option (Fl × Env × MHp) := fun x ρ1 mh2 => match asg mh2 t x ρ1 with
  | none => none
  | some ρ2 => exs C base body ρ2 mh2
noncomputable def whC (c : ME) : Env → MHp → Option (Bool × MHp) := fun ρ1 mh1 => match ev C base c ρ1 mh1 with
  | some (.bl b, mh2) => some (b, mh2)
  | _ => none
end
section
variable {C : CallF} {base : Nat} {ρ : Env} {mh : MHp}
theorem ex_for {t : Tg} {it : ME} {body : List MS} : ex C base (.for t it body) ρ mh = match evI C base it ρ mh with
  | none => none
  | some (J, mh1) => forGo J (forF C base t body) J.items ρ mh1 := by
  simp only [ex]
  rfl
theorem ex_while {c : ME} {body : List MS} : ex C base (.while c body) ρ mh = whileM (whC C base c) (exs C base body) ρ mh := by
  simp only [ex]
  rfl
theorem ev_compq {tg : Tg} {own : List Nat} {it cond e : ME} : ev C base (.comp tg own it cond e) ρ mh = match evI C base it ρ mh with
  | none => none
  | some (J, mh1) => if J.items.length ≤ line then (match compGo J (compF C base tg own cond e ρ) J.items mh1 with
    | none => none
    | some (ys, mh5) => some (.lst ys, mh5)) else none := by
  simp only [ev]
  rfl
end
theorem bls_map {mh : MHp} (bs : List Bool) : bls mh (.lst (bs.map .bl)) = some bs := by
  unfold bls
  show (bs.map MV.bl).mapM blOf = some bs
  induction bs with
  | nil => rfl
  | cons b bs ih => rw [List.map_cons, List.mapM_cons, ih]; rfl
theorem atI0 {α : Type} {x : α} {xs : List α} : idx (x :: xs) 0 = some x := by
  unfold idx L2.atI L2.ixN
  simp
theorem cut_drop {α : Type} {xs : List α} {k : Nat} : cut xs (some (k : Int)) none = xs.drop k := by
  unfold cut
  rw [HT.sIx_nat, HT.sIx_none]
  by_cases h : k ≤ xs.length
  · rw [Nat.min_eq_left h, List.take_of_length_le (by rw [List.length_drop]; omega)]
  · rw [Nat.min_eq_right (by omega), List.drop_eq_nil_of_le (Nat.le_refl _), List.drop_eq_nil_of_le (by omega)]
    simp
theorem cut_take {α : Type} {xs : List α} {k : Nat} : cut xs none (some (k : Int)) = xs.take k := by
  unfold cut
  rw [HT.sIx_nat, HT.sIx_none]
  by_cases h : k ≤ xs.length
  · rw [Nat.min_eq_left h]; simp
  · rw [Nat.min_eq_right (by omega)]; simp [List.take_of_length_le (show xs.length ≤ k by omega)]
end L2.Mi

set_option Elab.async false
set_option linter.all false
set_option maxRecDepth 100000
set_option maxHeartbeats 4000000
/-! Ev2: small facts for every law; the law's state, take, pick (their numbers in T are told). -/
namespace L2.Mi
open PySem PySem.Spec PyProof.Rows
theorem lt1 {a b : Nat} : (([a] : List Nat) < [b]) = (a < b) := by
  apply propext
  constructor
  · intro h
    cases h with
    | rel h => exact h
    | cons h => cases h
  · exact fun h => .rel h
theorem eqV_int (mh : MHp) (a b : Int) : eqV mh (.int a) (.int b) = some (decide (a = b)) := by
  unfold eqV
  rw [frz_dat _ rfl, frz_dat _ rfl]
  have h1 : okD (.int a) = true := rfl
  have h2 : okD (.int b) = true := rfl
  simp only [h1, h2, and_self, if_true]
  congr 1
theorem eqV_bl (mh : MHp) (a b : Bool) : eqV mh (.bl a) (.bl b) = some (decide (a = b)) := by
  unfold eqV
  rw [frz_dat _ rfl, frz_dat _ rfl]
  have h1 : okD (.bl a) = true := rfl
  have h2 : okD (.bl b) = true := rfl
  simp only [h1, h2, and_self, if_true]
  cases a <;> cases b <;> rfl
theorem eqV_nonint (mh : MHp) (b : Int) : eqV mh .non (.int b) = some false := by
  unfold eqV
  rw [frz_dat _ rfl, frz_dat _ rfl]
  rfl
theorem okD_str {a : Sx} (h : dat (.str a) = true) : okD (.str a) = true := by
  unfold dat at h
  rw [Bool.and_eq_true] at h
  have h2 := h.2
  show (PyData.canLay0 (.str ⟨a.toArray⟩) && decide (PyData.depth (.str ⟨a.toArray⟩) ≤ 64)) = true
  have e1 : PyData.depth (.str ⟨a.toArray⟩) = 0 := by unfold PyData.depth; rfl
  rw [e1]
  unfold PyData.canLay0 PySem.PyData.strOk
  simp at h2 ⊢
  intro i hi
  exact h2 i hi
theorem eqV_str (mh : MHp) (a b : Sx) (ha : dat (.str a) = true) (hb : dat (.str b) = true) : eqV mh (.str a) (.str b) = some (decide (a = b)) := by
  unfold eqV
  rw [frz_dat _ ha, frz_dat _ hb]
  simp only [okD_str ha, okD_str hb, and_self, if_true]
  congr 1
  show PyData.eqv (.str ⟨a.toArray⟩) (.str ⟨b.toArray⟩) = _
  unfold PyData.eqv
  apply Bool.eq_iff_iff.mpr
  simp
theorem idx_nat {α : Type} {xs : List α} {j : Nat} {v : α} (h : xs[j]? = some v) : idx xs (j : Int) = some v := L2.atI_nat h
theorem idx_nat1 {α : Type} {xs : List α} {j : Nat} {v : α} (h : xs[j + 1]? = some v) : idx xs ((j : Int) + 1) = some v := by
  have := L2.atI_nat h
  simpa [idx] using this
theorem atI1 {α : Type} {x y : α} {xs : List α} : idx (x :: y :: xs) 1 = some y := by
  have := idx_nat (xs := x :: y :: xs) (j := 1) (v := y) rfl
  simpa using this
theorem bls_map' {mh : MHp} {α : Type} (xs : List α) (g : α → Bool) : bls mh (.lst (xs.map fun x => .bl (g x))) = some (xs.map g) := by
  have := bls_map (mh := mh) (xs.map g)
  rw [List.map_map] at this
  exact this
/-- the law's state at l, n objects in all -/
def St (l n : Nat) (mh : MHp) : Prop := mh.length = n ∧ ∃ (c : Nat) (i : Int) (cs : List Int), mh[l]? = some (some (.lst [.int i, .loc c])) ∧ mh[c]? = some (some (.lst (cs.map .int))) ∧ cs ≠ [] ∧ c ≠ l
theorem idx_int {cs : List Int} {a : Int} (h0 : 0 ≤ a) (h1 : a < cs.length) : ∃ x, cs[a.toNat]? = some x ∧ idx (cs.map MV.int) a = some (.int x) := by
  have hl : a.toNat < cs.length := by omega
  refine ⟨cs[a.toNat], List.getElem?_eq_getElem hl, ?_⟩
  have : (cs.map MV.int)[a.toNat]? = some (.int cs[a.toNat]) := by
    rw [List.getElem?_map, List.getElem?_eq_getElem hl]; rfl
  have e := L2.atI_nat this
  have : ((a.toNat : Nat) : Int) = a := by omega
  rw [this] at e
  exact e
theorem ixN_in {n : Nat} {a : Int} (h0 : 0 ≤ a) (h1 : a < n) : L2.ixN n a = some a.toNat := by
  unfold L2.ixN
  rw [if_pos h0, if_pos h1]
theorem get_set_ne {mh : MHp} {a b : Nat} {o : Option MO} (h : a ≠ b) : (mh.set a o)[b]? = mh[b]? := List.getElem?_set_ne h
theorem get_set_eq {mh : MHp} {a : Nat} {o o' : Option MO} (h : mh[a]? = some o') : (mh.set a o)[a]? = some o := List.getElem?_set_self (List.getElem?_eq_some_iff.mp h).1
def takeD : Df := ⟨2, 6, false, [(.ite (.cmp .lt (.var 1) (.c (.int (2)))) [(.ret (.c (.int (0))))] []), (.set (.nm 2) (.sub (.var 0) (.c (.int (1))))), (.set (.nm 3) (.bin .mod (.bi .int [(.sub (.var 0) (.c (.int (0))))]) (.bi .len [(.var 2)]))), (.set (.nm 4) (.sub (.var 2) (.var 3))), (.ite (.cmp .ge (.var 4) (.c (.int (1000000000000000000)))) [(.sti (.var 2) (.var 3) (.bin .fdiv (.var 4) (.var 1))), (.ret (.bin .mod (.bi .int [(.var 4)]) (.var 1)))] []), (.sti (.var 0) (.c (.int (0))) (.bin .add (.sub (.var 0) (.c (.int (0)))) (.c (.int (1))))), (.set (.nm 5) (.bin .mod (.bi .int [(.bin .add (.bin .mul (.var 4) (.c (.int (48271)))) (.bin .mul (.sub (.var 0) (.c (.int (0)))) (.c (.int (69621)))))]) (.c (.int (2147483647))))), (.set (.nm 5) (.bin .mod (.bi .int [(.bin .add (.bin .mul (.var 5) (.c (.int (16807)))) (.bin .mul (.sub (.var 0) (.c (.int (0)))) (.c (.int (7919)))))]) (.c (.int (1000000007))))), (.ret (.bin .mod (.bi .int [(.bin .fdiv (.var 5) (.c (.int (7))))]) (.var 1)))]⟩
theorem take_ok {T : List Df} {it : Nat} (hT : T[it]? = some takeD) (k : Nat) {l n : Nat} {mh : MHp} (S : St l n mh) (most : Int) (hm : most ≤ 1000000) : ∃ r mh', callM T (k + 1) it [.loc l, .int most] mh = some (.int r, mh') ∧ St l n mh' ∧ 0 ≤ r ∧ (2 ≤ most → r < most) ∧ (most < 2 → r = 0) := by
  obtain ⟨hn, c, i, cs, h1, h2, h3, h4⟩ := S
  by_cases hlt : most < 2
  · refine ⟨0, mh, ?_, ⟨hn, c, i, cs, h1, h2, h3, h4⟩, by omega, by omega, fun _ => rfl⟩
    rw [callM_eq hT]
    refine run_of' rfl rfl (ρ := [some (.loc l), some (.int most), none, none, none, none]) (fl := .rt (.int 0)) ?_ rfl rfl rfl
    simp [takeD, exs, ex, ev, cmpV, ordV, hlt]
  · have hlen : 0 < (cs.length : Int) := by
      have : 0 < cs.length := List.length_pos_iff.mpr h3
      omega
    have a0 : 0 ≤ i.fmod cs.length := Int.fmod_nonneg_of_pos i hlen
    have a1 : i.fmod cs.length < cs.length := Int.fmod_lt_of_pos i hlen
    obtain ⟨x, hx, ex1⟩ := idx_int (cs := cs) a0 a1
    have hne : ¬ ((cs.length : Int) = 0) := by omega
    have hne' : ¬ (cs.length = 0) := by omega
    have b0 : idx [MV.int i, MV.loc c] 0 = some (.int i) := atI0
    have b1 : idx [MV.int i, MV.loc c] 1 = some (.loc c) := atI1
    have e1 : exs (callM T k) mh.length [(.ite (.cmp .lt (.var 1) (.c (.int (2)))) [(.ret (.c (.int (0))))] []), (.set (.nm 2) (.sub (.var 0) (.c (.int (1))))), (.set (.nm 3) (.bin .mod (.bi .int [(.sub (.var 0) (.c (.int (0))))]) (.bi .len [(.var 2)]))), (.set (.nm 4) (.sub (.var 2) (.var 3)))] [some (.loc l), some (.int most), none, none, none, none] mh = some (.nx, [some (.loc l), some (.int most), some (.loc c), some (.int (i.fmod cs.length)), some (.int x), none], mh) := by
      simp [exs, ex, ev, evs, cmpV, ordV, hlt, subV, getL, h1, h2, b0, b1, asg, biV, one1, intV1, lenV, binV, intV, hne', ex1]
    have mp : 0 < most := by omega
    have mne : ¬ most = 0 := by omega
    have mab : most.natAbs < 1073741824 := by omega
    have spl : ∀ {ss ss' : List MS} {ρ ρ' : Env} {m : MHp} {C : CallF}, exs C mh.length ss ρ mh = some (.nx, ρ', m) → exs C mh.length (ss ++ ss') ρ mh = exs C mh.length ss' ρ' m := fun {ss ss' ρ ρ' m C} h => by
      clear e1
      have gen : ∀ (ss : List MS) (ρ : Env) (m0 : MHp), exs C mh.length ss ρ m0 = some (.nx, ρ', m) → exs C mh.length (ss ++ ss') ρ m0 = exs C mh.length ss' ρ' m := by
        intro ss
        induction ss with
        | nil => intro ρ m0 h; simp only [exs] at h; cases h; rfl
        | cons s ss ih =>
          intro ρ m0 h
          rcases exs_cons h with ⟨ρ1, m1, e, h'⟩ | ⟨_, hn⟩
          · rw [List.cons_append, exs, e]; exact ih ρ1 m1 h'
          · exact absurd rfl hn
      exact gen ss ρ mh h
    rw [callM_eq hT]
    by_cases hbig : x < 1000000000000000000
    · -- the mixed way
      have key : ∀ r : Int, r = (((((x * 48271 + (i + 1) * 69621).fmod 2147483647) * 16807 + (i + 1) * 7919).fmod 1000000007).fdiv 7).fmod most → ∃ ρ, exs (callM T k) mh.length takeD.body [some (.loc l), some (.int most), none, none, none, none] mh = some (.rt (.int r), ρ, mh.set l (some (.lst [.int (i + 1), .loc c]))) := fun r hr => by
        have g1 : (mh.set l (some (.lst [.int (i + 1), .loc c])))[l]? = some (some (.lst [.int (i + 1), .loc c])) := get_set_eq h1
        have g2 : (mh.set l (some (.lst [.int (i + 1), .loc c])))[c]? = some (some (.lst (cs.map .int))) := by rw [get_set_ne (Ne.symm h4)]; exact h2
        have b0' : idx [MV.int (i + 1), MV.loc c] 0 = some (.int (i + 1)) := atI0
        have ix : L2.ixN 2 0 = some 0 := rfl
        have w1 : wr mh.length l (.int (i + 1)) = true := by simp [wr, bd]
        have := spl (ss' := [(.ite (.cmp .ge (.var 4) (.c (.int (1000000000000000000)))) [(.sti (.var 2) (.var 3) (.bin .fdiv (.var 4) (.var 1))), (.ret (.bin .mod (.bi .int [(.var 4)]) (.var 1)))] []), (.sti (.var 0) (.c (.int (0))) (.bin .add (.sub (.var 0) (.c (.int (0)))) (.c (.int (1))))), (.set (.nm 5) (.bin .mod (.bi .int [(.bin .add (.bin .mul (.var 4) (.c (.int (48271)))) (.bin .mul (.sub (.var 0) (.c (.int (0)))) (.c (.int (69621)))))]) (.c (.int (2147483647))))), (.set (.nm 5) (.bin .mod (.bi .int [(.bin .add (.bin .mul (.var 5) (.c (.int (16807)))) (.bin .mul (.sub (.var 0) (.c (.int (0)))) (.c (.int (7919)))))]) (.c (.int (1000000007))))), (.ret (.bin .mod (.bi .int [(.bin .fdiv (.var 5) (.c (.int (7))))]) (.var 1)))]) e1
        refine ⟨[some (.loc l), some (.int most), some (.loc c), some (.int (i.fmod cs.length)), some (.int x), some (.int ((((x * 48271 + (i + 1) * 69621).fmod 2147483647) * 16807 + (i + 1) * 7919).fmod 1000000007))], ?_⟩
        rw [hr]
        show exs (callM T k) mh.length ([(.ite (.cmp .lt (.var 1) (.c (.int (2)))) [(.ret (.c (.int (0))))] []), (.set (.nm 2) (.sub (.var 0) (.c (.int (1))))), (.set (.nm 3) (.bin .mod (.bi .int [(.sub (.var 0) (.c (.int (0))))]) (.bi .len [(.var 2)]))), (.set (.nm 4) (.sub (.var 2) (.var 3)))] ++ _) _ mh = _
        rw [this]
        simp [exs, ex, ev, evs, cmpV, ordV, hbig, subV, getL, h1, g1, b0, b0', asg, biV, one1, intV1, binV, intV, addV, mulV, mne, ix, w1]
      obtain ⟨ρ, e⟩ := key _ rfl
      refine ⟨_, _, run_of' rfl rfl e rfl rfl (by simp), ⟨by simp [hn], c, i + 1, cs, get_set_eq h1, by rw [get_set_ne (Ne.symm h4)]; exact h2, h3, h4⟩, Int.fmod_nonneg_of_pos _ mp, fun _ => Int.fmod_lt_of_pos _ mp, fun z => absurd z hlt⟩
    · have key : ∃ ρ, exs (callM T k) mh.length takeD.body [some (.loc l), some (.int most), none, none, none, none] mh = some (.rt (.int (x.fmod most)), ρ, mh.set c (some (.lst ((cs.set (i.fmod cs.length).toNat (x.fdiv most)).map .int)))) := by
        have ix : L2.ixN cs.length (i.fmod cs.length) = some (i.fmod cs.length).toNat := ixN_in a0 a1
        have w1 : wr mh.length c (.int (x.fdiv most)) = true := by simp [wr, bd]
        have := spl (ss' := [(.ite (.cmp .ge (.var 4) (.c (.int (1000000000000000000)))) [(.sti (.var 2) (.var 3) (.bin .fdiv (.var 4) (.var 1))), (.ret (.bin .mod (.bi .int [(.var 4)]) (.var 1)))] []), (.sti (.var 0) (.c (.int (0))) (.bin .add (.sub (.var 0) (.c (.int (0)))) (.c (.int (1))))), (.set (.nm 5) (.bin .mod (.bi .int [(.bin .add (.bin .mul (.var 4) (.c (.int (48271)))) (.bin .mul (.sub (.var 0) (.c (.int (0)))) (.c (.int (69621)))))]) (.c (.int (2147483647))))), (.set (.nm 5) (.bin .mod (.bi .int [(.bin .add (.bin .mul (.var 5) (.c (.int (16807)))) (.bin .mul (.sub (.var 0) (.c (.int (0)))) (.c (.int (7919)))))]) (.c (.int (1000000007))))), (.ret (.bin .mod (.bi .int [(.bin .fdiv (.var 5) (.c (.int (7))))]) (.var 1)))]) e1
        refine ⟨[some (.loc l), some (.int most), some (.loc c), some (.int (i.fmod cs.length)), some (.int x), none], ?_⟩
        show exs (callM T k) mh.length ([(.ite (.cmp .lt (.var 1) (.c (.int (2)))) [(.ret (.c (.int (0))))] []), (.set (.nm 2) (.sub (.var 0) (.c (.int (1))))), (.set (.nm 3) (.bin .mod (.bi .int [(.sub (.var 0) (.c (.int (0))))]) (.bi .len [(.var 2)]))), (.set (.nm 4) (.sub (.var 2) (.var 3)))] ++ _) _ mh = _
        rw [this]
        simp [exs, ex, ev, evs, cmpV, ordV, hbig, h2, asg, biV, one1, intV1, binV, intV, mne, mab, ix, w1, List.map_set]
      obtain ⟨ρ, e⟩ := key
      refine ⟨_, _, run_of' rfl rfl e rfl rfl (by simp), ⟨by simp [hn], c, i, cs.set (i.fmod cs.length).toNat (x.fdiv most), by rw [get_set_ne h4]; exact h1, get_set_eq h2, by simp [h3], h4⟩, Int.fmod_nonneg_of_pos _ mp, fun _ => Int.fmod_lt_of_pos _ mp, fun z => absurd z hlt⟩
def pickD (it : Nat) : Df := ⟨2, 2, false, [(.ret (.sub (.var 1) (.call it [(.var 0), (.bi .len [(.var 1)])])))]⟩
theorem St.len {l n : Nat} {mh : MHp} (h : St l n mh) : mh.length = n := h.1
theorem pick_ok {T : List Df} {it ip : Nat} (hT : T[it]? = some takeD) (hP : T[ip]? = some (pickD it)) (k : Nat) {l n : Nat} {mh : MHp} (S : St l n mh) (row : List MV) (h0 : row ≠ []) (hr : row.length ≤ 1000000) (hd : dats row = true) : ∃ y mh', y ∈ row ∧ callM T (k + 2) ip [.loc l, .lst row] mh = some (y, mh') ∧ St l n mh' := by
  have hp : 0 < row.length := List.length_pos_iff.mpr h0
  obtain ⟨r, mh', e, S', r0, r1, r2⟩ := take_ok hT k S (row.length : Int) (by omega)
  have hlt : r < (row.length : Int) := by
    by_cases h : 2 ≤ (row.length : Int)
    · exact r1 h
    · have := r2 (by omega); omega
  have hl : r.toNat < row.length := by omega
  have hi : idx row r = some row[r.toNat] := by
    have := L2.atI_nat (List.getElem?_eq_getElem hl)
    have e2 : ((r.toNat : Nat) : Int) = r := by omega
    rw [e2] at this
    exact this
  refine ⟨row[r.toNat], mh', List.getElem_mem hl, ?_, S'⟩
  rw [callM_eq hP]
  refine run_of' rfl rfl (ρ := [some (.loc l), some (.lst row)]) (fl := .rt row[r.toNat]) ?_ rfl (dats_iff.mp hd _ (List.getElem_mem hl)) (by rw [S'.1, S.1])
  simp [pickD, exs, ex, ev, evs, biV, one1, lenV, getL, e, subV, hi]
end L2.Mi

set_option Elab.async false
set_option linter.all false
set_option maxRecDepth 100000
set_option maxHeartbeats 4000000
/-! Ev3: the law's state for any table; == of a value with itself; terms as trees. -/
namespace L2.Mi
open PySem PySem.Spec PyProof.Rows
def stateD : Df := ⟨1, 3, true, [(.set (.nm 1) (.al (.comp (.nm 2) [2] (.slcH (.var 0) (.c (.int (63)))) (.c (.bl true)) (.bi .abs [(.var 2)])))), (.ite (.cmp .eq (.bi .len [(.var 1)]) (.c (.int (0)))) [(.set (.nm 1) (.al (.lst [(.c (.int (0)))])))] []), (.ret (.al (.lst [(.c (.int (0))), (.var 1)])))]⟩
theorem state_ok {T : List Df} {is : Nat} (hT : T[is]? = some stateD) (k : Nat) (ns : List Int) : ∃ l n mh, callM T (k + 1) is [.scr ns] [] = some (.loc l, mh) ∧ St l n mh := by
  let g : Int → Int := fun i => if i < 0 then -i else i
  have hc : ∀ (C : CallF), ev C 0 (.comp (.nm 2) [2] (.slcH (.var 0) (.c (.int (63)))) (.c (.bl true)) (.bi .abs [(.var 2)])) [some (.scr ns), none, none] [] = some (.lst (((ns.take 63).map g).map .int), []) := fun C => by
    have hcut : cut (ns.map MV.int) none (some 63) = (ns.take 63).map .int := by
      have := cut_take (xs := ns.map MV.int) (k := 63)
      rw [show ((63 : Nat) : Int) = 63 from rfl] at this
      rw [this, List.map_take]
    have ei : evI C 0 (.slcH (.var 0) (.c (.int (63)))) [some (.scr ns), none, none] [] = some (⟨(ns.take 63).map .int, none⟩, []) := by
      simp [evI, ev, slcV, hcut, itsOf]
    have hz : ((ns.take 63).map MV.int).length ≤ line := by simp; unfold line; omega
    rw [ev_compq, ei]
    simp only [hz, if_true]
    rw [compGo_pure rfl (g := fun x => match x with | .int i => some (.int (g i)) | _ => none)]
    · simp only
      congr 3
      rw [List.filterMap_map, ← List.filterMap_eq_map, ← List.filterMap_eq_map, List.filterMap_filterMap]
      rfl
    · intro x hx
      obtain ⟨i, _, rfl⟩ := List.mem_map.mp hx
      simp [compF, asg, wipeE, ev, evs, biV, one1, absV, g]
  rw [callM_eq hT]
  have z1 : 1 ≤ line := by unfold line; omega
  have z2 : 2 ≤ line := by unfold line; omega
  unfold runD
  rw [if_pos (show [MV.scr ns].length = stateD.np from rfl)]
  by_cases he : (ns.take 63).map g = []
  · refine ⟨2, 3, [some (.lst []), some (.lst [.int 0]), some (.lst [.int 0, .loc 1])], ?_, rfl, 1, 0, [0], rfl, rfl, by simp, by decide⟩
    have e : exs (callM T k) 0 stateD.body [some (.scr ns), none, none] [] = some (.rt (.loc 2), [some (.scr ns), some (.loc 1), none], [some (.lst []), some (.lst [.int 0]), some (.lst [.int 0, .loc 1])]) := by
      have hc' := hc (callM T k)
      rw [he] at hc'
      have c1 : ex (callM T k) 0 (.set (.nm 1) (.al (.comp (.nm 2) [2] (.slcH (.var 0) (.c (.int (63)))) (.c (.bl true)) (.bi .abs [(.var 2)])))) [some (.scr ns), none, none] [] = some (.nx, [some (.scr ns), some (.loc 0), none], [some (.lst [])]) := by
        rw [ex, ev, hc']
        simp [asg]
      rw [stateD, exs, c1]
      simp [exs, ex, ev, evs, biV, one1, lenV, getL, cmpV, eqV_int, z1, z2, asg]
    show (match exs (callM T k) 0 stateD.body [some (.scr ns), none, none] [] with
      | none => none
      | some (fl, _, mh1) => match endV fl with
        | none => none
        | some v => if stateD.live = true then some (v, mh1) else (frz 0 mh1 8 v).map (·, mh1.take 0)) = _
    rw [e]
    rfl
  · refine ⟨1, 2, [some (.lst (((ns.take 63).map g).map .int)), some (.lst [.int 0, .loc 0])], ?_, rfl, 0, 0, (ns.take 63).map g, rfl, rfl, he, by decide⟩
    have e : exs (callM T k) 0 stateD.body [some (.scr ns), none, none] [] = some (.rt (.loc 1), [some (.scr ns), some (.loc 0), none], [some (.lst (((ns.take 63).map g).map .int)), some (.lst [.int 0, .loc 0])]) := by
      have hc' := hc (callM T k)
      have c1 : ex (callM T k) 0 (.set (.nm 1) (.al (.comp (.nm 2) [2] (.slcH (.var 0) (.c (.int (63)))) (.c (.bl true)) (.bi .abs [(.var 2)])))) [some (.scr ns), none, none] [] = some (.nx, [some (.scr ns), some (.loc 0), none], [some (.lst (((ns.take 63).map g).map .int))]) := by
        rw [ex, ev, hc']
        simp [asg]
      generalize hcs : (ns.take 63).map g = cs at he c1 ⊢
      have hne : ¬ (cs.length = 0) := fun z => he (List.length_eq_zero_iff.mp z)
      rw [stateD, exs, c1]
      simp [exs, ex, ev, evs, biV, one1, lenV, getL, cmpV, eqV_int, he, z2, asg]
    show (match exs (callM T k) 0 stateD.body [some (.scr ns), none, none] [] with
      | none => none
      | some (fl, _, mh1) => match endV fl with
        | none => none
        | some v => if stateD.live = true then some (v, mh1) else (frz 0 mh1 8 v).map (·, mh1.take 0)) = _
    rw [e]
    rfl
/-! ### == of a value with itself -/
mutual
theorem eqD_refl : ∀ x : MV, dat x = true → eqD x x = true
  | .non, _ => by unfold eqD toD PyData.eqv; rfl
  | .bl b, _ => by unfold eqD toD PyData.eqv; simp
  | .int i, _ => by unfold eqD toD PyData.eqv; simp
  | .str s, _ => by unfold eqD toD PyData.eqv; simp
  | .tup xs, h => by
    unfold dat at h
    have := eqDs_refl xs h
    unfold eqD toD PyData.eqv
    exact this
  | .lst xs, h => by
    unfold dat at h
    have := eqDs_refl xs h
    unfold eqD toD PyData.eqv
    exact this
  | .fn _, h => by unfold dat at h; cases h
  | .loc _, h => by unfold dat at h; cases h
  | .dct _ _, h => by unfold dat at h; cases h
  | .scr _, h => by unfold dat at h; cases h
theorem eqDs_refl : ∀ xs : List MV, dats xs = true → PyData.eqvAll (toDs xs) (toDs xs) = true
  | [], _ => by unfold toDs PyData.eqvAll; rfl
  | x :: xs, h => by
    unfold dats at h
    rw [Bool.and_eq_true] at h
    have h1 := eqD_refl x h.1
    have h2 := eqDs_refl xs h.2
    unfold eqD at h1
    unfold toDs PyData.eqvAll
    rw [h1, h2]; rfl
end
mutual
/-- how deep lists and tuples stand in one another -/
def dep : MV → Nat
  | .tup xs => deps xs + 1
  | .lst xs => deps xs + 1
  | _ => 0
def deps : List MV → Nat
  | [] => 0
  | x :: xs => max (dep x) (deps xs)
end
mutual
theorem dat_can : ∀ x : MV, dat x = true → PyData.canLay0 (toD x) = true ∧ PyData.depth (toD x) ≤ dep x
  | .non, _ => ⟨rfl, by unfold toD PyData.depth; omega⟩
  | .bl b, _ => ⟨rfl, by unfold toD PyData.depth; omega⟩
  | .int i, _ => ⟨rfl, by unfold toD PyData.depth; omega⟩
  | .str s, h => by
    have := okD_str h
    unfold okD SeqAt.shaped at this
    rw [Bool.and_eq_true] at this
    exact ⟨this.1, by unfold toD PyData.depth; omega⟩
  | .tup xs, h => by
    unfold dat at h
    obtain ⟨h1, h2⟩ := dats_can xs h
    unfold toD
    refine ⟨by unfold PyData.canLay0; exact h1, ?_⟩
    unfold PyData.depth dep
    omega
  | .lst xs, h => by
    unfold dat at h
    obtain ⟨h1, h2⟩ := dats_can xs h
    unfold toD
    refine ⟨by unfold PyData.canLay0; exact h1, ?_⟩
    unfold PyData.depth dep
    omega
  | .fn _, h => by unfold dat at h; cases h
  | .loc _, h => by unfold dat at h; cases h
  | .dct _ _, h => by unfold dat at h; cases h
  | .scr _, h => by unfold dat at h; cases h
theorem dats_can : ∀ xs : List MV, dats xs = true → PyData.canLayAll0 (toDs xs) = true ∧ PyData.depthAll (toDs xs) ≤ deps xs
  | [], _ => ⟨rfl, by unfold toDs PyData.depthAll; omega⟩
  | x :: xs, h => by
    unfold dats at h
    rw [Bool.and_eq_true] at h
    obtain ⟨a1, a2⟩ := dat_can x h.1
    obtain ⟨b1, b2⟩ := dats_can xs h.2
    unfold toDs
    refine ⟨by unfold PyData.canLayAll0; rw [a1, b1]; rfl, ?_⟩
    unfold PyData.depthAll deps
    omega
end
theorem okD_dat {x : MV} (h : dat x = true) (hd : dep x ≤ 64) : okD x = true := by
  obtain ⟨h1, h2⟩ := dat_can x h
  unfold okD SeqAt.shaped
  rw [h1, Bool.true_and]
  exact decide_eq_true (by omega)
theorem eqV_refl (mh : MHp) {x : MV} (h : dat x = true) (hd : dep x ≤ 64) : eqV mh x x = some true := by
  unfold eqV
  rw [frz_dat x h]
  simp only [okD_dat h hd, and_self, if_true, eqD_refl x h]
end L2.Mi

set_option Elab.async false
set_option linter.all false
set_option maxRecDepth 100000
set_option maxHeartbeats 4000000
/-! Ev4: the law's tongues and drawn terms, for any table. -/
namespace L2.Mi
open PySem PySem.Spec PyProof.Rows
mutual
def cnt : MV → Nat
  | .tup xs => 1 + cntT xs
  | _ => 1
def cntT : List MV → Nat
  | [] => 0
  | _ :: xs => cnts xs
def cnts : List MV → Nat
  | [] => 0
  | x :: xs => cnt x + cnts xs
end
theorem cnts_app (xs ys : List MV) : cnts (xs ++ ys) = cnts xs + cnts ys := by
  induction xs with
  | nil => simp [cnts]
  | cons x xs ih => simp only [List.cons_append, cnts, ih]; omega
theorem dats_app (xs ys : List MV) : dats (xs ++ ys) = (dats xs && dats ys) := by
  induction xs with
  | nil => simp [dats]
  | cons x xs ih => simp only [List.cons_append, dats, ih, Bool.and_assoc]
theorem cnt_pos (x : MV) : 1 ≤ cnt x := by
  cases x <;> simp [cnt]
theorem len_cnts : ∀ w : List MV, w.length ≤ cnts w
  | [] => by simp
  | x :: w => by have := len_cnts w; have := cnt_pos x; simp only [cnts, List.length_cons]; omega
abbrev pr (s : Sx) (i : Int) : MV := .tup [.str s, .int i]
def tongues : List (List MV) := [[pr [97] 0, pr [102] 2], [pr [97] 0, pr [98] 0, pr [102] 2, pr [103] 1], [pr [97] 0, pr [98, 49] 0, pr [103] 1, pr [104] 3], [pr [99] 0, pr [102] 2, pr [103] 1]]
def isZ (p : MV) : Bool := match p with | .tup [_, .int i] => decide (i = 0) | _ => false
def tokPG : MV → Bool
  | .tup [.str s, .int i] => decide (0 ≤ i) && decide (i ≤ 3) && dat (.str s)
  | _ => false
def tokG (ps : List MV) : Bool := ps.all tokPG && dats ps && decide (2 ≤ ps.length) && decide (ps.length ≤ 4) && (ps.filter isZ).length != 0
theorem tongues_okG : tongues.all tokG = true := by decide +kernel
structure TokG (ps : List MV) : Prop where
  each : ∀ p ∈ ps, ∃ (s : Sx) (i : Nat), p = pr s i ∧ i ≤ 3 ∧ dat (.str s) = true
  dat : dats ps = true
  l2 : 2 ≤ ps.length
  l4 : ps.length ≤ 4
  zero : ps.filter isZ ≠ []
theorem tokG_of {ps : List MV} (h : ps ∈ tongues) : TokG ps := by
  have := List.all_eq_true.mp tongues_okG ps h
  unfold tokG at this
  simp only [Bool.and_eq_true, decide_eq_true_eq] at this
  obtain ⟨⟨⟨⟨h1, h3⟩, h4⟩, h5⟩, h7⟩ := this
  refine ⟨fun p hp => ?_, h3, h4, h5, fun z => by rw [z] at h7; simp at h7⟩
  have := List.all_eq_true.mp h1 p hp
  unfold tokPG at this
  split at this
  · rename_i s i
    simp only [Bool.and_eq_true, decide_eq_true_eq] at this
    obtain ⟨⟨a, b⟩, d⟩ := this
    refine ⟨s, i.toNat, ?_, by omega, d⟩
    have : ((i.toNat : Nat) : Int) = i := by omega
    rw [this]
  · cases this
def tongueD (ip : Nat) : Df := ⟨1, 1, false, [(.ret (.call ip [(.var 0), (.lst [(.tup [(.tup [(.c (.str [97])), (.c (.int (0)))]), (.tup [(.c (.str [102])), (.c (.int (2)))])]), (.tup [(.tup [(.c (.str [97])), (.c (.int (0)))]), (.tup [(.c (.str [98])), (.c (.int (0)))]), (.tup [(.c (.str [102])), (.c (.int (2)))]), (.tup [(.c (.str [103])), (.c (.int (1)))])]), (.tup [(.tup [(.c (.str [97])), (.c (.int (0)))]), (.tup [(.c (.str [98, 49])), (.c (.int (0)))]), (.tup [(.c (.str [103])), (.c (.int (1)))]), (.tup [(.c (.str [104])), (.c (.int (3)))])]), (.tup [(.tup [(.c (.str [99])), (.c (.int (0)))]), (.tup [(.c (.str [102])), (.c (.int (2)))]), (.tup [(.c (.str [103])), (.c (.int (1)))])])])]))]⟩
theorem tongue_ok {T : List Df} {it ip ig : Nat} (hT : T[it]? = some takeD) (hP : T[ip]? = some (pickD it)) (hG : T[ig]? = some (tongueD ip)) (k : Nat) {l n : Nat} {mh : MHp} (S : St l n mh) : ∃ ps mh', ps ∈ tongues ∧ callM T (k + 3) ig [.loc l] mh = some (.tup ps, mh') ∧ St l n mh' := by
  obtain ⟨y, mh', hy, e, S'⟩ := pick_ok hT hP k S (tongues.map .tup) (by simp [tongues]) (by simp [tongues]) (by decide +kernel)
  obtain ⟨ps, hps, rfl⟩ := List.mem_map.mp hy
  refine ⟨ps, mh', hps, ?_, S'⟩
  rw [callM_eq hG]
  have hd : dat (.tup ps) = true := by unfold dat; exact (tokG_of hps).dat
  refine run_of' rfl rfl (ρ := [some (.loc l)]) (fl := .rt (.tup ps)) ?_ rfl hd (by rw [S'.1, S.1])
  have h1 : 2 ≤ line := by unfold line; omega
  have h2 : 3 ≤ line := by unfold line; omega
  have h3 : 4 ≤ line := by unfold line; omega
  simp only [tongues, pr, List.map] at e
  simp [tongueD, exs, ex, ev, evs, e, h1, h2, h3]
def bnd : Nat → Nat
  | 0 => 1
  | m + 1 => 1 + 3 * bnd m
theorem bnd_pos (m : Nat) : 1 ≤ bnd m := by cases m <;> simp [bnd] <;> omega
theorem cnts_le {b : Nat} : ∀ {xs : List MV}, (∀ x ∈ xs, cnt x ≤ b) → cnts xs ≤ xs.length * b
  | [], _ => by simp [cnts]
  | x :: xs, h => by
    have h1 := h x (by simp)
    have h2 := cnts_le (xs := xs) fun y hy => h y (List.mem_cons_of_mem _ hy)
    simp only [cnts, List.length_cons, Nat.succ_mul]
    omega
structure DrawnG (P : MV → Prop) (b e : Nat) (t : MV) : Prop where
  good : P t
  cnt : cnt t ≤ b
  dep : dep t ≤ e
  dat : dat t = true
theorem deps_le {b : Nat} : ∀ {xs : List MV}, (∀ x ∈ xs, dep x ≤ b) → deps xs ≤ b
  | [], _ => by simp [deps]
  | x :: xs, h => by
    have h1 := h x (by simp)
    have h2 := deps_le (xs := xs) fun y hy => h y (List.mem_cons_of_mem _ hy)
    simp only [deps]
    omega
def termD (it ip im : Nat) : Df := ⟨4, 9, false, [(.ite (.and (.cmp .gt (.bi .len [(.var 2)]) (.c (.int (0)))) (.cmp .eq (.call it [(.var 0), (.ite (.cmp .gt (.var 3) (.c (.int (1)))) (.c (.int (3))) (.c (.int (2))))]) (.c (.int (0))))) [(.ret (.call ip [(.var 0), (.var 2)]))] []), (.set (.nm 4) (.comp (.nm 7) [7] (.var 1) (.or (.cmp .gt (.var 3) (.c (.int (1)))) (.cmp .eq (.sub (.var 7) (.c (.int (1)))) (.c (.int (0))))) (.var 7))), (.set (.tp [(.nm 5), (.nm 6)]) (.call ip [(.var 0), (.var 4)])), (.ret (.bin .add (.tup [(.var 5)]) (.bi .tuple [(.comp (.nm 8) [8] (.rng1 (.var 6)) (.c (.bl true)) (.call im [(.var 0), (.var 1), (.var 2), (.bin .sub (.var 3) (.c (.int (1))))]))])))]⟩
abbrev mEnv (l : Nat) (ps names : List MV) (M : Int) (a b c : Option MV) : Env := [some (.loc l), some (.tup ps), some (.lst names), some (.int M), a, b, c, none, none]
theorem fm_filter (P : MV → Bool) : ∀ xs : List MV, xs.filterMap (fun p => if P p = true then some p else none) = xs.filter P
  | [] => rfl
  | x :: xs => by
    rw [List.filterMap_cons, List.filter_cons, fm_filter P xs]
    cases P x <;> rfl
theorem term_bodyG {T : List Df} {it ip im : Nat} (hT : T[it]? = some takeD) (hPk : T[ip]? = some (pickD it)) {P0 : MV → Prop} {l n : Nat} {ps : List MV} (hps : TokG ps) (hP0 : ∀ s (i : Nat) ys, pr s i ∈ ps → ys.length = i → (∀ y ∈ ys, P0 y) → P0 (.tup (.str s :: ys))) {names : List MV} (hnl : names.length ≤ 1000) (hnd : dats names = true) (hng : ∀ x ∈ names, ∃ s, x = .str s ∧ P0 (.str s))
    {k : Nat} {M : Int} {b e : Nat} {mh : MHp} (hM : 1 ≤ M) (S : St l n mh)
    (rec : 1 < M → ∀ mh, St l n mh → ∃ t mh', callM T (k + 2) im [.loc l, .tup ps, .lst names, .int (M - 1)] mh = some (t, mh') ∧ St l n mh' ∧ DrawnG P0 b e t) :
    ∃ t ρ mh', exs (callM T (k + 2)) mh.length (termD it ip im).body (mEnv l ps names M none none none) mh = some (.rt t, ρ, mh') ∧ St l n mh' ∧ DrawnG P0 (1 + 3 * b) (e + 1) t := by
  have z2 : 2 ≤ line := by unfold line; omega
  have hc1 : ∃ b mh1, ev (callM T (k + 2)) mh.length (.and (.cmp .gt (.bi .len [(.var 2)]) (.c (.int (0)))) (.cmp .eq (.call it [(.var 0), (.ite (.cmp .gt (.var 3) (.c (.int (1)))) (.c (.int (3))) (.c (.int (2))))]) (.c (.int (0))))) (mEnv l ps names M none none none) mh = some (.bl b, mh1) ∧ St l n mh1 ∧ (b = true → names ≠ []) := by
    by_cases hn0 : names = []
    · refine ⟨false, mh, ?_, S, fun h => by cases h⟩
      subst hn0
      simp [mEnv, ev, evs, biV, one1, lenV, getL, cmpV, ordV]
    · have hnl0 : 0 < names.length := List.length_pos_iff.mpr hn0
      obtain ⟨r, mh1, e1, S1, r0, _, _⟩ := take_ok hT (k + 1) S (if 1 < M then 3 else 2) (by split <;> omega)
      refine ⟨decide (r = 0), mh1, ?_, S1, fun _ => hn0⟩
      by_cases h : 1 < M
      · rw [if_pos h] at e1
        have e1 : callM T (k + 2) it [.loc l, .int 3] mh = _ := e1
        simp [mEnv, ev, evs, biV, one1, lenV, getL, cmpV, ordV, hnl0, h, e1, eqV_int]
      · rw [if_neg h] at e1
        have e1 : callM T (k + 2) it [.loc l, .int 2] mh = _ := e1
        simp [mEnv, ev, evs, biV, one1, lenV, getL, cmpV, ordV, hnl0, h, e1, eqV_int]
  obtain ⟨bb, mh1, c1, S1, hbn⟩ := hc1
  cases bb with
  | true =>
    obtain ⟨y, mh2, hy, e2, S2⟩ := pick_ok hT hPk k S1 names (hbn rfl) (by omega) hnd
    obtain ⟨s, rfl, hs⟩ := hng y hy
    refine ⟨.str s, mEnv l ps names M none none none, mh2, ?_, S2, ⟨hs, by simp only [cnt]; omega, by simp only [dep]; omega, dats_iff.mp hnd _ hy⟩⟩
    rw [termD, exs]
    simp only [ex, c1]
    simp [exs, ex, ev, evs, mEnv, e2]
  | false =>
    -- a pair is drawn
    let P : MV → Bool := fun p => decide (1 < M) || isZ p
    have hg : ev (callM T (k + 2)) mh.length (.comp (.nm 7) [7] (.var 1) (.or (.cmp .gt (.var 3) (.c (.int (1)))) (.cmp .eq (.sub (.var 7) (.c (.int (1)))) (.c (.int (0))))) (.var 7)) (mEnv l ps names M none none none) mh1 = some (.lst (ps.filter P), mh1) := by
      have ei : evI (callM T (k + 2)) mh.length (.var 1) (mEnv l ps names M none none none) mh1 = some (⟨ps, none⟩, mh1) := by simp [evI, ev, itsOf, mEnv]
      have hz : ps.length ≤ line := by have := hps.l4; unfold line; omega
      rw [ev_compq, ei]
      simp only [hz, if_true]
      rw [compGo_pure rfl (g := fun p => if P p = true then some p else none)]
      · simp only
        rw [fm_filter]
      · intro p hp
        obtain ⟨s, i, rfl, hi, _⟩ := hps.each p hp
        by_cases h : 1 < M
        · simp [compF, asg, wipeE, ev, mEnv, cmpV, ordV, h, P]
        · by_cases hi0 : (i : Int) = 0
          · simp [compF, asg, wipeE, ev, mEnv, cmpV, ordV, h, P, subV, atI1, eqV_int, isZ, hi0]
          · have hi0' : ¬ (i = 0) := by omega
            simp [compF, asg, wipeE, ev, mEnv, cmpV, ordV, h, P, subV, atI1, eqV_int, isZ, hi0, hi0']
    have hne : ps.filter P ≠ [] := by
      have hz := hps.zero
      intro z
      apply hz
      rw [List.filter_eq_nil_iff] at z ⊢
      intro p hp q
      exact z p hp (by
        have : isZ p = true := q
        simp [P, this])
    have hfl : (ps.filter P).length ≤ 1000 := Nat.le_trans (List.length_filter_le _ _) (by have := hps.l4; omega)
    have hfd : dats (ps.filter P) = true := dats_iff.mpr fun x hx => dats_iff.mp hps.dat x ((List.mem_filter.mp hx).1)
    obtain ⟨y, mh2, hy, e2, S2⟩ := pick_ok hT hPk k S1 (ps.filter P) hne (by omega) hfd
    have hyp := (List.mem_filter.mp hy).1
    obtain ⟨s, i, rfl, hi, hds⟩ := hps.each y hyp
    have hi1 : ¬ 1 < M → i = 0 := fun h => by
      have := (List.mem_filter.mp hy).2
      simp [P, h, isZ] at this
      exact this
    -- the parts
    have hpart : ∃ ys mh3, ev (callM T (k + 2)) mh.length (.comp (.nm 8) [8] (.rng1 (.var 6)) (.c (.bl true)) (.call im [(.var 0), (.var 1), (.var 2), (.bin .sub (.var 3) (.c (.int (1))))])) (mEnv l ps names M (some (.lst (ps.filter P))) (some (.str s)) (some (.int i))) mh2 = some (.lst ys, mh3) ∧ St l n mh3 ∧ ys.length = i ∧ ∀ y ∈ ys, DrawnG P0 b e y := by
      have ei : evI (callM T (k + 2)) mh.length (.rng1 (.var 6)) (mEnv l ps names M (some (.lst (ps.filter P))) (some (.str s)) (some (.int i))) mh2 = some (⟨(List.range i).map fun (k : Nat) => .int (k : Int), none⟩, mh2) := by
        have b1 : (-4611686018427387904 : Int) ≤ i := by omega
        have b2 : (i : Int) < 4611686018427387904 := by omega
        simp [evI, ev, mEnv, b1, b2]
      obtain ⟨ys, mh3, q1, q2, q3, q4⟩ := compGo_st (J := ⟨(List.range i).map fun (k : Nat) => MV.int (k : Int), none⟩) rfl (f := compF (callM T (k + 2)) mh.length (.nm 8) [8] (.c (.bl true)) (.call im [(.var 0), (.var 1), (.var 2), (.bin .sub (.var 3) (.c (.int (1))))]) (mEnv l ps names M (some (.lst (ps.filter P))) (some (.str s)) (some (.int i)))) (P := St l n) (R := DrawnG P0 b e) (xs := (List.range i).map fun (k : Nat) => MV.int (k : Int)) S2 (fun x hx m1 Sm => by
        obtain ⟨j, hj, rfl⟩ := List.mem_map.mp hx
        have hj' := List.mem_range.mp hj
        have h1 : 1 < M := Classical.byContradiction fun z => by have := hi1 z; omega
        obtain ⟨t, m2, t1, t2, t3⟩ := rec h1 m1 Sm
        refine ⟨t, m2, ?_, t2, t3⟩
        simp [compF, asg, wipeE, ev, evs, mEnv, binV, intV, t1])
      refine ⟨ys, mh3, ?_, q2, by simpa using q3, q4⟩
      rw [ev_compq, ei]
      have hz : i ≤ line := by unfold line; omega
      simp only [List.length_map, List.length_range, hz, if_true, q1]
    obtain ⟨ys, mh3, e3, S3, hl, hy3⟩ := hpart
    have hdd : dats ys = true := dats_iff.mpr fun x hx => (hy3 x hx).dat
    have hcc : cnts ys ≤ i * b := by rw [← hl]; exact cnts_le fun x hx => (hy3 x hx).cnt
    have hib : i * b ≤ 3 * b := Nat.mul_le_mul_right b hi
    refine ⟨.tup (.str s :: ys), mEnv l ps names M (some (.lst (ps.filter P))) (some (.str s)) (some (.int i)), mh3, ?_, S3, ⟨?_, ?_, ?_, ?_⟩⟩
    · have hz : 1 ≤ line := by unfold line; omega
      have hz2 : 1 + ys.length ≤ line := by unfold line; omega
      rw [termD, exs]
      simp only [ex, c1, exs, hg]
      simp only [asg, mEnv, List.length_cons, List.length_nil, List.set, Nat.reduceAdd, Nat.reduceLT, if_true]
      simp only [mEnv] at e3
      simp [ev, evs, e2, asg, asgs, e3, exs, ex, hz, biV, one1, tupV, getL, binV, addV, hz2]
    · exact hP0 s i ys hyp hl fun y hy => (hy3 y hy).good
    · simp only [cnt, cntT]; omega
    · have := deps_le fun x hx => (hy3 x hx).dep
      simp only [dep, deps]
      omega
    · unfold dat dats; rw [hds, hdd]; rfl
theorem term_ok {T : List Df} {it ip im : Nat} (hT : T[it]? = some takeD) (hPk : T[ip]? = some (pickD it)) (hM : T[im]? = some (termD it ip im)) {P0 : MV → Prop} {l n : Nat} {ps : List MV} (hps : TokG ps) (hP0 : ∀ s (i : Nat) ys, pr s i ∈ ps → ys.length = i → (∀ y ∈ ys, P0 y) → P0 (.tup (.str s :: ys))) {names : List MV} (hnl : names.length ≤ 1000) (hnd : dats names = true) (hng : ∀ x ∈ names, ∃ s, x = .str s ∧ P0 (.str s)) :
    ∀ (m k : Nat) {mh : MHp}, St l n mh → ∃ t mh', callM T (k + m + 3) im [.loc l, .tup ps, .lst names, .int ((m + 1 : Nat) : Int)] mh = some (t, mh') ∧ St l n mh' ∧ DrawnG P0 (bnd m) (m + 1) t := by
  intro m
  induction m with
  | zero =>
    intro k mh S
    obtain ⟨t, ρ, mh', e, S', d⟩ := term_bodyG hT hPk hps hP0 hnl hnd hng (k := k) (M := ((0 + 1 : Nat) : Int)) (b := 0) (e := 0) (mh := mh) (by omega) S (fun h => by exfalso; omega)
    refine ⟨t, mh', ?_, S', d⟩
    rw [callM_eq hM]
    exact run_of' rfl rfl e rfl d.dat (by rw [S'.1, S.1])
  | succ m ih =>
    intro k mh S
    obtain ⟨t, ρ, mh', e, S', d⟩ := term_bodyG hT hPk hps hP0 hnl hnd hng (k := k + m + 1) (M := ((m + 1 + 1 : Nat) : Int)) (b := bnd m) (e := m + 1) (mh := mh) (by omega) S (fun h mh1 S1 => by
      obtain ⟨t, mh2, q, r⟩ := ih k S1
      have e2 : ((m + 1 + 1 : Nat) : Int) - 1 = ((m + 1 : Nat) : Int) := by omega
      rw [e2]
      exact ⟨t, mh2, q, r⟩)
    refine ⟨t, mh', ?_, S', d⟩
    rw [show k + (m + 1) + 3 = (k + m + 1 + 2) + 1 by omega, callM_eq hM]
    exact run_of' rfl rfl e rfl d.dat (by rw [S'.1, S.1])
end L2.Mi

set_option Elab.async false
set_option linter.all false
set_option maxRecDepth 100000
set_option maxHeartbeats 4000000
/-! Ev5: terms, positions, parts put, for any table (bounded by depth). -/
namespace L2.Mi
open PySem PySem.Spec PyProof.Rows
def isS : MV → Bool
  | .str _ => true
  | _ => false
mutual
/-- a term: a text, or a tuple of a text and terms -/
def tm : MV → Bool
  | .str _ => true
  | .tup xs => tmT xs
  | _ => false
def tmT : List MV → Bool
  | [] => false
  | h :: xs => isS h && tms xs
def tms : List MV → Bool
  | [] => true
  | x :: xs => tm x && tms xs
end
theorem tms_iff : ∀ {xs : List MV}, tms xs = true ↔ ∀ x ∈ xs, tm x = true
  | [] => by simp [tms]
  | x :: xs => by simp [tms, tms_iff (xs := xs)]
/-- a term is a text, or a tuple of a text and terms -/
theorem tm_cases {t : MV} (h : tm t = true) (hd : dat t = true) : (∃ s, t = .str s) ∨ ∃ s xs, t = .tup (.str s :: xs) ∧ dat (.str s) = true ∧ (∀ x ∈ xs, tm x = true ∧ dat x = true) := by
  cases t with
  | str s => exact .inl ⟨s, rfl⟩
  | tup ys =>
    cases ys with
    | nil => simp [tm, tmT] at h
    | cons y xs =>
      simp only [tm, tmT, Bool.and_eq_true] at h
      cases y with
      | str s =>
        have hds : dats (.str s :: xs) = true := by unfold dat at hd; exact hd
        exact .inr ⟨s, xs, rfl, dats_iff.mp hds _ (by simp), fun x hx => ⟨tms_iff.mp h.2 x hx, dats_iff.mp hds x (List.mem_cons_of_mem _ hx)⟩⟩
      | _ => simp [isS] at h
  | _ => simp [tm] at h
theorem cnt_le {x : MV} {xs : List MV} (h : x ∈ xs) : cnt x ≤ cnts xs := by
  induction xs with
  | nil => simp at h
  | cons y xs ih =>
    simp only [cnts]
    rcases List.mem_cons.mp h with rfl | h
    · omega
    · have := ih h; omega
theorem ints_map {mh : MHp} (ns : List Int) : intsM mh (.lst (ns.map .int)) = some ns := by
  unfold intsM
  show (ns.map MV.int).mapM intOf = some ns
  induction ns with
  | nil => rfl
  | cons n ns ih => rw [List.map_cons, List.mapM_cons, ih]; rfl
theorem ints_map2 {mh : MHp} {α : Type} (xs : List α) (g : α → Int) : intsM mh (.lst (xs.map (MV.int ∘ g))) = some (xs.map g) := by
  have := ints_map (mh := mh) (xs.map g)
  rw [List.map_map] at this
  exact this
theorem cut1 (h : MV) (xs : List MV) : cut (h :: xs) (some 1) none = xs := by
  have := cut_drop (xs := h :: xs) (k := 1)
  simpa using this
/-- the part at a position -/
def atF : MV → List Int → Option MV
  | t, [] => some t
  | .tup xs, i :: is => (idx xs i).bind fun x => atF x is
  | _, _ :: _ => none
theorem atF_dat : ∀ (is : List Int) (t r : MV), dat t = true → atF t is = some r → dat r = true
  | [], t, r, h, e => by simp only [atF] at e; cases e; exact h
  | i :: is, t, r, h, e => by
    cases t with
    | tup xs =>
      simp only [atF, Option.bind_eq_some_iff] at e
      obtain ⟨x, e1, e2⟩ := e
      have hx : x ∈ xs := by
        unfold idx L2.atI at e1
        obtain ⟨j, _, e3⟩ := Option.bind_eq_some_iff.mp e1
        exact List.mem_of_getElem? e3
      exact atF_dat is x r (dats_iff.mp (by unfold dat at h; exact h) x hx) e2
    | _ => simp [atF] at e
abbrev atB : List MS := [(.set (.nm 0) (.sub (.var 0) (.var 2)))]
theorem at_loop {C : CallF} {b : Nat} {p : Option MV} {mh : MHp} {J : Its} (hJ : J.src = none) : ∀ (is : List Int) (t r : MV) (o : Option MV), atF t is = some r →
    ∃ o', forGo J (forF C b (.nm 2) atB) (is.map .int) [some t, p, o] mh = some (.nx, [some r, p, o'], mh)
  | [], t, r, o, e => by simp only [atF] at e; cases e; exact ⟨o, forGo_nil_of hJ⟩
  | i :: is, t, r, o, e => by
    cases t with
    | tup xs =>
      simp only [atF, Option.bind_eq_some_iff] at e
      obtain ⟨x, e1, e2⟩ := e
      have st : forF C b (.nm 2) atB (.int i) [some (.tup xs), p, o] mh = some (.nx, [some x, p, some (.int i)], mh) := by
        simp [forF, asg, exs, ex, ev, subV, e1]
      rw [List.map_cons, forGo_cons_of hJ, st]
      exact at_loop hJ is x r _ e2
    | _ => simp [atF] at e
def latD : Df := ⟨2, 3, false, [(.for (.nm 2) (.var 1) atB), (.ret (.var 0))]⟩
theorem at_ok {T : List Df} {f : Nat} (hT : T[f]? = some latD) (k : Nat) {t r : MV} {is : List Int} (mh : MHp) (hd : dat t = true) (e : atF t is = some r) : callM T (k + 1) f [t, .tup (is.map .int)] mh = some (r, mh) := by
  rw [callM_eq hT]
  obtain ⟨o', h⟩ := at_loop (C := callM T k) (b := mh.length) (p := some (.tup (is.map .int))) (mh := mh) (J := ⟨is.map .int, none⟩) rfl is t r none e
  refine run_of' rfl rfl (ρ := [some r, some (.tup (is.map .int)), o']) (fl := .rt r) ?_ rfl (atF_dat is t r hd e) rfl
  have ei : evI (callM T k) mh.length (.var 1) [some t, some (.tup (is.map .int)), none] mh = some (⟨is.map .int, none⟩, mh) := by simp [evI, ev, itsOf]
  show exs (callM T k) mh.length latD.body [some t, some (.tup (is.map .int)), none] mh = _
  rw [latD, exs, ex_for, ei]
  simp only
  rw [h]
  simp [exs, ex, ev]
/-- a position as a value -/
abbrev pV (p : List Int) : MV := .tup (p.map .int)
mutual
/-- the positions of a term -/
def pls : MV → List (List Int)
  | .tup xs => [] :: plsT xs
  | _ => [[]]
def plsT : List MV → List (List Int)
  | [] => []
  | _ :: xs => plsL 1 xs
def plsL : Nat → List MV → List (List Int)
  | _, [] => []
  | k, x :: xs => (pls x).map (fun p => (k : Int) :: p) ++ plsL (k + 1) xs
end
mutual
theorem pls_len : ∀ t, (pls t).length = cnt t
  | .tup [] => by simp [pls, plsT, cnt, cntT]
  | .tup (_ :: xs) => by
    have := plsL_len 1 xs
    simp only [pls, plsT, cnt, cntT, List.length_cons]
    omega
  | .str _ => by simp [pls, cnt]
  | .non => by simp [pls, cnt]
  | .bl _ => by simp [pls, cnt]
  | .int _ => by simp [pls, cnt]
  | .fn _ => by simp [pls, cnt]
  | .lst _ => by simp [pls, cnt]
  | .loc _ => by simp [pls, cnt]
  | .dct _ _ => by simp [pls, cnt]
  | .scr _ => by simp [pls, cnt]
theorem plsL_len : ∀ (k : Nat) (xs : List MV), (plsL k xs).length = cnts xs
  | k, [] => by simp [plsL, cnts]
  | k, x :: xs => by
    have h1 := pls_len x
    have h2 := plsL_len (k + 1) xs
    simp only [plsL, cnts, List.length_append, List.length_map]
    omega
end
theorem mem_plsL : ∀ {xs : List MV} {k : Nat} {q : List Int}, q ∈ plsL k xs ↔ ∃ (j : Nat) (x : MV) (p : List Int), xs[j]? = some x ∧ q = ((k + j : Nat) : Int) :: p ∧ p ∈ pls x
  | [], k, q => by simp [plsL]
  | x :: xs, k, q => by
    simp only [plsL, List.mem_append, List.mem_map]
    rw [mem_plsL (xs := xs)]
    constructor
    · rintro (⟨p, hp, rfl⟩ | ⟨j, y, p, h1, h2, h3⟩)
      · exact ⟨0, x, p, rfl, rfl, hp⟩
      · exact ⟨j + 1, y, p, by simpa using h1, by rw [h2]; congr 2; omega, h3⟩
    · rintro ⟨j, y, p, h1, h2, h3⟩
      cases j with
      | zero =>
        simp at h1
        subst h1
        exact .inl ⟨p, h3, h2.symm⟩
      | succ j => exact .inr ⟨j, y, p, by simpa using h1, by rw [h2]; congr 2; omega, h3⟩
theorem nil_pls (t : MV) : [] ∈ pls t := by
  cases t <;> simp [pls]
theorem head_pls (t : MV) : (pls t).head? = some [] := by
  cases t <;> simp [pls]
/-- a position that is not the top -/
theorem cons_pls {t : MV} {i : Int} {p : List Int} : i :: p ∈ pls t ↔ ∃ (h : MV) (xs : List MV) (j : Nat) (x : MV), t = .tup (h :: xs) ∧ i = ((1 + j : Nat) : Int) ∧ xs[j]? = some x ∧ p ∈ pls x := by
  cases t with
  | tup ys =>
    cases ys with
    | nil => simp [pls, plsT]
    | cons h xs =>
      simp only [pls, plsT, List.mem_cons]
      rw [mem_plsL]
      constructor
      · rintro (h | ⟨j, x, q, h1, h2, h3⟩)
        · simp at h
        · simp only [List.cons.injEq] at h2
          obtain ⟨h2, h4⟩ := h2
          subst h4
          exact ⟨h, xs, j, x, rfl, h2, h1, h3⟩
      · rintro ⟨h', xs', j, x, e, h2, h1, h3⟩
        simp only [MV.tup.injEq, List.cons.injEq] at e
        obtain ⟨e1, e2⟩ := e
        subst e1 e2
        exact .inr ⟨j, x, p, h1, by rw [h2], h3⟩
  | _ => simp [pls]
theorem get_cons1 {h : MV} {xs : List MV} {j : Nat} {x : MV} (e : xs[j]? = some x) : (h :: xs)[1 + j]? = some x := by
  rw [Nat.add_comm]; simpa using e
theorem pls_at : ∀ (p : List Int) (t : MV), p ∈ pls t → ∃ r, atF t p = some r
  | [], t, _ => ⟨t, by cases t <;> rfl⟩
  | i :: p, t, h => by
    obtain ⟨hd, xs, j, x, rfl, rfl, h1, h2⟩ := cons_pls.mp h
    obtain ⟨r, e⟩ := pls_at p x h2
    refine ⟨r, ?_⟩
    simp only [atF]
    rw [idx_nat (get_cons1 h1)]
    exact e
theorem cnt_get {xs : List MV} {j : Nat} {x : MV} (e : xs[j]? = some x) : cnt x ≤ cnts xs := cnt_le (List.mem_of_getElem? e)
theorem pls_plen : ∀ (p : List Int) (t : MV), p ∈ pls t → p.length < cnt t
  | [], t, _ => by have := cnt_pos t; simp; omega
  | i :: p, t, h => by
    obtain ⟨hd, xs, j, x, rfl, rfl, h1, h2⟩ := cons_pls.mp h
    have := pls_plen p x h2
    have := cnt_get h1
    simp only [List.length_cons, cnt, cntT]
    omega
mutual
theorem pls_ord : ∀ t, (pls t).Pairwise fun a b => HT.lexLt b a = false
  | .tup [] => by simp [pls, plsT]
  | .tup (_ :: xs) => by
    simp only [pls, plsT]
    refine List.pairwise_cons.mpr ⟨fun b _ => ?_, plsL_ord 1 xs⟩
    cases b <;> simp [HT.lexLt]
  | .str _ => by simp [pls]
  | .non => by simp [pls]
  | .bl _ => by simp [pls]
  | .int _ => by simp [pls]
  | .fn _ => by simp [pls]
  | .lst _ => by simp [pls]
  | .loc _ => by simp [pls]
  | .dct _ _ => by simp [pls]
  | .scr _ => by simp [pls]
theorem plsL_ord : ∀ (k : Nat) (xs : List MV), (plsL k xs).Pairwise fun a b => HT.lexLt b a = false
  | k, [] => by simp [plsL]
  | k, x :: xs => by
    simp only [plsL]
    refine List.pairwise_append.mpr ⟨?_, plsL_ord (k + 1) xs, ?_⟩
    · rw [List.pairwise_map]
      exact (pls_ord x).imp fun {a b} h => by simp [HT.lexLt, h]
    · intro a ha b hb
      obtain ⟨p, _, rfl⟩ := List.mem_map.mp ha
      obtain ⟨j, y, q, _, rfl, _⟩ := mem_plsL.mp hb
      have h1 : ¬ (((k + 1 + j : Nat) : Int) < (k : Int)) := by omega
      have h2 : ¬ (((k + 1 + j : Nat) : Int) = (k : Int)) := by omega
      rw [HT.lexLt_cons, if_neg h2]
      exact decide_eq_false h1
end
theorem pV_dat (p : List Int) : dat (pV p) = true := by
  unfold dat
  exact dats_iff.mpr fun x hx => by obtain ⟨i, _, rfl⟩ := List.mem_map.mp hx; rfl
theorem pV_dats (ps : List (List Int)) : dats (ps.map pV) = true := dats_iff.mpr fun x hx => by
  obtain ⟨p, _, rfl⟩ := List.mem_map.mp hx
  exact pV_dat p
/-- the whole numbers from k on -/
def upto : Nat → Nat → List MV
  | _, 0 => []
  | k, n + 1 => .int (k : Int) :: upto (k + 1) n
theorem upto_eq : ∀ (n k : Nat), (List.range n).map (fun (j : Nat) => MV.int ((k : Int) + (j : Int))) = upto k n
  | 0, k => rfl
  | n + 1, k => by
    have e : (List.range n).map (fun (j : Nat) => MV.int ((k : Int) + ((j + 1 : Nat) : Int))) = (List.range n).map fun (j : Nat) => MV.int (((k + 1 : Nat) : Int) + (j : Int)) := List.map_congr_left fun j _ => by
      rw [show (k : Int) + ((j + 1 : Nat) : Int) = ((k + 1 : Nat) : Int) + (j : Int) by omega]
    have h0 : MV.int ((k : Int) + ((0 : Nat) : Int)) = MV.int (k : Int) := by simp
    rw [List.range_succ_eq_map, List.map_cons, List.map_map, upto, ← upto_eq n (k + 1), ← e, h0]
    rfl
/-- the positions of one part, with its number ahead -/
theorem pos_comp {C : CallF} {b k : Nat} {e : ME} {x : MV} {ρ : Env} {mh : MHp} (hρ : ρ.length = 4) (h2 : ρ[2]? = some (some (.int (k : Int)))) (hc : ev C b e ρ mh = some (.lst ((pls x).map pV), mh)) (hI : evI C b e ρ mh = some (⟨(pls x).map pV, none⟩, mh)) (hl : cnt x ≤ 4000000) :
    ev C b (.comp (.nm 3) [3] e (.c (.bl true)) (.bin .add (.tup [(.var 2)]) (.var 3))) ρ mh = some (.lst (((pls x).map fun p => (k : Int) :: p).map pV), mh) := by
  have hz : ((pls x).map pV).length ≤ line := by rw [List.length_map, pls_len]; unfold line; omega
  rw [ev_compq, hI]
  simp only [hz, if_true]
  rw [compGo_pure rfl (g := fun v => match v with | .tup ps => some (.tup (.int (k : Int) :: ps)) | _ => none)]
  · simp only
    congr 3
    rw [List.filterMap_map, List.map_map, ← List.filterMap_eq_map]
    rfl
  · intro v hv
    obtain ⟨p, hp, rfl⟩ := List.mem_map.mp hv
    have hpl := pls_plen p x hp
    have z1 : 1 ≤ line := by unfold line; omega
    have z2 : 1 + p.length ≤ line := by unfold line; omega
    obtain ⟨a, b, c, d, rfl⟩ : ∃ a b c d, ρ = [a, b, c, d] := by
      match ρ, hρ with
      | [a, b, c, d], _ => exact ⟨a, b, c, d, rfl⟩
    simp at h2
    subst h2
    simp [compF, asg, wipeE, ev, evs, z1, binV, addV, z2]
abbrev plBody (f : Nat) : List MS := [(.set (.nm 1) (.bin .add (.var 1) (.comp (.nm 3) [3] (.call f [(.sub (.var 0) (.var 2))]) (.c (.bl true)) (.bin .add (.tup [(.var 2)]) (.var 3)))))]
theorem pl_loop {C : CallF} {b f : Nat} {all : List MV} {mh : MHp} {J : Its} (hJ : J.src = none) : ∀ (xs : List MV) (k : Nat) (acc : List (List Int)) (o : Option MV), all.drop k = xs → (∀ x ∈ xs, C f [x] mh = some (.lst ((pls x).map pV), mh)) → acc.length + cnts xs ≤ 8000000 → cnts xs ≤ 4000000 →
    ∃ o', forGo J (forF C b (.nm 2) (plBody f)) (upto k xs.length) [some (.tup all), some (.lst (acc.map pV)), o, none] mh = some (.nx, [some (.tup all), some (.lst ((acc ++ plsL k xs).map pV)), o', none], mh)
  | [], k, acc, o, _, _, _, _ => ⟨o, by simp only [plsL, List.append_nil]; exact forGo_nil_of hJ⟩
  | x :: xs, k, acc, o, hd, hC, hl, hl2 => by
    have hk : all[k]? = some x := by
      have := congrArg (·[0]?) hd
      simpa using this
    have hd' : all.drop (k + 1) = xs := by
      have := congrArg (·.drop 1) hd
      simpa using this
    simp only [cnts] at hl hl2
    have hc := hC x (by simp)
    have v1 : ev C b (.call f [(.sub (.var 0) (.var 2))]) [some (.tup all), some (.lst (acc.map pV)), some (.int (k : Int)), none] mh = some (.lst ((pls x).map pV), mh) := by
      simp [ev, evs, subV, idx_nat hk, hc]
    have v2 : evI C b (.call f [(.sub (.var 0) (.var 2))]) [some (.tup all), some (.lst (acc.map pV)), some (.int (k : Int)), none] mh = some (⟨(pls x).map pV, none⟩, mh) := by
      simp [evI, ev, evs, subV, idx_nat hk, hc, itsOf]
    have hcomp := pos_comp (k := k) (x := x) rfl rfl v1 v2 (by omega)
    obtain ⟨F, hF⟩ : ∃ F, F = (pls x).map fun p => (k : Int) :: p := ⟨_, rfl⟩
    have hFl : F.length = cnt x := by rw [hF, List.length_map, pls_len]
    rw [← hF] at hcomp
    have hz2 : acc.length + F.length ≤ line := by unfold line; omega
    have st : forF C b (.nm 2) (plBody f) (.int (k : Int)) [some (.tup all), some (.lst (acc.map pV)), o, none] mh = some (.nx, [some (.tup all), some (.lst ((acc ++ F).map pV)), some (.int (k : Int)), none], mh) := by
      simp [forF, asg, plBody, exs, ex, ev, ↓hcomp, binV, addV, getL, hz2]
    rw [List.length_cons, upto, forGo_cons_of hJ, st]
    obtain ⟨o', e⟩ := pl_loop hJ xs (k + 1) (acc ++ F) (some (.int (k : Int))) hd' (fun y hy => hC y (List.mem_cons_of_mem _ hy)) (by rw [List.length_append]; omega) (by omega)
    refine ⟨o', ?_⟩
    simp only [plsL]
    rw [← hF, ← List.append_assoc]
    exact e
def lplacesD (f : Nat) : Df := ⟨1, 4, false, [(.ite (.isi (.var 0) .str) [(.ret (.lst [(.tup [])]))] []), (.set (.nm 1) (.lst [(.tup [])])), (.for (.nm 2) (.rng2 (.c (.int (1))) (.bi .len [(.var 0)])) (plBody f)), (.ret (.var 1))]⟩
theorem dep_mem {h x : MV} {xs : List MV} (hx : x ∈ xs) : dep x + 1 ≤ dep (.tup (h :: xs)) := by
  have : dep x ≤ deps xs := by
    clear h
    induction xs with
    | nil => simp at hx
    | cons y xs ih =>
      simp only [deps]
      rcases List.mem_cons.mp hx with rfl | hx
      · omega
      · have := ih hx; omega
  simp only [dep, deps]
  omega
theorem places_ok {T : List Df} {f : Nat} (hT : T[f]? = some (lplacesD f)) : ∀ (D k : Nat) (t : MV) (mh : MHp), dep t ≤ D → cnt t ≤ 4000000 → tm t = true → dat t = true → callM T (k + D + 1) f [t] mh = some (.lst ((pls t).map pV), mh) := by
  intro D
  induction D with
  | zero =>
    intro k t mh hD hN ht hd
    rw [callM_eq hT]
    have z1 : 1 ≤ line := by unfold line; omega
    have z0 : 0 ≤ line := by unfold line; omega
    have hdv : dat (.lst ((pls t).map pV)) = true := by unfold dat; exact pV_dats _
    rcases tm_cases ht hd with ⟨s, rfl⟩ | ⟨s, xs, rfl, hds, hx⟩
    · refine run_of' rfl rfl (ρ := [some (.str s), none, none, none]) (fl := .rt (.lst ((pls (.str s)).map pV))) ?_ rfl hdv rfl
      simp [lplacesD, exs, ex, ev, evs, isTy, pls, z1, z0]
    · simp [dep] at hD
  | succ D ih =>
    intro k t mh hD hN ht hd
    rw [show k + (D + 1) + 1 = (k + D + 1) + 1 by omega, callM_eq hT]
    have z1 : 1 ≤ line := by unfold line; omega
    have z0 : 0 ≤ line := by unfold line; omega
    have hdv : dat (.lst ((pls t).map pV)) = true := by unfold dat; exact pV_dats _
    rcases tm_cases ht hd with ⟨s, rfl⟩ | ⟨s, xs, rfl, hds, hx⟩
    · refine run_of' rfl rfl (ρ := [some (.str s), none, none, none]) (fl := .rt (.lst ((pls (.str s)).map pV))) ?_ rfl hdv rfl
      simp [lplacesD, exs, ex, ev, evs, isTy, pls, z1, z0]
    · have hN' := hN
      simp only [cnt, cntT] at hN
      have hlx := len_cnts xs
      obtain ⟨o', e⟩ := pl_loop (C := callM T (k + D + 1)) (b := mh.length) (f := f) (all := .str s :: xs) (mh := mh) (J := ⟨upto 1 xs.length, none⟩) rfl xs 1 [[]] none rfl (fun x hxm => ih k x mh (by have := dep_mem (h := .str s) hxm; omega) (by have := cnt_le hxm; omega) (hx x hxm).1 (hx x hxm).2) (by simp; omega) (by omega)
      have e' : forGo ⟨upto 1 xs.length, none⟩ (forF (callM T (k + D + 1)) mh.length (.nm 2) (plBody f)) (upto 1 xs.length) [some (.tup (.str s :: xs)), some (.lst [.tup []]), none, none] mh = _ := e
      refine run_of' rfl rfl (ρ := [some (.tup (.str s :: xs)), some (.lst ((pls (.tup (.str s :: xs))).map pV)), o', none]) (fl := .rt (.lst ((pls (.tup (.str s :: xs))).map pV))) ?_ rfl hdv rfl
      have ei : evI (callM T (k + D + 1)) mh.length (.rng2 (.c (.int (1))) (.bi .len [(.var 0)])) [some (.tup (.str s :: xs)), some (.lst [.tup []]), none, none] mh = some (⟨upto 1 xs.length, none⟩, mh) := by
        have u := upto_eq xs.length 1
        have b2 : (xs.length : Int) + 1 < 4611686018427387904 := by omega
        have b3 : (-4611686018427387904 : Int) ≤ (xs.length : Int) + 1 := by omega
        simp only [Int.natCast_one] at u
        simp [evI, ev, evs, biV, one1, lenV, b2, b3, u]
      have s1 : ex (callM T (k + D + 1)) mh.length (.ite (.isi (.var 0) .str) [(.ret (.lst [(.tup [])]))] []) [some (.tup (.str s :: xs)), none, none, none] mh = some (.nx, [some (.tup (.str s :: xs)), none, none, none], mh) := by
        simp [ex, exs, ev, evs, isTy]
      have s2 : ex (callM T (k + D + 1)) mh.length (.set (.nm 1) (.lst [(.tup [])])) [some (.tup (.str s :: xs)), none, none, none] mh = some (.nx, [some (.tup (.str s :: xs)), some (.lst [.tup []]), none, none], mh) := by
        simp [ex, ev, evs, asg, z0, z1]
      show exs (callM T (k + D + 1)) mh.length (lplacesD f).body [some (.tup (.str s :: xs)), none, none, none] mh = _
      rw [lplacesD, exs, s1]
      simp only
      rw [exs, s2]
      simp only
      rw [exs, ex_for, ei]
      simp only
      rw [e']
      simp only [exs, ex, ev]
      simp [pls, plsT]
/-- the def that puts, calling itself by its number -/
def putD (f : Nat) : Df := ⟨3, 4, false, [(.ite (.cmp .eq (.bi .len [(.var 1)]) (.c (.int (0)))) [(.ret (.var 2))] []), (.set (.nm 3) (.sub (.var 1) (.c (.int (0))))), (.ret (.bin .add (.bin .add (.slcH (.var 0) (.var 3)) (.tup [(.call f [(.sub (.var 0) (.var 3)), (.slcL (.var 1) (.c (.int (1)))), (.var 2)])])) (.slcL (.var 0) (.bin .add (.var 3) (.c (.int (1)))))))]⟩
theorem deps_app (xs ys : List MV) : deps (xs ++ ys) = max (deps xs) (deps ys) := by
  induction xs with
  | nil => simp [deps]
  | cons x xs ih => simp only [List.cons_append, deps, ih]; omega
theorem deps_take (k : Nat) (xs : List MV) : deps (xs.take k) ≤ deps xs := by
  have h := deps_app (xs.take k) (xs.drop k)
  rw [List.take_append_drop] at h
  omega
theorem deps_drop (k : Nat) (xs : List MV) : deps (xs.drop k) ≤ deps xs := by
  have h := deps_app (xs.take k) (xs.drop k)
  rw [List.take_append_drop] at h
  omega
theorem deps_mem {x : MV} {xs : List MV} (h : x ∈ xs) : dep x ≤ deps xs := by
  induction xs with
  | nil => simp at h
  | cons y xs ih =>
    simp only [deps]
    rcases List.mem_cons.mp h with rfl | h
    · omega
    · have := ih h; omega
theorem dats_take {k : Nat} {xs : List MV} (h : dats xs = true) : dats (xs.take k) = true := dats_iff.mpr fun x hx => dats_iff.mp h x (List.mem_of_mem_take hx)
theorem dats_drop {k : Nat} {xs : List MV} (h : dats xs = true) : dats (xs.drop k) = true := dats_iff.mpr fun x hx => dats_iff.mp h x (List.mem_of_mem_drop hx)
/-! terms whose signs have their numbers of places -/
mutual
def tmA (ar : Sx → Option Nat) : MV → Bool
  | .str _ => true
  | .tup xs => tmAT ar xs
  | _ => false
def tmAT (ar : Sx → Option Nat) : List MV → Bool
  | [] => false
  | h :: xs => (match h with
    | .str s => decide (ar s = some xs.length)
    | _ => false) && tmAs ar xs
def tmAs (ar : Sx → Option Nat) : List MV → Bool
  | [] => true
  | x :: xs => tmA ar x && tmAs ar xs
end
theorem tmAs_iff {ar : Sx → Option Nat} : ∀ {xs : List MV}, tmAs ar xs = true ↔ ∀ x ∈ xs, tmA ar x = true
  | [] => by simp [tmAs]
  | x :: xs => by simp [tmAs, tmAs_iff (xs := xs)]
mutual
theorem tmA_tm {ar : Sx → Option Nat} : ∀ t, tmA ar t = true → tm t = true
  | .str _, _ => rfl
  | .tup [], h => by simp [tmA, tmAT] at h
  | .tup (y :: xs), h => by
    simp only [tmA, tmAT, Bool.and_eq_true] at h
    simp only [tm, tmT, Bool.and_eq_true]
    refine ⟨?_, tmAs_tms xs h.2⟩
    cases y with
    | str s => rfl
    | _ => cases h.1
  | .non, h => by simp [tmA] at h
  | .bl _, h => by simp [tmA] at h
  | .int _, h => by simp [tmA] at h
  | .fn _, h => by simp [tmA] at h
  | .lst _, h => by simp [tmA] at h
  | .loc _, h => by simp [tmA] at h
  | .dct _ _, h => by simp [tmA] at h
  | .scr _, h => by simp [tmA] at h
theorem tmAs_tms {ar : Sx → Option Nat} : ∀ xs, tmAs ar xs = true → tms xs = true
  | [], _ => rfl
  | x :: xs, h => by
    simp only [tmAs, Bool.and_eq_true] at h
    simp only [tms, Bool.and_eq_true]
    exact ⟨tmA_tm x h.1, tmAs_tms xs h.2⟩
end
theorem tmA_cases {ar : Sx → Option Nat} {t : MV} (h : tmA ar t = true) (hd : dat t = true) : (∃ s, t = .str s) ∨ ∃ s xs, t = .tup (.str s :: xs) ∧ ar s = some xs.length ∧ dat (.str s) = true ∧ (∀ x ∈ xs, tmA ar x = true ∧ dat x = true) := by
  rcases tm_cases (tmA_tm t h) hd with ⟨s, rfl⟩ | ⟨s, xs, rfl, h1, h2⟩
  · exact .inl ⟨s, rfl⟩
  · simp only [tmA, tmAT, Bool.and_eq_true, decide_eq_true_eq] at h
    exact .inr ⟨s, xs, rfl, h.1, h1, fun x hx => ⟨tmAs_iff.mp h.2 x hx, (h2 x hx).2⟩⟩
theorem tmA_tup {ar : Sx → Option Nat} {s : Sx} {xs : List MV} (h : ar s = some xs.length) (hx : ∀ x ∈ xs, tmA ar x = true) : tmA ar (.tup (.str s :: xs)) = true := by
  simp only [tmA, tmAT, Bool.and_eq_true, decide_eq_true_eq]
  exact ⟨h, tmAs_iff.mpr hx⟩
theorem set_split {h0 u : MV} {xs : List MV} {j : Nat} (hj : j < xs.length) : (h0 :: xs).take (1 + j) ++ [u] ++ (h0 :: xs).drop (1 + j + 1) = h0 :: xs.set j u := by
  rw [List.set_eq_take_append_cons_drop, if_pos hj, Nat.add_comm 1 j]
  simp
theorem cnts_set {u x : MV} : ∀ {xs : List MV} {j : Nat}, xs[j]? = some x → cnts (xs.set j u) + cnt x = cnts xs + cnt u
  | [], j, e => by simp at e
  | y :: xs, 0, e => by simp at e; subst e; simp only [List.set_cons_zero, cnts]; omega
  | y :: xs, j + 1, e => by
    have := cnts_set (u := u) (xs := xs) (j := j) (by simpa using e)
    simp only [List.set_cons_succ, cnts]
    omega
theorem put_ok {T : List Df} {r : MV} (hr : dat r = true) : ∀ (p : List Int) (t : MV), p ∈ pls t → cnt t ≤ 4000000 → dat t = true → ∃ u, dat u = true ∧ dep u ≤ dep t + dep r ∧ ((∀ ar, tmA ar t = true → tmA ar r = true → tmA ar u = true) ∧ cnt u ≤ cnt t + cnt r) ∧ ∀ f, T[f]? = some (putD f) → ∀ (k : Nat) (mh : MHp), callM T (k + p.length + 1) f [t, pV p, r] mh = some (u, mh)
  | [], t, _, _, hd => by
    refine ⟨r, hr, by omega, ⟨fun _ _ h => h, by omega⟩, fun f hf k mh => ?_⟩
    rw [callM_eq hf]
    refine run_of' rfl rfl (ρ := [some t, some (pV []), some r, none]) (fl := .rt r) ?_ rfl hr rfl
    simp [putD, exs, ex, ev, evs, biV, one1, lenV, cmpV, eqV_int]
  | i :: p, t, h, hc, hd => by
    obtain ⟨h0, xs, j, x, rfl, rfl, h1, h2⟩ := cons_pls.mp h
    simp only [cnt, cntT] at hc
    have hg := get_cons1 (h := h0) h1
    have hds : dats (h0 :: xs) = true := by unfold dat at hd; exact hd
    have hxm : x ∈ h0 :: xs := List.mem_of_getElem? hg
    obtain ⟨u, du, pu, ⟨au, cu⟩, hu⟩ := put_ok hr p x h2 (by have := cnt_get h1; omega) (dats_iff.mp hds x hxm)
    have hlx := len_cnts xs
    obtain ⟨A, hA⟩ : ∃ A, A = (h0 :: xs).take (1 + j) := ⟨_, rfl⟩
    obtain ⟨B, hB⟩ : ∃ B, B = (h0 :: xs).drop (1 + j + 1) := ⟨_, rfl⟩
    have dA : dats A = true := by rw [hA]; exact dats_take hds
    have dB : dats B = true := by rw [hB]; exact dats_drop hds
    have lA : A.length ≤ 4000001 := by rw [hA, List.length_take, List.length_cons]; omega
    have lB : B.length ≤ 4000001 := by rw [hB, List.length_drop, List.length_cons]; omega
    have pA := deps_take (1 + j) (h0 :: xs)
    have pB := deps_drop (1 + j + 1) (h0 :: xs)
    have px := deps_mem hxm
    rw [← hA] at pA
    rw [← hB] at pB
    have hsp : A ++ [u] ++ B = h0 :: xs.set j u := by rw [hA, hB]; exact set_split (List.getElem?_eq_some_iff.mp h1).1
    have hcs := cnts_set (u := u) h1
    refine ⟨.tup (A ++ [u] ++ B), ?_, ?_, ⟨fun ar ht hr' => ?_, ?_⟩, fun f hf k mh => ?_⟩
    rotate_left 2
    · rw [hsp]
      rcases tmA_cases ht hd with ⟨s, e⟩ | ⟨s, ys, e, a1, a2, a3⟩
      · cases e
      · cases e
        refine tmA_tup (by rw [List.length_set]; exact a1) fun y hy => ?_
        rcases List.mem_or_eq_of_mem_set hy with hy | rfl
        · exact (a3 y hy).1
        · exact au ar (a3 x (List.mem_of_getElem? h1)).1 hr'
    · rw [hsp]
      simp only [cnt, cntT]
      omega
    rotate_left 1
    · unfold dat
      rw [dats_app, dats_app, dA, dB]
      simp [dats, du]
    · simp only [dep, deps_app, deps]
      simp only [deps] at pA pB px
      omega
    · rw [List.length_cons, show k + (p.length + 1) + 1 = (k + p.length + 1) + 1 by omega, callM_eq hf]
      have hdr : dat (.tup (A ++ [u] ++ B)) = true := by
        unfold dat
        rw [dats_app, dats_app, dA, dB]
        simp [dats, du]
      have hrec := hu f hf k mh
      have c1 : cut (h0 :: xs) none (some ((1 + j : Nat) : Int)) = A := by rw [cut_take, hA]
      have c2 : cut (h0 :: xs) (some (((1 + j : Nat) : Int) + 1)) none = B := by
        have := cut_drop (xs := h0 :: xs) (k := 1 + j + 1)
        rw [show ((1 + j + 1 : Nat) : Int) = ((1 + j : Nat) : Int) + 1 by omega] at this
        rw [this, hB]
      have c3 : cut (MV.int ((1 + j : Nat) : Int) :: p.map MV.int) (some 1) none = p.map MV.int := cut1 _ _
      have c4 := idx_nat hg
      have z1 : A.length + 1 ≤ line := by unfold line; omega
      have z2 : A.length + 1 + B.length ≤ line := by unfold line; omega
      have z3 : 1 ≤ line := by unfold line; omega
      have z4 : ¬ ((p.length : Int) + 1 = 0) := by omega
      have s1 : exs (callM T (k + p.length + 1)) mh.length [(.ite (.cmp .eq (.bi .len [(.var 1)]) (.c (.int (0)))) [(.ret (.var 2))] []), (.set (.nm 3) (.sub (.var 1) (.c (.int (0)))))] [some (.tup (h0 :: xs)), some (pV (((1 + j : Nat) : Int) :: p)), some r, none] mh = some (.nx, [some (.tup (h0 :: xs)), some (pV (((1 + j : Nat) : Int) :: p)), some r, some (.int ((1 + j : Nat) : Int))], mh) := by
        simp [exs, ex, ev, evs, biV, one1, lenV, cmpV, eqV_int, z4, subV, atI0, asg]
      generalize ((1 + j : Nat) : Int) = q at c1 c2 c3 c4 s1 ⊢
      have hrec' : callM T (k + p.length + 1) f [x, .tup (p.map .int), r] mh = some (u, mh) := hrec
      refine run_of' rfl rfl (ρ := [some (.tup (h0 :: xs)), some (pV (q :: p)), some r, some (.int q)]) (fl := .rt (.tup (A ++ [u] ++ B))) ?_ rfl hdr rfl
      show exs (callM T (k + p.length + 1)) mh.length (putD f).body [some (.tup (h0 :: xs)), some (pV (q :: p)), some r, none] mh = _
      rw [putD]
      have s2 : exs (callM T (k + p.length + 1)) mh.length [(.ret (.bin .add (.bin .add (.slcH (.var 0) (.var 3)) (.tup [(.call f [(.sub (.var 0) (.var 3)), (.slcL (.var 1) (.c (.int (1)))), (.var 2)])])) (.slcL (.var 0) (.bin .add (.var 3) (.c (.int (1)))))))] [some (.tup (h0 :: xs)), some (.tup (.int q :: p.map .int)), some r, some (.int q)] mh = some (.rt (.tup (A ++ [u] ++ B)), [some (.tup (h0 :: xs)), some (.tup (.int q :: p.map .int)), some r, some (.int q)], mh) := by
        simp [exs, ex, ev, evs, slcV, subV, c1, c2, c3, c4, hrec', z1, z2, z3, binV, addV]
      rcases exs_cons s1 with ⟨ρ2, mh2, e1, e2⟩ | ⟨_, hn⟩
      · rcases exs_cons e2 with ⟨ρ3, mh3, e3, e4⟩ | ⟨_, hn⟩
        · simp only [exs] at e4
          cases e4
          rw [exs, e1]
          simp only
          rw [exs, e3]
          exact s2
        · exact absurd rfl hn
      · exact absurd rfl hn
end L2.Mi

set_option Elab.async false
set_option linter.all false
set_option maxRecDepth 100000
set_option maxHeartbeats 4000000
/-! Ev6: values with dicts; dicts as lists of pairs; == of terms. -/
namespace L2.Mi
open PySem PySem.Spec PyProof.Rows
mutual
/-- no live object; dicts may stand within -/
def dat2 : MV → Bool
  | .non => true
  | .bl _ => true
  | .int _ => true
  | .str s => dat (.str s)
  | .tup xs => dat2s xs
  | .lst xs => dat2s xs
  | .dct _ vs => dat2s vs
  | .fn _ => false
  | .loc _ => false
  | .scr _ => false
def dat2s : List MV → Bool
  | [] => true
  | x :: xs => dat2 x && dat2s xs
end
mutual
theorem frz_dat2 {n : Nat} {mh : MHp} {k : Nat} : ∀ x : MV, dat2 x = true → frz n mh k x = some x
  | .non, _ => by unfold frz; rfl
  | .bl _, _ => by unfold frz; rfl
  | .int _, _ => by unfold frz; rfl
  | .str _, _ => by unfold frz; rfl
  | .fn _, h => by unfold dat2 at h; cases h
  | .scr _, h => by unfold dat2 at h; cases h
  | .loc _, h => by unfold dat2 at h; cases h
  | .dct ks vs, h => by
    unfold dat2 at h
    unfold frz
    rw [frzs_dat2 vs h]; rfl
  | .tup xs, h => by
    unfold dat2 at h
    unfold frz
    rw [frzs_dat2 xs h]; rfl
  | .lst xs, h => by
    unfold dat2 at h
    unfold frz
    rw [frzs_dat2 xs h]; rfl
theorem frzs_dat2 {n : Nat} {mh : MHp} {k : Nat} : ∀ xs : List MV, dat2s xs = true → frzs n mh k xs = some xs
  | [], _ => by unfold frzs; rfl
  | x :: xs, h => by
    unfold dat2s at h
    rw [Bool.and_eq_true] at h
    unfold frzs
    rw [frz_dat2 x h.1, frzs_dat2 xs h.2]; rfl
end
mutual
theorem dat_dat2 : ∀ x : MV, dat x = true → dat2 x = true
  | .non, _ => rfl
  | .bl _, _ => rfl
  | .int _, _ => rfl
  | .str _, h => by unfold dat2; exact h
  | .fn _, h => by unfold dat at h; cases h
  | .scr _, h => by unfold dat at h; cases h
  | .loc _, h => by unfold dat at h; cases h
  | .dct _ _, h => by unfold dat at h; cases h
  | .tup xs, h => by unfold dat at h; unfold dat2; exact dats_dat2 xs h
  | .lst xs, h => by unfold dat at h; unfold dat2; exact dats_dat2 xs h
theorem dats_dat2 : ∀ xs : List MV, dats xs = true → dat2s xs = true
  | [], _ => rfl
  | x :: xs, h => by
    unfold dats at h
    rw [Bool.and_eq_true] at h
    unfold dat2s
    rw [dat_dat2 x h.1, dats_dat2 xs h.2]; rfl
end
theorem dat2s_iff : ∀ {xs : List MV}, dat2s xs = true ↔ ∀ x ∈ xs, dat2 x = true
  | [] => by simp [dat2s]
  | x :: xs => by simp [dat2s, dat2s_iff (xs := xs)]
theorem run_of2 {C : CallF} {d : Df} {args : List MV} {mh mh1 : MHp} {fl : Fl} {ρ : Env} {v : MV} (hl : args.length = d.np) (hv : d.live = false) (e : exs C mh.length d.body (args.map some ++ List.replicate (d.ns - d.np) none) mh = some (fl, ρ, mh1))
    (he : endV fl = some v) (hd : dat2 v = true) : runD C d args mh = some (v, mh1.take mh.length) := by
  unfold runD
  rw [if_pos hl, e]
  simp only [he, hv]
  rw [frz_dat2 v hd]
  rfl
/-- a value that must be read out -/
theorem run_frz2 {C : CallF} {d : Df} {args : List MV} {mh mh1 : MHp} {fl : Fl} {ρ : Env} {v w : MV} (hl : args.length = d.np) (hv : d.live = false) (e : exs C mh.length d.body (args.map some ++ List.replicate (d.ns - d.np) none) mh = some (fl, ρ, mh1))
    (he : endV fl = some v) (hf : frz mh.length mh1 8 v = some w) : runD C d args mh = some (w, mh1.take mh.length) := by
  unfold runD
  rw [if_pos hl, e]
  simp only [he, hv]
  rw [hf]
  rfl
/-! ### == of terms -/
theorem tms_of_tm {xs : List MV} (h : tm (.tup xs) = true) : tms xs = true := by
  cases xs with
  | nil => rfl
  | cons y ys =>
    simp only [tm, tmT, Bool.and_eq_true] at h
    simp only [tms, Bool.and_eq_true]
    refine ⟨?_, h.2⟩
    cases y with
    | str s => rfl
    | _ => cases h.1
mutual
theorem eqD_tm : ∀ t u : MV, tm t = true → tm u = true → PyData.eqv (toD t) (toD u) = true → t = u
  | .str a, .str b, _, _, h => by
    unfold toD PyData.eqv at h
    simp at h
    rw [h]
  | .str a, .tup ys, _, _, h => by unfold toD PyData.eqv at h; cases h
  | .tup xs, .str b, _, _, h => by unfold toD PyData.eqv at h; cases h
  | .tup xs, .tup ys, h1, h2, h => by
    unfold toD PyData.eqv at h
    rw [eqDs_tm xs ys (tms_of_tm h1) (tms_of_tm h2) h]
  | .non, _, h, _, _ => by simp [tm] at h
  | .bl _, _, h, _, _ => by simp [tm] at h
  | .int _, _, h, _, _ => by simp [tm] at h
  | .fn _, _, h, _, _ => by simp [tm] at h
  | .lst _, _, h, _, _ => by simp [tm] at h
  | .loc _, _, h, _, _ => by simp [tm] at h
  | .dct _ _, _, h, _, _ => by simp [tm] at h
  | .scr _, _, h, _, _ => by simp [tm] at h
  | _, .non, _, h, _ => by simp [tm] at h
  | _, .bl _, _, h, _ => by simp [tm] at h
  | _, .int _, _, h, _ => by simp [tm] at h
  | _, .fn _, _, h, _ => by simp [tm] at h
  | _, .lst _, _, h, _ => by simp [tm] at h
  | _, .loc _, _, h, _ => by simp [tm] at h
  | _, .dct _ _, _, h, _ => by simp [tm] at h
  | _, .scr _, _, h, _ => by simp [tm] at h
theorem eqDs_tm : ∀ xs ys : List MV, tms xs = true → tms ys = true → PyData.eqvAll (toDs xs) (toDs ys) = true → xs = ys
  | [], [], _, _, _ => rfl
  | [], _ :: _, _, _, h => by unfold toDs PyData.eqvAll at h; cases h
  | _ :: _, [], _, _, h => by unfold toDs PyData.eqvAll at h; cases h
  | x :: xs, y :: ys, h1, h2, h => by
    simp only [tms, Bool.and_eq_true] at h1 h2
    unfold toDs PyData.eqvAll at h
    rw [Bool.and_eq_true] at h
    rw [eqD_tm x y h1.1 h2.1 h.1, eqDs_tm xs ys h1.2 h2.2 h.2]
end
/-- a term with its bounds -/
structure Tm (ar : Sx → Option Nat) (t : MV) : Prop where
  tm : tmA ar t = true
  dat : dat t = true
  dep : dep t ≤ 30
theorem Tm.tm' {ar : Sx → Option Nat} {t : MV} (h : Tm ar t) : L2.Mi.tm t = true := tmA_tm t h.tm
theorem eqV_tm (mh : MHp) {t u : MV} (h1 : tm t = true) (d1 : dat t = true) (p1 : dep t ≤ 60) (h2 : tm u = true) (d2 : dat u = true) (p2 : dep u ≤ 60) : ∃ b, eqV mh t u = some b ∧ (b = true ↔ t = u) := by
  refine ⟨eqD t u, ?_, ?_⟩
  · unfold eqV
    rw [frz_dat t d1, frz_dat u d2]
    simp only [okD_dat d1 (by omega), okD_dat d2 (by omega), and_self, if_true]
  · constructor
    · intro h
      exact eqD_tm t u h1 h2 h
    · rintro rfl
      exact eqD_refl t d1
/-! ### dicts with texts for keys -/
abbrev AL := List (Sx × MV)
def aK (d : AL) : List MKey := d.map fun p => .inr p.1
def aV (d : AL) : List MV := d.map Prod.snd
def look : AL → Sx → Option MV
  | [], _ => none
  | p :: d, s => if p.1 = s then some p.2 else look d s
theorem aK_len (d : AL) : (aK d).length = d.length := by simp [aK]
theorem aV_len (d : AL) : (aV d).length = d.length := by simp [aV]
theorem dLook_al (s : Sx) : ∀ d : AL, dLook (aK d) (aV d) (.inr s) = look d s
  | [] => rfl
  | p :: d => by
    have ih := dLook_al s d
    simp only [aK, aV, List.map_cons, dLook, look] at ih ⊢
    by_cases h : p.1 = s
    · rw [if_pos h, if_pos (by rw [h])]
    · rw [if_neg h, if_neg (by intro z; exact h (Sum.inr.inj z))]
      exact ih
theorem any_al (s : Sx) : ∀ d : AL, ((aK d).any fun k' => decide (k' = .inr s)) = (look d s).isSome
  | [] => rfl
  | p :: d => by
    have ih := any_al s d
    simp only [aK, List.map_cons, List.any_cons, look] at ih ⊢
    rw [ih]
    by_cases h : p.1 = s
    · rw [if_pos h, decide_eq_true (by rw [h])]; rfl
    · rw [if_neg h, decide_eq_false (by intro z; exact h (Sum.inr.inj z))]; rfl
theorem put_new {d : AL} {s : Sx} {t : MV} (h : look d s = none) : dPutK (aK d) (.inr s) = aK (d ++ [(s, t)]) ∧ dPutV (aK d) (aV d) (.inr s) t = aV (d ++ [(s, t)]) := by
  unfold dPutK dPutV
  rw [any_al, h]
  simp [aK, aV]
theorem look_mem {s : Sx} {t : MV} : ∀ {d : AL}, look d s = some t → (s, t) ∈ d
  | [], h => by simp [look] at h
  | p :: d, h => by
    simp only [look] at h
    by_cases e : p.1 = s
    · rw [if_pos e] at h
      cases h
      subst e
      exact List.mem_cons_self
    · rw [if_neg e] at h
      exact List.mem_cons_of_mem _ (look_mem h)
theorem look_of {s : Sx} {t : MV} : ∀ {d : AL}, (d.map Prod.fst).Nodup → (s, t) ∈ d → look d s = some t
  | [], _, h => by simp at h
  | p :: d, hn, h => by
    rw [List.map_cons, List.nodup_cons] at hn
    simp only [look]
    rcases List.mem_cons.mp h with rfl | h
    · rw [if_pos rfl]
    · have : p.1 ≠ s := fun e => hn.1 (by rw [e]; exact List.mem_map.mpr ⟨_, h, rfl⟩)
      rw [if_neg this]
      exact look_of hn.2 h
theorem look_no {s : Sx} : ∀ {d : AL}, look d s = none → s ∉ d.map Prod.fst
  | [], _ => by simp
  | p :: d, h => by
    simp only [look] at h
    by_cases e : p.1 = s
    · rw [if_pos e] at h; cases h
    · rw [if_neg e] at h
      simp only [List.map_cons, List.mem_cons, not_or]
      exact ⟨fun z => e z.symm, look_no h⟩
theorem put_same {s : Sx} {t : MV} : ∀ {d : AL}, look d s = some t → (d.map Prod.fst).Nodup → dPutK (aK d) (.inr s) = aK d ∧ dPutV (aK d) (aV d) (.inr s) t = aV d := by
  intro d h hn
  unfold dPutK dPutV
  rw [any_al, h]
  refine ⟨rfl, ?_⟩
  simp only [Option.isSome_some, if_true]
  have gen : ∀ d : AL, (d.map Prod.fst).Nodup → (∀ p ∈ d, p.1 = s → p.2 = t) → List.zipWith (fun k' m' => if k' = Sum.inr s then t else m') (aK d) (aV d) = aV d := by
    intro d
    induction d with
    | nil => intro _ _; rfl
    | cons p d ih =>
      intro hn hh
      rw [List.map_cons, List.nodup_cons] at hn
      simp only [aK, aV, List.map_cons, List.zipWith_cons_cons]
      congr 1
      · by_cases e : p.1 = s
        · rw [if_pos (by rw [e])]; exact (hh p List.mem_cons_self e).symm
        · rw [if_neg (by intro z; exact e (Sum.inr.inj z))]
      · exact ih hn.2 fun q hq => hh q (List.mem_cons_of_mem _ hq)
  refine gen d hn fun p hp e => ?_
  have h2 := look_of hn (s := p.1) (t := p.2) hp
  rw [e, h] at h2
  exact (Option.some.inj h2).symm
/-- d holds just the pairs of L -/
structure Rpr (d L : AL) : Prop where
  nd : (d.map Prod.fst).Nodup
  mem : ∀ p, p ∈ d ↔ p ∈ L
/-- no name with two values -/
def Con (L : AL) : Prop := ∀ s t t', (s, t) ∈ L → (s, t') ∈ L → t = t'
theorem Rpr.con {d L : AL} (h : Rpr d L) : Con L := fun s t t' h1 h2 => by
  have e1 := look_of h.nd ((h.mem _).mpr h1)
  have e2 := look_of h.nd ((h.mem _).mpr h2)
  rw [e1] at e2
  exact Option.some.inj e2
theorem Rpr.same {d L : AL} {s : Sx} {t : MV} (h : Rpr d L) (e : look d s = some t) : Rpr d (L ++ [(s, t)]) := ⟨h.nd, fun p => by
  rw [List.mem_append, List.mem_singleton, h.mem]
  constructor
  · exact .inl
  · rintro (z | rfl)
    · exact z
    · exact (h.mem _).mp (look_mem e)⟩
theorem Rpr.new {d L : AL} {s : Sx} {t : MV} (h : Rpr d L) (e : look d s = none) : Rpr (d ++ [(s, t)]) (L ++ [(s, t)]) := by
  refine ⟨?_, fun p => by rw [List.mem_append, List.mem_append, h.mem]⟩
  rw [List.map_append]
  refine List.nodup_append.mpr ⟨h.nd, by simp, fun a ha b hb => ?_⟩
  simp at hb
  subst hb
  exact fun z => look_no e (by rw [← z]; exact ha)
theorem Rpr.clash {d L L2 : AL} {s : Sx} {t t' : MV} (h : Rpr d L) (e : look d s = some t') (hne : t' ≠ t) (hm : (s, t) ∈ L2) : ¬ Con (L ++ L2) := fun c =>
  hne (c s t' t (List.mem_append_left _ ((h.mem _).mp (look_mem e))) (List.mem_append_right _ hm))
theorem Rpr.congr {d L L' : AL} (h : Rpr d L) (e : ∀ p, p ∈ L ↔ p ∈ L') : Rpr d L' := ⟨h.nd, fun p => (h.mem p).trans (e p)⟩
theorem Con.congr {L L' : AL} (h : Con L) (e : ∀ p, p ∈ L' → p ∈ L) : Con L' := fun s t t' h1 h2 => h s t t' (e _ h1) (e _ h2)
/-- two dicts with the same pairs are equal -/
theorem eqKs_al {d e : AL} (he : (e.map Prod.fst).Nodup) : ∀ (d' : AL), (∀ p ∈ d', p ∈ e ∧ eqT p.2 p.2 = true) → eqKs (aV d') (aK d') (aK e) (aV e) = true
  | [], _ => by unfold aV eqKs; rfl
  | p :: d', h => by
    obtain ⟨h1, h2⟩ := h p List.mem_cons_self
    have h3 := eqKs_al (d := d) he d' fun q hq => h q (List.mem_cons_of_mem _ hq)
    simp only [aV, aK, List.map_cons] at h3 ⊢
    unfold eqKs
    rw [show dLook (e.map fun p => (Sum.inr p.1 : MKey)) (e.map Prod.snd) (Sum.inr p.1) = some p.2 from (dLook_al p.1 e).trans (look_of he h1)]
    simp only [h2, Bool.true_and]
    exact h3
theorem len_eq {d e : AL} (hd : (d.map Prod.fst).Nodup) (he : (e.map Prod.fst).Nodup) (h : ∀ p, p ∈ d ↔ p ∈ e) : d.length = e.length := by
  have nd : ∀ {x : AL}, (x.map Prod.fst).Nodup → x.Nodup := fun {x} h => List.Pairwise.of_map Prod.fst (fun a b hne hab => hne (by rw [hab])) h
  exact ((List.perm_ext_iff_of_nodup (nd hd) (nd he)).mpr h).length_eq
theorem eqT_al {d e L : AL} (hd : Rpr d L) (he : Rpr e L) (hv : ∀ p ∈ d, eqT p.2 p.2 = true) : eqT (.dct (aK d) (aV d)) (.dct (aK e) (aV e)) = true := by
  unfold eqT
  rw [eqKs_al (d := d) he.nd d fun p hp => ⟨(he.mem p).mpr ((hd.mem p).mp hp), hv p hp⟩]
  have := len_eq hd.nd he.nd fun p => (hd.mem p).trans (he.mem p).symm
  rw [aK_len, aK_len, decide_eq_true this]
  rfl
mutual
theorem eqT_tm : ∀ t : MV, tm t = true → dat t = true → eqT t t = true
  | .str s, _, h => by
    unfold eqT
    rw [okD_str h, show eqD (.str s) (.str s) = true from eqD_refl _ h]
    simp [toD, PyData.depth]
  | .tup xs, h, d => by
    unfold eqT
    exact eqTs_tm xs (tms_of_tm h) (by unfold dat at d; exact d)
  | .non, h, _ => by simp [tm] at h
  | .bl _, h, _ => by simp [tm] at h
  | .int _, h, _ => by simp [tm] at h
  | .fn _, h, _ => by simp [tm] at h
  | .lst _, h, _ => by simp [tm] at h
  | .loc _, h, _ => by simp [tm] at h
  | .dct _ _, h, _ => by simp [tm] at h
  | .scr _, h, _ => by simp [tm] at h
theorem eqTs_tm : ∀ xs : List MV, tms xs = true → dats xs = true → eqTs xs xs = true
  | [], _, _ => by unfold eqTs; rfl
  | x :: xs, h, d => by
    simp only [tms, Bool.and_eq_true] at h
    simp only [dats, Bool.and_eq_true] at d
    unfold eqTs
    rw [eqT_tm x h.1 d.1, eqTs_tm xs h.2 d.2]
    rfl
end
mutual
theorem hgt_tm : ∀ t : MV, tm t = true → hgt t ≤ dep t
  | .str s, _ => by simp [hgt]
  | .tup xs, h => by
    have := hgts_tm xs (tms_of_tm h)
    simp only [hgt, dep]
    omega
  | .non, h => by simp [tm] at h
  | .bl _, h => by simp [tm] at h
  | .int _, h => by simp [tm] at h
  | .fn _, h => by simp [tm] at h
  | .lst _, h => by simp [tm] at h
  | .loc _, h => by simp [tm] at h
  | .dct _ _, h => by simp [tm] at h
  | .scr _, h => by simp [tm] at h
theorem hgts_tm : ∀ xs : List MV, tms xs = true → hgts xs ≤ deps xs
  | [], _ => by simp [hgts]
  | x :: xs, h => by
    simp only [tms, Bool.and_eq_true] at h
    have := hgt_tm x h.1
    have := hgts_tm xs h.2
    simp only [hgts, deps]
    omega
end
/-- the comprehension of a dict, its body kept whole -/
theorem ev_dcompq {C : CallF} {base : Nat} {ρ : Env} {mh : MHp} {tg : Tg} {own : List Nat} {it cond k e : ME} : ev C base (.dcomp tg own it cond k e) ρ mh = match evI C base it ρ mh with
  | none => none
  | some (J, mh1) => if J.items.length ≤ line then (match compGo J (dcompF C base tg own cond k e ρ) J.items mh1 with
    | none => none
    | some (ys, mh5) => match ys.mapM pairK with
      | some ps => some (.dct (dFold ps [] []).1 (dFold ps [] []).2, mh5)
      | none => none) else none := by
  simp only [ev]
  rfl
theorem pairs_al : ∀ d : AL, (d.map fun p => MV.tup [.str p.1, p.2]).mapM pairK = some (d.map fun p => ((.inr p.1 : MKey), p.2))
  | [] => rfl
  | p :: d => by
    rw [List.map_cons, List.mapM_cons, pairs_al d]
    rfl
theorem dFold_al : ∀ (d e : AL), ((e ++ d).map Prod.fst).Nodup → dFold (d.map fun p => ((.inr p.1 : MKey), p.2)) (aK e) (aV e) = (aK (e ++ d), aV (e ++ d))
  | [], e, _ => by simp [dFold]
  | p :: d, e, h => by
    have hn : look e p.1 = none := by
      cases q : look e p.1 with
      | none => rfl
      | some t =>
        exfalso
        have hm := look_mem q
        rw [List.map_append, List.nodup_append] at h
        exact h.2.2 p.1 (List.mem_map.mpr ⟨_, hm, rfl⟩) p.1 (by simp) rfl
    obtain ⟨e1, e2⟩ := put_new (t := p.2) hn
    rw [List.map_cons, dFold]
    simp only
    rw [e1, e2, dFold_al d (e ++ [p]) (by simpa using h)]
    simp
theorem sortS_perm (xs : List Sx) : (sortS xs).Perm xs := List.mergeSort_perm _ _
theorem sortS_idem (xs : List Sx) : sortS (sortS xs) = sortS xs :=
  List.Perm.eq_of_pairwise (le := (· ≤ ·)) (fun a b _ _ x y => sx_le_anti x y) (sortS_pair _) (sortS_pair xs) (sortS_perm _)
theorem mapM_strOf : ∀ ss : List Sx, (ss.map MV.str).mapM strOf = some ss
  | [] => rfl
  | s :: ss => by rw [List.map_cons, List.mapM_cons, mapM_strOf ss]; rfl
end L2.Mi

set_option Elab.async false
set_option linter.all false
set_option maxRecDepth 100000
set_option maxHeartbeats 4000000
/-! Ev7: loops as folds, comprehensions as maps, texts and rows of texts. -/
namespace L2.Mi
open PySem PySem.Spec PyProof.Rows
theorem ex_go {C : CallF} {base : Nat} {s : MS} {ss : List MS} {ρ ρ1 : Env} {mh mh1 : MHp} {r : Option (Fl × Env × MHp)} (h : ex C base s ρ mh = some (.nx, ρ1, mh1)) (h2 : exs C base ss ρ1 mh1 = r) : exs C base (s :: ss) ρ mh = r := by
  rw [exs, h]; exact h2
theorem ex_end {C : CallF} {base : Nat} {s : MS} {ss : List MS} {ρ ρ1 : Env} {mh mh1 : MHp} {v : MV} (h : ex C base s ρ mh = some (.rt v, ρ1, mh1)) : exs C base (s :: ss) ρ mh = some (.rt v, ρ1, mh1) := by
  rw [exs, h]
theorem ex_iteT {C : CallF} {base : Nat} {c : ME} {x y : List MS} {ρ : Env} {mh mh1 : MHp} (h : ev C base c ρ mh = some (.bl true, mh1)) : ex C base (.ite c x y) ρ mh = exs C base x ρ mh1 := by rw [ex, h]
theorem ex_iteF {C : CallF} {base : Nat} {c : ME} {x y : List MS} {ρ : Env} {mh mh1 : MHp} (h : ev C base c ρ mh = some (.bl false, mh1)) : ex C base (.ite c x y) ρ mh = exs C base y ρ mh1 := by rw [ex, h]
theorem ex_if {C : CallF} {base : Nat} {c : ME} {x y : List MS} {ρ : Env} {mh mh1 : MHp} {b : Bool} {r : Option (Fl × Env × MHp)} (h : ev C base c ρ mh = some (.bl b, mh1)) (ht : b = true → exs C base x ρ mh1 = r) (hf : b = false → exs C base y ρ mh1 = r) : ex C base (.ite c x y) ρ mh = r := by
  cases b with
  | true => rw [ex_iteT h, ht rfl]
  | false => rw [ex_iteF h, hf rfl]
theorem ev_andB {C : CallF} {base : Nat} {x y : ME} {ρ : Env} {mh mh1 : MHp} {a b : Bool} (h : ev C base x ρ mh = some (.bl a, mh1)) (h2 : a = true → ev C base y ρ mh1 = some (.bl b, mh1)) : ev C base (.and x y) ρ mh = some (.bl (a && b), mh1) := by
  cases a with
  | true => rw [ev, h]; exact h2 rfl
  | false => rw [ev, h]; rfl
theorem ev_orB {C : CallF} {base : Nat} {x y : ME} {ρ : Env} {mh mh1 : MHp} {a b : Bool} (h : ev C base x ρ mh = some (.bl a, mh1)) (h2 : a = false → ev C base y ρ mh1 = some (.bl b, mh1)) : ev C base (.or x y) ρ mh = some (.bl (a || b), mh1) := by
  cases a with
  | false => rw [ev, h]; exact h2 rfl
  | true => rw [ev, h]; rfl
theorem ev_notB {C : CallF} {base : Nat} {x : ME} {ρ : Env} {mh mh1 : MHp} {a : Bool} (h : ev C base x ρ mh = some (.bl a, mh1)) : ev C base (.not x) ρ mh = some (.bl (!a), mh1) := by rw [ev, h]
theorem ex_done {C : CallF} {base : Nat} {ρ : Env} {mh : MHp} : exs C base [] ρ mh = some (.nx, ρ, mh) := by rw [exs]
theorem Its.ok_none {J : Its} (h : J.src = none) (mh : MHp) : J.ok mh := by unfold Its.ok; rw [h]; trivial
section
variable {J : Its} {f : MV → Env → MHp → Option (Fl × Env × MHp)}
theorem forGo_cons_ok {x : MV} {xs : List MV} {ρ : Env} {mh : MHp} (ok : J.ok mh) : forGo J f (x :: xs) ρ mh = match f x ρ mh with
    | none => none
    | some (.nx, ρ1, mh1) => forGo J f xs ρ1 mh1
    | some (.ct, ρ1, mh1) => forGo J f xs ρ1 mh1
    | some (.bk, ρ1, mh1) => some (.nx, ρ1, mh1)
    | some (.rt v, ρ1, mh1) => some (.rt v, ρ1, mh1) := by
  rw [forGo, if_pos ok] <;> rfl
theorem forGo_nil_ok {ρ : Env} {mh : MHp} (ok : J.ok mh) : forGo J f [] ρ mh = some (.nx, ρ, mh) := by
  rw [forGo, if_pos ok]
/-- a for that goes through is a fold -/
theorem forGo_fold {α β : Type} {emb : α → MV} {env : β → Env} {hp : β → MHp} {g : β → α → β} (P : β → Prop) (hok : ∀ s, P s → J.ok (hp s)) : ∀ (xs : List α), (∀ x ∈ xs, ∀ s, P s → f (emb x) (env s) (hp s) = some (.nx, env (g s x), hp (g s x)) ∧ P (g s x)) →
    ∀ s, P s → forGo J f (xs.map emb) (env s) (hp s) = some (.nx, env (xs.foldl g s), hp (xs.foldl g s)) ∧ P (xs.foldl g s)
  | [], _, s, p => ⟨forGo_nil_ok (hok s p), p⟩
  | x :: xs, h, s, p => by
    obtain ⟨e, p1⟩ := h x List.mem_cons_self s p
    rw [List.map_cons, forGo_cons_ok (hok s p), e]
    exact forGo_fold P hok xs (fun y hy => h y (List.mem_cons_of_mem _ hy)) _ p1
/-- a for whose body may go on (ct) or fall through -/
theorem forGo_foldc {α β : Type} {emb : α → MV} {env : β → Env} {hp : β → MHp} {g : β → α → β} (P : β → Prop) (hok : ∀ s, P s → J.ok (hp s)) : ∀ (xs : List α), (∀ x ∈ xs, ∀ s, P s → (f (emb x) (env s) (hp s) = some (.nx, env (g s x), hp (g s x)) ∨ f (emb x) (env s) (hp s) = some (.ct, env (g s x), hp (g s x))) ∧ P (g s x)) →
    ∀ s, P s → forGo J f (xs.map emb) (env s) (hp s) = some (.nx, env (xs.foldl g s), hp (xs.foldl g s)) ∧ P (xs.foldl g s)
  | [], _, s, p => ⟨forGo_nil_ok (hok s p), p⟩
  | x :: xs, h, s, p => by
    obtain ⟨e, p1⟩ := h x List.mem_cons_self s p
    rw [List.map_cons, forGo_cons_ok (hok s p)]
    rcases e with e | e <;> rw [e] <;> exact forGo_foldc P hok xs (fun y hy => h y (List.mem_cons_of_mem _ hy)) _ p1
/-- what a for with an early return comes to: the state behind, or the value -/
def stopF {α β γ : Type} (g : β → α → β ⊕ γ) : List α → β → β ⊕ γ
  | [], s => .inl s
  | x :: xs, s => match g s x with
    | .inl s' => stopF g xs s'
    | .inr v => .inr v
theorem forGo_stop {α β : Type} {emb : α → MV} {env : β → Env} {hp : β → MHp} {g : β → α → β ⊕ (MV × Env × MHp)} (P : β → Prop) (hok : ∀ s, P s → J.ok (hp s)) : ∀ (xs : List α), (∀ x ∈ xs, ∀ s, P s → match g s x with
      | .inl s' => f (emb x) (env s) (hp s) = some (.nx, env s', hp s') ∧ P s'
      | .inr (v, ρ, mh) => f (emb x) (env s) (hp s) = some (.rt v, ρ, mh)) →
    ∀ s, P s → match stopF g xs s with
      | .inl s' => forGo J f (xs.map emb) (env s) (hp s) = some (.nx, env s', hp s') ∧ P s'
      | .inr (v, ρ, mh) => forGo J f (xs.map emb) (env s) (hp s) = some (.rt v, ρ, mh)
  | [], _, s, p => ⟨forGo_nil_ok (hok s p), p⟩
  | x :: xs, h, s, p => by
    have h1 := h x List.mem_cons_self s p
    rw [List.map_cons, forGo_cons_ok (hok s p), stopF]
    cases e : g s x with
    | inl s' =>
      rw [e] at h1
      obtain ⟨e1, p1⟩ := h1
      rw [e1]
      exact forGo_stop P hok xs (fun y hy => h y (List.mem_cons_of_mem _ hy)) _ p1
    | inr r =>
      obtain ⟨v, ρ, mh⟩ := r
      rw [e] at h1
      simp only at h1
      rw [h1]
end
section
variable {J : Its} {f : MV → Env → MHp → Option (Fl × Env × MHp)}
/-- a for that goes through, told by a relation of states -/
theorem for_rel {α σ : Type} {emb : α → MV} {g : σ → α → σ} (Rel : σ → Env → MHp → Prop) (hok : ∀ s ρ mh, Rel s ρ mh → J.ok mh) : ∀ (xs : List α), (∀ x ∈ xs, ∀ s ρ mh, Rel s ρ mh → ∃ ρ' mh', f (emb x) ρ mh = some (.nx, ρ', mh') ∧ Rel (g s x) ρ' mh') →
    ∀ s ρ mh, Rel s ρ mh → ∃ ρ' mh', forGo J f (xs.map emb) ρ mh = some (.nx, ρ', mh') ∧ Rel (xs.foldl g s) ρ' mh'
  | [], _, s, ρ, mh, p => ⟨ρ, mh, forGo_nil_ok (hok s ρ mh p), p⟩
  | x :: xs, h, s, ρ, mh, p => by
    obtain ⟨ρ1, mh1, e, p1⟩ := h x List.mem_cons_self s ρ mh p
    obtain ⟨ρ2, mh2, e2, p2⟩ := for_rel Rel hok xs (fun y hy => h y (List.mem_cons_of_mem _ hy)) _ ρ1 mh1 p1
    refine ⟨ρ2, mh2, ?_, p2⟩
    rw [List.map_cons, forGo_cons_ok (hok s ρ mh p), e]
    exact e2
/-- a for with an early return, told by a relation of states -/
theorem for_relS {α σ τ : Type} {emb : α → MV} {g : σ → α → σ ⊕ τ} (Rel : σ → Env → MHp → Prop) (Out : τ → MV → MHp → Prop) (hok : ∀ s ρ mh, Rel s ρ mh → J.ok mh) : ∀ (xs : List α), (∀ x ∈ xs, ∀ s ρ mh, Rel s ρ mh → match g s x with
      | .inl s' => ∃ ρ' mh', f (emb x) ρ mh = some (.nx, ρ', mh') ∧ Rel s' ρ' mh'
      | .inr t => ∃ v ρ' mh', f (emb x) ρ mh = some (.rt v, ρ', mh') ∧ Out t v mh') →
    ∀ s ρ mh, Rel s ρ mh → match stopF g xs s with
      | .inl s' => ∃ ρ' mh', forGo J f (xs.map emb) ρ mh = some (.nx, ρ', mh') ∧ Rel s' ρ' mh'
      | .inr t => ∃ v ρ' mh', forGo J f (xs.map emb) ρ mh = some (.rt v, ρ', mh') ∧ Out t v mh'
  | [], _, s, ρ, mh, p => ⟨ρ, mh, forGo_nil_ok (hok s ρ mh p), p⟩
  | x :: xs, h, s, ρ, mh, p => by
    have h1 := h x List.mem_cons_self s ρ mh p
    rw [stopF]
    cases e : g s x with
    | inl s' =>
      rw [e] at h1
      obtain ⟨ρ1, mh1, e1, p1⟩ := h1
      have h2 := for_relS Rel Out hok xs (fun y hy => h y (List.mem_cons_of_mem _ hy)) s' ρ1 mh1 p1
      rw [List.map_cons, forGo_cons_ok (hok s ρ mh p), e1]
      exact h2
    | inr t =>
      rw [e] at h1
      obtain ⟨v, ρ1, mh1, e1, p1⟩ := h1
      refine ⟨v, ρ1, mh1, ?_, p1⟩
      rw [List.map_cons, forGo_cons_ok (hok s ρ mh p), e1]
/-- rows are put behind a row -/
theorem for_flat {α β : Type} {emb : α → MV} {F : α → List β} {N : Nat} (Rel : List β → Env → MHp → Prop) (hok : ∀ s ρ mh, Rel s ρ mh → J.ok mh) : ∀ (xs : List α), (∀ x ∈ xs, ∀ s ρ mh, Rel s ρ mh → s.length + (F x).length ≤ N → ∃ ρ' mh', f (emb x) ρ mh = some (.nx, ρ', mh') ∧ Rel (s ++ F x) ρ' mh') →
    ∀ s ρ mh, Rel s ρ mh → s.length + (xs.flatMap F).length ≤ N → ∃ ρ' mh', forGo J f (xs.map emb) ρ mh = some (.nx, ρ', mh') ∧ Rel (s ++ xs.flatMap F) ρ' mh'
  | [], _, s, ρ, mh, p, _ => ⟨ρ, mh, forGo_nil_ok (hok s ρ mh p), by simpa using p⟩
  | x :: xs, h, s, ρ, mh, p, l => by
    simp only [List.flatMap_cons, List.length_append] at l
    obtain ⟨ρ1, mh1, e, p1⟩ := h x List.mem_cons_self s ρ mh p (by omega)
    obtain ⟨ρ2, mh2, e2, p2⟩ := for_flat Rel hok xs (fun y hy => h y (List.mem_cons_of_mem _ hy)) _ ρ1 mh1 p1 (by rw [List.length_append]; omega)
    refine ⟨ρ2, mh2, ?_, ?_⟩
    · rw [List.map_cons, forGo_cons_ok (hok s ρ mh p), e]
      exact e2
    · rw [List.flatMap_cons, ← List.append_assoc]
      exact p2
end
section
variable {c : Env → MHp → Option (Bool × MHp)} {f : Env → MHp → Option (Fl × Env × MHp)} {ρ ρ1 : Env} {mh mh1 mh2 : MHp} {r : Fl × Env × MHp}
theorem while_stop (h : c ρ mh = some (false, mh1)) : whileM c f ρ mh = some (.nx, ρ, mh1) := whileM_eq (n := 1) (by rw [whileN, h])
theorem while_go (h : c ρ mh = some (true, mh1)) (h1 : f ρ mh1 = some (.nx, ρ1, mh2)) (h2 : whileM c f ρ1 mh2 = some r) : whileM c f ρ mh = some r := by
  obtain ⟨n, e⟩ := whileM_of h2
  exact whileM_eq (n := n + 1) (by rw [whileN, h]; simp only [h1, e])
theorem while_ct (h : c ρ mh = some (true, mh1)) (h1 : f ρ mh1 = some (.ct, ρ1, mh2)) (h2 : whileM c f ρ1 mh2 = some r) : whileM c f ρ mh = some r := by
  obtain ⟨n, e⟩ := whileM_of h2
  exact whileM_eq (n := n + 1) (by rw [whileN, h]; simp only [h1, e])
theorem while_bk (h : c ρ mh = some (true, mh1)) (h1 : f ρ mh1 = some (.bk, ρ1, mh2)) : whileM c f ρ mh = some (.nx, ρ1, mh2) := whileM_eq (n := 1) (by rw [whileN, h]; simp only [h1])
theorem while_rt {v : MV} (h : c ρ mh = some (true, mh1)) (h1 : f ρ mh1 = some (.rt v, ρ1, mh2)) : whileM c f ρ mh = some (.rt v, ρ1, mh2) := whileM_eq (n := 1) (by rw [whileN, h]; simp only [h1])
end
/-! ### comprehensions -/
theorem compGo_map {α : Type} {J : Its} {f : MV → MHp → Option (Option MV × MHp)} {mh : MHp} (ok : J.ok mh) {emb : α → MV} {c : α → Bool} {h : α → MV} : ∀ {xs : List α}, (∀ x ∈ xs, f (emb x) mh = some (if c x = true then some (h x) else none, mh)) → compGo J f (xs.map emb) mh = some ((xs.filter c).map h, mh)
  | [], _ => by
    rw [List.map_nil, compGo, if_pos ok]
    rfl
  | x :: xs, q => by
    rw [List.map_cons, compGo, if_pos ok, q x List.mem_cons_self]
    simp only
    rw [compGo_map ok fun y hy => q y (List.mem_cons_of_mem _ hy)]
    simp only
    cases e : c x <;> simp [List.filter_cons, e]
section
variable {C : CallF} {base : Nat} {ρ : Env} {mh : MHp} {tg : Tg} {own : List Nat} {it cond e : ME}
theorem ev_compS {α : Type} {emb : α → MV} {c : α → Bool} {h : α → MV} {xs : List α} {s : Option Nat} (hi : evI C base it ρ mh = some (⟨xs.map emb, s⟩, mh)) (ok : Its.ok ⟨xs.map emb, s⟩ mh) (hl : xs.length ≤ line)
    (hf : ∀ x ∈ xs, compF C base tg own cond e ρ (emb x) mh = some (if c x = true then some (h x) else none, mh)) : ev C base (.comp tg own it cond e) ρ mh = some (.lst ((xs.filter c).map h), mh) := by
  rw [ev_compq, hi]
  simp only [List.length_map, hl, if_true, compGo_map ok hf]
theorem ev_compF {α : Type} {emb : α → MV} {c : α → Bool} {h : α → MV} {xs : List α} (hi : evI C base it ρ mh = some (⟨xs.map emb, none⟩, mh)) (hl : xs.length ≤ line)
    (hf : ∀ x ∈ xs, compF C base tg own cond e ρ (emb x) mh = some (if c x = true then some (h x) else none, mh)) : ev C base (.comp tg own it cond e) ρ mh = some (.lst ((xs.filter c).map h), mh) := ev_compS hi (Its.ok_none rfl _) hl hf
theorem ev_compM {α : Type} {emb : α → MV} {h : α → MV} {xs : List α} (hi : evI C base it ρ mh = some (⟨xs.map emb, none⟩, mh)) (hl : xs.length ≤ line)
    (hf : ∀ x ∈ xs, compF C base tg own cond e ρ (emb x) mh = some (some (h x), mh)) : ev C base (.comp tg own it cond e) ρ mh = some (.lst (xs.map h), mh) := by
  have := ev_compF (c := fun _ => true) (h := h) hi hl fun x hx => by rw [hf x hx]; rfl
  rwa [List.filter_eq_self.mpr fun _ _ => rfl] at this
theorem compF_T {x y : MV} {ρ' : Env} {mh1 : MHp} (ha : asg mh tg x (wipeE ρ own) = some ρ') (hc : ev C base cond ρ' mh = some (.bl true, mh)) (he : ev C base e ρ' mh = some (y, mh1)) : compF C base tg own cond e ρ x mh = some (some y, mh1) := by
  unfold compF
  rw [ha]
  simp only [hc, he]
theorem compF_F {x : MV} {ρ' : Env} {mh1 : MHp} (ha : asg mh tg x (wipeE ρ own) = some ρ') (hc : ev C base cond ρ' mh = some (.bl false, mh1)) : compF C base tg own cond e ρ x mh = some (none, mh1) := by
  unfold compF
  rw [ha]
  simp only [hc]
theorem compF_B {x y : MV} {ρ' : Env} {c : Bool} (ha : asg mh tg x (wipeE ρ own) = some ρ') (hc : ev C base cond ρ' mh = some (.bl c, mh)) (he : c = true → ev C base e ρ' mh = some (y, mh)) : compF C base tg own cond e ρ x mh = some (if c = true then some y else none, mh) := by
  cases c with
  | true => rw [compF_T ha hc (he rfl)]; rfl
  | false => rw [compF_F ha hc]; rfl
theorem evI_rng1 {a : ME} {m : Nat} (h : ev C base a ρ mh = some (.int (m : Int), mh)) (hm : m < 4000000000000000000) : evI C base (.rng1 a) ρ mh = some (⟨(List.range m).map fun (k : Nat) => .int (k : Int), none⟩, mh) := by
  have b1 : (-4611686018427387904 : Int) ≤ m := by omega
  have b2 : (m : Int) < 4611686018427387904 := by omega
  simp [evI, h, b1, b2]
theorem evI_rng2 {a b : ME} {i j : Nat} (h : ev C base a ρ mh = some (.int (i : Int), mh)) (h' : ev C base b ρ mh = some (.int (j : Int), mh)) (hi : i < 4000000000000000000) (hj : j < 4000000000000000000) : evI C base (.rng2 a b) ρ mh = some (⟨(List.range' i (j - i)).map fun (k : Nat) => .int (k : Int), none⟩, mh) := by
  have b1 : (-4611686018427387904 : Int) ≤ i := by omega
  have b2 : (i : Int) < 4611686018427387904 := by omega
  have b3 : (-4611686018427387904 : Int) ≤ j := by omega
  have b4 : (j : Int) < 4611686018427387904 := by omega
  have e : ((j : Int) - (i : Int)).toNat = j - i := by omega
  simp [evI, h, h', b1, b2, b3, b4, e, List.range'_eq_map_range]
theorem evI_var {i : Nat} {xs : List MV} {v : MV} (hv : ρ[i]? = some (some v)) (h : itsOf mh v = some ⟨xs, none⟩) : evI C base (.var i) ρ mh = some (⟨xs, none⟩, mh) := by
  simp [evI, ev, hv, h]
end
/-! ### bounds -/
theorem line_le {n : Nat} (h : n ≤ 16777216) : n ≤ line := h
theorem line_lt {n : Nat} (h : n < 16777216) : n < line := h
theorem idx_get {α : Type} {xs : List α} {j : Nat} (h : j < xs.length) : idx xs (j : Int) = some xs[j] := idx_nat (List.getElem?_eq_getElem h)
/-! ### texts -/
theorem dat_str {w : Sx} (h1 : w.length ≤ 1000) (h2 : ∀ c ∈ w, c < 1114112) : dat (.str w) = true := by
  unfold dat
  rw [Bool.and_eq_true]
  exact ⟨decide_eq_true h1, List.all_eq_true.mpr fun c hc => decide_eq_true (h2 c hc)⟩
theorem dat_str_len {w : Sx} (h : dat (.str w) = true) : w.length ≤ 1000 := by
  unfold dat at h
  rw [Bool.and_eq_true] at h
  exact of_decide_eq_true h.1
theorem dat_str_chr {w : Sx} (h : dat (.str w) = true) : ∀ c ∈ w, c < 1114112 := by
  unfold dat at h
  rw [Bool.and_eq_true] at h
  exact fun c hc => of_decide_eq_true (List.all_eq_true.mp h.2 c hc)
theorem dat_sub {w u : Sx} (h : dat (.str w) = true) (hl : u.length ≤ 1000) (hs : ∀ c ∈ u, c ∈ w) : dat (.str u) = true := dat_str hl fun c hc => dat_str_chr h c (hs c hc)
theorem dat_take {w : Sx} (n : Nat) (h : dat (.str w) = true) : dat (.str (w.take n)) = true := dat_sub h (by have := dat_str_len h; simp; omega) fun c hc => List.mem_of_mem_take hc
theorem dat_drop {w : Sx} (n : Nat) (h : dat (.str w) = true) : dat (.str (w.drop n)) = true := dat_sub h (by have := dat_str_len h; simp; omega) fun c hc => List.mem_of_mem_drop hc
theorem dat_appS {w u : Sx} (h : dat (.str w) = true) (h' : dat (.str u) = true) (hl : w.length + u.length ≤ 1000) : dat (.str (w ++ u)) = true := dat_str (by simpa using hl) fun c hc => (List.mem_append.mp hc).elim (dat_str_chr h c) (dat_str_chr h' c)
theorem dat_chr {w : Sx} {c : Nat} (h : dat (.str w) = true) (hc : c ∈ w) : dat (.str [c]) = true := dat_sub h (by simp) fun d hd => by simp at hd; subst hd; exact hc
theorem slc_take {mh : MHp} {w : Sx} {k : Nat} (h : w.length ≤ 1000) : slcV mh (.str w) none (some (k : Int)) = some (.str (w.take k)) := by
  have : w.length ≤ line := line_le (by omega)
  simp only [slcV, this, if_true, cut_take]
theorem slc_drop {mh : MHp} {w : Sx} {k : Nat} (h : w.length ≤ 1000) : slcV mh (.str w) (some (k : Int)) none = some (.str (w.drop k)) := by
  have : w.length ≤ line := line_le (by omega)
  simp only [slcV, this, if_true, cut_drop]
theorem cut_mid {α : Type} {xs : List α} {i j : Nat} : cut xs (some (i : Int)) (some (j : Int)) = (xs.drop i).take (j - i) := by
  unfold cut
  rw [HT.sIx_nat, HT.sIx_nat]
  by_cases h : i ≤ xs.length
  · rw [Nat.min_eq_left h]
    by_cases h2 : j ≤ xs.length
    · rw [Nat.min_eq_left h2]
    · rw [Nat.min_eq_right (by omega), List.take_of_length_le (by rw [List.length_drop]; omega), List.take_of_length_le (by rw [List.length_drop]; omega)]
  · rw [List.drop_eq_nil_of_le (show xs.length ≤ min i xs.length by omega), List.drop_eq_nil_of_le (show xs.length ≤ i by omega)]
    simp
theorem slc_mid {mh : MHp} {w : Sx} {i j : Nat} (h : w.length ≤ 1000) : slcV mh (.str w) (some (i : Int)) (some (j : Int)) = some (.str ((w.drop i).take (j - i))) := by
  have : w.length ≤ line := line_le (by omega)
  simp only [slcV, this, if_true, cut_mid]
/-! ### == and in for plain data -/
mutual
/-- values of which == tells all -/
def pln : MV → Bool
  | .non => true
  | .int _ => true
  | .str _ => true
  | .tup xs => plns xs
  | .lst xs => plns xs
  | _ => false
def plns : List MV → Bool
  | [] => true
  | x :: xs => pln x && plns xs
end
mutual
theorem eqD_pln : ∀ t u : MV, pln t = true → pln u = true → PyData.eqv (toD t) (toD u) = true → t = u
  | .non, .non, _, _, _ => rfl
  | .int a, .int b, _, _, h => by unfold toD PyData.eqv at h; simp at h; rw [h]
  | .str a, .str b, _, _, h => by unfold toD PyData.eqv at h; simp at h; rw [h]
  | .tup xs, .tup ys, h1, h2, h => by
    unfold pln at h1 h2
    unfold toD PyData.eqv at h
    rw [eqDs_pln xs ys h1 h2 h]
  | .lst xs, .lst ys, h1, h2, h => by
    unfold pln at h1 h2
    unfold toD PyData.eqv at h
    rw [eqDs_pln xs ys h1 h2 h]
  | .non, .int _, _, _, h => by unfold toD PyData.eqv at h; cases h
  | .non, .str _, _, _, h => by unfold toD PyData.eqv at h; cases h
  | .non, .tup _, _, _, h => by unfold toD PyData.eqv at h; cases h
  | .non, .lst _, _, _, h => by unfold toD PyData.eqv at h; cases h
  | .int _, .non, _, _, h => by unfold toD PyData.eqv at h; cases h
  | .int _, .str _, _, _, h => by unfold toD PyData.eqv at h; cases h
  | .int _, .tup _, _, _, h => by unfold toD PyData.eqv at h; cases h
  | .int _, .lst _, _, _, h => by unfold toD PyData.eqv at h; cases h
  | .str _, .non, _, _, h => by unfold toD PyData.eqv at h; cases h
  | .str _, .int _, _, _, h => by unfold toD PyData.eqv at h; cases h
  | .str _, .tup _, _, _, h => by unfold toD PyData.eqv at h; cases h
  | .str _, .lst _, _, _, h => by unfold toD PyData.eqv at h; cases h
  | .tup _, .non, _, _, h => by unfold toD PyData.eqv at h; cases h
  | .tup _, .int _, _, _, h => by unfold toD PyData.eqv at h; cases h
  | .tup _, .str _, _, _, h => by unfold toD PyData.eqv at h; cases h
  | .tup _, .lst _, _, _, h => by unfold toD PyData.eqv at h; cases h
  | .lst _, .non, _, _, h => by unfold toD PyData.eqv at h; cases h
  | .lst _, .int _, _, _, h => by unfold toD PyData.eqv at h; cases h
  | .lst _, .str _, _, _, h => by unfold toD PyData.eqv at h; cases h
  | .lst _, .tup _, _, _, h => by unfold toD PyData.eqv at h; cases h
  | .bl _, _, h, _, _ => by simp [pln] at h
  | .fn _, _, h, _, _ => by simp [pln] at h
  | .loc _, _, h, _, _ => by simp [pln] at h
  | .dct _ _, _, h, _, _ => by simp [pln] at h
  | .scr _, _, h, _, _ => by simp [pln] at h
  | _, .bl _, _, h, _ => by simp [pln] at h
  | _, .fn _, _, h, _ => by simp [pln] at h
  | _, .loc _, _, h, _ => by simp [pln] at h
  | _, .dct _ _, _, h, _ => by simp [pln] at h
  | _, .scr _, _, h, _ => by simp [pln] at h
theorem eqDs_pln : ∀ xs ys : List MV, plns xs = true → plns ys = true → PyData.eqvAll (toDs xs) (toDs ys) = true → xs = ys
  | [], [], _, _, _ => rfl
  | [], _ :: _, _, _, h => by unfold toDs PyData.eqvAll at h; cases h
  | _ :: _, [], _, _, h => by unfold toDs PyData.eqvAll at h; cases h
  | x :: xs, y :: ys, h1, h2, h => by
    simp only [plns, Bool.and_eq_true] at h1 h2
    unfold toDs PyData.eqvAll at h
    rw [Bool.and_eq_true] at h
    rw [eqD_pln x y h1.1 h2.1 h.1, eqDs_pln xs ys h1.2 h2.2 h.2]
end
theorem eqD_pln' {x y : MV} (p1 : pln x = true) (d1 : dat x = true) (p2 : pln y = true) (d2 : dat y = true) : (eqD x y = true) = (x = y) := by
  apply propext
  constructor
  · exact eqD_pln x y p1 p2
  · rintro rfl
    exact eqD_refl x d1
theorem plns_iff : ∀ {xs : List MV}, plns xs = true ↔ ∀ x ∈ xs, pln x = true
  | [] => by simp [plns]
  | x :: xs => by simp [plns, plns_iff (xs := xs)]
/-- good for == : plain data, without bools, not deep -/
structure Pd (x : MV) : Prop where
  dat : dat x = true
  pln : pln x = true
  dep : dep x ≤ 40
open Classical in
theorem eqV_pd (mh : MHp) {x y : MV} (hx : Pd x) (hy : Pd y) : eqV mh x y = some (decide (x = y)) := by
  unfold eqV
  rw [frz_dat x hx.dat, frz_dat y hy.dat]
  simp only [okD_dat hx.dat (by have := hx.dep; omega), okD_dat hy.dat (by have := hy.dep; omega), and_self, if_true]
  congr 1
  by_cases h : x = y
  · rw [decide_eq_true h]; subst h; exact eqD_refl x hx.dat
  · rw [decide_eq_false h]
    cases e : eqD x y with
    | false => rfl
    | true => exact absurd (eqD_pln x y hx.pln hy.pln e) h
open Classical in
theorem eqV_b (mh : MHp) {x y : MV} {b : Bool} (hx : Pd x) (hy : Pd y) (hb : b = true ↔ x = y) : eqV mh x y = some b := by
  rw [eqV_pd mh hx hy]
  congr 1
  apply Bool.eq_iff_iff.mpr
  rw [decide_eq_true_iff, hb]
theorem eqV_fz (mh : MHp) {x y x' y' : MV} {b : Bool} (ex : frz 0 mh 8 x = some x') (ey : frz 0 mh 8 y = some y') (hx : Pd x') (hy : Pd y') (hb : b = true ↔ x' = y') : eqV mh x y = some b := by
  have h1 := eqV_b mh hx hy hb
  unfold eqV at h1 ⊢
  rw [frz_dat x' hx.dat, frz_dat y' hy.dat] at h1
  rw [ex, ey]
  exact h1
theorem Pd.str {w : Sx} (h : L2.Mi.dat (.str w) = true) : Pd (.str w) := ⟨h, rfl, by simp [L2.Mi.dep]⟩
theorem Pd.int (i : Int) : Pd (.int i) := ⟨rfl, rfl, by simp [L2.Mi.dep]⟩
theorem Pd.non : Pd .non := ⟨rfl, rfl, by simp [L2.Mi.dep]⟩
theorem Pd.tup {n : Nat} {xs : List MV} (hn : n ≤ 39) (h : ∀ x ∈ xs, L2.Mi.dat x = true ∧ L2.Mi.pln x = true ∧ L2.Mi.dep x ≤ n) : Pd (.tup xs) := by
  refine ⟨by unfold L2.Mi.dat; exact dats_iff.mpr fun x hx => (h x hx).1, by unfold L2.Mi.pln; exact plns_iff.mpr fun x hx => (h x hx).2.1, ?_⟩
  have := deps_le (b := n) fun x hx => (h x hx).2.2
  simp only [L2.Mi.dep]
  omega
theorem Pd.lst {n : Nat} {xs : List MV} (hn : n ≤ 39) (h : ∀ x ∈ xs, L2.Mi.dat x = true ∧ L2.Mi.pln x = true ∧ L2.Mi.dep x ≤ n) : Pd (.lst xs) := by
  refine ⟨by unfold L2.Mi.dat; exact dats_iff.mpr fun x hx => (h x hx).1, by unfold L2.Mi.pln; exact plns_iff.mpr fun x hx => (h x hx).2.1, ?_⟩
  have := deps_le (b := n) fun x hx => (h x hx).2.2
  simp only [L2.Mi.dep]
  omega
open Classical in
theorem mem_lst (mh : MHp) {x y : MV} {ys : List MV} (hx : Pd x) (hy : frz 0 mh 8 y = some (.lst ys)) (hs : ∀ c t, ¬ (x = .str [c] ∧ y = .str t)) (hys : Pd (.lst ys)) : memV mh x y = some (decide (x ∈ ys)) := by
  have e : memV mh x y = if okD x = true ∧ okD (.lst ys) = true then some (ys.any fun z => eqD z x) else none := by
    unfold memV
    split
    · rename_i c t
      exact absurd ⟨rfl, rfl⟩ (hs c t)
    · rw [frz_dat x hx.dat, hy]
  rw [e, if_pos ⟨okD_dat hx.dat (by have := hx.dep; omega), okD_dat hys.dat (by have := hys.dep; omega)⟩]
  congr 1
  apply Bool.eq_iff_iff.mpr
  rw [List.any_eq_true, decide_eq_true_iff]
  have hd : dats ys = true := by have := hys.dat; unfold L2.Mi.dat at this; exact this
  have hp : plns ys = true := by have := hys.pln; unfold L2.Mi.pln at this; exact this
  constructor
  · rintro ⟨z, hz, h⟩
    rw [eqD_pln' (plns_iff.mp hp z hz) (dats_iff.mp hd z hz) hx.pln hx.dat] at h
    subst h
    exact hz
  · intro h
    exact ⟨x, h, eqD_refl x hx.dat⟩
open Classical in
theorem mem_tup (mh : MHp) {x y : MV} {ys : List MV} (hx : Pd x) (hy : frz 0 mh 8 y = some (.tup ys)) (hs : ∀ c t, ¬ (x = .str [c] ∧ y = .str t)) (hys : Pd (.tup ys)) : memV mh x y = some (decide (x ∈ ys)) := by
  have e : memV mh x y = if okD x = true ∧ okD (.tup ys) = true then some (ys.any fun z => eqD z x) else none := by
    unfold memV
    split
    · rename_i c t
      exact absurd ⟨rfl, rfl⟩ (hs c t)
    · rw [frz_dat x hx.dat, hy]
  rw [e, if_pos ⟨okD_dat hx.dat (by have := hx.dep; omega), okD_dat hys.dat (by have := hys.dep; omega)⟩]
  congr 1
  apply Bool.eq_iff_iff.mpr
  rw [List.any_eq_true, decide_eq_true_iff]
  have hd : dats ys = true := by have := hys.dat; unfold L2.Mi.dat at this; exact this
  have hp : plns ys = true := by have := hys.pln; unfold L2.Mi.pln at this; exact this
  constructor
  · rintro ⟨z, hz, h⟩
    rw [eqD_pln' (plns_iff.mp hp z hz) (dats_iff.mp hd z hz) hx.pln hx.dat] at h
    subst h
    exact hz
  · intro h
    exact ⟨x, h, eqD_refl x hx.dat⟩
open Classical in
theorem memV_b (mh : MHp) {x y : MV} {ys : List MV} {b : Bool} (hx : Pd x) (hy : frz 0 mh 8 y = some (.lst ys)) (hs : ∀ c t, ¬ (x = .str [c] ∧ y = .str t)) (hys : Pd (.lst ys)) (hb : b = true ↔ x ∈ ys) : memV mh x y = some b := by
  rw [mem_lst mh hx hy hs hys]
  congr 1
  apply Bool.eq_iff_iff.mpr
  rw [decide_eq_true_iff, hb]
open Classical in
theorem memV_bt (mh : MHp) {x y : MV} {ys : List MV} {b : Bool} (hx : Pd x) (hy : frz 0 mh 8 y = some (.tup ys)) (hs : ∀ c t, ¬ (x = .str [c] ∧ y = .str t)) (hys : Pd (.tup ys)) (hb : b = true ↔ x ∈ ys) : memV mh x y = some b := by
  rw [mem_tup mh hx hy hs hys]
  congr 1
  apply Bool.eq_iff_iff.mpr
  rw [decide_eq_true_iff, hb]
/-! ### operations -/
theorem add_str {mh : MHp} {a b : Sx} (ha : a.length ≤ 1000000) (hb : b.length ≤ 1000000) : addV mh (.str a) (.str b) = some (.str (a ++ b)) := by
  have : a.length + b.length ≤ line := line_le (by omega)
  simp only [addV, this, if_true]
theorem add_lst {mh : MHp} {a b : List MV} (h : a.length + b.length ≤ 16777216) : addV mh (.lst a) (.lst b) = some (.lst (a ++ b)) := by
  have : a.length + b.length ≤ line := h
  simp only [addV, getL, this, if_true]
theorem add_tup {mh : MHp} {a b : List MV} (h : a.length + b.length ≤ 16777216) : addV mh (.tup a) (.tup b) = some (.tup (a ++ b)) := by
  have : a.length + b.length ≤ line := h
  simp only [addV, this, if_true]
theorem add_int {mh : MHp} {a b : Int} : addV mh (.int a) (.int b) = some (.int (a + b)) := rfl
theorem dat_t2 {x y : MV} (hx : dat x = true) (hy : dat y = true) : dat (.tup [x, y]) = true := by rw [dat, dats, dats, dats, hx, hy]; rfl
theorem dat_t3 {x y z : MV} (hx : dat x = true) (hy : dat y = true) (hz : dat z = true) : dat (.tup [x, y, z]) = true := by rw [dat, dats, dats, dats, dats, hx, hy, hz]; rfl
theorem idx_last {α : Type} {xs : List α} {x : α} : idx (xs ++ [x]) (-1) = some x := L2.atI_last xs x
theorem len_str {mh : MHp} {a : Sx} (h : a.length ≤ 1000000) : lenV mh (.str a) = some (.int (a.length : Int)) := by
  have : a.length ≤ line := line_le (by omega)
  simp only [lenV, this, if_true]
theorem lt_pair {mh : MHp} {a b : Int} {x y : Sx} (hx : dat (.str x) = true) (hy : dat (.str y) = true) : cmpV mh .lt (.tup [.int a, .str x]) (.tup [.int b, .str y]) = some (decide (a < b ∨ a = b ∧ x < y)) := by
  have d1 : dat (.tup [.int a, .str x]) = true := by simp only [dat, dats, Bool.true_and, Bool.and_true]; exact hx
  have d2 : dat (.tup [.int b, .str y]) = true := by simp only [dat, dats, Bool.true_and, Bool.and_true]; exact hy
  show ltD mh _ _ = _
  unfold ltD
  rw [frz_dat _ d1, frz_dat _ d2]
  have o1 := okD_dat d1 (by simp [dep, deps])
  have o2 := okD_dat d2 (by simp [dep, deps])
  have al : PySem.W.alike (toD (.tup [.int a, .str x])) (toD (.tup [.int b, .str y])) = true := by simp [toD, toDs, PySem.W.alike, PySem.W.alikeAll]
  have nn : notNon (.tup [.int a, .str x]) = true := rfl
  simp only [o1, o2, al, nn, and_self, if_true]
  congr 1
  have e1 : toD (.tup [.int a, .str x]) = .tuple [.int a, .str ⟨x.toArray⟩] := by simp [toD, toDs]
  have e2 : toD (.tup [.int b, .str y]) = .tuple [.int b, .str ⟨y.toArray⟩] := by simp [toD, toDs]
  rw [e1, e2, PySem.W.dataLt_tuple]
  simp only [PySem.W.keyToksAll, PySem.W.keyToks, List.singleton_append]
  rw [PyProof.Rows.lex_self]
  by_cases h : a = b
  · subst h
    rw [PyProof.Rows.lex_self, PyProof.Rows.lex_self]
    by_cases h2 : x = y
    · subst h2
      rw [PyProof.Rows.lex_self, PyProof.Rows.lex_self]
      simp [PyProof.Rows.lexLt, List.lt_irrefl]
    · rw [PyProof.Rows.lex_diff (by simpa using h2)]
      have : PyProof.Rows.itemOrd.blt (Sum.inr x) (Sum.inr y) = decide (x < y) := rfl
      rw [show (PyProof.Rows.itemOrd.blt (Sum.inr x.toArray.toList) (Sum.inr y.toArray.toList)) = decide (x < y) from rfl]
      simp
  · rw [PyProof.Rows.lex_diff (by simpa using h)]
    rw [show (PyProof.Rows.itemOrd.blt (Sum.inl a) (Sum.inl b)) = decide (a < b) from rfl]
    simp [h]
/-- a list read out of the heap -/
theorem frz_loc {n l k : Nat} {mh : MHp} {xs : List MV} (h : mh[l]? = some (some (.lst xs))) (hd : dats xs = true) (hn : n ≤ l) : frz n mh (k + 1) (.loc l) = some (.lst xs) := by
  unfold frz
  rw [if_neg (by omega)]
  simp only [h, frzs_dat xs hd]
  rfl
/-- a call that hands out a live list of its own -/
theorem run_own {C : CallF} {d : Df} {args : List MV} {mh mh1 : MHp} {fl : Fl} {ρ : Env} {l : Nat} {xs : List MV} (hl : args.length = d.np) (hv : d.live = false) (e : exs C mh.length d.body (args.map some ++ List.replicate (d.ns - d.np) none) mh = some (fl, ρ, mh1))
    (he : endV fl = some (.loc l)) (hx : mh1[l]? = some (some (.lst xs))) (hd : dats xs = true) (hn : mh.length ≤ l) (hm : mh1.take mh.length = mh) : runD C d args mh = some (.lst xs, mh) := by
  rw [run_frz2 hl hv e he (frz_loc hx hd hn), hm]
section
variable {T : List Df} {k f : Nat} {args : List MV} {mh mh1 : MHp} {np ns : Nat} {body : List MS} {ρ0 ρ : Env} {fl : Fl} {v : MV}
/-- a call that leaves the heap as it was -/
theorem call_v (hT : T[f]? = some ⟨np, ns, false, body⟩) (h0 : args.map some ++ List.replicate (ns - np) none = ρ0) (e : exs (callM T k) mh.length body ρ0 mh = some (fl, ρ, mh1)) (he : endV fl = some v) (hd : dat2 v = true) (hm : mh1.take mh.length = mh) (hl : args.length = np := by rfl) : callM T (k + 1) f args mh = some (v, mh) := by
  subst h0
  rw [callM_eq hT, run_of2 hl rfl e he hd, hm]
/-- a call that hands out a live list of its own -/
theorem call_own {l : Nat} {xs : List MV} (hT : T[f]? = some ⟨np, ns, false, body⟩) (h0 : args.map some ++ List.replicate (ns - np) none = ρ0) (e : exs (callM T k) mh.length body ρ0 mh = some (.rt (.loc l), ρ, mh1)) (hx : mh1[l]? = some (some (.lst xs))) (hd : dats xs = true) (hn : mh.length ≤ l) (hm : mh1.take mh.length = mh) (hl : args.length = np := by rfl) : callM T (k + 1) f args mh = some (.lst xs, mh) := by
  subst h0
  rw [callM_eq hT, run_own hl rfl e rfl hx hd hn hm]
/-- a call that draws: the heap behind has as many objects -/
theorem call_st (hT : T[f]? = some ⟨np, ns, false, body⟩) (h0 : args.map some ++ List.replicate (ns - np) none = ρ0) (e : exs (callM T k) mh.length body ρ0 mh = some (fl, ρ, mh1)) (he : endV fl = some v) (hd : dat2 v = true) (hl : args.length = np := by rfl) : callM T (k + 1) f args mh = some (v, mh1.take mh.length) := by
  subst h0
  rw [callM_eq hT, run_of2 hl rfl e he hd]
end
theorem take_app {mh : MHp} (x : MHp) : (mh ++ x).take mh.length = mh := List.take_left
theorem get_app0 {mh : MHp} {o : Option MO} {r : MHp} : (mh ++ o :: r)[mh.length]? = some o := by
  rw [List.getElem?_append_right (Nat.le_refl _), Nat.sub_self]; rfl
theorem get_app1 {mh : MHp} {o o1 : Option MO} {r : MHp} : (mh ++ o :: o1 :: r)[mh.length + 1]? = some o1 := by
  rw [List.getElem?_append_right (by omega)]; simp
theorem set_app0 {mh : MHp} {o o' : Option MO} {r : MHp} : (mh ++ o :: r).set mh.length o' = mh ++ o' :: r := by
  rw [List.set_append_right _ _ (Nat.le_refl _), Nat.sub_self]; rfl
theorem set_app1 {mh : MHp} {o o1 o' : Option MO} {r : MHp} : (mh ++ o :: o1 :: r).set (mh.length + 1) o' = mh ++ o :: o' :: r := by
  rw [List.set_append_right _ _ (by omega)]; simp
section
variable {C : CallF} {b : Nat} {ρ : Env} {mh : MHp}
/-- found.append(e), found the live list l -/
theorem ex_app {i l : Nat} {e : ME} {acc : List MV} {v : MV} {m m1 : MHp} (hi : ρ[i]? = some (some (.loc l))) (h0 : (liveL m (.loc l)).isSome = true) (he : ev C b e ρ m = some (v, m1)) (hl : m1[l]? = some (some (.lst acc))) (hw : wr b l v = true) (hn : acc.length < 16777216) : ex C b (.ex (.meth .append (.var i) [e])) ρ m = some (.nx, ρ, m1.set l (some (.lst (acc ++ [v])))) := by
  have hn : acc.length < line := hn
  have h1 : liveL m1 (.loc l) = some (l, acc) := by simp only [liveL, hl]
  simp only [ex, ev, hi, tyM, h0, if_true, evs, he, methV, appV, h1, hw, hn, and_self]
theorem wr_own {b l : Nat} {v : MV} (h : b ≤ l) : wr b l v = true := by simp [wr, h]
theorem live0 {acc : List MV} {r : MHp} : liveL (mh ++ some (.lst acc) :: r) (.loc mh.length) = some (mh.length, acc) := by simp only [liveL, get_app0]
/-- the same where the list stands just above the frame's heap -/
theorem ex_app0 {i : Nat} {e : ME} {acc : List MV} {v : MV} (hi : ρ[i]? = some (some (.loc mh.length))) (he : ev C mh.length e ρ (mh ++ [some (.lst acc)]) = some (v, mh ++ [some (.lst acc)])) (hn : acc.length < 16777216) : ex C mh.length (.ex (.meth .append (.var i) [e])) ρ (mh ++ [some (.lst acc)]) = some (.nx, ρ, mh ++ [some (.lst (acc ++ [v]))]) := by
  rw [ex_app hi (by rw [live0]; rfl) he get_app0 (wr_own (Nat.le_refl _)) hn, set_app0]
theorem evI_rng1Z {a : ME} {z : Int} (h : ev C b a ρ mh = some (.int z, mh)) (h1 : -4000000000000000000 < z) (h2 : z < 4000000000000000000) : evI C b (.rng1 a) ρ mh = some (⟨(List.range z.toNat).map fun (k : Nat) => .int (k : Int), none⟩, mh) := by
  have b1 : (-4611686018427387904 : Int) ≤ z := by omega
  have b2 : z < 4611686018427387904 := by omega
  simp [evI, h, b1, b2]
end
theorem cut_negL {α : Type} {xs : List α} {m : Nat} (h1 : 1 ≤ m) (h2 : m ≤ xs.length) : cut xs (some (-(m : Int))) none = xs.drop (xs.length - m) := by
  have e : HT.sIx xs.length 0 (some (-(m : Int))) = xs.length - m := by
    show (if (-(m : Int)) < 0 then (-(m : Int) + (xs.length : Int)).toNat else min (-(m : Int)).toNat xs.length) = _
    rw [if_pos (by omega)]
    omega
  unfold cut
  rw [e, HT.sIx_none, List.take_of_length_le (by rw [List.length_drop]; omega)]
theorem cut_negH {α : Type} {xs : List α} {m : Nat} (h1 : 1 ≤ m) (h2 : m ≤ xs.length) : cut xs none (some (-(m : Int))) = xs.take (xs.length - m) := by
  have e : HT.sIx xs.length xs.length (some (-(m : Int))) = xs.length - m := by
    show (if (-(m : Int)) < 0 then (-(m : Int) + (xs.length : Int)).toNat else min (-(m : Int)).toNat xs.length) = _
    rw [if_pos (by omega)]
    omega
  unfold cut
  rw [e, HT.sIx_none]
  simp
theorem slc_negL {mh : MHp} {w : Sx} {m : Nat} (h : w.length ≤ 1000) (h1 : 1 ≤ m) (h2 : m ≤ w.length) : slcV mh (.str w) (some (-(m : Int))) none = some (.str (w.drop (w.length - m))) := by
  have : w.length ≤ line := line_le (by omega)
  simp only [slcV, this, if_true, cut_negL h1 h2]
theorem slc_negH {mh : MHp} {w : Sx} {m : Nat} (h : w.length ≤ 1000) (h1 : 1 ≤ m) (h2 : m ≤ w.length) : slcV mh (.str w) none (some (-(m : Int))) = some (.str (w.take (w.length - m))) := by
  have : w.length ≤ line := line_le (by omega)
  simp only [slcV, this, if_true, cut_negH h1 h2]
theorem fm_flat {α β : Type} (f : α → Option β) : ∀ xs : List α, xs.filterMap f = xs.flatMap fun a => (f a).toList
  | [] => rfl
  | x :: xs => by
    rw [List.filterMap_cons, List.flatMap_cons, fm_flat f xs]
    cases f x <;> rfl
theorem stopF_find {α σ : Type} (p : α → Bool) : ∀ (xs : List α) (s : σ), stopF (fun s x => if p x = true then .inr x else .inl s) xs s = match xs.find? p with
    | none => .inl s
    | some x => .inr x
  | [], s => rfl
  | x :: xs, s => by
    rw [stopF, List.find?_cons]
    cases h : p x with
    | true => simp
    | false =>
      simp only [Bool.false_eq_true, if_false]
      exact stopF_find p xs s
theorem fold_rev_find {α σ : Type} (p : α → Bool) (f : α → σ) (d : σ) : ∀ xs : List α, xs.reverse.foldl (fun s x => if p x = true then f x else s) d = match xs.find? p with
    | none => d
    | some x => f x
  | [] => rfl
  | x :: xs => by
    rw [List.reverse_cons, List.foldl_append, List.foldl_cons, List.foldl_nil, fold_rev_find p f d xs, List.find?_cons]
    cases p x <;> simp
end L2.Mi

set_option Elab.async false
set_option linter.all false
set_option maxRecDepth 100000
set_option maxHeartbeats 4000000
/-! Ev8: drawing with live objects above the law's state; picks out of texts; is_whole. -/
namespace L2.Mi
open PySem PySem.Spec PyProof.Rows
theorem take_ex {T : List Df} {it : Nat} (hT : T[it]? = some takeD) (k : Nat) {l c : Nat} {i : Int} {cs : List Int} {mh : MHp} (h1 : mh[l]? = some (some (.lst [.int i, .loc c]))) (h2 : mh[c]? = some (some (.lst (cs.map .int)))) (h3 : cs ≠ []) (h4 : c ≠ l) (most : Int) (hm : most ≤ 1000000) : ∃ r mh', callM T (k + 1) it [.loc l, .int most] mh = some (.int r, mh') ∧ (mh' = mh ∨ (∃ i', mh' = mh.set l (some (.lst [.int i', .loc c]))) ∨ ∃ cs' : List Int, cs' ≠ [] ∧ mh' = mh.set c (some (.lst (cs'.map .int)))) ∧ 0 ≤ r ∧ (2 ≤ most → r < most) ∧ (most < 2 → r = 0) := by
  by_cases hlt : most < 2
  · refine ⟨0, mh, ?_, .inl rfl, by omega, by omega, fun _ => rfl⟩
    rw [callM_eq hT]
    refine run_of' rfl rfl (ρ := [some (.loc l), some (.int most), none, none, none, none]) (fl := .rt (.int 0)) ?_ rfl rfl rfl
    simp [takeD, exs, ex, ev, cmpV, ordV, hlt]
  · have hlen : 0 < (cs.length : Int) := by
      have : 0 < cs.length := List.length_pos_iff.mpr h3
      omega
    have a0 : 0 ≤ i.fmod cs.length := Int.fmod_nonneg_of_pos i hlen
    have a1 : i.fmod cs.length < cs.length := Int.fmod_lt_of_pos i hlen
    obtain ⟨x, hx, ex1⟩ := idx_int (cs := cs) a0 a1
    have hne : ¬ ((cs.length : Int) = 0) := by omega
    have hne' : ¬ (cs.length = 0) := by omega
    have b0 : idx [MV.int i, MV.loc c] 0 = some (.int i) := atI0
    have b1 : idx [MV.int i, MV.loc c] 1 = some (.loc c) := atI1
    have e1 : exs (callM T k) mh.length [(.ite (.cmp .lt (.var 1) (.c (.int (2)))) [(.ret (.c (.int (0))))] []), (.set (.nm 2) (.sub (.var 0) (.c (.int (1))))), (.set (.nm 3) (.bin .mod (.bi .int [(.sub (.var 0) (.c (.int (0))))]) (.bi .len [(.var 2)]))), (.set (.nm 4) (.sub (.var 2) (.var 3)))] [some (.loc l), some (.int most), none, none, none, none] mh = some (.nx, [some (.loc l), some (.int most), some (.loc c), some (.int (i.fmod cs.length)), some (.int x), none], mh) := by
      simp [exs, ex, ev, evs, cmpV, ordV, hlt, subV, getL, h1, h2, b0, b1, asg, biV, one1, intV1, lenV, binV, intV, hne', ex1]
    have mp : 0 < most := by omega
    have mne : ¬ most = 0 := by omega
    have mab : most.natAbs < 1073741824 := by omega
    have spl : ∀ {ss ss' : List MS} {ρ ρ' : Env} {m : MHp} {C : CallF}, exs C mh.length ss ρ mh = some (.nx, ρ', m) → exs C mh.length (ss ++ ss') ρ mh = exs C mh.length ss' ρ' m := fun {ss ss' ρ ρ' m C} h => by
      clear e1
      have gen : ∀ (ss : List MS) (ρ : Env) (m0 : MHp), exs C mh.length ss ρ m0 = some (.nx, ρ', m) → exs C mh.length (ss ++ ss') ρ m0 = exs C mh.length ss' ρ' m := by
        intro ss
        induction ss with
        | nil => intro ρ m0 h; simp only [exs] at h; cases h; rfl
        | cons s ss ih =>
          intro ρ m0 h
          rcases exs_cons h with ⟨ρ1, m1, e, h'⟩ | ⟨_, hn⟩
          · rw [List.cons_append, exs, e]; exact ih ρ1 m1 h'
          · exact absurd rfl hn
      exact gen ss ρ mh h
    rw [callM_eq hT]
    by_cases hbig : x < 1000000000000000000
    · -- the mixed way
      have key : ∀ r : Int, r = (((((x * 48271 + (i + 1) * 69621).fmod 2147483647) * 16807 + (i + 1) * 7919).fmod 1000000007).fdiv 7).fmod most → ∃ ρ, exs (callM T k) mh.length takeD.body [some (.loc l), some (.int most), none, none, none, none] mh = some (.rt (.int r), ρ, mh.set l (some (.lst [.int (i + 1), .loc c]))) := fun r hr => by
        have g1 : (mh.set l (some (.lst [.int (i + 1), .loc c])))[l]? = some (some (.lst [.int (i + 1), .loc c])) := get_set_eq h1
        have g2 : (mh.set l (some (.lst [.int (i + 1), .loc c])))[c]? = some (some (.lst (cs.map .int))) := by rw [get_set_ne (Ne.symm h4)]; exact h2
        have b0' : idx [MV.int (i + 1), MV.loc c] 0 = some (.int (i + 1)) := atI0
        have ix : L2.ixN 2 0 = some 0 := rfl
        have w1 : wr mh.length l (.int (i + 1)) = true := by simp [wr, bd]
        have := spl (ss' := [(.ite (.cmp .ge (.var 4) (.c (.int (1000000000000000000)))) [(.sti (.var 2) (.var 3) (.bin .fdiv (.var 4) (.var 1))), (.ret (.bin .mod (.bi .int [(.var 4)]) (.var 1)))] []), (.sti (.var 0) (.c (.int (0))) (.bin .add (.sub (.var 0) (.c (.int (0)))) (.c (.int (1))))), (.set (.nm 5) (.bin .mod (.bi .int [(.bin .add (.bin .mul (.var 4) (.c (.int (48271)))) (.bin .mul (.sub (.var 0) (.c (.int (0)))) (.c (.int (69621)))))]) (.c (.int (2147483647))))), (.set (.nm 5) (.bin .mod (.bi .int [(.bin .add (.bin .mul (.var 5) (.c (.int (16807)))) (.bin .mul (.sub (.var 0) (.c (.int (0)))) (.c (.int (7919)))))]) (.c (.int (1000000007))))), (.ret (.bin .mod (.bi .int [(.bin .fdiv (.var 5) (.c (.int (7))))]) (.var 1)))]) e1
        refine ⟨[some (.loc l), some (.int most), some (.loc c), some (.int (i.fmod cs.length)), some (.int x), some (.int ((((x * 48271 + (i + 1) * 69621).fmod 2147483647) * 16807 + (i + 1) * 7919).fmod 1000000007))], ?_⟩
        rw [hr]
        show exs (callM T k) mh.length ([(.ite (.cmp .lt (.var 1) (.c (.int (2)))) [(.ret (.c (.int (0))))] []), (.set (.nm 2) (.sub (.var 0) (.c (.int (1))))), (.set (.nm 3) (.bin .mod (.bi .int [(.sub (.var 0) (.c (.int (0))))]) (.bi .len [(.var 2)]))), (.set (.nm 4) (.sub (.var 2) (.var 3)))] ++ _) _ mh = _
        rw [this]
        simp [exs, ex, ev, evs, cmpV, ordV, hbig, subV, getL, h1, g1, b0, b0', asg, biV, one1, intV1, binV, intV, addV, mulV, mne, ix, w1]
      obtain ⟨ρ, e⟩ := key _ rfl
      refine ⟨_, _, run_of' rfl rfl e rfl rfl (by simp), .inr (.inl ⟨_, rfl⟩), Int.fmod_nonneg_of_pos _ mp, fun _ => Int.fmod_lt_of_pos _ mp, fun z => absurd z hlt⟩
    · have key : ∃ ρ, exs (callM T k) mh.length takeD.body [some (.loc l), some (.int most), none, none, none, none] mh = some (.rt (.int (x.fmod most)), ρ, mh.set c (some (.lst ((cs.set (i.fmod cs.length).toNat (x.fdiv most)).map .int)))) := by
        have ix : L2.ixN cs.length (i.fmod cs.length) = some (i.fmod cs.length).toNat := ixN_in a0 a1
        have w1 : wr mh.length c (.int (x.fdiv most)) = true := by simp [wr, bd]
        have := spl (ss' := [(.ite (.cmp .ge (.var 4) (.c (.int (1000000000000000000)))) [(.sti (.var 2) (.var 3) (.bin .fdiv (.var 4) (.var 1))), (.ret (.bin .mod (.bi .int [(.var 4)]) (.var 1)))] []), (.sti (.var 0) (.c (.int (0))) (.bin .add (.sub (.var 0) (.c (.int (0)))) (.c (.int (1))))), (.set (.nm 5) (.bin .mod (.bi .int [(.bin .add (.bin .mul (.var 4) (.c (.int (48271)))) (.bin .mul (.sub (.var 0) (.c (.int (0)))) (.c (.int (69621)))))]) (.c (.int (2147483647))))), (.set (.nm 5) (.bin .mod (.bi .int [(.bin .add (.bin .mul (.var 5) (.c (.int (16807)))) (.bin .mul (.sub (.var 0) (.c (.int (0)))) (.c (.int (7919)))))]) (.c (.int (1000000007))))), (.ret (.bin .mod (.bi .int [(.bin .fdiv (.var 5) (.c (.int (7))))]) (.var 1)))]) e1
        refine ⟨[some (.loc l), some (.int most), some (.loc c), some (.int (i.fmod cs.length)), some (.int x), none], ?_⟩
        show exs (callM T k) mh.length ([(.ite (.cmp .lt (.var 1) (.c (.int (2)))) [(.ret (.c (.int (0))))] []), (.set (.nm 2) (.sub (.var 0) (.c (.int (1))))), (.set (.nm 3) (.bin .mod (.bi .int [(.sub (.var 0) (.c (.int (0))))]) (.bi .len [(.var 2)]))), (.set (.nm 4) (.sub (.var 2) (.var 3)))] ++ _) _ mh = _
        rw [this]
        simp [exs, ex, ev, evs, cmpV, ordV, hbig, h2, asg, biV, one1, intV1, binV, intV, mne, mab, ix, w1, List.map_set]
      obtain ⟨ρ, e⟩ := key
      refine ⟨_, _, run_of' rfl rfl e rfl rfl (by simp), .inr (.inr ⟨_, by simp [h3], rfl⟩), Int.fmod_nonneg_of_pos _ mp, fun _ => Int.fmod_lt_of_pos _ mp, fun z => absurd z hlt⟩

theorem St.get {l n : Nat} {mh : MHp} (S : St l n mh) : l < n := by
  obtain ⟨hn, c, i, cs, h1, h2, h3, h4⟩ := S
  have := (List.getElem?_eq_some_iff.mp h1).1
  omega
/-- take, whatever stands above -/
theorem take_fr {T : List Df} {it : Nat} (hT : T[it]? = some takeD) (k : Nat) {l n : Nat} {hd : MHp} (tl : MHp) (S : St l n hd) (most : Int) (hm : most ≤ 1000000) : ∃ r hd', callM T (k + 1) it [.loc l, .int most] (hd ++ tl) = some (.int r, hd' ++ tl) ∧ St l n hd' ∧ 0 ≤ r ∧ (2 ≤ most → r < most) ∧ (most < 2 → r = 0) := by
  obtain ⟨hn, c, i, cs, h1, h2, h3, h4⟩ := S
  have a1 := (List.getElem?_eq_some_iff.mp h1).1
  have a2 := (List.getElem?_eq_some_iff.mp h2).1
  obtain ⟨r, mh', e, hm', r0, r1, r2⟩ := take_ex hT k (mh := hd ++ tl) (by rw [List.getElem?_append_left a1]; exact h1) (by rw [List.getElem?_append_left a2]; exact h2) h3 h4 most hm
  rcases hm' with rfl | ⟨i', rfl⟩ | ⟨cs', hc, rfl⟩
  · exact ⟨r, hd, e, ⟨hn, c, i, cs, h1, h2, h3, h4⟩, r0, r1, r2⟩
  · refine ⟨r, hd.set l (some (.lst [.int i', .loc c])), by rw [e, List.set_append_left _ _ a1], ⟨by simp [hn], c, i', cs, get_set_eq h1, by rw [get_set_ne (Ne.symm h4)]; exact h2, h3, h4⟩, r0, r1, r2⟩
  · refine ⟨r, hd.set c (some (.lst (cs'.map .int))), by rw [e, List.set_append_left _ _ a2], ⟨by simp [hn], c, i, cs', by rw [get_set_ne h4]; exact h1, get_set_eq h2, hc, h4⟩, r0, r1, r2⟩
/-- pick out of a list or a tuple -/
theorem pick_fr {T : List Df} {it ip : Nat} (hT : T[it]? = some takeD) (hP : T[ip]? = some (pickD it)) (k : Nat) {l n : Nat} {hd : MHp} (tl : MHp) (S : St l n hd) (row : List MV) {v : MV} (hv : v = .lst row ∨ v = .tup row) (h0 : row ≠ []) (hr : row.length ≤ 1000000) (hdd : ∀ y ∈ row, dat2 y = true) : ∃ y hd', y ∈ row ∧ callM T (k + 2) ip [.loc l, v] (hd ++ tl) = some (y, hd' ++ tl) ∧ St l n hd' := by
  have hp : 0 < row.length := List.length_pos_iff.mpr h0
  obtain ⟨r, hd', e, S', r0, r1, r2⟩ := take_fr hT k tl S (row.length : Int) (by omega)
  have hlt : r < (row.length : Int) := by
    by_cases h : 2 ≤ (row.length : Int)
    · exact r1 h
    · have := r2 (by omega); omega
  have hl : r.toNat < row.length := by omega
  have hi : idx row r = some row[r.toNat] := by
    have := L2.atI_nat (List.getElem?_eq_getElem hl)
    have e2 : ((r.toNat : Nat) : Int) = r := by omega
    rw [e2] at this
    exact this
  refine ⟨row[r.toNat], hd', List.getElem_mem hl, ?_, S'⟩
  have hlen : (hd' ++ tl).length = (hd ++ tl).length := by rw [List.length_append, List.length_append, S'.1, S.1]
  have := call_st (T := T) (k := k + 1) (f := ip) (args := [.loc l, v]) (mh := hd ++ tl) (mh1 := hd' ++ tl) (ρ0 := [some (.loc l), some v]) (ρ := [some (.loc l), some v]) (fl := .rt row[r.toNat]) (v := row[r.toNat]) hP rfl (by
    rcases hv with rfl | rfl <;> simp [exs, ex, ev, evs, biV, one1, lenV, getL, e, subV, hi]) rfl (hdd _ (List.getElem_mem hl))
  rw [this, ← hlen, List.take_length]
/-- pick a sign out of a text -/
theorem pick_frS {T : List Df} {it ip : Nat} (hT : T[it]? = some takeD) (hP : T[ip]? = some (pickD it)) (k : Nat) {l n : Nat} {hd : MHp} (tl : MHp) (S : St l n hd) {row : Sx} (h0 : row ≠ []) (hdr : dat (.str row) = true) : ∃ c hd', c ∈ row ∧ callM T (k + 2) ip [.loc l, .str row] (hd ++ tl) = some (.str [c], hd' ++ tl) ∧ St l n hd' := by
  have hp : 0 < row.length := List.length_pos_iff.mpr h0
  have hr := dat_str_len hdr
  obtain ⟨r, hd', e, S', r0, r1, r2⟩ := take_fr hT k tl S (row.length : Int) (by omega)
  have hlt : r < (row.length : Int) := by
    by_cases h : 2 ≤ (row.length : Int)
    · exact r1 h
    · have := r2 (by omega); omega
  have hl : r.toNat < row.length := by omega
  have hi : idx row r = some row[r.toNat] := by
    have := L2.atI_nat (List.getElem?_eq_getElem hl)
    have e2 : ((r.toNat : Nat) : Int) = r := by omega
    rw [e2] at this
    exact this
  have z : row.length ≤ line := line_le (by omega)
  refine ⟨row[r.toNat], hd', List.getElem_mem hl, ?_, S'⟩
  have hlen : (hd' ++ tl).length = (hd ++ tl).length := by rw [List.length_append, List.length_append, S'.1, S.1]
  have := call_st (T := T) (k := k + 1) (f := ip) (args := [.loc l, .str row]) (mh := hd ++ tl) (mh1 := hd' ++ tl) (ρ0 := [some (.loc l), some (.str row)]) (ρ := [some (.loc l), some (.str row)]) (fl := .rt (.str [row[r.toNat]])) (v := .str [row[r.toNat]]) hP rfl (by
    simp [exs, ex, ev, evs, biV, one1, lenV, e, subV, hi, z]) rfl (dat_dat2 _ (dat_chr hdr (List.getElem_mem hl)))
  rw [this, ← hlen, List.take_length]
/-- a for whose world is counted -/
theorem for_cnt {J : Its} {f : MV → Env → MHp → Option (Fl × Env × MHp)} (P : Nat → Env → MHp → Prop) (hJ : J.src = none) : ∀ (xs : List MV) (i : Nat), (∀ x ∈ xs, ∀ j ρ mh, P j ρ mh → j < i + xs.length → ∃ ρ' mh', f x ρ mh = some (.nx, ρ', mh') ∧ P (j + 1) ρ' mh') →
    ∀ ρ mh, P i ρ mh → ∃ ρ' mh', forGo J f xs ρ mh = some (.nx, ρ', mh') ∧ P (i + xs.length) ρ' mh'
  | [], i, _, ρ, mh, p => ⟨ρ, mh, forGo_nil_of hJ, p⟩
  | x :: xs, i, h, ρ, mh, p => by
    obtain ⟨ρ1, mh1, e, p1⟩ := h x List.mem_cons_self i ρ mh p (by simp only [List.length_cons]; omega)
    obtain ⟨ρ2, mh2, e2, p2⟩ := for_cnt P hJ xs (i + 1) (fun y hy j ρ mh q l => h y (List.mem_cons_of_mem _ hy) j ρ mh q (by simp only [List.length_cons]; omega)) ρ1 mh1 p1
    refine ⟨ρ2, mh2, ?_, ?_⟩
    · rw [forGo_cons_of hJ, e]
      exact e2
    · rw [List.length_cons, show i + (xs.length + 1) = i + 1 + xs.length by omega]
      exact p2
/-! ### join of signs -/
theorem join_app (a b : Str) : (a ++ b).cps.toList = a.cps.toList ++ b.cps.toList := by
  show (a.cps ++ b.cps).toList = _
  simp
theorem join_flat (ws : List Sx) : (Txt.join ⟨([] : Sx).toArray⟩ (ws.map fun t => ⟨t.toArray⟩)).cps.toList = ws.flatten := by
  rw [eq_of_beq (join_plain_closes ⟨([] : Sx).toArray⟩ (ws.map fun t => ⟨t.toArray⟩))]
  induction ws with
  | nil => rfl
  | cons w ws ih =>
    cases ws with
    | nil => simp [Str.join]
    | cons v ws =>
      simp only [List.map_cons, Str.join] at ih ⊢
      rw [join_app, join_app, ih]
      simp
theorem mapM_str : ∀ ws : List Sx, (ws.map MV.str).mapM strOf = some ws
  | [] => rfl
  | w :: ws => by rw [List.map_cons, List.mapM_cons, mapM_str ws]; rfl
theorem join_ok {mh : MHp} {ws : List Sx} (h : (ws.map List.length).sum ≤ 1000000) : joinV mh (.str []) [.lst (ws.map .str)] = some (.str ws.flatten, mh) := by
  have : (ws.map List.length).sum + ws.length * ([] : Sx).length ≤ line := line_le (by simp; omega)
  simp only [joinV, getL, mapM_str, this, if_true, join_flat]
/-! ### is_whole; kinds -/
def wholeD : Df := ⟨3, 3, false, [(.ret (.and (.isi (.var 0) .int) (.and (.not (.isi (.var 0) .bool)) (.chn .le .le (.var 1) (.var 0) (.var 2)))))]⟩
def isW : MV → Int → Int → Bool
  | .int i, lo, hi => decide (lo ≤ i) && decide (i ≤ hi)
  | _, _, _ => false
def isB : MV → Bool
  | .bl _ => true
  | _ => false
def isI : MV → Bool
  | .int _ => true
  | .bl _ => true
  | _ => false
def isT : MV → Bool
  | .tup _ => true
  | _ => false
def isL : MV → Bool
  | .lst _ => true
  | _ => false
def isDc : MV → Bool
  | .dct _ _ => true
  | _ => false
theorem isTy_strV {v : MV} {mh : MHp} (hd : dat2 v = true) : isTy v .str mh = some (isS v) := by
  cases v <;> first | (cases hd; done) | rfl
theorem isTy_boolV {v : MV} {mh : MHp} (hd : dat2 v = true) : isTy v .bool mh = some (isB v) := by
  cases v <;> first | (cases hd; done) | rfl
theorem isTy_intV {v : MV} {mh : MHp} (hd : dat2 v = true) : isTy v .int mh = some (isI v) := by
  cases v <;> first | (cases hd; done) | rfl
theorem isTy_tupV {v : MV} {mh : MHp} (hd : dat2 v = true) : isTy v .tuple mh = some (isT v) := by
  cases v <;> first | (cases hd; done) | rfl
theorem isTy_lstV {v : MV} {mh : MHp} (hd : dat2 v = true) : isTy v .list mh = some (isL v) := by
  cases v <;> first | (cases hd; done) | rfl
theorem isTy_dctV {v : MV} {mh : MHp} (hd : dat2 v = true) : isTy v .dict mh = some (isDc v) := by
  cases v <;> first | (cases hd; done) | rfl
theorem whole_ok {T : List Df} {f : Nat} (hT : T[f]? = some wholeD) (k : Nat) (v : MV) (lo hi : Int) (mh : MHp) (hd : dat2 v = true) : callM T (k + 1) f [v, .int lo, .int hi] mh = some (.bl (isW v lo hi), mh) := by
  refine call_v (ρ0 := [some v, some (.int lo), some (.int hi)]) (ρ := [some v, some (.int lo), some (.int hi)]) (mh1 := mh) (fl := .rt (.bl (isW v lo hi))) hT rfl ?_ rfl rfl List.take_length
  cases v with
  | int i =>
    by_cases h : i < lo
    · have h' : ¬ lo ≤ i := by omega
      simp [exs, ex, ev, evs, isTy, isW, cmpV, ordV, h, h']
    · have h' : lo ≤ i := by omega
      by_cases h2 : hi < i
      · have h2' : ¬ i ≤ hi := by omega
        simp [exs, ex, ev, evs, isTy, isW, cmpV, ordV, h, h', h2, h2']
      · have h2' : i ≤ hi := by omega
        simp [exs, ex, ev, evs, isTy, isW, cmpV, ordV, h, h', h2, h2']
  | fn _ => cases hd
  | loc _ => cases hd
  | scr _ => cases hd
  | _ => simp [exs, ex, ev, evs, isTy, isW]
end L2.Mi

set_option Elab.async false
set_option linter.all false
set_option maxRecDepth 100000
set_option maxHeartbeats 4000000
/-! W55a: words and rules, plainly: steps, normal words, critical pairs, Newman's lemma. -/
namespace L2.Mi.k55
open PySem PySem.Spec PyProof.Rows L2.Mi
abbrev Rl := Sx × Sx
def atR (R : List Rl) (k : Nat) : Rl := R.getD k ([], [])
def hitW (l w : Sx) (p : Nat) : Bool := decide ((w.drop p).take l.length = l)
def stepsAt (R : List Rl) (w : Sx) (p : Nat) : List (Nat × Nat) := ((List.range R.length).filter fun k => hitW (atR R k).1 w p).map fun k => (k, p)
def stepsW (R : List Rl) (w : Sx) : List (Nat × Nat) := (List.range w.length).flatMap (stepsAt R w)
def turnW (R : List Rl) (w : Sx) (s : Nat × Nat) : Sx := w.take s.2 ++ (atR R s.1).2 ++ w.drop (s.2 + (atR R s.1).1.length)
def One (R : List Rl) (w v : Sx) : Prop := ∃ s ∈ stepsW R w, v = turnW R w s
theorem mem_stepsW {R : List Rl} {w : Sx} {k p : Nat} : (k, p) ∈ stepsW R w ↔ k < R.length ∧ p < w.length ∧ hitW (atR R k).1 w p = true := by
  unfold stepsW stepsAt
  simp only [List.mem_flatMap, List.mem_range, List.mem_map, List.mem_filter, Prod.mk.injEq]
  constructor
  · rintro ⟨a, ha, b, ⟨hb, hc⟩, rfl, rfl⟩
    exact ⟨hb, ha, hc⟩
  · rintro ⟨h1, h2, h3⟩
    exact ⟨p, h2, k, ⟨h1, h3⟩, rfl, rfl⟩
/-! ### order -/
/-- the letters are three at most, from b on -/
def LW (b : Nat) (w : Sx) : Prop := ∀ c ∈ w, b ≤ c ∧ c < b + 3
def mu (b : Nat) : Sx → Nat
  | [] => 0
  | c :: w => (c - b + 1) * 4 ^ w.length + mu b w
theorem mu_lt {b : Nat} : ∀ {w : Sx}, LW b w → mu b w < 4 ^ w.length
  | [], _ => by simp [mu]
  | c :: w, h => by
    have h1 := mu_lt (w := w) fun d hd => h d (List.mem_cons_of_mem _ hd)
    have h2 := h c List.mem_cons_self
    simp only [mu, List.length_cons, Nat.pow_succ]
    have h3 : (c - b + 1) * 4 ^ w.length ≤ 3 * 4 ^ w.length := Nat.mul_le_mul_right _ (by omega)
    omega
theorem mu_ge {b : Nat} : ∀ {w : Sx}, w ≠ [] → 4 ^ (w.length - 1) ≤ mu b w
  | [], h => absurd rfl h
  | c :: w, _ => by
    simp only [mu, List.length_cons, Nat.add_sub_cancel]
    have h3 : 1 * 4 ^ w.length ≤ (c - b + 1) * 4 ^ w.length := Nat.mul_le_mul_right _ (by omega)
    omega
theorem mu_app {b : Nat} (v : Sx) : ∀ u : Sx, mu b (u ++ v) = mu b u * 4 ^ v.length + mu b v
  | [] => by simp [mu]
  | c :: u => by
    simp only [List.cons_append, mu, mu_app v u, List.length_append, Nat.pow_add, Nat.add_mul, Nat.mul_assoc]
    omega
theorem mu_short {b : Nat} {u v : Sx} (hu : LW b u) (h : u.length < v.length) : mu b u < mu b v := by
  have h1 := mu_lt hu
  have h2 := mu_ge (b := b) (w := v) (by intro z; rw [z] at h; simp at h)
  have h3 : 4 ^ u.length ≤ 4 ^ (v.length - 1) := Nat.pow_le_pow_right (by omega) (by omega)
  omega
theorem mu_lex {b : Nat} : ∀ {u v : Sx}, LW b u → LW b v → u.length = v.length → u < v → mu b u < mu b v
  | [], [], _, _, _, h => absurd h (List.lt_irrefl _)
  | [], _ :: _, _, _, h, _ => by simp at h
  | _ :: _, [], _, _, h, _ => by simp at h
  | c :: u, d :: v, hu, hv, hl, h => by
    have hu' : LW b u := fun x hx => hu x (List.mem_cons_of_mem _ hx)
    have hv' : LW b v := fun x hx => hv x (List.mem_cons_of_mem _ hx)
    have hl' : u.length = v.length := by simpa using hl
    have m1 := mu_lt hu'
    have m2 := mu_lt hv'
    have c1 := hu c List.mem_cons_self
    have d1 := hv d List.mem_cons_self
    simp only [mu, hl']
    rw [hl'] at m1
    rcases List.cons_lt_cons_iff.mp h with z | ⟨rfl, z⟩
    · have h3 : (c - b + 1 + 1) * 4 ^ v.length ≤ (d - b + 1) * 4 ^ v.length := Nat.mul_le_mul_right _ (by omega)
      rw [Nat.add_mul] at h3
      omega
    · have := mu_lex hu' hv' hl' z
      omega
/-- shorter, or as long and earlier -/
def Bef (u v : Sx) : Prop := u.length < v.length ∨ u.length = v.length ∧ u < v
instance (u v : Sx) : Decidable (Bef u v) := by unfold Bef; infer_instance
theorem mu_bef {b : Nat} {u v : Sx} (hu : LW b u) (hv : LW b v) (h : Bef u v) : mu b u < mu b v := by
  rcases h with h | ⟨h1, h2⟩
  · exact mu_short hu h
  · exact mu_lex hu hv h1 h2
theorem Bef.le {u v : Sx} (h : Bef u v) : u.length ≤ v.length := by rcases h with h | h <;> omega
theorem Bef.ne {u v : Sx} (h : Bef u v) : v ≠ [] := by
  rintro rfl
  rcases h with h | ⟨h, h2⟩
  · simp at h
  · exact absurd h2 (List.not_lt_nil _)
theorem LW.app {b : Nat} {u v : Sx} : LW b (u ++ v) ↔ LW b u ∧ LW b v := by
  unfold LW
  simp only [List.mem_append]
  exact ⟨fun h => ⟨fun c hc => h c (.inl hc), fun c hc => h c (.inr hc)⟩, fun h c hc => hc.elim (h.1 c) (h.2 c)⟩
/-- rules that go down, over letters from b on -/
def Dn (b : Nat) (R : List Rl) : Prop := ∀ p ∈ R, LW b p.1 ∧ LW b p.2 ∧ Bef p.2 p.1
theorem mu_ctx {b : Nat} {l r x y : Sx} (hl : LW b l) (hr : LW b r) (hx : LW b x) (hy : LW b y) (h : Bef r l) : mu b (x ++ r ++ y) < mu b (x ++ l ++ y) := by
  rcases h with h | ⟨h1, h2⟩
  · refine mu_short (LW.app.mpr ⟨LW.app.mpr ⟨hx, hr⟩, hy⟩) ?_
    simp only [List.length_append]
    omega
  · have h3 := mu_lex hr hl h1 h2
    simp only [mu_app, h1, Nat.add_mul]
    have : mu b r * 4 ^ y.length < mu b l * 4 ^ y.length := Nat.mul_lt_mul_of_pos_right h3 (Nat.pow_pos (by omega))
    omega
/-- what a step is -/
theorem step_split {R : List Rl} {w : Sx} {k p : Nat} (h : (k, p) ∈ stepsW R w) : (atR R k) ∈ R ∧ w = w.take p ++ (atR R k).1 ++ w.drop (p + (atR R k).1.length) ∧ p < w.length := by
  obtain ⟨h1, h2, h3⟩ := mem_stepsW.mp h
  refine ⟨?_, ?_, h2⟩
  · unfold atR
    rw [List.getD_eq_getElem?_getD, List.getElem?_eq_getElem h1]
    exact List.getElem_mem h1
  · unfold hitW at h3
    have h4 := of_decide_eq_true h3
    generalize (atR R k).1 = l at h4 ⊢
    conv => lhs; rw [← List.take_append_drop p w, ← List.take_append_drop l.length (w.drop p), h4, List.drop_drop]
    rw [List.append_assoc]
theorem one_of {R : List Rl} {p : Rl} (hp : p ∈ R) (x y : Sx) (hn : p.1 ≠ []) : One R (x ++ p.1 ++ y) (x ++ p.2 ++ y) := by
  obtain ⟨k, hk, rfl⟩ := List.getElem_of_mem hp
  have e : atR R k = R[k] := by
    unfold atR
    rw [List.getD_eq_getElem?_getD, List.getElem?_eq_getElem hk]
    rfl
  have hl : 0 < (R[k]).1.length := List.length_pos_iff.mpr hn
  refine ⟨(k, x.length), mem_stepsW.mpr ⟨hk, ?_, ?_⟩, ?_⟩
  · simp only [List.length_append]; omega
  · unfold hitW
    rw [e, List.append_assoc, List.drop_left, List.take_left]
    exact decide_eq_true rfl
  · unfold turnW
    rw [e]
    have h1 : (x ++ R[k].1 ++ y).take x.length = x := by rw [List.append_assoc, List.take_left]
    have h2 : (x ++ R[k].1 ++ y).drop (x.length + R[k].1.length) = y := by
      have : x.length + R[k].1.length = (x ++ R[k].1).length := by rw [List.length_append]
      rw [this, List.drop_left]
    simp only [h1, h2]
theorem one_split {R : List Rl} {w v : Sx} (h : One R w v) : ∃ p ∈ R, ∃ x y, w = x ++ p.1 ++ y ∧ v = x ++ p.2 ++ y := by
  obtain ⟨⟨k, p⟩, hs, rfl⟩ := h
  obtain ⟨h1, h2, _⟩ := step_split hs
  exact ⟨_, h1, _, _, h2, rfl⟩
theorem one_mu {b : Nat} {R : List Rl} (hR : Dn b R) {w v : Sx} (hw : LW b w) (h : One R w v) : LW b v ∧ mu b v < mu b w ∧ v.length ≤ w.length := by
  obtain ⟨p, hp, x, y, rfl, rfl⟩ := one_split h
  obtain ⟨h1, h2, h3⟩ := hR p hp
  obtain ⟨h4, hy⟩ := LW.app.mp hw
  obtain ⟨hx, _⟩ := LW.app.mp h4
  refine ⟨LW.app.mpr ⟨LW.app.mpr ⟨hx, h2⟩, hy⟩, mu_ctx h1 h2 hx hy h3, ?_⟩
  have := h3.le
  simp only [List.length_append]
  omega
inductive Star (R : List Rl) : Sx → Sx → Prop where
  | refl (w) : Star R w w
  | head {w v u} (h : One R w v) (t : Star R v u) : Star R w u
theorem Star.trans {R : List Rl} {w v u : Sx} (h : Star R w v) (t : Star R v u) : Star R w u := by
  induction h with
  | refl => exact t
  | head h _ ih => exact .head h (ih t)
theorem Star.one {R : List Rl} {w v : Sx} (h : One R w v) : Star R w v := .head h (.refl _)
theorem one_ctx {R : List Rl} (hn : ∀ p ∈ R, p.1 ≠ []) {w v : Sx} (h : One R w v) (x y : Sx) : One R (x ++ w ++ y) (x ++ v ++ y) := by
  obtain ⟨p, hp, a, c, rfl, rfl⟩ := one_split h
  have := one_of hp (x ++ a) (c ++ y) (hn p hp)
  simpa only [List.append_assoc] using this
theorem star_ctx {R : List Rl} (hn : ∀ p ∈ R, p.1 ≠ []) {w v : Sx} (h : Star R w v) (x y : Sx) : Star R (x ++ w ++ y) (x ++ v ++ y) := by
  induction h with
  | refl => exact .refl _
  | head h _ ih => exact .head (one_ctx hn h x y) ih
theorem star_mu {b : Nat} {R : List Rl} (hR : Dn b R) {w v : Sx} (h : Star R w v) : LW b w → LW b v ∧ mu b v ≤ mu b w ∧ v.length ≤ w.length := by
  induction h with
  | refl => exact fun h => ⟨h, Nat.le_refl _, Nat.le_refl _⟩
  | head h _ ih =>
    intro hw
    obtain ⟨h1, h2, h3⟩ := one_mu hR hw h
    obtain ⟨h4, h5, h6⟩ := ih h1
    exact ⟨h4, by omega, by omega⟩
/-! ### normal words -/
def nfN (R : List Rl) : Nat → Sx → Sx × List (Nat × Nat)
  | 0, w => (w, [])
  | n + 1, w => match stepsW R w with
    | [] => (w, [])
    | s :: _ => ((nfN R n (turnW R w s)).1, s :: (nfN R n (turnW R w s)).2)
def nfp (b : Nat) (R : List Rl) (w : Sx) : Sx × List (Nat × Nat) := nfN R (mu b w) w
def nf (b : Nat) (R : List Rl) (w : Sx) : Sx := (nfp b R w).1
theorem nfN_ok {b : Nat} {R : List Rl} (hR : Dn b R) : ∀ (n : Nat) (w : Sx), LW b w → mu b w ≤ n → stepsW R (nfN R n w).1 = [] ∧ Star R w (nfN R n w).1 ∧ (nfN R n w).2.length ≤ mu b w
  | 0, w, hw, hm => by
    have : w = [] := Classical.byContradiction fun z => by
      have := mu_ge (b := b) z
      have : 0 < 4 ^ (w.length - 1) := Nat.pow_pos (by omega)
      omega
    subst this
    exact ⟨rfl, .refl _, by simp [nfN]⟩
  | n + 1, w, hw, hm => by
    unfold nfN
    cases e : stepsW R w with
    | nil => exact ⟨e, .refl _, by simp⟩
    | cons s ss =>
      have h1 : One R w (turnW R w s) := ⟨s, by rw [e]; exact List.mem_cons_self, rfl⟩
      obtain ⟨h2, h3, _⟩ := one_mu hR hw h1
      obtain ⟨h4, h5, h6⟩ := nfN_ok hR n (turnW R w s) h2 (by omega)
      exact ⟨h4, .head h1 h5, by simp only [List.length_cons]; omega⟩
theorem nf_ok {b : Nat} {R : List Rl} (hR : Dn b R) {w : Sx} (hw : LW b w) : stepsW R (nf b R w) = [] ∧ Star R w (nf b R w) ∧ (nfp b R w).2.length ≤ mu b w := nfN_ok hR _ w hw (Nat.le_refl _)
/-! ### critical pairs -/
abbrev CP := Sx × Sx × Sx
def ovl (p q : Rl) : List CP := (List.range' 1 (min p.1.length q.1.length - 1)).filterMap fun m => if p.1.drop (p.1.length - m) = q.1.take m then some (p.1 ++ q.1.drop m, p.2 ++ q.1.drop m, p.1.take (p.1.length - m) ++ q.2) else none
def inn (p q : Rl) : List CP := (List.range (p.1.length + 1 - q.1.length)).filterMap fun k => if hitW q.1 p.1 k = true ∧ p ≠ q then some (p.1, p.2, p.1.take k ++ q.2 ++ p.1.drop (k + q.1.length)) else none
def pairsW (R : List Rl) : List CP := R.flatMap fun p => R.flatMap fun q => ovl p q ++ inn p q
def MeetsW (b : Nat) (R : List Rl) : Prop := ∀ c ∈ pairsW R, nf b R c.2.1 = nf b R c.2.2
def Join (R : List Rl) (u v : Sx) : Prop := ∃ z, Star R u z ∧ Star R v z
theorem Join.symm {R : List Rl} {u v : Sx} (h : Join R u v) : Join R v u := let ⟨z, a, b⟩ := h; ⟨z, b, a⟩
theorem Join.ctx {R : List Rl} (hn : ∀ p ∈ R, p.1 ≠ []) {u v : Sx} (h : Join R u v) (x y : Sx) : Join R (x ++ u ++ y) (x ++ v ++ y) := let ⟨z, a, b⟩ := h; ⟨_, star_ctx hn a x y, star_ctx hn b x y⟩
theorem mem_pairs {R : List Rl} {p q : Rl} (hp : p ∈ R) (hq : q ∈ R) {c : CP} (h : c ∈ ovl p q ∨ c ∈ inn p q) : c ∈ pairsW R := by
  unfold pairsW
  exact List.mem_flatMap.mpr ⟨p, hp, List.mem_flatMap.mpr ⟨q, hq, List.mem_append.mpr h⟩⟩
/-- the pieces of a critical pair are words over the letters -/
theorem pairs_lw {b : Nat} {R : List Rl} (hR : Dn b R) {c : CP} (h : c ∈ pairsW R) : One R c.1 c.2.1 ∧ One R c.1 c.2.2 ∧ LW b c.1 ∧ ∃ p ∈ R, ∃ q ∈ R, c.1.length ≤ p.1.length + q.1.length := by
  unfold pairsW at h
  obtain ⟨p, hp, h⟩ := List.mem_flatMap.mp h
  obtain ⟨q, hq, h⟩ := List.mem_flatMap.mp h
  obtain ⟨p1, p2, p3⟩ := hR p hp
  obtain ⟨q1, q2, q3⟩ := hR q hq
  have lwd : ∀ {w : Sx} {n : Nat}, LW b w → LW b (w.drop n) := fun {w n} h c hc => h c (List.mem_of_mem_drop hc)
  rcases List.mem_append.mp h with h | h
  · unfold ovl at h
    obtain ⟨m, hm, e⟩ := List.mem_filterMap.mp h
    split at e
    · rename_i hd
      cases e
      have hm := List.mem_range'_1.mp hm
      have e1 : p.1 ++ q.1.drop m = p.1.take (p.1.length - m) ++ q.1 ++ [] := by
        have : p.1 = p.1.take (p.1.length - m) ++ q.1.take m := by rw [← hd, List.take_append_drop]
        conv => lhs; rw [this, List.append_assoc, List.take_append_drop]
        rw [List.append_nil]
      refine ⟨one_of (x := []) (y := q.1.drop m) hp p3.ne |> (by simpa using ·), ?_, LW.app.mpr ⟨p1, lwd q1⟩, p, hp, q, hq, ?_⟩
      · have := one_of hq (p.1.take (p.1.length - m)) [] q3.ne
        rw [← e1] at this
        simpa using this
      · simp only [List.length_append, List.length_drop]; omega
    · cases e
  · unfold inn at h
    obtain ⟨k, hk, e⟩ := List.mem_filterMap.mp h
    split at e
    · rename_i hd
      cases e
      have hk := List.mem_range.mp hk
      have h4 : (p.1.drop k).take q.1.length = q.1 := of_decide_eq_true hd.1
      have e1 : p.1 = p.1.take k ++ q.1 ++ p.1.drop (k + q.1.length) := by
        conv => lhs; rw [← List.take_append_drop k p.1, ← List.take_append_drop q.1.length (p.1.drop k), h4, List.drop_drop]
        rw [List.append_assoc]
      refine ⟨one_of (x := []) (y := []) hp p3.ne |> (by simpa using ·), ?_, p1, p, hp, q, hq, Nat.le_add_right _ _⟩
      have := one_of hq (p.1.take k) (p.1.drop (k + q.1.length)) q3.ne
      rw [← e1] at this
      exact this
    · cases e
theorem meet_join {b : Nat} {R : List Rl} (hR : Dn b R) (hm : MeetsW b R) {c : CP} (h : c ∈ pairsW R) : Join R c.2.1 c.2.2 := by
  obtain ⟨h1, h2, h3, _⟩ := pairs_lw hR h
  have l1 := (one_mu hR h3 h1).1
  have l2 := (one_mu hR h3 h2).1
  refine ⟨nf b R c.2.1, (nf_ok hR l1).2.1, ?_⟩
  rw [hm c h]
  exact (nf_ok hR l2).2.1
/-- one lies within the other, from x on -/
theorem join_in {b : Nat} {R : List Rl} (hR : Dn b R) (hm : MeetsW b R) {p q : Rl} (hp : p ∈ R) (hq : q ∈ R) (d e : Sx) (h : p.1 = d ++ q.1 ++ e) : Join R p.2 (d ++ q.2 ++ e) := by
  by_cases hpq : p = q
  · subst hpq
    have hl := congrArg List.length h
    simp only [List.length_append] at hl
    have h1 : d = [] := List.length_eq_zero_iff.mp (by omega)
    have h2 : e = [] := List.length_eq_zero_iff.mp (by omega)
    subst h1 h2
    simp only [List.nil_append, List.append_nil]
    exact ⟨_, .refl _, .refl _⟩
  · have hc : (p.1, p.2, d ++ q.2 ++ e) ∈ inn p q := by
      unfold inn
      refine List.mem_filterMap.mpr ⟨d.length, List.mem_range.mpr (by rw [h]; simp only [List.length_append]; omega), ?_⟩
      have e1 : hitW q.1 p.1 d.length = true := by
        unfold hitW
        rw [h, List.append_assoc, List.drop_left, List.take_left]
        exact decide_eq_true rfl
      rw [if_pos ⟨e1, hpq⟩]
      have e2 : p.1.take d.length = d := by rw [h, List.append_assoc, List.take_left]
      have e3 : p.1.drop (d.length + q.1.length) = e := by
        have : d.length + q.1.length = (d ++ q.1).length := by rw [List.length_append]
        rw [h, this, List.drop_left]
      rw [e2, e3]
    exact meet_join hR hm (mem_pairs hp hq (.inr hc))
theorem join_ov {b : Nat} {R : List Rl} (hR : Dn b R) (hm : MeetsW b R) {p q : Rl} (hp : p ∈ R) (hq : q ∈ R) (d m e : Sx) (hd : d ≠ []) (hmm : m ≠ []) (he : e ≠ []) (h1 : p.1 = d ++ m) (h2 : q.1 = m ++ e) : Join R (p.2 ++ e) (d ++ q.2) := by
  have l1 : 0 < d.length := List.length_pos_iff.mpr hd
  have l2 : 0 < m.length := List.length_pos_iff.mpr hmm
  have l3 : 0 < e.length := List.length_pos_iff.mpr he
  have hc : (p.1 ++ e, p.2 ++ e, d ++ q.2) ∈ ovl p q := by
    unfold ovl
    refine List.mem_filterMap.mpr ⟨m.length, List.mem_range'_1.mpr ⟨by omega, by rw [h1, h2]; simp only [List.length_append]; omega⟩, ?_⟩
    have e0 : p.1.length - m.length = d.length := by rw [h1, List.length_append]; omega
    have e1 : p.1.drop d.length = m := by rw [h1, List.drop_left]
    have e2 : q.1.take m.length = m := by rw [h2, List.take_left]
    have e3 : q.1.drop m.length = e := by rw [h2, List.drop_left]
    have e4 : p.1.take d.length = d := by rw [h1, List.take_left]
    rw [e0, e1, e2, e3, e4, if_pos rfl]
  exact meet_join hR hm (mem_pairs hp hq (.inl hc))
theorem local_le {b : Nat} {R : List Rl} (hR : Dn b R) (hm : MeetsW b R) {p q : Rl} (hp : p ∈ R) (hq : q ∈ R) {x1 y1 x2 y2 : Sx} (h : x1 ++ p.1 ++ y1 = x2 ++ q.1 ++ y2) (hle : x1.length ≤ x2.length) : Join R (x1 ++ p.2 ++ y1) (x2 ++ q.2 ++ y2) := by
  have hn : ∀ p ∈ R, p.1 ≠ [] := fun p hp => (hR p hp).2.2.ne
  -- x2 = x1 ++ d
  obtain ⟨d, rfl⟩ : ∃ d, x2 = x1 ++ d := by
    have h1 : x1 <+: x1 ++ p.1 ++ y1 := ⟨p.1 ++ y1, by simp⟩
    have h2 : x2 <+: x1 ++ p.1 ++ y1 := by rw [h]; exact ⟨q.1 ++ y2, by simp⟩
    obtain ⟨d, hd⟩ := List.prefix_of_prefix_length_le h1 h2 hle
    exact ⟨d, hd.symm⟩
  have h' : p.1 ++ y1 = d ++ q.1 ++ y2 := by
    have : x1 ++ (p.1 ++ y1) = x1 ++ (d ++ q.1 ++ y2) := by simpa only [List.append_assoc] using h
    exact List.append_cancel_left this
  suffices g : Join R (p.2 ++ y1) (d ++ q.2 ++ y2) by
    have := Join.ctx hn g x1 []
    simpa only [List.append_assoc, List.append_nil] using this
  by_cases hdis : p.1.length ≤ d.length
  · -- apart
    obtain ⟨m, rfl⟩ : ∃ m, d = p.1 ++ m := by
      have h1 : p.1 <+: p.1 ++ y1 := ⟨y1, rfl⟩
      have h2 : d <+: p.1 ++ y1 := by rw [h']; exact ⟨q.1 ++ y2, by simp⟩
      obtain ⟨m, hm⟩ := List.prefix_of_prefix_length_le h1 h2 hdis
      exact ⟨m, hm.symm⟩
    have hy : y1 = m ++ q.1 ++ y2 := by
      have : p.1 ++ y1 = p.1 ++ (m ++ q.1 ++ y2) := by simpa only [List.append_assoc] using h'
      exact List.append_cancel_left this
    subst hy
    refine ⟨p.2 ++ (m ++ q.2 ++ y2), .one ?_, .one ?_⟩
    · have := one_of hq (p.2 ++ m) y2 (hn q hq)
      simpa only [List.append_assoc] using this
    · have := one_of hp [] (m ++ q.2 ++ y2) (hn p hp)
      simpa only [List.append_assoc, List.nil_append] using this
  · -- p.1 = d ++ m, m not empty
    obtain ⟨m, hpm⟩ : ∃ m, p.1 = d ++ m := by
      have h1 : p.1 <+: p.1 ++ y1 := ⟨y1, rfl⟩
      have h2 : d <+: p.1 ++ y1 := by rw [h']; exact ⟨q.1 ++ y2, by simp⟩
      obtain ⟨m, hm⟩ := List.prefix_of_prefix_length_le h2 h1 (by omega)
      exact ⟨m, hm.symm⟩
    have hml : 0 < m.length := by
      have := congrArg List.length hpm
      rw [List.length_append] at this
      omega
    have h2 : m ++ y1 = q.1 ++ y2 := by
      have : d ++ (m ++ y1) = d ++ (q.1 ++ y2) := by
        rw [hpm] at h'
        simpa only [List.append_assoc] using h'
      exact List.append_cancel_left this
    by_cases hin : q.1.length ≤ m.length
    · -- q lies within p
      obtain ⟨e, hme⟩ : ∃ e, m = q.1 ++ e := by
        have h3 : q.1 <+: m ++ y1 := by rw [h2]; exact ⟨y2, rfl⟩
        obtain ⟨e, he⟩ := List.prefix_of_prefix_length_le h3 ⟨y1, rfl⟩ hin
        exact ⟨e, he.symm⟩
      have hy : y2 = e ++ y1 := by
        rw [hme, List.append_assoc] at h2
        exact (List.append_cancel_left h2).symm
      subst hy
      have := Join.ctx hn (join_in hR hm hp hq d e (by rw [hpm, hme, List.append_assoc])) [] y1
      simpa only [List.append_assoc, List.nil_append] using this
    · -- q goes on behind p
      obtain ⟨e, hqe⟩ : ∃ e, q.1 = m ++ e := by
        have h3 : q.1 <+: m ++ y1 := by rw [h2]; exact ⟨y2, rfl⟩
        obtain ⟨e, he⟩ := List.prefix_of_prefix_length_le ⟨y1, rfl⟩ h3 (by omega)
        exact ⟨e, he.symm⟩
      have hy : y1 = e ++ y2 := by
        rw [hqe, List.append_assoc] at h2
        exact List.append_cancel_left h2
      subst hy
      have hel : 0 < e.length := by
        have := congrArg List.length hqe
        rw [List.length_append] at this
        omega
      by_cases hd : d = []
      · -- p lies within q, at its head
        subst hd
        have := Join.ctx hn (join_in hR hm hq hp [] e (by rw [hqe, hpm]; simp)).symm [] y2
        simpa only [List.append_assoc, List.nil_append] using this
      · have := Join.ctx hn (join_ov hR hm hp hq d m e hd (List.length_pos_iff.mp hml) (List.length_pos_iff.mp hel) hpm hqe) [] y2
        simpa only [List.append_assoc, List.nil_append] using this
theorem local_join {b : Nat} {R : List Rl} (hR : Dn b R) (hm : MeetsW b R) {w u v : Sx} (h1 : One R w u) (h2 : One R w v) : Join R u v := by
  obtain ⟨p, hp, x1, y1, rfl, rfl⟩ := one_split h1
  obtain ⟨q, hq, x2, y2, h, rfl⟩ := one_split h2
  rcases Nat.le_total x1.length x2.length with l | l
  · exact local_le hR hm hp hq h l
  · exact (local_le hR hm hq hp h.symm l).symm
theorem star_normal {R : List Rl} {w v : Sx} (h : Star R w v) (hn : stepsW R w = []) : v = w := by
  cases h with
  | refl => rfl
  | head h _ =>
    obtain ⟨s, hs, _⟩ := h
    rw [hn] at hs
    simp at hs
theorem newman {b : Nat} {R : List Rl} (hR : Dn b R) (hm : MeetsW b R) : ∀ (n : Nat) (w : Sx), LW b w → mu b w ≤ n → ∀ u v, Star R w u → Star R w v → stepsW R u = [] → stepsW R v = [] → u = v := by
  intro n
  induction n with
  | zero =>
    intro w hw hn u v h1 h2 _ _
    have : w = [] := Classical.byContradiction fun z => by
      have := mu_ge (b := b) z
      have : 0 < 4 ^ (w.length - 1) := Nat.pow_pos (by omega)
      omega
    subst this
    rw [star_normal h1 rfl, star_normal h2 rfl]
  | succ n ih =>
    intro w hw hn u v h1 h2 n1 n2
    cases h1 with
    | refl => exact (star_normal h2 n1).symm
    | head a1 t1 =>
      cases h2 with
      | refl =>
        obtain ⟨s, hs, _⟩ := a1
        rw [n2] at hs
        simp at hs
      | head a2 t2 =>
        rename_i w1 w2
        obtain ⟨z, j1, j2⟩ := local_join hR hm a1 a2
        obtain ⟨l1, m1, _⟩ := one_mu hR hw a1
        obtain ⟨l2, m2, _⟩ := one_mu hR hw a2
        have lz := (star_mu hR j1 l1).1
        obtain ⟨z1, z2, _⟩ := nf_ok hR lz
        rw [ih w1 l1 (by omega) u _ t1 (j1.trans z2) n1 z1, ih w2 l2 (by omega) v _ t2 (j2.trans z2) n2 z1]
theorem meets_nf {b : Nat} {R : List Rl} (hR : Dn b R) (hm : MeetsW b R) {w v : Sx} (hw : LW b w) (h : Star R w v) (hn : stepsW R v = []) : v = nf b R w := by
  obtain ⟨z1, z2, _⟩ := nf_ok hR hw
  exact newman hR hm _ w hw (Nat.le_refl _) _ _ h z2 hn z1
end L2.Mi.k55

set_option Elab.async false
set_option linter.all false
set_option maxRecDepth 100000
set_option maxHeartbeats 4000000
/-! W55b: the small defs: steps, turns, order. -/
namespace L2.Mi.k55
open PySem PySem.Spec PyProof.Rows L2.Mi
abbrev rV (p : Rl) : MV := .tup [.str p.1, .str p.2]
abbrev RV (R : List Rl) : MV := .tup (R.map rV)
abbrev sV (s : Nat × Nat) : MV := .tup [.int (s.1 : Int), .int (s.2 : Int)]
abbrev iV (k : Nat) : MV := .int (k : Int)
structure OkR (R : List Rl) : Prop where
  len : R.length ≤ 20
  d1 : ∀ p ∈ R, dat (.str p.1) = true
  d2 : ∀ p ∈ R, dat (.str p.2) = true
  l1 : ∀ p ∈ R, p.1.length ≤ 4
  l2 : ∀ p ∈ R, p.2.length ≤ 4
theorem OkR.at {R : List Rl} (h : OkR R) (k : Nat) : dat (.str (atR R k).1) = true ∧ dat (.str (atR R k).2) = true ∧ (atR R k).1.length ≤ 4 ∧ (atR R k).2.length ≤ 4 := by
  unfold atR
  rw [List.getD_eq_getElem?_getD]
  cases e : R[k]? with
  | none => exact ⟨rfl, rfl, by simp, by simp⟩
  | some p =>
    have hp := List.mem_of_getElem? e
    exact ⟨h.d1 p hp, h.d2 p hp, h.l1 p hp, h.l2 p hp⟩
theorem sub_rule {R : List Rl} {mh : MHp} {k : Nat} (h : k < R.length) : subV mh (RV R) (.int (k : Int)) = some (rV (atR R k)) := by
  show idx (R.map rV) (k : Int) = _
  rw [idx_get (by simpa using h), List.getElem_map]
  unfold atR
  rw [List.getD_eq_getElem?_getD, List.getElem?_eq_getElem h]
  rfl
theorem sub_p0 {p : Rl} {mh : MHp} : subV mh (rV p) (.int 0) = some (.str p.1) := atI0
theorem sub_p1 {p : Rl} {mh : MHp} : subV mh (rV p) (.int 1) = some (.str p.2) := atI1
theorem sub_s0 {s : Nat × Nat} {mh : MHp} : subV mh (sV s) (.int 0) = some (.int (s.1 : Int)) := atI0
theorem sub_s1 {s : Nat × Nat} {mh : MHp} : subV mh (sV s) (.int 1) = some (.int (s.2 : Int)) := atI1
theorem starts_hit {w l : Sx} {p : Nat} (hp : p ≤ w.length) : Txt.startswith3 ⟨w.toArray⟩ ⟨l.toArray⟩ (p : Int) = hitW l w p := by
  have hl : ∀ u : Sx, (⟨u.toArray⟩ : Str).length = u.length := fun u => by simp [Str.length]
  have hi : fromIndex w.length (p : Int) = p := by
    unfold fromIndex
    rw [if_neg (by omega)]
    omega
  unfold Txt.startswith3 hitW
  rw [hl, hl, hi, StrLaws.subAt_eq, hl]
  apply Bool.eq_iff_iff.mpr
  simp only [Bool.and_eq_true, decide_eq_true_eq, beq_iff_eq]
  constructor
  · exact fun h => h.2
  · intro h
    refine ⟨?_, h⟩
    have := congrArg List.length h
    simp only [List.length_take, List.length_drop] at this
    omega
theorem filt_steps (R : List Rl) (w : Sx) (p : Nat) : (((List.range R.length).filter fun k => hitW (atR R k).1 w p).map fun k => sV (k, p)) = (stepsAt R w p).map sV := by
  unfold stepsAt
  rw [List.map_map]
  rfl
theorem bd_sV (n : Nat) (ss : List (Nat × Nat)) (l : Nat) : (ss.map sV).all (wr n l) = true := List.all_eq_true.mpr fun x hx => by
  obtain ⟨s, _, rfl⟩ := List.mem_map.mp hx
  simp [wr, bd, bds]
theorem dat_sV (s : Nat × Nat) : dat (sV s) = true := rfl
theorem dats_sV (ss : List (Nat × Nat)) : dats (ss.map sV) = true := dats_iff.mpr fun x hx => by
  obtain ⟨s, _, rfl⟩ := List.mem_map.mp hx
  rfl
theorem at_le (R : List Rl) (w : Sx) (p : Nat) : (stepsAt R w p).length ≤ R.length := by
  unfold stepsAt
  rw [List.length_map]
  exact Nat.le_trans (List.length_filter_le _ _) (by simp)
theorem flat_le {α β : Type} {f : α → List β} {n : Nat} : ∀ {xs : List α}, (∀ x ∈ xs, (f x).length ≤ n) → (xs.flatMap f).length ≤ xs.length * n
  | [], _ => by simp
  | x :: xs, h => by
    have h1 := h x List.mem_cons_self
    have h2 := flat_le (xs := xs) fun y hy => h y (List.mem_cons_of_mem _ hy)
    simp only [List.flatMap_cons, List.length_append, List.length_cons, Nat.succ_mul]
    omega
theorem steps_le {R : List Rl} {w : Sx} (hR : R.length ≤ 20) : (stepsW R w).length ≤ w.length * 20 := by
  have := flat_le (f := stepsAt R w) (n := 20) (xs := List.range w.length) fun p _ => Nat.le_trans (at_le R w p) hR
  simpa [stepsW] using this
theorem fold_flat {α β : Type} (F : α → List β) (E : α → Option MV) : ∀ (xs : List α) (s : Option MV × List β), ((xs.foldl (fun s x => (E x, s.2 ++ F x)) s)).2 = s.2 ++ xs.flatMap F
  | [], s => by simp
  | x :: xs, s => by
    rw [List.foldl_cons, fold_flat F E xs]
    simp
section
variable {R : List Rl} {w : Sx} {k : Nat} {mh : MHp}
abbrev wsComp : ME := (.comp (.nm 4) [4] (.rng1 (.bi .len [(.var 0)])) (.meth .start2 (.var 1) [(.sub (.sub (.var 0) (.var 4)) (.c (.int (0)))), (.var 3)]) (.tup [(.var 4), (.var 3)]))
theorem ws_comp {C : CallF} {b p : Nat} {v : MV} (hR : OkR R) (hp : p ≤ w.length) : ev C b wsComp [some (RV R), some (.str w), some v, some (iV p), none] mh = some (.lst ((stepsAt R w p).map sV), mh) := by
  rw [← filt_steps]
  refine ev_compF (emb := iV) (evI_rng1 (m := R.length) ?_ (by have := hR.len; omega)) (by rw [List.length_range]; exact line_le (by have := hR.len; omega)) ?_
  · simp [ev, evs, biV, one1, lenV]
  · intro j hj
    have hj := List.mem_range.mp hj
    have z2 : 2 ≤ line := line_le (by omega)
    have e1 := sub_rule (mh := mh) hj
    have e2 := sub_p0 (mh := mh) (p := atR R j)
    have e3 := starts_hit (w := w) (l := (atR R j).1) hp
    generalize RV R = rv at *
    generalize rV (atR R j) = pv at *
    cases h : hitW (atR R j).1 w p <;> rw [h] at e3 <;> simp [compF, asg, wipeE, ev, evs, tyM, e1, e2, methV, startV, e3, z2]
theorem sp_word_steps (hR : OkR R) (hw : w.length ≤ 1000) : callM T (k + 1) 4 [RV R, .str w] mh = some (.lst ((stepsW R w).map sV), mh) := by
  have hl := steps_le (w := w) hR.len
  have z0 : 0 ≤ line := line_le (by omega)
  have z1 : w.length ≤ line := line_le (by omega)
  let Rel : List (Nat × Nat) → Env → MHp → Prop := fun s ρ m => (∃ o, ρ = [some (RV R), some (.str w), some (.loc mh.length), o, none]) ∧ m = mh ++ [some (.lst (s.map sV))]
  have loop := for_flat (J := ⟨(List.range w.length).map iV, none⟩) (f := forF (callM T k) mh.length (.nm 3) [(.ex (.meth .extend (.var 2) [wsComp]))]) (emb := iV) (F := stepsAt R w) (N := 100000) Rel (fun _ _ _ _ => Its.ok_none rfl _) (List.range w.length)
  obtain ⟨ρ', mh', e, ⟨o, rfl⟩, rfl⟩ := loop (by
    rintro p hp s ρ m ⟨⟨o, rfl⟩, rfl⟩ hs
    have hp := List.mem_range.mp hp
    have hc := ws_comp (C := callM T k) (b := mh.length) (mh := mh ++ [some (.lst (s.map sV))]) (v := .loc mh.length) (w := w) hR (Nat.le_of_lt hp)
    have h1 : (mh ++ [some (MO.lst (s.map sV))])[mh.length]? = some (some (.lst (s.map sV))) := get_app0
    have h2 := bd_sV mh.length (stepsAt R w p) mh.length
    have h3 : (s.map sV).length + ((stepsAt R w p).map sV).length ≤ line := by
      rw [List.length_map, List.length_map]
      exact line_le (by omega)
    refine ⟨_, _, ?_, ⟨some (iV p), rfl⟩, rfl⟩
    have h4 : (mh ++ [some (MO.lst (s.map sV))]).set mh.length (some (.lst (s.map sV ++ (stepsAt R w p).map sV))) = mh ++ [some (.lst ((s ++ stepsAt R w p).map sV))] := by rw [set_app0, List.map_append]
    rw [← h4]
    generalize (stepsAt R w p).map sV = st at *
    generalize RV R = rv at *
    generalize mh ++ [some (MO.lst (s.map sV))] = m at *
    simp only [List.length_map] at h3
    simp [forF, asg, exs, ex, ev, tyM, liveL, h1, evs, ↓hc, methV, extV, seqOf, getL, h2, h3]) [] [some (RV R), some (.str w), some (.loc mh.length), none, none] (mh ++ [some (.lst [])]) ⟨⟨none, rfl⟩, rfl⟩ (by simpa [stepsW] using Nat.le_trans hl (by omega))
  refine call_own (l := mh.length) (mh1 := mh ++ [some (.lst ((stepsW R w).map sV))]) (ρ0 := [some (RV R), some (.str w), none, none, none]) (ρ := [some (RV R), some (.str w), some (.loc mh.length), o, none]) rfl rfl ?_ get_app0 (dats_sV _) (Nat.le_refl _) (take_app _)
  refine ex_go (ρ1 := [some (RV R), some (.str w), some (.loc mh.length), none, none]) (mh1 := mh ++ [some (.lst [])]) (by simp [ex, ev, evs, asg, z0]) (ex_go (ρ1 := [some (RV R), some (.str w), some (.loc mh.length), o, none]) (mh1 := mh ++ [some (.lst ((stepsW R w).map sV))]) ?_ (ex_end ?_))
  · rw [ex_for, evI_rng1 (m := w.length) (by simp [ev, evs, biV, one1, lenV, z1]) (by omega)]
    exact e
  · simp [ex, ev]
end
end L2.Mi.k55

set_option Elab.async false
set_option linter.all false
set_option maxRecDepth 100000
set_option maxHeartbeats 4000000
/-! W55c: turns, order, normal words. -/
namespace L2.Mi.k55
open PySem PySem.Spec PyProof.Rows L2.Mi
theorem pd_sV (s : Nat × Nat) : Pd (sV s) := ⟨rfl, rfl, by simp [dep, deps]⟩
theorem pd_SL (ss : List (Nat × Nat)) : Pd (.lst (ss.map sV)) := Pd.lst (n := 1) (by omega) fun x hx => by
  obtain ⟨s, _, rfl⟩ := List.mem_map.mp hx
  exact ⟨rfl, rfl, by simp [dep, deps]⟩
theorem pd_ST (ss : List (Nat × Nat)) : Pd (.tup (ss.map sV)) := Pd.tup (n := 1) (by omega) fun x hx => by
  obtain ⟨s, _, rfl⟩ := List.mem_map.mp hx
  exact ⟨rfl, rfl, by simp [dep, deps]⟩
theorem len_turn {R : List Rl} {w : Sx} {s : Nat × Nat} (hR : OkR R) : (turnW R w s).length ≤ w.length + 4 := by
  have h := (hR.at s.1).2.2.2
  unfold turnW
  simp only [List.length_append, List.length_take, List.length_drop]
  omega
theorem dat_turn {R : List Rl} {w : Sx} {s : Nat × Nat} (hR : OkR R) (hw : dat (.str w) = true) (hl : w.length ≤ 900) : dat (.str (turnW R w s)) = true := by
  refine dat_str (by have := len_turn (w := w) (s := s) hR; omega) fun c hc => ?_
  unfold turnW at hc
  simp only [List.mem_append] at hc
  rcases hc with (hc | hc) | hc
  · exact dat_str_chr hw c (List.mem_of_mem_take hc)
  · exact dat_str_chr (hR.at s.1).2.1 c hc
  · exact dat_str_chr hw c (List.mem_of_mem_drop hc)
section
variable {R : List Rl} {w : Sx} {k : Nat} {mh : MHp}
theorem turn_facts {s : Nat × Nat} (hR : OkR R) (hl : w.length ≤ 900) : slcV mh (.str w) none (some (s.2 : Int)) = some (.str (w.take s.2)) ∧ slcV mh (.str w) (some ((s.2 : Int) + ((atR R s.1).1.length : Int))) none = some (.str (w.drop (s.2 + (atR R s.1).1.length))) ∧ lenV mh (.str (atR R s.1).1) = some (.int ((atR R s.1).1.length : Int)) ∧
    addV mh (.str (w.take s.2)) (.str (atR R s.1).2) = some (.str (w.take s.2 ++ (atR R s.1).2)) ∧ addV mh (.str (w.take s.2 ++ (atR R s.1).2)) (.str (w.drop (s.2 + (atR R s.1).1.length))) = some (.str (turnW R w s)) := by
  have h := hR.at s.1
  refine ⟨slc_take (by omega), ?_, len_str (by omega), add_str (by rw [List.length_take]; omega) (by omega), add_str (by rw [List.length_append, List.length_take]; omega) (by rw [List.length_drop]; omega)⟩
  rw [← Int.natCast_add]
  exact slc_drop (by omega)
theorem sp_turned {s : Nat × Nat} (hR : OkR R) (hs : s.1 < R.length) (hw : dat (.str w) = true) (hl : w.length ≤ 900) : callM T (k + 1) 5 [RV R, .str w, sV s] mh = some (.str (turnW R w s), mh) := by
  obtain ⟨f1, f2, f3, f4, f5⟩ := turn_facts (mh := mh) (w := w) (s := s) hR hl
  have e1 := sub_rule (mh := mh) hs
  have e2 := sub_p0 (mh := mh) (p := atR R s.1)
  have e3 := sub_p1 (mh := mh) (p := atR R s.1)
  refine call_v (ρ0 := [some (RV R), some (.str w), some (sV s), none, none]) (ρ := [some (RV R), some (.str w), some (sV s), some (iV s.1), some (iV s.2)]) (fl := .rt (.str (turnW R w s))) rfl rfl ?_ rfl (dat_dat2 _ (dat_turn hR hw hl)) List.take_length
  generalize RV R = rv at *
  generalize rV (atR R s.1) = pv at *
  simp [exs, ex, ev, evs, asg, asgs, biV, one1, binV, add_int, e1, e2, e3, f1, f2, f3, f4, f5]
theorem sp_lturned {s : Nat × Nat} (hR : OkR R) (hs : s.1 < R.length) (hw : dat (.str w) = true) (hl : w.length ≤ 900) : callM T (k + 1) 23 [RV R, .str w, sV s] mh = some (.str (turnW R w s), mh) := by
  obtain ⟨f1, f2, f3, f4, f5⟩ := turn_facts (mh := mh) (w := w) (s := s) hR hl
  have e1 := sub_rule (mh := mh) hs
  have e2 := sub_p0 (mh := mh) (p := atR R s.1)
  have e3 := sub_p1 (mh := mh) (p := atR R s.1)
  have e4 := sub_s0 (mh := mh) (s := s)
  have e5 := sub_s1 (mh := mh) (s := s)
  refine call_v (ρ0 := [some (RV R), some (.str w), some (sV s)]) (ρ := [some (RV R), some (.str w), some (sV s)]) (fl := .rt (.str (turnW R w s))) rfl rfl ?_ rfl (dat_dat2 _ (dat_turn hR hw hl)) List.take_length
  generalize RV R = rv at *
  generalize rV (atR R s.1) = pv at *
  generalize sV s = sv at *
  simp [exs, ex, ev, evs, asg, asgs, biV, one1, binV, intV, add_int, e1, e2, e3, e4, e5, f1, f2, f3, f4, f5]
abbrev lsComp : ME := (.comp (.nm 4) [4] (.rng1 (.bi .len [(.var 0)])) (.cmp .eq (.slcB (.var 1) (.var 3) (.bin .add (.var 3) (.bi .len [(.sub (.sub (.var 0) (.var 4)) (.c (.int (0))))]))) (.sub (.sub (.var 0) (.var 4)) (.c (.int (0))))) (.tup [(.var 4), (.var 3)]))
theorem ls_comp {C : CallF} {b p : Nat} {v : MV} (hR : OkR R) (hw : dat (.str w) = true) : ev C b lsComp [some (RV R), some (.str w), some v, some (iV p), none] mh = some (.lst ((stepsAt R w p).map sV), mh) := by
  have hwl := dat_str_len hw
  rw [← filt_steps]
  refine ev_compF (emb := iV) (evI_rng1 (m := R.length) ?_ (by have := hR.len; omega)) (by rw [List.length_range]; exact line_le (by have := hR.len; omega)) ?_
  · simp [ev, evs, biV, one1, lenV]
  · intro j hj
    have hj := List.mem_range.mp hj
    have z2 : 2 ≤ line := line_le (by omega)
    obtain ⟨d1, d2, l1, l2⟩ := hR.at j
    have e1 := sub_rule (mh := mh) hj
    have e2 := sub_p0 (mh := mh) (p := atR R j)
    have e3 : lenV mh (.str (atR R j).1) = _ := len_str (by omega)
    have e4 : slcV mh (.str w) (some (p : Int)) (some ((p : Int) + ((atR R j).1.length : Int))) = some (.str ((w.drop p).take (atR R j).1.length)) := by
      rw [← Int.natCast_add, slc_mid (by omega), Nat.add_sub_cancel_left]
    have e5 : eqV mh (.str ((w.drop p).take (atR R j).1.length)) (.str (atR R j).1) = some (hitW (atR R j).1 w p) := eqV_str mh _ _ (dat_take _ (dat_drop _ hw)) d1
    generalize RV R = rv at *
    generalize rV (atR R j) = pv at *
    generalize hitW (atR R j).1 w p = hb at *
    generalize (w.drop p).take (atR R j).1.length = u at *
    generalize (atR R j).1 = l at *
    cases hb <;> simp [compF, asg, wipeE, ev, evs, biV, one1, binV, intV, cmpV, add_int, e1, e2, e3, e4, e5, z2]
theorem sp_lsteps (hR : OkR R) (hw : dat (.str w) = true) : callM T (k + 1) 22 [RV R, .str w] mh = some (.lst ((stepsW R w).map sV), mh) := by
  have hwl := dat_str_len hw
  have hl := steps_le (w := w) hR.len
  have z0 : 0 ≤ line := line_le (by omega)
  have z1 : w.length ≤ line := line_le (by omega)
  let Rel : List (Nat × Nat) → Env → MHp → Prop := fun s ρ m => (∃ o, ρ = [some (RV R), some (.str w), some (.lst (s.map sV)), o, none]) ∧ m = mh
  have loop := for_flat (J := ⟨(List.range w.length).map iV, none⟩) (f := forF (callM T k) mh.length (.nm 3) [(.set (.nm 2) (.bin .add (.var 2) lsComp))]) (emb := iV) (F := stepsAt R w) (N := 100000) Rel (fun _ _ _ _ => Its.ok_none rfl _) (List.range w.length)
  obtain ⟨ρ', mh', e, ⟨o, rfl⟩, rfl⟩ := loop (by
    rintro p hp s ρ m ⟨⟨o, rfl⟩, rfl⟩ hs
    have hc := ls_comp (C := callM T k) (b := m.length) (mh := m) (v := .lst (s.map sV)) (p := p) hR hw
    have h3 : addV m (.lst (s.map sV)) (.lst ((stepsAt R w p).map sV)) = _ := add_lst (by rw [List.length_map, List.length_map]; omega)
    refine ⟨_, _, ?_, ⟨some (iV p), rfl⟩, rfl⟩
    rw [List.map_append]
    generalize (stepsAt R w p).map sV = st at *
    generalize s.map sV = sm at *
    generalize RV R = rv at *
    simp [forF, asg, exs, ex, ev, ↓hc, binV, h3]) [] [some (RV R), some (.str w), some (.lst []), none, none] mh ⟨⟨none, rfl⟩, rfl⟩ (by simpa [stepsW] using Nat.le_trans hl (by omega))
  refine call_v (mh1 := mh') (ρ0 := [some (RV R), some (.str w), none, none, none]) (ρ := [some (RV R), some (.str w), some (.lst ((stepsW R w).map sV)), o, none]) (fl := .rt (.lst ((stepsW R w).map sV))) rfl rfl ?_ rfl (dat_dat2 _ (pd_SL _).dat) List.take_length
  refine ex_go (ρ1 := [some (RV R), some (.str w), some (.lst []), none, none]) (mh1 := mh') (by simp [ex, ev, evs, asg, z0]) (ex_go (ρ1 := [some (RV R), some (.str w), some (.lst ((stepsW R w).map sV)), o, none]) (mh1 := mh') ?_ (ex_end ?_))
  · rw [ex_for, evI_rng1 (m := w.length) (by simp [ev, evs, biV, one1, lenV, z1]) (by omega)]
    exact e
  · simp [ex, ev]
theorem sp_is_before {u v : Sx} (hu : dat (.str u) = true) (hv : dat (.str v) = true) : callM T (k + 1) 8 [.str u, .str v] mh = some (.bl (decide (Bef u v)), mh) := by
  have z2 : 2 ≤ line := line_le (by omega)
  have e1 : lenV mh (.str u) = _ := len_str (by have := dat_str_len hu; omega)
  have e2 : lenV mh (.str v) = _ := len_str (by have := dat_str_len hv; omega)
  have e3 := lt_pair (mh := mh) (a := u.length) (b := v.length) hu hv
  have e4 : decide ((u.length : Int) < v.length ∨ (u.length : Int) = v.length ∧ u < v) = decide (Bef u v) := by
    apply Bool.eq_iff_iff.mpr
    rw [decide_eq_true_iff, decide_eq_true_iff, Bef]
    simp only [Int.ofNat_lt, Int.natCast_inj]
  rw [e4] at e3
  refine call_v (mh1 := mh) (ρ0 := [some (.str u), some (.str v)]) (ρ := [some (.str u), some (.str v)]) (fl := .rt (.bl (decide (Bef u v)))) rfl rfl ?_ rfl rfl List.take_length
  generalize decide (Bef u v) = b at *
  simp [exs, ex, ev, evs, biV, one1, e1, e2, e3, z2]
theorem sp_lbefore {u v : Sx} (hu : dat (.str u) = true) (hv : dat (.str v) = true) : callM T (k + 1) 20 [.str u, .str v] mh = some (.bl (decide (Bef u v)), mh) := by
  have e1 : lenV mh (.str u) = _ := len_str (by have := dat_str_len hu; omega)
  have e2 : lenV mh (.str v) = _ := len_str (by have := dat_str_len hv; omega)
  refine call_v (mh1 := mh) (ρ0 := [some (.str u), some (.str v)]) (ρ := [some (.str u), some (.str v)]) (fl := .rt (.bl (decide (Bef u v)))) rfl rfl ?_ rfl rfl List.take_length
  have e3 : eqV mh (.int (u.length : Int)) (.int (v.length : Int)) = some (decide (u.length = v.length)) := by rw [eqV_int]; simp only [Int.natCast_inj]
  by_cases h1 : u.length < v.length
  · have e4 : decide (Bef u v) = true := decide_eq_true (.inl h1)
    rw [e4]
    simp [exs, ex, ev, evs, biV, one1, e1, e2, cmpV, ordV, h1]
  · by_cases h2 : u.length = v.length
    · have e4 : decide (Bef u v) = decide (u < v) := by
        unfold Bef
        simp [h1, h2]
      rw [e4]
      simp [exs, ex, ev, evs, biV, one1, e1, e2, cmpV, ordV, h1, h2, eqV_int]
    · have e4 : decide (Bef u v) = false := by
        unfold Bef
        simp [h1, h2]
      rw [e4]
      simp [exs, ex, ev, evs, biV, one1, e1, e2, cmpV, ordV, h1, h2, e3]
/-! ### normal words -/
abbrev wnC : ME := (.cmp .gt (.bi .len [(.var 3)]) (.c (.int (0))))
abbrev wnB : List MS := [(.set (.nm 1) (.call 5 [(.var 0), (.var 1), (.sub (.var 3) (.c (.int (0))))])), (.ex (.meth .append (.var 2) [(.sub (.var 3) (.c (.int (0))))])), (.set (.nm 3) (.call 4 [(.var 0), (.var 1)]))]
theorem dat_lw {b : Nat} {w : Sx} (hb : b ≤ 1000) (h : LW b w) (hl : w.length ≤ 1000) : dat (.str w) = true := dat_str hl fun c hc => by have := h c hc; omega
theorem step_lt {s : Nat × Nat} {ss : List (Nat × Nat)} (h : stepsW R w = s :: ss) : s.1 < R.length := by
  have : (s.1, s.2) ∈ stepsW R w := by rw [h]; exact List.mem_cons_self
  exact (mem_stepsW.mp this).1
theorem wn_loop {b : Nat} (hb : b ≤ 1000) (hR : OkR R) (hD : Dn b R) : ∀ (n : Nat) (w : Sx) (acc : List (Nat × Nat)), LW b w → mu b w ≤ n → acc.length + mu b w < 16777216 → w.length ≤ 900 →
    whileM (whC (callM T (k + 1)) mh.length wnC) (exs (callM T (k + 1)) mh.length wnB) [some (RV R), some (.str w), some (.loc mh.length), some (.lst ((stepsW R w).map sV))] (mh ++ [some (.lst (acc.map sV))]) = some (.nx, [some (RV R), some (.str (nfN R n w).1), some (.loc mh.length), some (.lst [])], mh ++ [some (.lst ((acc ++ (nfN R n w).2).map sV))]) := by
  intro n
  induction n with
  | zero =>
    intro w acc hw hm ha hl
    have hs := (nfN_ok hD 0 w hw hm).1
    simp only [nfN] at hs ⊢
    rw [hs, List.append_nil]
    exact while_stop (by simp [whC, ev, evs, biV, one1, lenV, getL, cmpV, ordV])
  | succ n ih =>
    intro w acc hw hm ha hl
    unfold nfN
    cases e : stepsW R w with
    | nil =>
      simp only [List.map_nil, List.append_nil]
      exact while_stop (by simp [whC, ev, evs, biV, one1, lenV, getL, cmpV, ordV])
    | cons s ss =>
      simp only
      have h1 : One R w (turnW R w s) := ⟨s, by rw [e]; exact List.mem_cons_self, rfl⟩
      obtain ⟨h2, h3, h4⟩ := one_mu hD hw h1
      have hdw := dat_lw hb hw (by omega)
      have ih' := ih (turnW R w s) (acc ++ [s]) h2 (by omega) (by rw [List.length_append, List.length_singleton]; omega) (by omega)
      rw [List.append_assoc] at ih'
      refine while_go (mh1 := mh ++ [some (.lst (acc.map sV))]) (ρ1 := [some (RV R), some (.str (turnW R w s)), some (.loc mh.length), some (.lst ((stepsW R (turnW R w s)).map sV))]) (mh2 := mh ++ [some (.lst ((acc ++ [s]).map sV))]) ?_ ?_ ih'
      · simp [whC, ev, evs, biV, one1, lenV, getL, cmpV, ordV]
      · have c1 := sp_turned (k := k) (mh := mh ++ [some (.lst (acc.map sV))]) (s := s) hR (step_lt e) hdw hl
        have c2 := sp_word_steps (k := k) (mh := mh ++ [some (.lst ((acc ++ [s]).map sV))]) (w := turnW R w s) hR (by omega)
        have h5 : (mh ++ [some (MO.lst (acc.map sV))])[mh.length]? = some (some (.lst (acc.map sV))) := get_app0
        have h6 : (mh ++ [some (MO.lst (acc.map sV))]).set mh.length (some (.lst (acc.map sV ++ [sV s]))) = mh ++ [some (.lst ((acc ++ [s]).map sV))] := by rw [set_app0, List.map_append]; rfl
        have h7 : wr mh.length mh.length (sV s) = true := by simp [wr]
        have h8 : (acc.map sV).length < line := by rw [List.length_map]; exact line_lt (by omega)
        have h9 : idx (sV s :: ss.map sV) 0 = some (sV s) := atI0
        rw [List.map_cons]
        generalize mh ++ [some (MO.lst (acc.map sV))] = m at *
        generalize mh ++ [some (MO.lst ((acc ++ [s]).map sV))] = m' at *
        generalize acc.map sV = am at *
        generalize RV R = rv at *
        generalize sV s = sv at *
        generalize ss.map sV = sm at *
        generalize (stepsW R (turnW R w s)).map sV = sm' at *
        generalize turnW R w s = tw at *
        simp [exs, ex, ev, evs, asg, subV, getL, h9, c1, tyM, liveL, h5, methV, appV, h7, h8, h6, c2]
theorem sp_word_normal {b : Nat} (hb : b ≤ 1000) (hR : OkR R) (hD : Dn b R) (hw : LW b w) (hl : w.length ≤ 12) : callM T (k + 2) 10 [RV R, .str w] mh = some (.tup [.str (nf b R w), .tup ((nfp b R w).2.map sV)], mh) := by
  have hdw := dat_lw hb hw (by omega)
  have hmu : mu b w < 16777216 := by
    have h1 := mu_lt hw
    have h2 : 4 ^ w.length ≤ 4 ^ 12 := Nat.pow_le_pow_right (by omega) hl
    omega
  obtain ⟨n1, n2, n3⟩ := nf_ok hD hw
  have hnl := star_mu hD n2 hw
  have z2 : 2 ≤ line := line_le (by omega)
  have z0 : 0 ≤ line := line_le (by omega)
  have loop := wn_loop (k := k) (mh := mh) hb hR hD (mu b w) w [] hw (Nat.le_refl _) (by simpa using hmu) (by omega)
  have hd : dat2 (.tup [.str (nf b R w), .tup ((nfp b R w).2.map sV)]) = true := dat_dat2 _ (dat_t2 (dat_lw hb hnl.1 (by omega)) (pd_ST _).dat)
  refine call_v (mh1 := mh ++ [some (.lst ((nfp b R w).2.map sV))]) (ρ0 := [some (RV R), some (.str w), none, none]) (ρ := [some (RV R), some (.str (nf b R w)), some (.loc mh.length), some (.lst [])]) (fl := .rt (.tup [.str (nf b R w), .tup ((nfp b R w).2.map sV)])) rfl rfl ?_ rfl hd (take_app _)
  have c2 := sp_word_steps (k := k) (mh := mh ++ [some (.lst [])]) (w := w) hR (by omega)
  refine ex_go (ρ1 := [some (RV R), some (.str w), some (.loc mh.length), none]) (mh1 := mh ++ [some (.lst [])]) (by simp [ex, ev, evs, asg, z0]) (ex_go (ρ1 := [some (RV R), some (.str w), some (.loc mh.length), some (.lst ((stepsW R w).map sV))]) (mh1 := mh ++ [some (.lst [])]) ?_ (ex_go (ρ1 := [some (RV R), some (.str (nf b R w)), some (.loc mh.length), some (.lst [])]) (mh1 := mh ++ [some (.lst ((nfp b R w).2.map sV))]) ?_ (ex_end ?_)))
  · generalize (stepsW R w).map sV = sm at *
    generalize RV R = rv at *
    simp [ex, ev, evs, asg, c2]
  · rw [ex_while]
    exact loop
  · have h5 : (mh ++ [some (MO.lst ((nfp b R w).2.map sV))])[mh.length]? = some (some (.lst ((nfp b R w).2.map sV))) := get_app0
    generalize (nfp b R w).2.map sV = sm at *
    generalize mh ++ [some (MO.lst sm)] = m at *
    generalize RV R = rv at *
    simp [ex, ev, evs, biV, one1, tupV, getL, h5, z2]
abbrev lnC : ME := (.cmp .ne (.call 22 [(.var 0), (.var 1)]) (.lst []))
abbrev lnB : List MS := [(.ex (.meth .append (.var 2) [(.sub (.call 22 [(.var 0), (.var 1)]) (.c (.int (0))))])), (.set (.nm 1) (.call 23 [(.var 0), (.var 1), (.sub (.var 2) (.neg (.c (.int (1)))))]))]
theorem eqV_nil {mh : MHp} (ss : List (Nat × Nat)) : eqV mh (.lst (ss.map sV)) (.lst []) = some ss.isEmpty := eqV_b mh (pd_SL _) ⟨rfl, rfl, by simp [dep, deps]⟩ (by cases ss <;> simp)
theorem ln_loop {b : Nat} (hb : b ≤ 1000) (hR : OkR R) (hD : Dn b R) : ∀ (n : Nat) (w : Sx) (acc : List (Nat × Nat)), LW b w → mu b w ≤ n → acc.length + mu b w < 16777216 → w.length ≤ 900 →
    whileM (whC (callM T (k + 1)) mh.length lnC) (exs (callM T (k + 1)) mh.length lnB) [some (RV R), some (.str w), some (.loc mh.length)] (mh ++ [some (.lst (acc.map sV))]) = some (.nx, [some (RV R), some (.str (nfN R n w).1), some (.loc mh.length)], mh ++ [some (.lst ((acc ++ (nfN R n w).2).map sV))]) := by
  have z0 : 0 ≤ line := line_le (by omega)
  have cond : ∀ (w : Sx) (acc : List (Nat × Nat)), dat (.str w) = true → whC (callM T (k + 1)) mh.length lnC [some (RV R), some (.str w), some (.loc mh.length)] (mh ++ [some (.lst (acc.map sV))]) = some (!(stepsW R w).isEmpty, mh ++ [some (.lst (acc.map sV))]) := by
    intro w acc hw
    have c1 := sp_lsteps (k := k) (mh := mh ++ [some (.lst (acc.map sV))]) hR hw
    have e1 := eqV_nil (mh := mh ++ [some (.lst (acc.map sV))]) (stepsW R w)
    generalize (stepsW R w).isEmpty = eb at *
    generalize (stepsW R w).map sV = sm at *
    generalize RV R = rv at *
    generalize mh ++ [some (MO.lst (acc.map sV))] = m at *
    simp [whC, ev, evs, cmpV, c1, e1, z0]
  intro n
  induction n with
  | zero =>
    intro w acc hw hm ha hl
    have hs := (nfN_ok hD 0 w hw hm).1
    simp only [nfN] at hs ⊢
    rw [List.append_nil]
    refine while_stop ?_
    rw [cond w acc (dat_lw hb hw (by omega)), hs]
    rfl
  | succ n ih =>
    intro w acc hw hm ha hl
    have hc := cond w acc (dat_lw hb hw (by omega))
    unfold nfN
    cases e : stepsW R w with
    | nil =>
      simp only [List.append_nil]
      rw [e] at hc
      exact while_stop hc
    | cons s ss =>
      simp only
      have h1 : One R w (turnW R w s) := ⟨s, by rw [e]; exact List.mem_cons_self, rfl⟩
      obtain ⟨h2, h3, h4⟩ := one_mu hD hw h1
      have hdw := dat_lw hb hw (by omega)
      have ih' := ih (turnW R w s) (acc ++ [s]) h2 (by omega) (by rw [List.length_append, List.length_singleton]; omega) (by omega)
      rw [List.append_assoc] at ih'
      rw [e] at hc
      have hc : whC (callM T (k + 1)) mh.length lnC [some (RV R), some (.str w), some (.loc mh.length)] (mh ++ [some (.lst (acc.map sV))]) = some (true, mh ++ [some (.lst (acc.map sV))]) := hc
      refine while_go (mh1 := mh ++ [some (.lst (acc.map sV))]) (ρ1 := [some (RV R), some (.str (turnW R w s)), some (.loc mh.length)]) (mh2 := mh ++ [some (.lst ((acc ++ [s]).map sV))]) hc ?_ ih'
      have c1 := sp_lturned (k := k) (mh := mh ++ [some (.lst ((acc ++ [s]).map sV))]) (s := s) hR (step_lt e) hdw hl
      have c2 := sp_lsteps (k := k) (mh := mh ++ [some (.lst (acc.map sV))]) (w := w) hR hdw
      have h5 : (mh ++ [some (MO.lst (acc.map sV))])[mh.length]? = some (some (.lst (acc.map sV))) := get_app0
      have h5' : (mh ++ [some (MO.lst ((acc ++ [s]).map sV))])[mh.length]? = some (some (.lst (acc.map sV ++ [sV s]))) := by rw [List.map_append]; exact get_app0
      have h6 : (mh ++ [some (MO.lst (acc.map sV))]).set mh.length (some (.lst (acc.map sV ++ [sV s]))) = mh ++ [some (.lst ((acc ++ [s]).map sV))] := by rw [set_app0, List.map_append]; rfl
      have h7 : wr mh.length mh.length (sV s) = true := by simp [wr]
      have h8 : (acc.map sV).length < line := by rw [List.length_map]; exact line_lt (by omega)
      have h9 : idx (sV s :: ss.map sV) 0 = some (sV s) := atI0
      have h10 : idx (acc.map sV ++ [sV s]) (-1) = some (sV s) := idx_last
      rw [e, List.map_cons] at c2
      generalize mh ++ [some (MO.lst (acc.map sV))] = m at *
      generalize mh ++ [some (MO.lst ((acc ++ [s]).map sV))] = m' at *
      generalize acc.map sV = am at *
      generalize RV R = rv at *
      generalize sV s = sv at *
      generalize ss.map sV = sm at *
      generalize turnW R w s = tw at *
      simp [exs, ex, ev, evs, asg, subV, getL, h9, h10, c1, tyM, liveL, h5, h5', methV, appV, h7, h8, h6, c2]
theorem sp_lnormal {b : Nat} (hb : b ≤ 1000) (hR : OkR R) (hD : Dn b R) (hw : LW b w) (hl : w.length ≤ 12) : callM T (k + 2) 24 [RV R, .str w] mh = some (.tup [.str (nf b R w), .tup ((nfp b R w).2.map sV)], mh) := by
  have hdw := dat_lw hb hw (by omega)
  have hmu : mu b w < 16777216 := by
    have h1 := mu_lt hw
    have h2 : 4 ^ w.length ≤ 4 ^ 12 := Nat.pow_le_pow_right (by omega) hl
    omega
  obtain ⟨n1, n2, n3⟩ := nf_ok hD hw
  have hnl := star_mu hD n2 hw
  have z2 : 2 ≤ line := line_le (by omega)
  have z0 : 0 ≤ line := line_le (by omega)
  have loop := ln_loop (k := k) (mh := mh) hb hR hD (mu b w) w [] hw (Nat.le_refl _) (by simpa using hmu) (by omega)
  have hd : dat2 (.tup [.str (nf b R w), .tup ((nfp b R w).2.map sV)]) = true := dat_dat2 _ (dat_t2 (dat_lw hb hnl.1 (by omega)) (pd_ST _).dat)
  refine call_v (mh1 := mh ++ [some (.lst ((nfp b R w).2.map sV))]) (ρ0 := [some (RV R), some (.str w), none]) (ρ := [some (RV R), some (.str (nf b R w)), some (.loc mh.length)]) (fl := .rt (.tup [.str (nf b R w), .tup ((nfp b R w).2.map sV)])) rfl rfl ?_ rfl hd (take_app _)
  refine ex_go (ρ1 := [some (RV R), some (.str w), some (.loc mh.length)]) (mh1 := mh ++ [some (.lst [])]) (by simp [ex, ev, evs, asg, z0]) (ex_go (ρ1 := [some (RV R), some (.str (nf b R w)), some (.loc mh.length)]) (mh1 := mh ++ [some (.lst ((nfp b R w).2.map sV))]) ?_ (ex_end ?_))
  · rw [ex_while]
    exact loop
  · have h5 : (mh ++ [some (MO.lst ((nfp b R w).2.map sV))])[mh.length]? = some (some (.lst ((nfp b R w).2.map sV))) := get_app0
    generalize (nfp b R w).2.map sV = sm at *
    generalize mh ++ [some (MO.lst sm)] = m at *
    generalize RV R = rv at *
    simp [ex, ev, evs, biV, one1, tupV, getL, h5, z2]
end
end L2.Mi.k55

set_option Elab.async false
set_option linter.all false
set_option maxRecDepth 100000
set_option maxHeartbeats 4000000
/-! W55d: critical pairs, the program's and the law's. -/
namespace L2.Mi.k55
open PySem PySem.Spec PyProof.Rows L2.Mi
abbrev cV (c : CP) : MV := .tup [.str c.1, .str c.2.1, .str c.2.2]
def ovlA (p q : Rl) (m : Nat) : List CP := if p.1.drop (p.1.length - m) = q.1.take m then [(p.1 ++ q.1.drop m, p.2 ++ q.1.drop m, p.1.take (p.1.length - m) ++ q.2)] else []
def innA (p q : Rl) (k : Nat) : List CP := if hitW q.1 p.1 k = true ∧ p ≠ q then [(p.1, p.2, p.1.take k ++ q.2 ++ p.1.drop (k + q.1.length))] else []
theorem ovl_eq (p q : Rl) : ovl p q = (List.range' 1 (min p.1.length q.1.length - 1)).flatMap (ovlA p q) := by
  unfold ovl ovlA
  rw [fm_flat]
  congr 1
  funext m
  split <;> rfl
theorem inn_eq (p q : Rl) : inn p q = (List.range (p.1.length + 1 - q.1.length)).flatMap (innA p q) := by
  unfold inn innA
  rw [fm_flat]
  congr 1
  funext m
  split <;> rfl
theorem ovl_len {p q : Rl} (h : p.1.length ≤ 4) : (ovl p q).length ≤ 4 := by
  unfold ovl
  refine Nat.le_trans (List.length_filterMap_le _ _) ?_
  rw [List.length_range']
  omega
theorem inn_len {p q : Rl} (h : p.1.length ≤ 4) : (inn p q).length ≤ 5 := by
  unfold inn
  refine Nat.le_trans (List.length_filterMap_le _ _) ?_
  rw [List.length_range]
  omega
section
variable {R : List Rl} {k : Nat} {mh : MHp}
theorem row_len {p : Rl} (hR : OkR R) (hp : p ∈ R) : (R.flatMap fun q => ovl p q ++ inn p q).length ≤ 180 := by
  have := flat_le (f := fun q => ovl p q ++ inn p q) (n := 9) (xs := R) fun q _ => by
    have := ovl_len (q := q) (hR.l1 p hp)
    have := inn_len (q := q) (hR.l1 p hp)
    simp only [List.length_append]
    omega
  have := hR.len
  omega
theorem pairs_len (hR : OkR R) : (pairsW R).length ≤ 3600 := by
  have := flat_le (f := fun p => R.flatMap fun q => ovl p q ++ inn p q) (n := 180) (xs := R) fun p hp => row_len hR hp
  have := hR.len
  unfold pairsW
  omega
theorem pd_rV {p : Rl} (hR : OkR R) (hp : p ∈ R) : Pd (rV p) := Pd.tup (n := 0) (by omega) fun x hx => by
  simp only [List.mem_cons, List.not_mem_nil, or_false] at hx
  rcases hx with rfl | rfl
  · exact ⟨hR.d1 p hp, rfl, by simp [dep]⟩
  · exact ⟨hR.d2 p hp, rfl, by simp [dep]⟩
theorem rV_inj {p q : Rl} : rV p = rV q ↔ p = q := by
  constructor
  · intro h
    injection h with h
    injection h with h1 h2
    injection h1 with h1
    injection h2 with h2
    injection h2 with h2
    exact Prod.ext h1 h2
  · rintro rfl; rfl
/-! the loops' bodies: the two defs differ in a few words -/
abbrev ovB : List MS := [(.ite (.cmp .eq (.slcL (.var 2) (.neg (.var 6))) (.slcH (.var 4) (.var 6))) [(.ex (.meth .append (.var 1) [(.tup [(.bin .add (.var 2) (.slcL (.var 4) (.var 6))), (.bin .add (.var 3) (.slcL (.var 4) (.var 6))), (.bin .add (.slcH (.var 2) (.neg (.var 6))) (.var 5))])]))] [])]
abbrev inB : List MS := [(.ite (.and (.meth .start2 (.var 2) [(.var 4), (.var 7)]) (.cmp .ne (.tup [(.var 2), (.var 3)]) (.tup [(.var 4), (.var 5)]))) [(.ex (.meth .append (.var 1) [(.tup [(.var 2), (.var 3), (.bin .add (.bin .add (.slcH (.var 2) (.var 7)) (.var 5)) (.slcL (.var 2) (.bin .add (.var 7) (.bi .len [(.var 4)]))))])]))] [])]
abbrev lovB : List MS := [(.ite (.cmp .eq (.slcL (.var 2) (.bin .sub (.bi .len [(.var 2)]) (.var 6))) (.slcH (.var 4) (.var 6))) [(.ex (.meth .append (.var 1) [(.tup [(.bin .add (.var 2) (.slcL (.var 4) (.var 6))), (.bin .add (.var 3) (.slcL (.var 4) (.var 6))), (.bin .add (.slcH (.var 2) (.bin .sub (.bi .len [(.var 2)]) (.var 6))) (.var 5))])]))] [])]
abbrev linB : List MS := [(.ite (.and (.cmp .eq (.slcB (.var 2) (.var 7) (.bin .add (.var 7) (.bi .len [(.var 4)]))) (.var 4)) (.cmp .ne (.tup [(.var 2), (.var 3)]) (.tup [(.var 4), (.var 5)]))) [(.ex (.meth .append (.var 1) [(.tup [(.var 2), (.var 3), (.bin .add (.bin .add (.slcH (.var 2) (.var 7)) (.var 5)) (.slcL (.var 2) (.bin .add (.var 7) (.bi .len [(.var 4)]))))])]))] [])]
abbrev E8 (R : List Rl) (l : Nat) (p q : Rl) (o6 o7 : Option MV) : Env := [some (RV R), some (.loc l), some (.str p.1), some (.str p.2), some (.str q.1), some (.str q.2), o6, o7]
theorem cond_ne {C : CallF} {b : Nat} {p q : Rl} {o6 o7 : Option MV} (hR : OkR R) (hp : p ∈ R) (hq : q ∈ R) {l : Nat} {m : MHp} : ev C b (.cmp .ne (.tup [(.var 2), (.var 3)]) (.tup [(.var 4), (.var 5)])) (E8 R l p q o6 o7) m = some (.bl (decide (p ≠ q)), m) := by
  have z2 : 2 ≤ line := line_le (by omega)
  have e1 : eqV m (rV p) (rV q) = some (decide (p = q)) := eqV_b m (pd_rV hR hp) (pd_rV hR hq) (by rw [decide_eq_true_iff, rV_inj])
  generalize RV R = rv at *
  have e2 : (!decide (p = q)) = decide (p ≠ q) := by simp
  rw [← e2]
  generalize decide (p = q) = bb at *
  simp [ev, evs, cmpV, z2, e1]
/-- what the appended triple comes to -/
theorem in_app {C : CallF} {p q : Rl} {j : Nat} {o6 : Option MV} {acc : List CP} (hR : OkR R) (hp : p ∈ R) (hq : q ∈ R) (hj : j ≤ p.1.length) (ha : acc.length < 16777216) : ex C mh.length (.ex (.meth .append (.var 1) [(.tup [(.var 2), (.var 3), (.bin .add (.bin .add (.slcH (.var 2) (.var 7)) (.var 5)) (.slcL (.var 2) (.bin .add (.var 7) (.bi .len [(.var 4)]))))])])) (E8 R mh.length p q o6 (some (iV j))) (mh ++ [some (.lst (acc.map cV))]) = some (.nx, E8 R mh.length p q o6 (some (iV j)), mh ++ [some (.lst ((acc ++ [(p.1, p.2, p.1.take j ++ q.2 ++ p.1.drop (j + q.1.length))]).map cV))]) := by
  have z3 : 3 ≤ line := line_le (by omega)
  have l1 := hR.l1 p hp
  have l2 := hR.l2 p hp
  have m1 := hR.l1 q hq
  have m2 := hR.l2 q hq
  have := ex_app0 (C := C) (i := 1) (mh := mh) (ρ := E8 R mh.length p q o6 (some (iV j))) (acc := acc.map cV) (e := (.tup [(.var 2), (.var 3), (.bin .add (.bin .add (.slcH (.var 2) (.var 7)) (.var 5)) (.slcL (.var 2) (.bin .add (.var 7) (.bi .len [(.var 4)]))))])) (v := cV (p.1, p.2, p.1.take j ++ q.2 ++ p.1.drop (j + q.1.length))) rfl (by
    generalize mh ++ [some (MO.lst (acc.map cV))] = m at *
    have f1 : slcV m (.str p.1) none (some (j : Int)) = _ := slc_take (by omega)
    have f2 : slcV m (.str p.1) (some ((j : Int) + (q.1.length : Int))) none = some (.str (p.1.drop (j + q.1.length))) := by
      rw [← Int.natCast_add]
      exact slc_drop (by omega)
    have f3 : lenV m (.str q.1) = _ := len_str (by omega)
    have f4 : addV m (.str (p.1.take j)) (.str q.2) = _ := add_str (by rw [List.length_take]; omega) (by omega)
    have f5 : addV m (.str (p.1.take j ++ q.2)) (.str (p.1.drop (j + q.1.length))) = _ := add_str (by rw [List.length_append, List.length_take]; omega) (by rw [List.length_drop]; omega)
    generalize RV R = rv at *
    simp [ev, evs, binV, biV, one1, add_int, f1, f2, f3, f4, f5, z3]) (by simpa using ha)
  rw [this, List.map_append]
  rfl
theorem ov_app {C : CallF} {p q : Rl} {j : Nat} {o7 : Option MV} {acc : List CP} {n6 : ME} (h6 : ∀ m, ev C mh.length (.slcH (.var 2) n6) (E8 R mh.length p q (some (iV j)) o7) m = some (.str (p.1.take (p.1.length - j)), m)) (hR : OkR R) (hp : p ∈ R) (hq : q ∈ R) (ha : acc.length < 16777216) : ex C mh.length (.ex (.meth .append (.var 1) [(.tup [(.bin .add (.var 2) (.slcL (.var 4) (.var 6))), (.bin .add (.var 3) (.slcL (.var 4) (.var 6))), (.bin .add (.slcH (.var 2) n6) (.var 5))])])) (E8 R mh.length p q (some (iV j)) o7) (mh ++ [some (.lst (acc.map cV))]) = some (.nx, E8 R mh.length p q (some (iV j)) o7, mh ++ [some (.lst ((acc ++ [(p.1 ++ q.1.drop j, p.2 ++ q.1.drop j, p.1.take (p.1.length - j) ++ q.2)]).map cV))]) := by
  have z3 : 3 ≤ line := line_le (by omega)
  have l1 := hR.l1 p hp
  have l2 := hR.l2 p hp
  have m1 := hR.l1 q hq
  have m2 := hR.l2 q hq
  have := ex_app0 (C := C) (i := 1) (mh := mh) (ρ := E8 R mh.length p q (some (iV j)) o7) (acc := acc.map cV) (e := (.tup [(.bin .add (.var 2) (.slcL (.var 4) (.var 6))), (.bin .add (.var 3) (.slcL (.var 4) (.var 6))), (.bin .add (.slcH (.var 2) n6) (.var 5))])) (v := cV (p.1 ++ q.1.drop j, p.2 ++ q.1.drop j, p.1.take (p.1.length - j) ++ q.2)) rfl (by
    have h6 := h6 (mh ++ [some (MO.lst (acc.map cV))])
    generalize mh ++ [some (MO.lst (acc.map cV))] = m at *
    have f2 : slcV m (.str q.1) (some (j : Int)) none = _ := slc_drop (by omega)
    have f3 : addV m (.str p.1) (.str (q.1.drop j)) = _ := add_str (by omega) (by rw [List.length_drop]; omega)
    have f4 : addV m (.str p.2) (.str (q.1.drop j)) = _ := add_str (by omega) (by rw [List.length_drop]; omega)
    have f5 : addV m (.str (p.1.take (p.1.length - j))) (.str q.2) = _ := add_str (by rw [List.length_take]; omega) (by omega)
    generalize RV R = rv at *
    simp [ev, evs, binV, ↓h6, f2, f3, f4, f5, z3]) (by simpa using ha)
  rw [this, List.map_append]
  rfl
def RelP (R : List Rl) (mh : MHp) (p q : Rl) (s : List CP) (ρ : Env) (m : MHp) : Prop := (∃ o6 o7, ρ = E8 R mh.length p q o6 o7) ∧ m = mh ++ [some (.lst (s.map cV))]
theorem ov_loop {C : CallF} {p q : Rl} (hR : OkR R) (hp : p ∈ R) (hq : q ∈ R) {s : List CP} {ρ : Env} {m : MHp} (h : RelP R mh p q s ρ m) (hs : s.length ≤ 100000) {B : List MS} (hB : B = ovB ∨ B = lovB) :
    ∃ ρ' m', forGo ⟨(List.range' 1 (min p.1.length q.1.length - 1)).map iV, none⟩ (forF C mh.length (.nm 6) B) ((List.range' 1 (min p.1.length q.1.length - 1)).map iV) ρ m = some (.nx, ρ', m') ∧ RelP R mh p q (s ++ ovl p q) ρ' m' := by
  rw [ovl_eq]
  refine for_flat (J := ⟨(List.range' 1 (min p.1.length q.1.length - 1)).map iV, none⟩) (F := ovlA p q) (N := 1000000) (RelP R mh p q) (fun _ _ _ _ => Its.ok_none rfl _) (List.range' 1 (min p.1.length q.1.length - 1)) ?_ s ρ m h (by rw [← ovl_eq]; have := ovl_len (q := q) (hR.l1 p hp); omega)
  rintro j hj s ρ m ⟨⟨o6, o7, rfl⟩, rfl⟩ hl
  have hj := List.mem_range'_1.mp hj
  have l1 := hR.l1 p hp
  have m1 := hR.l1 q hq
  have hn6 : ∀ m, slcV m (.str p.1) none (some (-(j : Int))) = some (.str (p.1.take (p.1.length - j))) := fun m => slc_negH (by omega) (by omega) (by omega)
  have hn6l : ∀ m, slcV m (.str p.1) (some (-(j : Int))) none = some (.str (p.1.drop (p.1.length - j))) := fun m => slc_negL (by omega) (by omega) (by omega)
  have hi : (p.1.length : Int) - (j : Int) = ((p.1.length - j : Nat) : Int) := by omega
  have hm6 : ∀ m, slcV m (.str p.1) none (some ((p.1.length : Int) - (j : Int))) = some (.str (p.1.take (p.1.length - j))) := fun m => by rw [hi]; exact slc_take (by omega)
  have hm6l : ∀ m, slcV m (.str p.1) (some ((p.1.length : Int) - (j : Int))) none = some (.str (p.1.drop (p.1.length - j))) := fun m => by rw [hi]; exact slc_drop (by omega)
  have hql : ∀ m, slcV m (.str q.1) none (some (j : Int)) = some (.str (q.1.take j)) := fun m => slc_take (by omega)
  have hlp : ∀ m, lenV m (.str p.1) = _ := fun m => len_str (by omega)
  have heq : ∀ m, eqV m (.str (p.1.drop (p.1.length - j))) (.str (q.1.take j)) = some (decide (p.1.drop (p.1.length - j) = q.1.take j)) := fun m => eqV_str m _ _ (dat_drop _ (hR.d1 p hp)) (dat_take _ (hR.d1 q hq))
  refine ⟨_, _, ?_, ⟨some (iV j), o7, rfl⟩, rfl⟩
  have ha : asg (mh ++ [some (MO.lst (s.map cV))]) (.nm 6) (iV j) (E8 R mh.length p q o6 o7) = some (E8 R mh.length p q (some (iV j)) o7) := by simp [asg]
  unfold forF
  rw [ha]
  simp only
  have key : ∀ (cnd n6 : ME), (∀ m, ev C mh.length (.slcH (.var 2) n6) (E8 R mh.length p q (some (iV j)) o7) m = some (.str (p.1.take (p.1.length - j)), m)) → (∀ m, ev C mh.length cnd (E8 R mh.length p q (some (iV j)) o7) m = some (.bl (decide (p.1.drop (p.1.length - j) = q.1.take j)), m)) →
      exs C mh.length [(.ite cnd [(.ex (.meth .append (.var 1) [(.tup [(.bin .add (.var 2) (.slcL (.var 4) (.var 6))), (.bin .add (.var 3) (.slcL (.var 4) (.var 6))), (.bin .add (.slcH (.var 2) n6) (.var 5))])]))] [])] (E8 R mh.length p q (some (iV j)) o7) (mh ++ [some (.lst (s.map cV))]) = some (.nx, E8 R mh.length p q (some (iV j)) o7, mh ++ [some (.lst ((s ++ ovlA p q j).map cV))]) := fun cnd n6 h6 hc => by
    refine ex_go (ex_if (hc _) (fun h => ?_) (fun h => ?_)) ex_done
    · have h := of_decide_eq_true h
      unfold ovlA
      rw [if_pos h]
      exact ex_go (ov_app h6 hR hp hq (by omega)) ex_done
    · have h := of_decide_eq_false h
      unfold ovlA
      rw [if_neg h, List.append_nil]
      exact ex_done
  generalize decide (p.1.drop (p.1.length - j) = q.1.take j) = bb at *
  rcases hB with rfl | rfl
  · refine key _ _ (fun m => ?_) (fun m => ?_)
    · have := hn6 m
      generalize RV R = rv at *
      simp [ev, this]
    · have h1 := hn6l m
      have h2 := hql m
      have h3 := heq m
      generalize RV R = rv at *
      simp [ev, cmpV, h1, h2, h3]
  · refine key _ _ (fun m => ?_) (fun m => ?_)
    · have h1 := hm6 m
      have h2 := hlp m
      generalize RV R = rv at *
      simp [ev, evs, biV, one1, binV, intV, h1, h2]
    · have h1 := hm6l m
      have h2 := hql m
      have h3 := heq m
      have h4 := hlp m
      generalize RV R = rv at *
      simp [ev, evs, biV, one1, binV, intV, cmpV, h1, h2, h3, h4]
theorem in_loop {C : CallF} {p q : Rl} (hR : OkR R) (hp : p ∈ R) (hq : q ∈ R) {s : List CP} {ρ : Env} {m : MHp} (h : RelP R mh p q s ρ m) (hs : s.length ≤ 100000) {B : List MS} (hB : B = inB ∨ B = linB) :
    ∃ ρ' m', forGo ⟨(List.range (p.1.length + 1 - q.1.length)).map iV, none⟩ (forF C mh.length (.nm 7) B) ((List.range (p.1.length + 1 - q.1.length)).map iV) ρ m = some (.nx, ρ', m') ∧ RelP R mh p q (s ++ inn p q) ρ' m' := by
  rw [inn_eq]
  refine for_flat (J := ⟨(List.range (p.1.length + 1 - q.1.length)).map iV, none⟩) (F := innA p q) (N := 1000000) (RelP R mh p q) (fun _ _ _ _ => Its.ok_none rfl _) (List.range (p.1.length + 1 - q.1.length)) ?_ s ρ m h (by rw [← inn_eq]; have := inn_len (q := q) (hR.l1 p hp); omega)
  rintro j hj s ρ m ⟨⟨o6, o7, rfl⟩, rfl⟩ hl
  have hj := List.mem_range.mp hj
  have l1 := hR.l1 p hp
  have m1 := hR.l1 q hq
  have hst : Txt.startswith3 ⟨p.1.toArray⟩ ⟨q.1.toArray⟩ (j : Int) = hitW q.1 p.1 j := starts_hit (by omega)
  have hmid : ∀ m, slcV m (.str p.1) (some (j : Int)) (some ((j : Int) + (q.1.length : Int))) = some (.str ((p.1.drop j).take q.1.length)) := fun m => by
    rw [← Int.natCast_add, slc_mid (by omega), Nat.add_sub_cancel_left]
  have heq : ∀ m, eqV m (.str ((p.1.drop j).take q.1.length)) (.str q.1) = some (hitW q.1 p.1 j) := fun m => eqV_str m _ _ (dat_take _ (dat_drop _ (hR.d1 p hp))) (hR.d1 q hq)
  have hlq : ∀ m, lenV m (.str q.1) = _ := fun m => len_str (by omega)
  refine ⟨_, _, ?_, ⟨o6, some (iV j), rfl⟩, rfl⟩
  have ha : asg (mh ++ [some (MO.lst (s.map cV))]) (.nm 7) (iV j) (E8 R mh.length p q o6 o7) = some (E8 R mh.length p q o6 (some (iV j))) := by simp [asg]
  unfold forF
  rw [ha]
  simp only
  have key : ∀ (cnd : ME), (∀ m, ev C mh.length cnd (E8 R mh.length p q o6 (some (iV j))) m = some (.bl (hitW q.1 p.1 j && decide (p ≠ q)), m)) →
      exs C mh.length [(.ite cnd [(.ex (.meth .append (.var 1) [(.tup [(.var 2), (.var 3), (.bin .add (.bin .add (.slcH (.var 2) (.var 7)) (.var 5)) (.slcL (.var 2) (.bin .add (.var 7) (.bi .len [(.var 4)]))))])]))] [])] (E8 R mh.length p q o6 (some (iV j))) (mh ++ [some (.lst (s.map cV))]) = some (.nx, E8 R mh.length p q o6 (some (iV j)), mh ++ [some (.lst ((s ++ innA p q j).map cV))]) := fun cnd hc => by
    refine ex_go (ex_if (hc _) (fun h => ?_) (fun h => ?_)) ex_done
    · rw [Bool.and_eq_true, decide_eq_true_iff] at h
      unfold innA
      rw [if_pos h]
      exact ex_go (in_app hR hp hq (by omega) (by omega)) ex_done
    · have h : ¬ (hitW q.1 p.1 j = true ∧ p ≠ q) := fun z => by
        rw [z.1, decide_eq_true z.2] at h
        cases h
      unfold innA
      rw [if_neg h, List.append_nil]
      exact ex_done
  have hne : ∀ m, ev C mh.length (.cmp .ne (.tup [(.var 2), (.var 3)]) (.tup [(.var 4), (.var 5)])) (E8 R mh.length p q o6 (some (iV j))) m = _ := fun m => cond_ne hR hp hq
  generalize decide (p ≠ q) = bb at *
  generalize hitW q.1 p.1 j = hh at *
  rcases hB with rfl | rfl
  · refine key _ (fun m => ?_)
    have h1 := hne m
    generalize RV R = rv at *
    refine ev_andB ?_ fun _ => h1
    simp [ev, evs, methV, startV, tyM, hst]
  · refine key _ (fun m => ?_)
    have h1 := hne m
    have h2 := hmid m
    have h3 := heq m
    have h4 := hlq m
    generalize RV R = rv at *
    refine ev_andB ?_ fun _ => h1
    simp [ev, evs, biV, one1, binV, intV, add_int, cmpV, h2, h3, h4]
/-- the two loops over the rules -/
def RelO (R : List Rl) (mh : MHp) (s : List CP) (ρ : Env) (m : MHp) : Prop := (∃ o2 o3 o4 o5 o6 o7, ρ = [some (RV R), some (.loc mh.length), o2, o3, o4, o5, o6, o7]) ∧ m = mh ++ [some (.lst (s.map cV))]
def RelQ (R : List Rl) (mh : MHp) (p : Rl) (s : List CP) (ρ : Env) (m : MHp) : Prop := (∃ o4 o5 o6 o7, ρ = [some (RV R), some (.loc mh.length), some (.str p.1), some (.str p.2), o4, o5, o6, o7]) ∧ m = mh ++ [some (.lst (s.map cV))]
abbrev ovF (B1 B2 : List MS) : MS := (.for (.tp [(.nm 2), (.nm 3)]) (.var 0) [(.for (.tp [(.nm 4), (.nm 5)]) (.var 0) [(.for (.nm 6) (.rng2 (.c (.int (1))) (.bi .min [(.bi .len [(.var 2)]), (.bi .len [(.var 4)])])) B1), (.for (.nm 7) (.rng1 (.bin .add (.bin .sub (.bi .len [(.var 2)]) (.bi .len [(.var 4)])) (.c (.int (1))))) B2)])])
theorem rule_step {C : CallF} {p q : Rl} (hR : OkR R) (hp : p ∈ R) (hq : q ∈ R) {s : List CP} {ρ : Env} {m : MHp} (h : RelQ R mh p s ρ m) (hs : s.length ≤ 90000) {B1 B2 : List MS} (hB : B1 = ovB ∨ B1 = lovB) (hB2 : B2 = inB ∨ B2 = linB) :
    ∃ ρ' m', forF C mh.length (.tp [(.nm 4), (.nm 5)]) [(.for (.nm 6) (.rng2 (.c (.int (1))) (.bi .min [(.bi .len [(.var 2)]), (.bi .len [(.var 4)])])) B1), (.for (.nm 7) (.rng1 (.bin .add (.bin .sub (.bi .len [(.var 2)]) (.bi .len [(.var 4)])) (.c (.int (1))))) B2)] (rV q) ρ m = some (.nx, ρ', m') ∧ RelQ R mh p (s ++ (ovl p q ++ inn p q)) ρ' m' := by
  obtain ⟨⟨o4, o5, o6, o7, rfl⟩, rfl⟩ := h
  have l1 := hR.l1 p hp
  have m1 := hR.l1 q hq
  obtain ⟨ρ1, m1', e1, ⟨o6', o7', rfl⟩, rfl⟩ := ov_loop (C := C) (mh := mh) hR hp hq (s := s) ⟨⟨o6, o7, rfl⟩, rfl⟩ (by omega) hB
  obtain ⟨ρ2, m2', e2, ⟨o6'', o7'', rfl⟩, rfl⟩ := in_loop (C := C) (mh := mh) hR hp hq (s := s ++ ovl p q) ⟨⟨o6', o7', rfl⟩, rfl⟩ (by have := ovl_len (q := q) l1; rw [List.length_append]; omega) hB2
  refine ⟨E8 R mh.length p q o6'' o7'', _, ?_, ⟨some (.str q.1), some (.str q.2), o6'', o7'', rfl⟩, by rw [← List.append_assoc]⟩
  have ha : asg (mh ++ [some (MO.lst (s.map cV))]) (.tp [(.nm 4), (.nm 5)]) (rV q) [some (RV R), some (.loc mh.length), some (.str p.1), some (.str p.2), o4, o5, o6, o7] = some (E8 R mh.length p q o6 o7) := by simp [asg, asgs]
  unfold forF
  rw [ha]
  simp only
  refine ex_go (ρ1 := E8 R mh.length p q o6' o7') (mh1 := mh ++ [some (.lst ((s ++ ovl p q).map cV))]) ?_ (ex_go (ρ1 := E8 R mh.length p q o6'' o7'') (mh1 := mh ++ [some (.lst ((s ++ ovl p q ++ inn p q).map cV))]) ?_ ex_done)
  · have hlp : lenV (mh ++ [some (MO.lst (s.map cV))]) (.str p.1) = _ := len_str (by omega)
    have hlq : lenV (mh ++ [some (MO.lst (s.map cV))]) (.str q.1) = _ := len_str (by omega)
    rw [ex_for, evI_rng2 (i := 1) (j := min p.1.length q.1.length) (by simp [ev]) ?_ (by omega) (by omega)]
    · exact e1
    · generalize mh ++ [some (MO.lst (s.map cV))] = m at *
      generalize RV R = rv at *
      simp [ev, evs, biV, one1, minV, hlp, hlq]
      split <;> omega
  · have hlp : lenV (mh ++ [some (MO.lst ((s ++ ovl p q).map cV))]) (.str p.1) = _ := len_str (by omega)
    have hlq : lenV (mh ++ [some (MO.lst ((s ++ ovl p q).map cV))]) (.str q.1) = _ := len_str (by omega)
    rw [ex_for, evI_rng1Z (z := (p.1.length : Int) - (q.1.length : Int) + 1) ?_ (by omega) (by omega)]
    · rw [show ((p.1.length : Int) - (q.1.length : Int) + 1).toNat = p.1.length + 1 - q.1.length by omega]
      exact e2
    · generalize mh ++ [some (MO.lst ((s ++ ovl p q).map cV))] = m at *
      generalize RV R = rv at *
      simp [ev, evs, biV, one1, binV, intV, add_int, hlp, hlq]
theorem pairs_run {C : CallF} (hR : OkR R) {B1 B2 : List MS} (hB : B1 = ovB ∨ B1 = lovB) (hB2 : B2 = inB ∨ B2 = linB) : ∃ ρ', exs C mh.length [(.set (.nm 1) (.al (.lst []))), ovF B1 B2, (.ret (.var 1))] [some (RV R), none, none, none, none, none, none, none] mh = some (.rt (.loc mh.length), ρ', mh ++ [some (.lst ((pairsW R).map cV))]) := by
  have z0 : 0 ≤ line := line_le (by omega)
  have outer := for_flat (J := ⟨R.map rV, none⟩) (f := forF C mh.length (.tp [(.nm 2), (.nm 3)]) [(.for (.tp [(.nm 4), (.nm 5)]) (.var 0) [(.for (.nm 6) (.rng2 (.c (.int (1))) (.bi .min [(.bi .len [(.var 2)]), (.bi .len [(.var 4)])])) B1), (.for (.nm 7) (.rng1 (.bin .add (.bin .sub (.bi .len [(.var 2)]) (.bi .len [(.var 4)])) (.c (.int (1))))) B2)])]) (emb := rV) (F := fun p => R.flatMap fun q => ovl p q ++ inn p q) (N := 10000) (RelO R mh) (fun _ _ _ _ => Its.ok_none rfl _) R (by
    rintro p hp s ρ m ⟨⟨o2, o3, o4, o5, o6, o7, rfl⟩, rfl⟩ hl
    obtain ⟨ρ1, m1, e1, ⟨p4, p5, p6, p7, rfl⟩, rfl⟩ := for_flat (J := ⟨R.map rV, none⟩) (f := forF C mh.length (.tp [(.nm 4), (.nm 5)]) [(.for (.nm 6) (.rng2 (.c (.int (1))) (.bi .min [(.bi .len [(.var 2)]), (.bi .len [(.var 4)])])) B1), (.for (.nm 7) (.rng1 (.bin .add (.bin .sub (.bi .len [(.var 2)]) (.bi .len [(.var 4)])) (.c (.int (1))))) B2)]) (emb := rV) (F := fun q => ovl p q ++ inn p q) (N := 20000) (RelQ R mh p) (fun _ _ _ _ => Its.ok_none rfl _) R (fun q hq s ρ m h hl => rule_step hR hp hq h (by omega) hB hB2) s [some (RV R), some (.loc mh.length), some (.str p.1), some (.str p.2), o4, o5, o6, o7] (mh ++ [some (.lst (s.map cV))]) ⟨⟨o4, o5, o6, o7, rfl⟩, rfl⟩ (by omega)
    refine ⟨[some (RV R), some (.loc mh.length), some (.str p.1), some (.str p.2), p4, p5, p6, p7], _, ?_, ⟨some (.str p.1), some (.str p.2), p4, p5, p6, p7, rfl⟩, rfl⟩
    have ha : asg (mh ++ [some (MO.lst (s.map cV))]) (.tp [(.nm 2), (.nm 3)]) (rV p) [some (RV R), some (.loc mh.length), o2, o3, o4, o5, o6, o7] = some [some (RV R), some (.loc mh.length), some (.str p.1), some (.str p.2), o4, o5, o6, o7] := by simp [asg, asgs]
    have hi : evI C mh.length (.var 0) [some (RV R), some (.loc mh.length), some (.str p.1), some (.str p.2), o4, o5, o6, o7] (mh ++ [some (MO.lst (s.map cV))]) = some (⟨R.map rV, none⟩, mh ++ [some (MO.lst (s.map cV))]) := evI_var rfl rfl
    unfold forF
    rw [ha]
    simp only
    refine ex_go ?_ ex_done
    rw [ex_for, hi]
    exact e1)
  obtain ⟨ρ1, m1, e1, ⟨o2, o3, o4, o5, o6, o7, rfl⟩, rfl⟩ := outer [] [some (RV R), some (.loc mh.length), none, none, none, none, none, none] (mh ++ [some (.lst [])]) ⟨⟨_, _, _, _, _, _, rfl⟩, rfl⟩ (by have := pairs_len hR; simpa [pairsW] using Nat.le_trans this (by omega))
  refine ⟨[some (RV R), some (.loc mh.length), o2, o3, o4, o5, o6, o7], ex_go (ρ1 := [some (RV R), some (.loc mh.length), none, none, none, none, none, none]) (mh1 := mh ++ [some (.lst [])]) (by simp [ex, ev, evs, asg, z0]) (ex_go (ρ1 := [some (RV R), some (.loc mh.length), o2, o3, o4, o5, o6, o7]) (mh1 := mh ++ [some (.lst ((pairsW R).map cV))]) ?_ (ex_end ?_))⟩
  · have hi : evI C mh.length (.var 0) [some (RV R), some (.loc mh.length), none, none, none, none, none, none] (mh ++ [some (MO.lst [])]) = some (⟨R.map rV, none⟩, mh ++ [some (MO.lst [])]) := evI_var rfl rfl
    rw [ex_for, hi]
    exact e1
  · simp [ex, ev]
theorem pair_dat (hR : OkR R) {c : CP} (h : c ∈ pairsW R) : dat (.str c.1) = true ∧ dat (.str c.2.1) = true ∧ dat (.str c.2.2) = true ∧ c.1.length ≤ 8 ∧ c.2.1.length ≤ 8 ∧ c.2.2.length ≤ 8 := by
  unfold pairsW at h
  obtain ⟨p, hp, h⟩ := List.mem_flatMap.mp h
  obtain ⟨q, hq, h⟩ := List.mem_flatMap.mp h
  have p1 := hR.l1 p hp
  have p2 := hR.l2 p hp
  have q1 := hR.l1 q hq
  have q2 := hR.l2 q hq
  have dp1 := hR.d1 p hp
  have dp2 := hR.d2 p hp
  have dq1 := hR.d1 q hq
  have dq2 := hR.d2 q hq
  rcases List.mem_append.mp h with h | h
  · unfold ovl at h
    obtain ⟨m, hm, e⟩ := List.mem_filterMap.mp h
    split at e
    · cases e
      simp only [List.length_append, List.length_drop, List.length_take]
      exact ⟨dat_appS dp1 (dat_drop _ dq1) (by simp only [List.length_drop]; omega), dat_appS dp2 (dat_drop _ dq1) (by simp only [List.length_drop]; omega), dat_appS (dat_take _ dp1) dq2 (by simp only [List.length_take]; omega), by omega, by omega, by omega⟩
    · cases e
  · unfold inn at h
    obtain ⟨j, hj, e⟩ := List.mem_filterMap.mp h
    split at e
    · cases e
      have hj := List.mem_range.mp hj
      simp only [List.length_append, List.length_drop, List.length_take]
      exact ⟨dp1, dp2, dat_appS (dat_appS (dat_take _ dp1) dq2 (by simp only [List.length_take]; omega)) (dat_drop _ dp1) (by simp only [List.length_append, List.length_take, List.length_drop]; omega), by omega, by omega, by omega⟩
    · cases e
theorem pd_cV (hR : OkR R) {c : CP} (h : c ∈ pairsW R) : dat (cV c) = true ∧ pln (cV c) = true ∧ dep (cV c) ≤ 1 := by
  obtain ⟨h1, h2, h3, _⟩ := pair_dat hR h
  exact ⟨dat_t3 h1 h2 h3, rfl, by simp [dep, deps]⟩
theorem pd_PL (hR : OkR R) : Pd (.lst ((pairsW R).map cV)) := Pd.lst (n := 1) (by omega) fun x hx => by
  obtain ⟨c, hc, rfl⟩ := List.mem_map.mp hx
  exact pd_cV hR hc
theorem dats_PL (hR : OkR R) : dats ((pairsW R).map cV) = true := dats_iff.mpr fun x hx => by
  obtain ⟨c, hc, rfl⟩ := List.mem_map.mp hx
  exact (pd_cV hR hc).1
theorem sp_overlaps (hR : OkR R) : callM T (k + 1) 11 [RV R] mh = some (.lst ((pairsW R).map cV), mh) := by
  obtain ⟨ρ', e⟩ := pairs_run (C := callM T k) (mh := mh) hR (.inl rfl) (.inl rfl)
  exact call_own (l := mh.length) rfl rfl e get_app0 (dats_PL hR) (Nat.le_refl _) (take_app _)
theorem sp_lpairs (hR : OkR R) : callM T (k + 1) 25 [RV R] mh = some (.lst ((pairsW R).map cV), mh) := by
  obtain ⟨ρ', e⟩ := pairs_run (C := callM T k) (mh := mh) hR (.inr rfl) (.inr rfl)
  exact call_own (l := mh.length) rfl rfl e get_app0 (dats_PL hR) (Nat.le_refl _) (take_app _)
end
end L2.Mi.k55

set_option Elab.async false
set_option linter.all false
set_option maxRecDepth 100000
set_option maxHeartbeats 4000000
/-! W55e: the law's search of all normal words, plainly. -/
namespace L2.Mi.k55
open PySem PySem.Spec PyProof.Rows L2.Mi
def addB (st : List Sx × List Sx) (v : Sx) : List Sx × List Sx := if v ∉ st.1 ∧ st.1.length < 300 then (st.1 ++ [v], st.2 ++ [v]) else st
def oneB (R : List Rl) (s : List Sx × List Sx × List Sx) (now : Sx) : List Sx × List Sx × List Sx :=
  ((((stepsW R now).map (turnW R now)).foldl addB (s.1, s.2.1)).1, (((stepsW R now).map (turnW R now)).foldl addB (s.1, s.2.1)).2, if stepsW R now = [] ∧ now ∉ s.2.2 then s.2.2 ++ [now] else s.2.2)
def lvl (R : List Rl) (level seen found : List Sx) : List Sx × List Sx × List Sx := level.foldl (oneB R) (seen, [], found)
def bfs (R : List Rl) : Nat → List Sx → List Sx → List Sx → List Sx × List Sx × List Sx
  | 0, l, s, f => (l, s, f)
  | n + 1, l, s, f => if l = [] then (l, s, f) else bfs R n (lvl R l s f).2.1 (lvl R l s f).1 (lvl R l s f).2.2
theorem addB_fold : ∀ (vs : List Sx) (st : List Sx × List Sx), st.1.length ≤ 300 → ∃ ext, (vs.foldl addB st).1 = st.1 ++ ext ∧ (vs.foldl addB st).2 = st.2 ++ ext ∧ (st.1 ++ ext).length ≤ 300 ∧ (∀ v ∈ ext, v ∈ vs) ∧ ((st.1 ++ ext).length < 300 → ∀ v ∈ vs, v ∈ st.1 ++ ext)
  | [], st, h => ⟨[], by simp, by simp, by simpa using h, by simp, by simp⟩
  | v :: vs, st, h => by
    rw [List.foldl_cons]
    by_cases hc : v ∉ st.1 ∧ st.1.length < 300
    · have e : addB st v = (st.1 ++ [v], st.2 ++ [v]) := if_pos hc
      rw [e]
      obtain ⟨ext, h1, h2, h3, h4, h5⟩ := addB_fold vs (st.1 ++ [v], st.2 ++ [v]) (by simp only [List.length_append, List.length_singleton]; omega)
      refine ⟨v :: ext, by rw [h1]; simp, by rw [h2]; simp, by simpa using h3, fun u hu => ?_, fun hl u hu => ?_⟩
      · rcases List.mem_cons.mp hu with rfl | hu
        · exact List.mem_cons_self
        · exact List.mem_cons_of_mem _ (h4 u hu)
      · have h5 := h5 (by simpa using hl)
        rcases List.mem_cons.mp hu with rfl | hu
        · simp
        · have := h5 u hu
          simpa using this
    · have e : addB st v = st := if_neg hc
      rw [e]
      obtain ⟨ext, h1, h2, h3, h4, h5⟩ := addB_fold vs st h
      refine ⟨ext, h1, h2, h3, fun u hu => List.mem_cons_of_mem _ (h4 u hu), fun hl u hu => ?_⟩
      rcases List.mem_cons.mp hu with rfl | hu
      · have : u ∈ st.1 := Classical.byContradiction fun z => hc ⟨z, by rw [List.length_append] at hl; omega⟩
        exact List.mem_append_left _ this
      · exact h5 hl u hu
/-- what one level comes to -/
structure LvOk (R : List Rl) (level : List Sx) (s t : List Sx × List Sx × List Sx) (ext add : List Sx) : Prop where
  e1 : t.1 = s.1 ++ ext
  e2 : t.2.1 = s.2.1 ++ ext
  e3 : t.2.2 = s.2.2 ++ add
  le : t.1.length ≤ 300
  from_ : ∀ v ∈ ext, ∃ x ∈ level, One R x v
  all : t.1.length < 300 → ∀ x ∈ level, ∀ v, One R x v → v ∈ t.1
  norm : ∀ v ∈ add, v ∈ level ∧ stepsW R v = []
  nd : s.2.2.Nodup → t.2.2.Nodup
  every : ∀ x ∈ level, stepsW R x = [] → x ∈ t.2.2
  alen : add.length ≤ level.length
theorem lvl_ok {R : List Rl} : ∀ (level : List Sx) (s : List Sx × List Sx × List Sx), s.1.length ≤ 300 → ∃ ext add, LvOk R level s (level.foldl (oneB R) s) ext add
  | [], s, h => ⟨[], [], by simp, by simp, by simp, h, by simp, by simp, by simp, fun h => h, by simp, by simp⟩
  | x :: level, s, h => by
    rw [List.foldl_cons]
    obtain ⟨ex1, a1, a2, a3, a4, a5⟩ := addB_fold ((stepsW R x).map (turnW R x)) (s.1, s.2.1) h
    simp only at a1 a2 a3 a5
    obtain ⟨ext, add, L⟩ := lvl_ok (R := R) level (oneB R s x) (by show (((stepsW R x).map (turnW R x)).foldl addB (s.1, s.2.1)).1.length ≤ 300; rw [a1]; exact a3)
    have o1 : (oneB R s x).1 = s.1 ++ ex1 := a1
    have o2 : (oneB R s x).2.1 = s.2.1 ++ ex1 := a2
    obtain ⟨ad1, o3, n1, n2, n3, n4⟩ : ∃ ad1, (oneB R s x).2.2 = s.2.2 ++ ad1 ∧ (∀ v ∈ ad1, v = x ∧ stepsW R v = []) ∧ (s.2.2.Nodup → (s.2.2 ++ ad1).Nodup) ∧ (stepsW R x = [] → x ∈ s.2.2 ++ ad1) ∧ ad1.length ≤ 1 := by
      show ∃ ad1, (if stepsW R x = [] ∧ x ∉ s.2.2 then s.2.2 ++ [x] else s.2.2) = s.2.2 ++ ad1 ∧ _
      by_cases hc : stepsW R x = [] ∧ x ∉ s.2.2
      · rw [if_pos hc]
        refine ⟨[x], rfl, fun v hv => by simp at hv; subst hv; exact ⟨rfl, hc.1⟩, fun hn => ?_, fun _ => by simp, by simp⟩
        rw [List.nodup_append]
        exact ⟨hn, by simp, fun a ha b hb => by simp at hb; subst hb; rintro rfl; exact hc.2 ha⟩
      · rw [if_neg hc]
        refine ⟨[], by simp, by simp, fun hn => by simpa using hn, fun hs => ?_, by simp⟩
        rw [List.append_nil]
        exact Classical.byContradiction fun z => hc ⟨hs, z⟩
    refine ⟨ex1 ++ ext, ad1 ++ add, ?_, ?_, ?_, L.le, ?_, ?_, ?_, ?_, ?_, ?_⟩
    · rw [L.e1, o1, List.append_assoc]
    · rw [L.e2, o2, List.append_assoc]
    · rw [L.e3, o3, List.append_assoc]
    · intro v hv
      rcases List.mem_append.mp hv with hv | hv
      · obtain ⟨st, hst, rfl⟩ := List.mem_map.mp (a4 v hv)
        exact ⟨x, List.mem_cons_self, st, hst, rfl⟩
      · obtain ⟨y, hy, ho⟩ := L.from_ v hv
        exact ⟨y, List.mem_cons_of_mem _ hy, ho⟩
    · intro hl y hy v ho
      rcases List.mem_cons.mp hy with rfl | hy
      · obtain ⟨st, hst, rfl⟩ := ho
        rw [L.e1, o1]
        refine List.mem_append_left _ (a5 ?_ _ (List.mem_map.mpr ⟨st, hst, rfl⟩))
        rw [L.e1, o1, List.length_append] at hl
        omega
      · exact L.all hl y hy v ho
    · intro v hv
      rcases List.mem_append.mp hv with hv | hv
      · obtain ⟨rfl, h2⟩ := n1 v hv
        exact ⟨List.mem_cons_self, h2⟩
      · exact ⟨List.mem_cons_of_mem _ (L.norm v hv).1, (L.norm v hv).2⟩
    · intro hn
      exact L.nd (by rw [o3]; exact n2 hn)
    · intro y hy hs
      rcases List.mem_cons.mp hy with rfl | hy
      · rw [L.e3, o3]
        exact List.mem_append_left _ (n3 hs)
      · exact L.every y hy hs
    · have := L.alen
      simp only [List.length_append, List.length_cons]
      omega
theorem bfs_nil {R : List Rl} {n : Nat} {s f : List Sx} : bfs R n [] s f = ([], s, f) := by cases n <;> simp [bfs]
theorem bfs_end {R : List Rl} : ∀ (n : Nat) (l s f : List Sx), s.length ≤ 300 → 301 ≤ n + s.length → (bfs R n l s f).1 = []
  | 0, l, s, f, h1, h2 => by omega
  | n + 1, l, s, f, h1, h2 => by
    unfold bfs
    by_cases hl : l = []
    · rw [if_pos hl]; exact hl
    · rw [if_neg hl]
      obtain ⟨ext, add, L⟩ := lvl_ok (R := R) l (s, [], f) h1
      have e1 : (lvl R l s f).1 = s ++ ext := L.e1
      have e2 : (lvl R l s f).2.1 = ext := L.e2.trans (List.nil_append _)
      rw [e1, e2]
      cases ext with
      | nil => rw [bfs_nil]
      | cons v ext =>
        refine bfs_end n _ _ _ (by rw [← e1]; exact L.le) ?_
        simp only [List.length_append, List.length_cons]
        omega
/-- what the search finds -/
theorem bfs_ok {R : List Rl} (w : Sx) : ∀ (n : Nat) (l s f : List Sx), s.length ≤ 300 → (∀ x ∈ s, Star R w x) → (∀ x ∈ l, x ∈ s) → f.Nodup → (∀ x ∈ f, Star R w x ∧ stepsW R x = []) → (bfs R n l s f).1 = [] →
    (∀ x ∈ s, x ∈ (bfs R n l s f).2.1) ∧ (bfs R n l s f).2.1.length ≤ 300 ∧ (∀ x ∈ f, x ∈ (bfs R n l s f).2.2) ∧ (bfs R n l s f).2.2.Nodup ∧ (∀ x ∈ (bfs R n l s f).2.2, Star R w x ∧ stepsW R x = []) ∧
    ((bfs R n l s f).2.1.length < 300 → (∀ x ∈ l, (∀ v, One R x v → v ∈ (bfs R n l s f).2.1) ∧ (stepsW R x = [] → x ∈ (bfs R n l s f).2.2)) ∧ ∀ x ∈ (bfs R n l s f).2.1, x ∈ s ∨ ((∀ v, One R x v → v ∈ (bfs R n l s f).2.1) ∧ (stepsW R x = [] → x ∈ (bfs R n l s f).2.2)))
  | 0, l, s, f, h1, h2, h3, h4, h5, h6 => by
    simp only [bfs] at h6 ⊢
    subst h6
    exact ⟨fun x hx => hx, h1, fun x hx => hx, h4, h5, fun _ => ⟨by simp, fun x hx => .inl hx⟩⟩
  | n + 1, l, s, f, h1, h2, h3, h4, h5, h6 => by
    unfold bfs at h6 ⊢
    by_cases hl : l = []
    · rw [if_pos hl] at h6 ⊢
      subst hl
      exact ⟨fun x hx => hx, h1, fun x hx => hx, h4, h5, fun _ => ⟨by simp, fun x hx => .inl hx⟩⟩
    · rw [if_neg hl] at h6 ⊢
      obtain ⟨ext, add, L⟩ := lvl_ok (R := R) l (s, [], f) h1
      have e1 : (lvl R l s f).1 = s ++ ext := L.e1
      have e2 : (lvl R l s f).2.1 = ext := L.e2.trans (List.nil_append _)
      have e3 : (lvl R l s f).2.2 = f ++ add := L.e3
      have le : (s ++ ext).length ≤ 300 := by rw [← e1]; exact L.le
      have nd : (f ++ add).Nodup := by rw [← e3]; exact L.nd h4
      have all : (s ++ ext).length < 300 → ∀ x ∈ l, ∀ v, One R x v → v ∈ s ++ ext := by rw [← e1]; exact L.all
      have every : ∀ x ∈ l, stepsW R x = [] → x ∈ f ++ add := by rw [← e3]; exact L.every
      rw [e1, e2, e3] at h6 ⊢
      obtain ⟨b1, b2, b3, b4, b5, b6⟩ := bfs_ok w n ext (s ++ ext) (f ++ add) le (fun x hx => by
        rcases List.mem_append.mp hx with hx | hx
        · exact h2 x hx
        · obtain ⟨y, hy, ho⟩ := L.from_ x hx
          exact (h2 y (h3 y hy)).trans (.one ho)) (fun x hx => List.mem_append_right _ hx) nd (fun x hx => by
        rcases List.mem_append.mp hx with hx | hx
        · exact h5 x hx
        · obtain ⟨q1, q2⟩ := L.norm x hx
          exact ⟨h2 x (h3 x q1), q2⟩) h6
      refine ⟨fun x hx => b1 x (List.mem_append_left _ hx), b2, fun x hx => b3 x (List.mem_append_left _ hx), b4, b5, fun hlt => ?_⟩
      obtain ⟨c1, c2⟩ := b6 hlt
      have hlt2 : (s ++ ext).length < 300 := by
        -- the seen ones grow
        have gen : ∀ (n : Nat) (l s f : List Sx), s.length ≤ 300 → s.length ≤ (bfs R n l s f).2.1.length := by
          intro n
          induction n with
          | zero => intro l s f _; exact Nat.le_refl _
          | succ n ih =>
            intro l s f h1
            unfold bfs
            by_cases hl : l = []
            · rw [if_pos hl]; exact Nat.le_refl _
            · rw [if_neg hl]
              obtain ⟨ext, add, L⟩ := lvl_ok (R := R) l (s, [], f) h1
              have e1 : (lvl R l s f).1 = s ++ ext := L.e1
              have := ih (lvl R l s f).2.1 (lvl R l s f).1 (lvl R l s f).2.2 L.le
              rw [e1, List.length_append] at this
              rw [e1]
              omega
        have := gen n ext (s ++ ext) (f ++ add) le
        omega
      refine ⟨fun x hx => ⟨fun v ho => b1 v (all hlt2 x hx v ho), fun hs => b3 x (every x hx hs)⟩, fun x hx => ?_⟩
      rcases c2 x hx with hx | hx
      · rcases List.mem_append.mp hx with hx | hx
        · exact .inl hx
        · exact .inr (c1 x hx)
      · exact .inr hx
def endsB (R : List Rl) (w : Sx) : List Sx × List Sx × List Sx := bfs R 302 [w] [w] []
theorem ends_ok {R : List Rl} (w : Sx) : (endsB R w).1 = [] ∧ (endsB R w).2.1.length ≤ 300 ∧ (endsB R w).2.2.Nodup ∧ (∀ x ∈ (endsB R w).2.2, Star R w x ∧ stepsW R x = []) ∧ ((endsB R w).2.1.length < 300 → ∀ x, Star R w x → stepsW R x = [] → x ∈ (endsB R w).2.2) := by
  have h0 : (endsB R w).1 = [] := bfs_end 302 [w] [w] [] (by simp) (by simp)
  obtain ⟨b1, b2, b3, b4, b5, b6⟩ := bfs_ok (R := R) w 302 [w] [w] [] (by simp) (fun x hx => by simp at hx; subst hx; exact .refl _) (fun x hx => hx) (by simp) (by simp) h0
  refine ⟨h0, b2, b4, b5, fun hlt x hx hs => ?_⟩
  obtain ⟨c1, c2⟩ := b6 hlt
  have closed : ∀ x ∈ (endsB R w).2.1, (∀ v, One R x v → v ∈ (endsB R w).2.1) ∧ (stepsW R x = [] → x ∈ (endsB R w).2.2) := fun x hx => by
    rcases c2 x hx with hx | hx
    · exact c1 x hx
    · exact hx
  have reach : ∀ a c, Star R a c → a ∈ (endsB R w).2.1 → c ∈ (endsB R w).2.1 := by
    intro a c h
    induction h with
    | refl => exact fun h => h
    | head ho _ ih => exact fun h => ih ((closed _ h).1 _ ho)
  exact (closed x (reach w x hx (b1 w (by simp)))).2 hs
theorem ends_meets {b : Nat} {R : List Rl} (hR : Dn b R) (hm : MeetsW b R) {w : Sx} (hw : LW b w) (hl : (endsB R w).2.1.length < 300) : (endsB R w).2.2 = [nf b R w] := by
  obtain ⟨h0, h1, h2, h3, h4⟩ := ends_ok (R := R) w
  obtain ⟨z1, z2, _⟩ := nf_ok hR hw
  have m := h4 hl _ z2 z1
  have all : ∀ x ∈ (endsB R w).2.2, x = nf b R w := fun x hx => meets_nf hR hm hw (h3 x hx).1 (h3 x hx).2
  generalize (endsB R w).2.2 = f at *
  match f, m, all, h2 with
  | [x], m, all, _ => rw [all x (by simp)]
  | x :: y :: f, m, all, h2 =>
    exfalso
    have e1 := all x (by simp)
    have e2 := all y (by simp)
    rw [List.nodup_cons] at h2
    exact h2.1 (by rw [e1, e2]; simp)
theorem ends_two {R : List Rl} {w u v : Sx} (h1 : Star R w u) (h2 : Star R w v) (n1 : stepsW R u = []) (n2 : stepsW R v = []) (hne : u ≠ v) (hl : (endsB R w).2.1.length < 300) : 2 ≤ (endsB R w).2.2.length := by
  obtain ⟨_, _, _, _, h4⟩ := ends_ok (R := R) w
  have a := h4 hl u h1 n1
  have c := h4 hl v h2 n2
  generalize (endsB R w).2.2 = f at *
  match f, a, c with
  | [x], a, c =>
    simp at a c
    exact absurd (a.trans c.symm) hne
  | _ :: _ :: f, _, _ => simp
end L2.Mi.k55

set_option Elab.async false
set_option linter.all false
set_option maxRecDepth 100000
set_option maxHeartbeats 4000000
/-! W55f: the law's search, reckoned; do the pairs meet. -/
namespace L2.Mi.k55
open PySem PySem.Spec PyProof.Rows L2.Mi
abbrev wS (w : Sx) : MV := .str w
/-- rules that go down, as the law draws them -/
structure Rok (b : Nat) (R : List Rl) : Prop where
  ok : OkR R
  dn : Dn b R
  hb : b ≤ 1000
section
variable {b : Nat} {R : List Rl} {k : Nat} {mh : MHp}
/-- a word that is drawn or comes of one -/
structure Wk (b : Nat) (w : Sx) : Prop where
  lw : LW b w
  len : w.length ≤ 12
theorem Wk.dat {w : Sx} (h : Wk b w) (hb : b ≤ 1000) : dat (.str w) = true := dat_lw hb h.lw (by have := h.len; omega)
theorem Wk.one {w v : Sx} (h : Wk b w) (hR : Rok b R) (ho : One R w v) : Wk b v := by
  obtain ⟨h1, _, h3⟩ := one_mu hR.dn h.lw ho
  exact ⟨h1, by have := h.len; omega⟩
theorem Wk.nf {w : Sx} (h : Wk b w) (hR : Rok b R) : Wk b (nf b R w) := by
  obtain ⟨_, h2, _⟩ := nf_ok hR.dn h.lw
  obtain ⟨h3, _, h5⟩ := star_mu hR.dn h2 h.lw
  exact ⟨h3, by have := h.len; omega⟩
theorem dats_ws {ws : List Sx} (hb : b ≤ 1000) (h : ∀ w ∈ ws, Wk b w) : dats (ws.map wS) = true := dats_iff.mpr fun x hx => by
  obtain ⟨w, hw, rfl⟩ := List.mem_map.mp hx
  exact (h w hw).dat hb
theorem pd_ws {ws : List Sx} (hb : b ≤ 1000) (h : ∀ w ∈ ws, Wk b w) : Pd (.lst (ws.map wS)) := Pd.lst (n := 0) (by omega) fun x hx => by
  obtain ⟨w, hw, rfl⟩ := List.mem_map.mp hx
  exact ⟨(h w hw).dat hb, rfl, by simp [dep]⟩
theorem mem_ws {w : Sx} {ws : List Sx} : wS w ∈ ws.map wS ↔ w ∈ ws := by
  constructor
  · intro h
    obtain ⟨v, hv, e⟩ := List.mem_map.mp h
    injection e with e
    subst e
    exact hv
  · exact fun h => List.mem_map.mpr ⟨w, h, rfl⟩
/-- is a word in a live list of words? -/
theorem mem_live {w : Sx} {ws : List Sx} {m : MHp} {l : Nat} (hb : b ≤ 1000) (hw : Wk b w) (h : ∀ w ∈ ws, Wk b w) (hl : m[l]? = some (some (.lst (ws.map wS)))) : memV m (.str w) (.loc l) = some (decide (w ∈ ws)) := by
  refine memV_b m (Pd.str (hw.dat hb)) (frz_loc hl (dats_ws hb h) (Nat.zero_le _)) (fun c t z => by cases z.2) (pd_ws hb h) ?_
  rw [decide_eq_true_iff]
  exact mem_ws.symm
theorem take_set_le {α : Type} {xs : List α} {n i : Nat} {x : α} (h : n ≤ i) : (xs.set i x).take n = xs.take n := by
  rw [List.take_set, List.set_eq_of_length_le (by rw [List.length_take]; omega)]
/-- the search's world: seen at a, found at a + 1, ahead at la; the level that is walked at lv -/
structure RelB (b : Nat) (R : List Rl) (w : Sx) (mh : MHp) (la : Nat) (lvV : MV) (lv : Option Nat) (items : List Sx) (s : List Sx × List Sx × List Sx) (m : MHp) : Prop where
  tk : m.take mh.length = mh
  hla : mh.length + 2 ≤ la
  h0 : m[mh.length]? = some (some (.lst (s.1.map wS)))
  h1 : m[mh.length + 1]? = some (some (.lst (s.2.2.map wS)))
  h2 : m[la]? = some (some (.lst (s.2.1.map wS)))
  hlv : ∀ l, lv = some l → mh.length + 2 ≤ l ∧ l < la ∧ m[l]? = some (some (.lst (items.map wS)))
  k0 : ∀ v ∈ s.1, Wk b v
  k1 : ∀ v ∈ s.2.2, Wk b v
  k2 : ∀ v ∈ s.2.1, Wk b v
  n0 : s.1.length ≤ 300
  n2 : s.2.1.length ≤ s.1.length
abbrev EB (R : List Rl) (w : Sx) (lvV : MV) (a la : Nat) (o6 o7 o8 o9 : Option MV) : Env := [some (RV R), some (.str w), some lvV, some (.loc a), some (.loc (a + 1)), some (.loc la), o6, o7, o8, o9]
abbrev leS1 : MS := (.set (.nm 7) (.call 22 [(.var 0), (.var 6)]))
abbrev leS2 : MS := (.ite (.and (.cmp .eq (.var 7) (.lst [])) (.cmp .nmem (.var 6) (.var 4))) [(.ex (.meth .append (.var 4) [(.var 6)]))] [])
abbrev leB3 : List MS := [(.set (.nm 9) (.call 23 [(.var 0), (.var 6), (.var 8)])), (.ite (.and (.cmp .nmem (.var 9) (.var 3)) (.cmp .lt (.bi .len [(.var 3)]) (.c (.int (300))))) [(.ex (.meth .append (.var 3) [(.var 9)])), (.ex (.meth .append (.var 5) [(.var 9)]))] [])]
abbrev leS3 : MS := (.for (.nm 8) (.var 7) leB3)
abbrev leW : List MS := [(.set (.nm 5) (.al (.lst []))), (.for (.nm 6) (.var 2) [leS1, leS2, leS3]), (.set (.nm 2) (.var 5))]
theorem le_step3 (hR : Rok b R) {w now : Sx} {la : Nat} {lvV : MV} {lv : Option Nat} {items : List Sx} {s : List Sx × List Sx × List Sx} {m : MHp} {o7 o8 o9 : Option MV} {st : Nat × Nat} (hnow : Wk b now) (hst : st ∈ stepsW R now) (hB : RelB b R w mh la lvV lv items s m) :
    ∃ o8' o9' m', forF (callM T (k + 1)) mh.length (.nm 8) leB3 (sV st) (EB R w lvV mh.length la (some (wS now)) o7 o8 o9) m = some (.nx, EB R w lvV mh.length la (some (wS now)) o7 o8' o9', m') ∧
      RelB b R w mh la lvV lv items ((addB (s.1, s.2.1) (turnW R now st)).1, (addB (s.1, s.2.1) (turnW R now st)).2, s.2.2) m' := by
  have ho : One R now (turnW R now st) := ⟨st, hst, rfl⟩
  have hv := hnow.one hR ho
  have hlt : st.1 < R.length := (mem_stepsW.mp (show (st.1, st.2) ∈ stepsW R now from hst)).1
  have c1 := sp_lturned (k := k) (mh := m) (s := st) hR.ok hlt (hnow.dat hR.hb) (by have := hnow.len; omega)
  generalize turnW R now st = v at *
  have ha : asg m (.nm 8) (sV st) (EB R w lvV mh.length la (some (wS now)) o7 o8 o9) = some (EB R w lvV mh.length la (some (wS now)) o7 (some (sV st)) o9) := by simp [asg]
  have r1 : ex (callM T (k + 1)) mh.length (.set (.nm 9) (.call 23 [(.var 0), (.var 6), (.var 8)])) (EB R w lvV mh.length la (some (wS now)) o7 (some (sV st)) o9) m = some (.nx, EB R w lvV mh.length la (some (wS now)) o7 (some (sV st)) (some (wS v)), m) := by
    simp [ex, ev, evs, asg, c1]
  have hm := mem_live (b := b) (ws := s.1) (m := m) hR.hb hv hB.k0 hB.h0
  have hlen : lenV m (.loc mh.length) = some (.int (s.1.length : Int)) := by simp [lenV, getL, hB.h0]
  have hc : ev (callM T (k + 1)) mh.length (.and (.cmp .nmem (.var 9) (.var 3)) (.cmp .lt (.bi .len [(.var 3)]) (.c (.int (300))))) (EB R w lvV mh.length la (some (wS now)) o7 (some (sV st)) (some (wS v))) m = some (.bl (!decide (v ∈ s.1) && decide (s.1.length < 300)), m) := by
    refine ev_andB ?_ fun _ => ?_
    · generalize decide (v ∈ s.1) = bb at *
      simp [ev, cmpV, hm]
    · simp [ev, evs, biV, one1, hlen, cmpV, ordV]
      omega
  have fin : ∃ m', ex (callM T (k + 1)) mh.length (.ite (.and (.cmp .nmem (.var 9) (.var 3)) (.cmp .lt (.bi .len [(.var 3)]) (.c (.int (300))))) [(.ex (.meth .append (.var 3) [(.var 9)])), (.ex (.meth .append (.var 5) [(.var 9)]))] []) (EB R w lvV mh.length la (some (wS now)) o7 (some (sV st)) (some (wS v))) m = some (.nx, EB R w lvV mh.length la (some (wS now)) o7 (some (sV st)) (some (wS v)), m') ∧ RelB b R w mh la lvV lv items ((addB (s.1, s.2.1) v).1, (addB (s.1, s.2.1) v).2, s.2.2) m' := by
    by_cases hcc : v ∉ s.1 ∧ s.1.length < 300
    · have e : addB (s.1, s.2.1) v = (s.1 ++ [v], s.2.1 ++ [v]) := if_pos hcc
      rw [e]
      have hb : (!decide (v ∈ s.1) && decide (s.1.length < 300)) = true := by simp [hcc.1, hcc.2]
      rw [hb] at hc
      have hne1 : mh.length ≠ la := by have := hB.hla; omega
      have hne2 : mh.length + 1 ≠ la := by have := hB.hla; omega
      have g2 : (m.set mh.length (some (.lst (s.1.map wS ++ [wS v]))))[la]? = some (some (.lst (s.2.1.map wS))) := by rw [get_set_ne hne1]; exact hB.h2
      have a1 := ex_app (C := callM T (k + 1)) (b := mh.length) (i := 3) (e := .var 9) (ρ := EB R w lvV mh.length la (some (wS now)) o7 (some (sV st)) (some (wS v))) (m := m) (m1 := m) (v := wS v) rfl (by simp [liveL, hB.h0]) (by simp [ev]) hB.h0 (wr_own (Nat.le_refl _)) (by rw [List.length_map]; have := hB.n0; omega)
      have a2 := ex_app (C := callM T (k + 1)) (b := mh.length) (i := 5) (e := .var 9) (ρ := EB R w lvV mh.length la (some (wS now)) o7 (some (sV st)) (some (wS v))) (m := m.set mh.length (some (.lst (s.1.map wS ++ [wS v])))) (m1 := m.set mh.length (some (.lst (s.1.map wS ++ [wS v])))) (v := wS v) rfl (by simp only [liveL, g2]; rfl) (by simp [ev]) g2 (wr_own (by have := hB.hla; omega)) (by rw [List.length_map]; have := hB.n0; have := hB.n2; omega)
      refine ⟨_, (ex_iteT hc).trans (ex_go a1 (ex_go a2 ex_done)), ?_⟩
      have hlm : la < m.length := (List.getElem?_eq_some_iff.mp hB.h2).1
      constructor
      · rw [take_set_le (by have := hB.hla; omega), take_set_le (Nat.le_refl _)]
        exact hB.tk
      · exact hB.hla
      · rw [get_set_ne (Ne.symm hne1), get_set_eq hB.h0, List.map_append]
        rfl
      · rw [get_set_ne (Ne.symm hne2), get_set_ne (by omega)]
        exact hB.h1
      · rw [get_set_eq g2, List.map_append]
        rfl
      · intro l hl
        obtain ⟨q1, q2, q3⟩ := hB.hlv l hl
        refine ⟨q1, q2, ?_⟩
        rw [get_set_ne (by omega), get_set_ne (by omega)]
        exact q3
      · intro u hu
        rcases List.mem_append.mp hu with hu | hu
        · exact hB.k0 u hu
        · simp at hu; subst hu; exact hv
      · exact hB.k1
      · intro u hu
        rcases List.mem_append.mp hu with hu | hu
        · exact hB.k2 u hu
        · simp at hu; subst hu; exact hv
      · simp only [List.length_append, List.length_singleton]; omega
      · have := hB.n2
        simp only [List.length_append, List.length_singleton]; omega
    · have e : addB (s.1, s.2.1) v = (s.1, s.2.1) := if_neg hcc
      rw [e]
      have hb : (!decide (v ∈ s.1) && decide (s.1.length < 300)) = false := by
        by_cases h1 : v ∈ s.1
        · simp [h1]
        · have : ¬ s.1.length < 300 := fun z => hcc ⟨h1, z⟩
          simp [this]
      rw [hb] at hc
      exact ⟨m, (ex_iteF hc).trans ex_done, hB⟩
  obtain ⟨m', e2, hB'⟩ := fin
  refine ⟨some (sV st), some (wS v), m', ?_, hB'⟩
  unfold forF
  rw [ha]
  exact ex_go r1 (ex_go e2 ex_done)
theorem le_step (hR : Rok b R) {w now : Sx} {la : Nat} {lvV : MV} {lv : Option Nat} {items : List Sx} {s : List Sx × List Sx × List Sx} {m : MHp} {o6 o7 o8 o9 : Option MV} (hnow : Wk b now) (hf : s.2.2.length < 16000000) (hB : RelB b R w mh la lvV lv items s m) :
    ∃ o6' o7' o8' o9' m', forF (callM T (k + 1)) mh.length (.nm 6) [leS1, leS2, leS3] (wS now) (EB R w lvV mh.length la o6 o7 o8 o9) m = some (.nx, EB R w lvV mh.length la o6' o7' o8' o9', m') ∧
      RelB b R w mh la lvV lv items (oneB R s now) m' := by
  have z0 : 0 ≤ line := line_le (by omega)
  have ha : asg m (.nm 6) (wS now) (EB R w lvV mh.length la o6 o7 o8 o9) = some (EB R w lvV mh.length la (some (wS now)) o7 o8 o9) := by simp [asg]
  have c1 := sp_lsteps (k := k) (mh := m) (w := now) hR.ok (hnow.dat hR.hb)
  have r1 : ex (callM T (k + 1)) mh.length leS1 (EB R w lvV mh.length la (some (wS now)) o7 o8 o9) m = some (.nx, EB R w lvV mh.length la (some (wS now)) (some (.lst ((stepsW R now).map sV))) o8 o9, m) := by
    generalize (stepsW R now).map sV = sm at *
    simp [leS1, ex, ev, evs, asg, c1]
  have hm := mem_live (b := b) (ws := s.2.2) (m := m) hR.hb hnow hB.k1 hB.h1
  have hnil := eqV_nil (mh := m) (stepsW R now)
  have hc : ev (callM T (k + 1)) mh.length (.and (.cmp .eq (.var 7) (.lst [])) (.cmp .nmem (.var 6) (.var 4))) (EB R w lvV mh.length la (some (wS now)) (some (.lst ((stepsW R now).map sV))) o8 o9) m = some (.bl ((stepsW R now).isEmpty && !decide (now ∈ s.2.2)), m) := by
    generalize (stepsW R now).map sV = sm at *
    generalize (stepsW R now).isEmpty = eb at *
    generalize decide (now ∈ s.2.2) = db at *
    refine ev_andB ?_ fun _ => ?_
    · simp [ev, evs, cmpV, hnil, z0]
    · simp [ev, cmpV, hm]
  have r2 : ∃ m1, ex (callM T (k + 1)) mh.length leS2 (EB R w lvV mh.length la (some (wS now)) (some (.lst ((stepsW R now).map sV))) o8 o9) m = some (.nx, EB R w lvV mh.length la (some (wS now)) (some (.lst ((stepsW R now).map sV))) o8 o9, m1) ∧ RelB b R w mh la lvV lv items (s.1, s.2.1, if stepsW R now = [] ∧ now ∉ s.2.2 then s.2.2 ++ [now] else s.2.2) m1 := by
    by_cases hcc : stepsW R now = [] ∧ now ∉ s.2.2
    · rw [if_pos hcc]
      have hb : ((stepsW R now).isEmpty && !decide (now ∈ s.2.2)) = true := by simp [hcc.1, hcc.2]
      rw [hb] at hc
      have hne2 : mh.length + 1 ≠ la := by have := hB.hla; omega
      have a1 := ex_app (C := callM T (k + 1)) (b := mh.length) (i := 4) (e := .var 6) (ρ := EB R w lvV mh.length la (some (wS now)) (some (.lst ((stepsW R now).map sV))) o8 o9) (m := m) (m1 := m) (v := wS now) rfl (by simp [liveL, hB.h1]) (by simp [ev]) hB.h1 (wr_own (by omega)) (by rw [List.length_map]; omega)
      refine ⟨_, (ex_iteT hc).trans (ex_go a1 ex_done), ?_⟩
      constructor
      · rw [take_set_le (by omega)]
        exact hB.tk
      · exact hB.hla
      · rw [get_set_ne (by omega)]
        exact hB.h0
      · rw [get_set_eq hB.h1, List.map_append]
        rfl
      · rw [get_set_ne hne2]
        exact hB.h2
      · intro l hl
        obtain ⟨q1, q2, q3⟩ := hB.hlv l hl
        refine ⟨q1, q2, ?_⟩
        rw [get_set_ne (by omega)]
        exact q3
      · exact hB.k0
      · intro u hu
        rcases List.mem_append.mp hu with hu | hu
        · exact hB.k1 u hu
        · simp at hu; subst hu; exact hnow
      · exact hB.k2
      · exact hB.n0
      · exact hB.n2
    · rw [if_neg hcc]
      have hb : ((stepsW R now).isEmpty && !decide (now ∈ s.2.2)) = false := by
        cases h1 : stepsW R now with
        | cons _ _ => rfl
        | nil =>
          have : now ∈ s.2.2 := Classical.byContradiction fun z => hcc ⟨h1, z⟩
          simp [this]
      rw [hb] at hc
      exact ⟨m, (ex_iteF hc).trans ex_done, hB⟩
  obtain ⟨m1, r2, hB1⟩ := r2
  generalize hfd : (if stepsW R now = [] ∧ now ∉ s.2.2 then s.2.2 ++ [now] else s.2.2) = fd at *
  obtain ⟨ρ3, m3, e3, ⟨o8', o9', rfl⟩, hB3⟩ := for_rel (J := ⟨(stepsW R now).map sV, none⟩) (f := forF (callM T (k + 1)) mh.length (.nm 8) leB3) (emb := sV) (g := fun s st => addB s (turnW R now st)) (fun s ρ m => (∃ o8 o9, ρ = EB R w lvV mh.length la (some (wS now)) (some (.lst ((stepsW R now).map sV))) o8 o9) ∧ RelB b R w mh la lvV lv items (s.1, s.2, fd) m) (fun _ _ _ _ => Its.ok_none rfl _) (stepsW R now) (by
    rintro st hst s' ρ m ⟨⟨o8, o9, rfl⟩, hB⟩
    obtain ⟨p8, p9, m', e, hB'⟩ := le_step3 (k := k) (o7 := some (.lst ((stepsW R now).map sV))) (o8 := o8) (o9 := o9) hR hnow hst hB
    exact ⟨_, m', e, ⟨p8, p9, rfl⟩, hB'⟩) (s.1, s.2.1) (EB R w lvV mh.length la (some (wS now)) (some (.lst ((stepsW R now).map sV))) o8 o9) m1 ⟨⟨o8, o9, rfl⟩, hB1⟩
  refine ⟨some (wS now), some (.lst ((stepsW R now).map sV)), o8', o9', m3, ?_, ?_⟩
  · unfold forF
    rw [ha]
    refine ex_go r1 (ex_go r2 (ex_go ?_ ex_done))
    have hi : evI (callM T (k + 1)) mh.length (.var 7) (EB R w lvV mh.length la (some (wS now)) (some (.lst ((stepsW R now).map sV))) o8 o9) m1 = some (⟨(stepsW R now).map sV, none⟩, m1) := evI_var rfl rfl
    rw [ex_for, hi]
    exact e3
  · unfold oneB
    rw [hfd, List.foldl_map]
    exact hB3
/-- one level -/
theorem le_level (hR : Rok b R) {w : Sx} {la : Nat} {lvV : MV} {lv : Option Nat} {items : List Sx} {s : List Sx × List Sx × List Sx} {m : MHp} {o6 o7 o8 o9 : Option MV} (hit : ∀ v ∈ items, Wk b v) (hf : s.2.2.length + items.length ≤ 10000000) (hB : RelB b R w mh la lvV lv items s m) :
    ∃ o6' o7' o8' o9' m', forGo ⟨items.map wS, lv⟩ (forF (callM T (k + 1)) mh.length (.nm 6) [leS1, leS2, leS3]) (items.map wS) (EB R w lvV mh.length la o6 o7 o8 o9) m = some (.nx, EB R w lvV mh.length la o6' o7' o8' o9', m') ∧
      RelB b R w mh la lvV lv items (items.foldl (oneB R) s) m' := by
  have gen : ∀ (xs : List Sx) (s : List Sx × List Sx × List Sx) (m : MHp) (o6 o7 o8 o9 : Option MV), (∀ v ∈ xs, Wk b v) → s.2.2.length + xs.length ≤ 10000000 → RelB b R w mh la lvV lv items s m → ∃ o6' o7' o8' o9' m', forGo ⟨items.map wS, lv⟩ (forF (callM T (k + 1)) mh.length (.nm 6) [leS1, leS2, leS3]) (xs.map wS) (EB R w lvV mh.length la o6 o7 o8 o9) m = some (.nx, EB R w lvV mh.length la o6' o7' o8' o9', m') ∧
      RelB b R w mh la lvV lv items (xs.foldl (oneB R) s) m' := by
    intro xs
    induction xs with
    | nil =>
      intro s m o6 o7 o8 o9 _ _ hB
      refine ⟨o6, o7, o8, o9, m, forGo_nil_ok ?_, hB⟩
      cases hl : lv with
      | none => exact Its.ok_none rfl _
      | some l => exact (hB.hlv l hl).2.2
    | cons x xs ih =>
      intro s m o6 o7 o8 o9 hk hf hB
      simp only [List.length_cons] at hf
      obtain ⟨p6, p7, p8, p9, m1, e, hB1⟩ := le_step (k := k) (o6 := o6) (o7 := o7) (o8 := o8) (o9 := o9) hR (hk x List.mem_cons_self) (by omega) hB
      have hf1 : (oneB R s x).2.2.length ≤ s.2.2.length + 1 := by
        show (if stepsW R x = [] ∧ x ∉ s.2.2 then s.2.2 ++ [x] else s.2.2).length ≤ _
        split
        · simp
        · omega
      obtain ⟨q6, q7, q8, q9, m2, e2, hB2⟩ := ih (oneB R s x) m1 p6 p7 p8 p9 (fun v hv => hk v (List.mem_cons_of_mem _ hv)) (by omega) hB1
      refine ⟨q6, q7, q8, q9, m2, ?_, hB2⟩
      have ok : Its.ok ⟨items.map wS, lv⟩ m := by
        cases hl : lv with
        | none => exact Its.ok_none rfl _
        | some l => exact (hB.hlv l hl).2.2
      rw [List.map_cons, forGo_cons_ok ok, e]
      exact e2
  exact gen items s m o6 o7 o8 o9 hit hf hB
end
end L2.Mi.k55

set_option Elab.async false
set_option linter.all false
set_option maxRecDepth 100000
set_option maxHeartbeats 4000000
/-! W55g: the law's search at its end; words_meet and what goes with it. -/
namespace L2.Mi.k55
open PySem PySem.Spec PyProof.Rows L2.Mi
section
variable {b : Nat} {R : List Rl} {k : Nat} {mh : MHp}
theorem le_loop (hR : Rok b R) {w : Sx} : ∀ (n : Nat) (level seen found : List Sx) (m : MHp) (lvV : MV) (lv : Option Nat) (o5 o6 o7 o8 o9 : Option MV),
    (lv = none ∧ lvV = .lst (level.map wS) ∨ ∃ l, lv = some l ∧ lvV = .loc l ∧ mh.length + 2 ≤ l ∧ m[l]? = some (some (.lst (level.map wS)))) →
    m.take mh.length = mh → mh.length + 2 ≤ m.length → m[mh.length]? = some (some (.lst (seen.map wS))) → m[mh.length + 1]? = some (some (.lst (found.map wS))) →
    (∀ v ∈ level, Wk b v) → (∀ v ∈ seen, Wk b v) → (∀ v ∈ found, Wk b v) → seen.length ≤ 300 → level.length ≤ 300 → found.length + n * 300 ≤ 1000000 → (bfs R n level seen found).1 = [] →
    ∃ ρ' m', whileM (whC (callM T (k + 1)) mh.length (.cmp .ne (.var 2) (.lst []))) (exs (callM T (k + 1)) mh.length leW) [some (RV R), some (.str w), some lvV, some (.loc mh.length), some (.loc (mh.length + 1)), o5, o6, o7, o8, o9] m = some (.nx, ρ', m') ∧
      (∃ p2 p5 p6 p7 p8 p9, ρ' = [some (RV R), some (.str w), p2, some (.loc mh.length), some (.loc (mh.length + 1)), p5, p6, p7, p8, p9]) ∧ m'.take mh.length = mh ∧
      m'[mh.length]? = some (some (.lst ((bfs R n level seen found).2.1.map wS))) ∧ m'[mh.length + 1]? = some (some (.lst ((bfs R n level seen found).2.2.map wS))) ∧ ∀ v ∈ (bfs R n level seen found).2.2, Wk b v := by
  have z0 : 0 ≤ line := line_le (by omega)
  intro n
  induction n with
  | zero =>
    intro level seen found m lvV lv o5 o6 o7 o8 o9 hlv tk hml h0 h1 kl ks kf ns nl nf he
    simp only [bfs] at he ⊢
    subst he
    refine ⟨_, m, while_stop (mh1 := m) ?_, ⟨_, _, _, _, _, _, rfl⟩, tk, h0, h1, kf⟩
    have he : eqV m lvV (.lst []) = some true := by
      rcases hlv with ⟨_, rfl⟩ | ⟨l, _, rfl, _, hl⟩
      · exact eqV_b m (pd_ws hR.hb kl) (Pd.lst (n := 0) (by omega) (by simp)) (by simp)
      · exact eqV_fz m (frz_loc hl (dats_ws hR.hb kl) (Nat.zero_le _)) (frz_dat _ rfl) (pd_ws hR.hb kl) (Pd.lst (n := 0) (by omega) (by simp)) (by simp)
    simp [whC, ev, evs, cmpV, he, z0]
  | succ n ih =>
    intro level seen found m lvV lv o5 o6 o7 o8 o9 hlv tk hml h0 h1 kl ks kf ns nl nf he
    have hcond : eqV m lvV (.lst []) = some (decide (level = [])) := by
      rcases hlv with ⟨_, rfl⟩ | ⟨l, _, rfl, _, hl⟩
      · exact eqV_b m (pd_ws hR.hb kl) (Pd.lst (n := 0) (by omega) (by simp)) (by simp)
      · exact eqV_fz m (frz_loc hl (dats_ws hR.hb kl) (Nat.zero_le _)) (frz_dat _ rfl) (pd_ws hR.hb kl) (Pd.lst (n := 0) (by omega) (by simp)) (by simp)
    unfold bfs at he ⊢
    by_cases hl : level = []
    · rw [if_pos hl] at he ⊢
      rw [decide_eq_true hl] at hcond
      refine ⟨_, m, while_stop (mh1 := m) ?_, ⟨_, _, _, _, _, _, rfl⟩, tk, h0, h1, kf⟩
      simp [whC, ev, evs, cmpV, hcond, z0]
    · rw [if_neg hl] at he ⊢
      rw [decide_eq_false hl] at hcond
      -- the level
      have hB : RelB b R w mh m.length lvV lv level (seen, [], found) (m ++ [some (.lst [])]) := by
        constructor
        · rw [List.take_append_of_le_length (by omega)]; exact tk
        · exact hml
        · rw [List.getElem?_append_left (by omega)]; exact h0
        · rw [List.getElem?_append_left (by omega)]; exact h1
        · exact get_app0
        · intro l e
          rcases hlv with ⟨e2, _⟩ | ⟨l', e2, _, q1, q2⟩
          · rw [e] at e2; cases e2
          · rw [e] at e2
            cases e2
            have := (List.getElem?_eq_some_iff.mp q2).1
            exact ⟨q1, this, by rw [List.getElem?_append_left this]; exact q2⟩
        · exact ks
        · exact kf
        · simp
        · exact ns
        · simp
      obtain ⟨p6, p7, p8, p9, m1, e1, hB1⟩ := le_level (k := k) (o6 := o6) (o7 := o7) (o8 := o8) (o9 := o9) hR kl (by simp only; omega) hB
      obtain ⟨ext, add, L⟩ := lvl_ok (R := R) level (seen, [], found) ns
      have ee : level.foldl (oneB R) (seen, [], found) = lvl R level seen found := rfl
      rw [ee] at hB1 L
      have hext : (lvl R level seen found).2.1.length ≤ 300 := by
        have := hB1.n2
        have := hB1.n0
        omega
      have hadd : (lvl R level seen found).2.2.length + n * 300 ≤ 1000000 := by
        have e3 := L.e3
        have := L.alen
        rw [e3, List.length_append]
        simp only at *
        rw [Nat.succ_mul] at nf
        omega
      have hm1 : m.length < m1.length := (List.getElem?_eq_some_iff.mp hB1.h2).1
      obtain ⟨ρ', m', e2, hρ, tk', g0, g1, g2⟩ := ih (lvl R level seen found).2.1 (lvl R level seen found).1 (lvl R level seen found).2.2 m1 (.loc m.length) (some m.length) (some (.loc m.length)) p6 p7 p8 p9 (.inr ⟨m.length, rfl, rfl, hml, hB1.h2⟩) hB1.tk (by omega) hB1.h0 hB1.h1 hB1.k2 hB1.k0 hB1.k1 hB1.n0 hext hadd he
      refine ⟨ρ', m', while_go (mh1 := m) (ρ1 := [some (RV R), some (.str w), some (.loc m.length), some (.loc mh.length), some (.loc (mh.length + 1)), some (.loc m.length), p6, p7, p8, p9]) (mh2 := m1) ?_ ?_ e2, hρ, tk', g0, g1, g2⟩
      · simp [whC, ev, evs, cmpV, hcond, z0]
      · refine ex_go (ρ1 := EB R w lvV mh.length m.length o6 o7 o8 o9) (mh1 := m ++ [some (.lst [])]) (by simp [ex, ev, evs, asg, z0]) (ex_go (ρ1 := EB R w lvV mh.length m.length p6 p7 p8 p9) (mh1 := m1) ?_ (ex_go (ρ1 := [some (RV R), some (.str w), some (.loc m.length), some (.loc mh.length), some (.loc (mh.length + 1)), some (.loc m.length), p6, p7, p8, p9]) (mh1 := m1) (by simp [ex, ev, asg]) ex_done))
        have hi : evI (callM T (k + 1)) mh.length (.var 2) (EB R w lvV mh.length m.length o6 o7 o8 o9) (m ++ [some (.lst [])]) = some (⟨level.map wS, lv⟩, m ++ [some (.lst [])]) := by
          rcases hlv with ⟨rfl, rfl⟩ | ⟨l', rfl, rfl, q1, q2⟩
          · exact evI_var rfl rfl
          · have := (List.getElem?_eq_some_iff.mp q2).1
            have q3 : (m ++ [some (MO.lst [])])[l']? = some (some (.lst (level.map wS))) := by rw [List.getElem?_append_left this]; exact q2
            simp [evI, ev, itsOf, q3]
        rw [ex_for, hi]
        exact e1
def endsV (R : List Rl) (w : Sx) : MV := if (endsB R w).2.1.length < 300 then .lst ((endsB R w).2.2.map wS) else .non
theorem sp_ends (hR : Rok b R) {w : Sx} (hw : Wk b w) : callM T (k + 2) 26 [RV R, .str w] mh = some (endsV R w, mh) ∧ ∀ v ∈ (endsB R w).2.2, Wk b v := by
  have z0 : 0 ≤ line := line_le (by omega)
  have z1 : 1 ≤ line := line_le (by omega)
  have kw : ∀ v ∈ [w], Wk b v := fun v hv => by simp at hv; subst hv; exact hw
  obtain ⟨h0, hb, _⟩ := ends_ok (R := R) w
  obtain ⟨ρ', m', e, ⟨p2, p5, p6, p7, p8, p9, rfl⟩, tk, g0, g1, g2⟩ := le_loop (k := k) (mh := mh) hR (w := w) 302 [w] [w] [] (mh ++ [some (.lst [wS w]), some (.lst [])]) (.lst [wS w]) none none none none none none (.inl ⟨rfl, rfl⟩) (take_app _) (by simp) get_app0 get_app1 kw kw (by simp) (by simp) (by simp) (by simp) h0
  refine ⟨?_, g2⟩
  have r0 : ex (callM T (k + 1)) mh.length (.par3 2 3 4 (.lst [(.var 1)]) (.al (.lst [(.var 1)])) (.al (.lst []))) [some (RV R), some (.str w), none, none, none, none, none, none, none, none] mh = some (.nx, [some (RV R), some (.str w), some (.lst [wS w]), some (.loc mh.length), some (.loc (mh.length + 1)), none, none, none, none, none], mh ++ [some (.lst [wS w]), some (.lst [])]) := by
    simp [ex, ev, evs, z0, z1]
  have r1 : ex (callM T (k + 1)) mh.length (.while (.cmp .ne (.var 2) (.lst [])) leW) [some (RV R), some (.str w), some (.lst [wS w]), some (.loc mh.length), some (.loc (mh.length + 1)), none, none, none, none, none] (mh ++ [some (.lst [wS w]), some (.lst [])]) = some (.nx, [some (RV R), some (.str w), p2, some (.loc mh.length), some (.loc (mh.length + 1)), p5, p6, p7, p8, p9], m') := by
    rw [ex_while]
    exact e
  have g0 : m'[mh.length]? = some (some (.lst ((endsB R w).2.1.map wS))) := g0
  have g1 : m'[mh.length + 1]? = some (some (.lst ((endsB R w).2.2.map wS))) := g1
  have hlen : lenV m' (.loc mh.length) = some (.int ((endsB R w).2.1.length : Int)) := by simp [lenV, getL, g0]
  unfold endsV
  by_cases hc : (endsB R w).2.1.length < 300
  · rw [if_pos hc]
    refine call_own (l := mh.length + 1) (ρ := [some (RV R), some (.str w), p2, some (.loc mh.length), some (.loc (mh.length + 1)), p5, p6, p7, p8, p9]) rfl rfl (ex_go r0 (ex_go r1 (ex_end ?_))) g1 (dats_ws hR.hb g2) (by omega) tk
    have hz : ((endsB R w).2.1.length : Int) < 300 := by omega
    simp [ex, ev, evs, biV, one1, hlen, cmpV, ordV, hz]
  · rw [if_neg hc]
    refine call_v (ρ := [some (RV R), some (.str w), p2, some (.loc mh.length), some (.loc (mh.length + 1)), p5, p6, p7, p8, p9]) (fl := .rt .non) rfl rfl (ex_go r0 (ex_go r1 (ex_end ?_))) rfl rfl tk
    have hz : ¬ ((endsB R w).2.1.length : Int) < 300 := by omega
    simp [ex, ev, evs, biV, one1, hlen, cmpV, ordV, hz]
/-! ### do the pairs meet? -/
def parP (b : Nat) (R : List Rl) (c : CP) : Bool := decide (nf b R c.2.1 ≠ nf b R c.2.2)
def meetsS : Sx := [109, 101, 101, 116, 115]
def partsS : Sx := [112, 97, 114, 116, 115]
def parV (b : Nat) (R : List Rl) (c : CP) : MV := .tup [.str partsS, .str c.1, .str (nf b R c.2.1), .str (nf b R c.2.2)]
def dueV (b : Nat) (R : List Rl) : MV := match (pairsW R).find? (parP b R) with
  | none => .tup [.str meetsS]
  | some c => parV b R c
theorem pair_wk (hR : Rok b R) {c : CP} (h : c ∈ pairsW R) : Wk b c.1 ∧ Wk b c.2.1 ∧ Wk b c.2.2 ∧ One R c.1 c.2.1 ∧ One R c.1 c.2.2 := by
  obtain ⟨h1, h2, h3, _⟩ := pairs_lw hR.dn h
  obtain ⟨_, _, _, l1, l2, l3⟩ := pair_dat hR.ok h
  have w1 : Wk b c.1 := ⟨h3, by omega⟩
  exact ⟨w1, w1.one hR h1, w1.one hR h2, h1, h2⟩
theorem parV_pd (hR : Rok b R) {c : CP} (h : c ∈ pairsW R) : Pd (parV b R c) := Pd.tup (n := 0) (by omega) fun x hx => by
  obtain ⟨w1, w2, w3, _⟩ := pair_wk hR h
  simp only [List.mem_cons, List.not_mem_nil, or_false] at hx
  rcases hx with rfl | rfl | rfl | rfl
  · exact ⟨by decide, rfl, by simp [dep]⟩
  · exact ⟨w1.dat hR.hb, rfl, by simp [dep]⟩
  · exact ⟨(w2.nf hR).dat hR.hb, rfl, by simp [dep]⟩
  · exact ⟨(w3.nf hR).dat hR.hb, rfl, by simp [dep]⟩
theorem dueV_pd (hR : Rok b R) : Pd (dueV b R) := by
  unfold dueV
  split
  · exact Pd.tup (n := 0) (by omega) fun x hx => by
      simp only [List.mem_cons, List.not_mem_nil, or_false] at hx
      subst hx
      exact ⟨by decide, rfl, by simp [dep]⟩
  · rename_i c e
    exact parV_pd hR (List.mem_of_find?_eq_some e)
abbrev wmB : List MS := [(.par 4 5 (.sub (.call 10 [(.var 0), (.var 2)]) (.c (.int (0)))) (.sub (.call 10 [(.var 0), (.var 3)]) (.c (.int (0))))), (.ite (.cmp .ne (.var 4) (.var 5)) [(.ret (.tup [(.c (.str [112, 97, 114, 116, 115])), (.var 1), (.var 4), (.var 5)]))] [])]
theorem sp_normal0 {w : Sx} (hR : Rok b R) (hw : Wk b w) {C : CallF} (hC : C = callM T (k + 2)) : C 10 [RV R, .str w] mh = some (.tup [.str (nf b R w), .tup ((nfp b R w).2.map sV)], mh) := by subst hC; exact sp_word_normal hR.hb hR.ok hR.dn hw.lw hw.len
theorem sub_tup0 {x : MV} {xs : List MV} {mh : MHp} : subV mh (.tup (x :: xs)) (.int 0) = some x := atI0
theorem sp_words_meet (hR : Rok b R) : callM T (k + 3) 12 [RV R] mh = some (dueV b R, mh) := by
  have z4 : 4 ≤ line := line_le (by omega)
  have z1 : 1 ≤ line := line_le (by omega)
  have loop := for_relS (J := ⟨(pairsW R).map cV, none⟩) (f := forF (callM T (k + 2)) mh.length (.tp [(.nm 1), (.nm 2), (.nm 3)]) wmB) (emb := cV) (g := fun (_ : Unit) c => if parP b R c = true then .inr c else .inl ()) (fun _ ρ m => (∃ o1 o2 o3 o4 o5, ρ = [some (RV R), o1, o2, o3, o4, o5]) ∧ m = mh) (fun c v m => v = parV b R c ∧ m = mh) (fun _ _ _ _ => Its.ok_none rfl _) (pairsW R) (by
    rintro c hc _ ρ m ⟨⟨o1, o2, o3, o4, o5, rfl⟩, rfl⟩
    obtain ⟨w1, w2, w3, _⟩ := pair_wk hR hc
    have c1 := sp_normal0 (k := k) (mh := m) hR w2 rfl
    have c2 := sp_normal0 (k := k) (mh := m) hR w3 rfl
    have e1 : eqV m (.str (nf b R c.2.1)) (.str (nf b R c.2.2)) = some (!parP b R c) := eqV_b m (Pd.str ((w2.nf hR).dat hR.hb)) (Pd.str ((w3.nf hR).dat hR.hb)) (by unfold parP; simp)
    have s1 : subV m (.tup [.str (nf b R c.2.1), .tup ((nfp b R c.2.1).2.map sV)]) (.int 0) = _ := sub_tup0
    have s2 : subV m (.tup [.str (nf b R c.2.2), .tup ((nfp b R c.2.2).2.map sV)]) (.int 0) = _ := sub_tup0
    have ha : asg m (.tp [(.nm 1), (.nm 2), (.nm 3)]) (cV c) [some (RV R), o1, o2, o3, o4, o5] = some [some (RV R), some (.str c.1), some (.str c.2.1), some (.str c.2.2), o4, o5] := by simp [asg, asgs]
    have r1 : ex (callM T (k + 2)) m.length (.par 4 5 (.sub (.call 10 [(.var 0), (.var 2)]) (.c (.int (0)))) (.sub (.call 10 [(.var 0), (.var 3)]) (.c (.int (0))))) [some (RV R), some (.str c.1), some (.str c.2.1), some (.str c.2.2), o4, o5] m = some (.nx, [some (RV R), some (.str c.1), some (.str c.2.1), some (.str c.2.2), some (.str (nf b R c.2.1)), some (.str (nf b R c.2.2))], m) := by
      generalize MV.tup [.str (nf b R c.2.1), .tup ((nfp b R c.2.1).2.map sV)] = t1 at *
      generalize MV.tup [.str (nf b R c.2.2), .tup ((nfp b R c.2.2).2.map sV)] = t2 at *
      generalize RV R = rv at *
      simp [ex, ev, evs, c1, c2, s1, s2]
    have hcnd : ev (callM T (k + 2)) m.length (.cmp .ne (.var 4) (.var 5)) [some (RV R), some (.str c.1), some (.str c.2.1), some (.str c.2.2), some (.str (nf b R c.2.1)), some (.str (nf b R c.2.2))] m = some (.bl (parP b R c), m) := by
      generalize parP b R c = bb at *
      simp [ev, cmpV, e1]
    cases hp : parP b R c with
    | false =>
      rw [hp] at hcnd
      refine ⟨[some (RV R), some (.str c.1), some (.str c.2.1), some (.str c.2.2), some (.str (nf b R c.2.1)), some (.str (nf b R c.2.2))], m, ?_, ⟨some (.str c.1), some (.str c.2.1), some (.str c.2.2), some (.str (nf b R c.2.1)), some (.str (nf b R c.2.2)), rfl⟩, rfl⟩
      unfold forF
      rw [ha]
      exact ex_go r1 (ex_go ((ex_iteF hcnd).trans ex_done) ex_done)
    | true =>
      rw [hp] at hcnd
      refine ⟨parV b R c, [some (RV R), some (.str c.1), some (.str c.2.1), some (.str c.2.2), some (.str (nf b R c.2.1)), some (.str (nf b R c.2.2))], m, ?_, rfl, rfl⟩
      unfold forF
      rw [ha]
      refine ex_go r1 (ex_end ((ex_iteT hcnd).trans (ex_end ?_)))
      simp [ex, ev, evs, z4, parV, partsS]) () [some (RV R), none, none, none, none, none] mh ⟨⟨_, _, _, _, _, rfl⟩, rfl⟩
  rw [stopF_find] at loop
  have c11 := sp_overlaps (k := k + 1) (mh := mh) hR.ok
  have hi : evI (callM T (k + 2)) mh.length (.call 11 [(.var 0)]) [some (RV R), none, none, none, none, none] mh = some (⟨(pairsW R).map cV, none⟩, mh) := by
    generalize (pairsW R).map cV = pm at *
    simp [evI, ev, evs, c11, itsOf]
  have r1 : ex (callM T (k + 2)) mh.length (.for (.tp [(.nm 1), (.nm 2), (.nm 3)]) (.call 11 [(.var 0)]) wmB) [some (RV R), none, none, none, none, none] mh = forGo ⟨(pairsW R).map cV, none⟩ (forF (callM T (k + 2)) mh.length (.tp [(.nm 1), (.nm 2), (.nm 3)]) wmB) ((pairsW R).map cV) [some (RV R), none, none, none, none, none] mh := by rw [ex_for, hi]
  cases hf : (pairsW R).find? (parP b R) with
  | none =>
    rw [hf] at loop
    obtain ⟨ρ', m', e, ⟨o1, o2, o3, o4, o5, rfl⟩, rfl⟩ := loop
    have hd : dueV b R = .tup [.str meetsS] := by unfold dueV; rw [hf]
    rw [hd]
    refine call_v (ρ := [some (RV R), o1, o2, o3, o4, o5]) (fl := .rt (.tup [.str meetsS])) rfl rfl (ex_go (r1.trans e) (ex_end ?_)) rfl (by decide) List.take_length
    simp [ex, ev, evs, z1, meetsS]
  | some c =>
    rw [hf] at loop
    obtain ⟨v, ρ', m', e, rfl, rfl⟩ := loop
    have hd : dueV b R = parV b R c := by unfold dueV; rw [hf]
    rw [hd]
    exact call_v (ρ := ρ') (fl := .rt (parV b R c)) rfl rfl (ex_end (r1.trans e)) rfl (dat_dat2 _ (parV_pd hR (List.mem_of_find?_eq_some hf)).dat) List.take_length
theorem sp_same (hR : Rok b R) {u v : Sx} (hu : Wk b u) (hv : Wk b v) : callM T (k + 3) 13 [RV R, .str u, .str v] mh = some (.bl (decide (nf b R u = nf b R v)), mh) := by
  have c1 := sp_normal0 (k := k) (mh := mh) hR hu rfl
  have c2 := sp_normal0 (k := k) (mh := mh) hR hv rfl
  have e1 : eqV mh (.str (nf b R u)) (.str (nf b R v)) = some (decide (nf b R u = nf b R v)) := eqV_b mh (Pd.str ((hu.nf hR).dat hR.hb)) (Pd.str ((hv.nf hR).dat hR.hb)) (by simp)
  have s1 : subV mh (.tup [.str (nf b R u), .tup ((nfp b R u).2.map sV)]) (.int 0) = _ := sub_tup0
  have s2 : subV mh (.tup [.str (nf b R v), .tup ((nfp b R v).2.map sV)]) (.int 0) = _ := sub_tup0
  refine call_v (ρ0 := [some (RV R), some (.str u), some (.str v)]) (ρ := [some (RV R), some (.str u), some (.str v)]) (mh1 := mh) (fl := .rt (.bl (decide (nf b R u = nf b R v)))) rfl rfl ?_ rfl rfl List.take_length
  generalize MV.tup [.str (nf b R u), .tup ((nfp b R u).2.map sV)] = t1 at *
  generalize MV.tup [.str (nf b R v), .tup ((nfp b R v).2.map sV)] = t2 at *
  generalize decide (nf b R u = nf b R v) = bb at *
  generalize RV R = rv at *
  simp [exs, ex, ev, evs, c1, c2, s1, s2, cmpV, e1]
theorem sp_product (hR : Rok b R) {u v : Sx} (hu : Wk b u) (hv : Wk b v) (hl : u.length + v.length ≤ 12) : callM T (k + 3) 14 [RV R, .str u, .str v] mh = some (.str (nf b R (u ++ v)), mh) := by
  have huv : Wk b (u ++ v) := ⟨LW.app.mpr ⟨hu.lw, hv.lw⟩, by simpa using hl⟩
  have c1 := sp_normal0 (k := k) (mh := mh) hR huv rfl
  have s1 : subV mh (.tup [.str (nf b R (u ++ v)), .tup ((nfp b R (u ++ v)).2.map sV)]) (.int 0) = _ := sub_tup0
  have a1 : addV mh (.str u) (.str v) = _ := add_str (by omega) (by omega)
  refine call_v (ρ0 := [some (RV R), some (.str u), some (.str v)]) (ρ := [some (RV R), some (.str u), some (.str v)]) (mh1 := mh) (fl := .rt (.str (nf b R (u ++ v)))) rfl rfl ?_ rfl (dat_dat2 _ ((huv.nf hR).dat hR.hb)) List.take_length
  generalize MV.tup [.str (nf b R (u ++ v)), .tup ((nfp b R (u ++ v)).2.map sV)] = t1 at *
  generalize RV R = rv at *
  simp [exs, ex, ev, evs, binV, a1, c1, s1]
end
end L2.Mi.k55

set_option Elab.async false
set_option linter.all false
set_option maxRecDepth 100000
set_option maxHeartbeats 4000000
/-! W55h: the judges of values of any kind. -/
namespace L2.Mi.k55
open PySem PySem.Spec PyProof.Rows L2.Mi
theorem hWhole : T[0]? = some wholeD := rfl
theorem mem_chr {mh : MHp} {c : Nat} {L : Sx} : memV mh (.str [c]) (.str L) = some (decide (c ∈ L)) := by unfold memV; rfl
def wordB (L : Sx) : MV → Bool
  | .str s => decide (s.length ≤ 60) && s.all fun c => decide (c ∈ L)
  | _ => false
section
variable {k : Nat} {mh : MHp}
theorem str_comp {C : CallF} {b : Nat} {s : Sx} {L : Sx} {e : ME} {ρ : Env} {i : Nat} (hi : i < ρ.length) (hv : ρ[0]? = some (some (.str s))) (hL : ∀ c, ev C b e (ρ.set i (some (.str [c]))) mh = some (.str L, mh)) (hs : s.length ≤ 1000) :
    ev C b (.bi .all [(.comp (.nm i) [i] (.var 0) (.c (.bl true)) (.cmp .mem (.var i) e))]) ρ mh = some (.bl (s.all fun c => decide (c ∈ L)), mh) := by
  have hc := ev_compM (C := C) (base := b) (ρ := ρ) (mh := mh) (tg := .nm i) (own := [i]) (it := .var 0) (cond := .c (.bl true)) (e := .cmp .mem (.var i) e) (emb := fun c => .str [c]) (h := fun c => .bl (decide (c ∈ L))) (xs := s) (evI_var hv rfl) (line_le (by omega)) (fun c hc => by
    have h1 := hL c
    have h2 : (ρ.set i (some (MV.str [c])))[i]? = some (some (.str [c])) := List.getElem?_set_self hi
    have h3 : (wipeE ρ [i]).set i (some (MV.str [c])) = ρ.set i (some (.str [c])) := by simp [wipeE]
    have h4 : asg mh (.nm i) (.str [c]) (wipeE ρ [i]) = some (ρ.set i (some (.str [c]))) := by
      rw [← h3]
      simp [asg, wipeE, hi]
    unfold compF
    rw [h4]
    simp [ev, h2, h1, cmpV, mem_chr])
  rw [ev]
  simp only [evs, hc, biV, one1]
  have := bls_map' (mh := mh) s (fun c => decide (c ∈ L))
  rw [this]
  simp [List.all_map, Function.comp_def]
theorem sp_is_word {L : Sx} {v : MV} (hd : dat v = true) : callM T (k + 1) 1 [v, .str L] mh = some (.bl (wordB L v), mh) := by
  refine call_v (ρ0 := [some v, some (.str L), none]) (ρ := [some v, some (.str L), none]) (mh1 := mh) (fl := .rt (.bl (wordB L v))) rfl rfl (ex_end ?_) rfl rfl List.take_length
  have ty := isTy_strV (mh := mh) (dat_dat2 _ hd)
  have he : ev (callM T k) mh.length (.and (.isi (.var 0) .str) (.and (.cmp .le (.bi .len [(.var 0)]) (.c (.int (60)))) (.bi .all [(.comp (.nm 2) [2] (.var 0) (.c (.bl true)) (.cmp .mem (.var 2) (.var 1)))]))) [some v, some (.str L), none] mh = some (.bl (wordB L v), mh) := by
    have t1 : ev (callM T k) mh.length (.isi (.var 0) .str) [some v, some (.str L), none] mh = some (.bl (isS v), mh) := by simp [ev, ty]
    cases v with
    | str s =>
      have hs := dat_str_len hd
      have hl : lenV mh (.str s) = _ := len_str (by omega)
      have e : wordB L (.str s) = (isS (.str s) && (decide (s.length ≤ 60) && s.all fun c => decide (c ∈ L))) := rfl
      rw [e]
      refine ev_andB t1 fun _ => ev_andB ?_ fun _ => ?_
      · have hz : decide (s.length ≤ 60) = !decide (60 < s.length) := by
          by_cases h : s.length ≤ 60 <;> simp [h] <;> omega
        rw [hz]
        simp [ev, evs, biV, one1, hl, cmpV, ordV]
        omega
      · exact str_comp (L := L) (by simp) rfl (fun c => by simp [ev]) hs
    | _ =>
      rw [ev, t1]
      rfl
  simp only [ex, he]
def letB (v : MV) : Bool := match v with
  | .str s => decide (s.length ≠ 0) && (s.all fun c => decide (c ∈ ([97, 98, 99, 100, 101, 102, 103, 104, 105, 106, 107, 108, 109, 110, 111, 112, 113, 114, 115, 116, 117, 118, 119, 120, 121, 122] : Sx))) && (List.range (s.length - 1)).all fun k => decide (s.getD k 0 < s.getD (k + 1) 0)
  | _ => false
theorem sp_are_letters {v : MV} (hd : dat v = true) : callM T (k + 1) 2 [v] mh = some (.bl (letB v), mh) := by
  have ty := isTy_strV (mh := mh) (dat_dat2 _ hd)
  have t1 : ev (callM T k) mh.length (.not (.isi (.var 0) .str)) [some v, none, none] mh = some (.bl (!isS v), mh) := by simp [ev, ty]
  refine call_v (ρ0 := [some v, none, none]) (ρ := [some v, none, none]) (mh1 := mh) (fl := .rt (.bl (letB v))) rfl rfl ?_ rfl rfl List.take_length
  cases v with
  | str s =>
    have hs := dat_str_len hd
    have hl : lenV mh (.str s) = _ := len_str (by omega)
    have hall := str_comp (C := callM T k) (b := mh.length) (mh := mh) (s := s) (i := 2) (ρ := [some (.str s), none, none]) (L := [97, 98, 99, 100, 101, 102, 103, 104, 105, 106, 107, 108, 109, 110, 111, 112, 113, 114, 115, 116, 117, 118, 119, 120, 121, 122]) (e := .c (.str [97, 98, 99, 100, 101, 102, 103, 104, 105, 106, 107, 108, 109, 110, 111, 112, 113, 114, 115, 116, 117, 118, 119, 120, 121, 122])) (by simp) rfl (fun c => by simp [ev]) hs
    have hc1 := ev_orB t1 fun _ => ev_orB (C := callM T k) (base := mh.length) (ρ := [some (.str s), none, none]) (mh := mh) (mh1 := mh) (x := .cmp .eq (.bi .len [(.var 0)]) (.c (.int (0)))) (a := decide (s.length = 0)) (by
      simp [ev, evs, biV, one1, hl, cmpV, eqV_int]) fun _ => ev_notB hall
    have hsub : ∀ j < s.length - 1, ev (callM T k) mh.length (.cmp .lt (.sub (.var 0) (.var 1)) (.sub (.var 0) (.bin .add (.var 1) (.c (.int (1)))))) [some (.str s), some (.int (j : Int)), none] mh = some (.bl (decide (s.getD j 0 < s.getD (j + 1) 0)), mh) := fun j hj => by
      have i1 : idx s (j : Int) = some (s.getD j 0) := by
        rw [idx_get (show j < s.length by omega), List.getD_eq_getElem?_getD, List.getElem?_eq_getElem (show j < s.length by omega)]; rfl
      have i2 : idx s ((j : Int) + 1) = some (s.getD (j + 1) 0) := by
        have := idx_get (show j + 1 < s.length by omega)
        rw [List.getD_eq_getElem?_getD, List.getElem?_eq_getElem (show j + 1 < s.length by omega)]
        simpa using this
      have z : s.length ≤ line := line_le (by omega)
      simp only [ev, List.getElem?_cons_zero, List.getElem?_cons_succ, subV, z, if_true, i1, i2, Option.map_some, binV, add_int, cmpV, ordV, lt1]
    have hc2 := ev_compM (C := callM T k) (base := mh.length) (ρ := [some (.str s), none, none]) (mh := mh) (tg := .nm 1) (own := [1]) (it := .rng1 (.bin .sub (.bi .len [(.var 0)]) (.c (.int (1))))) (cond := .c (.bl true)) (e := .cmp .lt (.sub (.var 0) (.var 1)) (.sub (.var 0) (.bin .add (.var 1) (.c (.int (1)))))) (emb := fun (j : Nat) => .int (j : Int)) (h := fun j => .bl (decide (s.getD j 0 < s.getD (j + 1) 0))) (xs := List.range ((s.length : Int) - 1).toNat) (evI_rng1Z (by simp [ev, evs, biV, one1, hl, binV, intV]) (by omega) (by omega)) (by rw [List.length_range]; exact line_le (by omega)) (fun j hj => by
      have hj := List.mem_range.mp hj
      exact compF_T (by simp [asg, wipeE]) (by simp [ev]) (hsub j (by omega)))
    have hb := bls_map' (mh := mh) (List.range ((s.length : Int) - 1).toNat) (fun j => decide (s.getD j 0 < s.getD (j + 1) 0))
    have hn : ((s.length : Int) - 1).toNat = s.length - 1 := by omega
    rw [hn] at hb hc2
    have hr : ex (callM T k) mh.length (.ret (.bi .all [(.comp (.nm 1) [1] (.rng1 (.bin .sub (.bi .len [(.var 0)]) (.c (.int (1))))) (.c (.bl true)) (.cmp .lt (.sub (.var 0) (.var 1)) (.sub (.var 0) (.bin .add (.var 1) (.c (.int (1)))))))])) [some (.str s), none, none] mh = some (.rt (.bl ((List.range (s.length - 1)).all fun k => decide (s.getD k 0 < s.getD (k + 1) 0))), [some (.str s), none, none], mh) := by
      simp only [ex, ev]
      simp only [evs, hc2, biV, one1, hb]
      simp [List.all_map, Function.comp_def]
    by_cases hcase : (decide (s.length ≠ 0) && (s.all fun c => decide (c ∈ ([97, 98, 99, 100, 101, 102, 103, 104, 105, 106, 107, 108, 109, 110, 111, 112, 113, 114, 115, 116, 117, 118, 119, 120, 121, 122] : Sx)))) = true
    · have e : letB (.str s) = ((List.range (s.length - 1)).all fun k => decide (s.getD k 0 < s.getD (k + 1) 0)) := by
        unfold letB
        simp only [hcase, Bool.true_and]
      rw [e]
      have hf : (!isS (.str s) || (decide (s.length = 0) || !(s.all fun c => decide (c ∈ ([97, 98, 99, 100, 101, 102, 103, 104, 105, 106, 107, 108, 109, 110, 111, 112, 113, 114, 115, 116, 117, 118, 119, 120, 121, 122] : Sx))))) = false := by
        rw [Bool.and_eq_true] at hcase
        rw [hcase.2]
        have : decide (s.length = 0) = false := by simpa using hcase.1
        rw [this]
        rfl
      rw [hf] at hc1
      exact ex_go ((ex_iteF hc1).trans ex_done) (ex_end hr)
    · have e : letB (.str s) = false := by
        unfold letB
        simp only [Bool.eq_false_iff.mpr hcase, Bool.false_and]
      rw [e]
      have ht : (!isS (.str s) || (decide (s.length = 0) || !(s.all fun c => decide (c ∈ ([97, 98, 99, 100, 101, 102, 103, 104, 105, 106, 107, 108, 109, 110, 111, 112, 113, 114, 115, 116, 117, 118, 119, 120, 121, 122] : Sx))))) = true := by
        cases h1 : (s.all fun c => decide (c ∈ ([97, 98, 99, 100, 101, 102, 103, 104, 105, 106, 107, 108, 109, 110, 111, 112, 113, 114, 115, 116, 117, 118, 119, 120, 121, 122] : Sx))) with
        | false => simp
        | true =>
          rw [h1, Bool.and_true] at hcase
          have : decide (s.length = 0) = true := by simpa using hcase
          rw [this]
          simp
      rw [ht] at hc1
      refine ex_end ((ex_iteT hc1).trans (ex_end ?_))
      simp [ex, ev]
  | _ =>
    have e : ∀ {x : ME}, ev (callM T k) mh.length (.or (.not (.isi (.var 0) .str)) x) _ mh = _ := fun {x} => by rw [ev, t1]
    refine ex_end ((ex_iteT (e.trans rfl)).trans (ex_end ?_))
    simp [ex, ev, letB]
end
end L2.Mi.k55

set_option Elab.async false
set_option linter.all false
set_option maxRecDepth 100000
set_option maxHeartbeats 4000000
/-! W55i: rules of any kind; steps of any kind; rows. -/
namespace L2.Mi.k55
open PySem PySem.Spec PyProof.Rows L2.Mi
def nilS : MV → Bool
  | .str [] => true
  | _ => false
def pairB (L : Sx) : MV → Bool
  | .tup [a, c] => wordB L a && wordB L c && !nilS a
  | _ => false
def rulesB (L : Sx) : MV → Bool
  | .tup ps => decide (ps.length ≤ 20) && ps.all (pairB L)
  | _ => false
section
variable {k : Nat} {mh : MHp} {L : Sx}
abbrev arB : List MS := [(.ite (.or (.not (.isi (.var 2) .tuple)) (.or (.cmp .ne (.bi .len [(.var 2)]) (.c (.int (2)))) (.not (.bi .all [(.comp (.nm 3) [3] (.var 2) (.c (.bl true)) (.call 1 [(.var 3), (.var 1)]))])))) [(.ret (.c (.bl false)))] []), (.ite (.cmp .eq (.sub (.var 2) (.c (.int (0)))) (.c (.str []))) [(.ret (.c (.bl false)))] [])]
theorem ret_c {C : CallF} {b : Nat} {v : MV} {ρ : Env} {m : MHp} : ex C b (.ret (.c v)) ρ m = some (.rt v, ρ, m) := by simp [ex, ev]
theorem ar_step {v p : MV} {o2 : Option MV} (hp : dat p = true) :
    if pairB L p = true then forF (callM T (k + 1)) mh.length (.nm 2) arB p [some v, some (.str L), o2, none] mh = some (.nx, [some v, some (.str L), some p, none], mh)
    else ∃ ρ', forF (callM T (k + 1)) mh.length (.nm 2) arB p [some v, some (.str L), o2, none] mh = some (.rt (.bl false), ρ', mh) := by
  have ha : asg mh (.nm 2) p [some v, some (.str L), o2, none] = some [some v, some (.str L), some p, none] := by simp [asg]
  have ty := isTy_tupV (mh := mh) (dat_dat2 _ hp)
  have t1 : ev (callM T (k + 1)) mh.length (.not (.isi (.var 2) .tuple)) [some v, some (.str L), some p, none] mh = some (.bl (!isT p), mh) := by simp [ev, ty]
  have bad : ∀ {x y : ME} {ss : List MS}, ev (callM T (k + 1)) mh.length x [some v, some (.str L), some p, none] mh = some (.bl true, mh) → exs (callM T (k + 1)) mh.length ((.ite x [(.ret (.c (.bl false)))] []) :: ss) [some v, some (.str L), some p, none] mh = some (.rt (.bl false), [some v, some (.str L), some p, none], mh) := fun h => ex_end ((ex_iteT h).trans (ex_end ret_c))
  unfold forF
  rw [ha]
  simp only
  cases p with
  | tup xs =>
    have hdx : dats xs = true := by unfold dat at hp; exact hp
    have e2 : eqV mh (.int (xs.length : Int)) (.int 2) = some (decide (xs.length = 2)) := by
      rw [eqV_int]
      congr 1
      by_cases h : xs.length = 2 <;> simp [h] <;> omega
    have c2 : ev (callM T (k + 1)) mh.length (.cmp .ne (.bi .len [(.var 2)]) (.c (.int (2)))) [some v, some (.str L), some (.tup xs), none] mh = some (.bl (!decide (xs.length = 2)), mh) := by
      generalize decide (xs.length = 2) = bb at *
      simp [ev, evs, biV, one1, lenV, cmpV, e2]
    clear bad
    match xs, hdx, t1, c2 with
    | [a, c], hdx, t1, c2 =>
      have hda : dat a = true := by simp only [dats, Bool.and_eq_true] at hdx; exact hdx.1
      have hdc : dat c = true := by simp only [dats, Bool.and_eq_true] at hdx; exact hdx.2.1
      have w1 := sp_is_word (k := k) (mh := mh) (L := L) hda
      have w2 := sp_is_word (k := k) (mh := mh) (L := L) hdc
      have hcomp : ev (callM T (k + 1)) mh.length (.comp (.nm 3) [3] (.var 2) (.c (.bl true)) (.call 1 [(.var 3), (.var 1)])) [some v, some (.str L), some (.tup [a, c]), none] mh = some (.lst ([a, c].map fun x => .bl (wordB L x)), mh) := by
        refine ev_compM (emb := fun x => x) (h := fun x => .bl (wordB L x)) (xs := [a, c]) (evI_var rfl (by simp [itsOf])) (line_le (by simp)) ?_
        intro x hx
        refine compF_T (ρ' := [some v, some (.str L), some (.tup [a, c]), some x]) (by simp [asg, wipeE]) (by simp [ev]) ?_
        have w : callM T (k + 1) 1 [x, .str L] mh = some (.bl (wordB L x), mh) := by
          simp only [List.mem_cons, List.not_mem_nil, or_false] at hx
          rcases hx with rfl | rfl
          · exact w1
          · exact w2
        simp [ev, evs, w]
      have hb := bls_map' (mh := mh) [a, c] (wordB L)
      have c3 : ev (callM T (k + 1)) mh.length (.not (.bi .all [(.comp (.nm 3) [3] (.var 2) (.c (.bl true)) (.call 1 [(.var 3), (.var 1)]))])) [some v, some (.str L), some (.tup [a, c]), none] mh = some (.bl (!(wordB L a && wordB L c)), mh) := by
        refine ev_notB ?_
        rw [ev]
        simp only [evs, hcomp, biV, one1, hb]
        simp
      have cc := ev_orB t1 fun _ => ev_orB c2 fun _ => c3
      by_cases hw : (wordB L a && wordB L c) = true
      · have hf : (!isT (.tup [a, c]) || (!decide ([a, c].length = 2) || !(wordB L a && wordB L c))) = false := by rw [hw]; rfl
        rw [hf] at cc
        -- both are words
        obtain ⟨s, rfl⟩ : ∃ s, a = .str s := by
          rw [Bool.and_eq_true] at hw
          cases a <;> first | exact ⟨_, rfl⟩ | simp [wordB] at hw
        have e3 : eqV mh (.str s) (.str []) = some (nilS (.str s)) := eqV_b mh (Pd.str hda) (Pd.str rfl) (by cases s <;> simp [nilS])
        have s0 : subV mh (.tup [.str s, c]) (.int 0) = some (.str s) := atI0
        have c4 : ev (callM T (k + 1)) mh.length (.cmp .eq (.sub (.var 2) (.c (.int (0)))) (.c (.str []))) [some v, some (.str L), some (.tup [.str s, c]), none] mh = some (.bl (nilS (.str s)), mh) := by
          generalize nilS (.str s) = bb at *
          simp [ev, s0, cmpV, e3]
        have hpb : pairB L (.tup [.str s, c]) = !nilS (.str s) := by
          show (wordB L (.str s) && wordB L c && !nilS (.str s)) = _
          rw [hw, Bool.true_and]
        cases hn : nilS (.str s) with
        | true =>
          rw [hn] at c4
          rw [if_neg (by rw [hpb, hn]; simp)]
          exact ⟨_, ex_go ((ex_iteF cc).trans ex_done) (ex_end ((ex_iteT c4).trans (ex_end ret_c)))⟩
        | false =>
          rw [hn] at c4
          rw [if_pos (by rw [hpb, hn]; rfl)]
          exact ex_go ((ex_iteF cc).trans ex_done) (ex_go ((ex_iteF c4).trans ex_done) ex_done)
      · have hf : (!isT (.tup [a, c]) || (!decide ([a, c].length = 2) || !(wordB L a && wordB L c))) = true := by
          rw [Bool.eq_false_iff.mpr hw]
          rfl
        rw [hf] at cc
        rw [if_neg (by show ¬ (wordB L a && wordB L c && !nilS a) = true; rw [Bool.eq_false_iff.mpr hw]; simp)]
        exact ⟨_, ex_end ((ex_iteT cc).trans (ex_end ret_c))⟩
    | [], hdx, t1, c2 =>
      have cc := ev_orB t1 fun _ => (ev_orB (y := .not (.bi .all [(.comp (.nm 3) [3] (.var 2) (.c (.bl true)) (.call 1 [(.var 3), (.var 1)]))])) (b := true) c2 (by simp))
      rw [if_neg (by simp [pairB])]
      exact ⟨_, ex_end ((ex_iteT cc).trans (ex_end ret_c))⟩
    | [a], hdx, t1, c2 =>
      have cc := ev_orB t1 fun _ => (ev_orB (y := .not (.bi .all [(.comp (.nm 3) [3] (.var 2) (.c (.bl true)) (.call 1 [(.var 3), (.var 1)]))])) (b := true) c2 (by simp))
      rw [if_neg (by simp [pairB])]
      exact ⟨_, ex_end ((ex_iteT cc).trans (ex_end ret_c))⟩
    | a :: c :: d :: xs, hdx, t1, c2 =>
      have cc := ev_orB t1 fun _ => (ev_orB (y := .not (.bi .all [(.comp (.nm 3) [3] (.var 2) (.c (.bl true)) (.call 1 [(.var 3), (.var 1)]))])) (b := true) c2 (by simp))
      rw [if_neg (by simp [pairB])]
      have ht : (!isT (.tup (a :: c :: d :: xs)) || (!decide ((a :: c :: d :: xs).length = 2) || true)) = true := by simp
      rw [ht] at cc
      exact ⟨_, ex_end ((ex_iteT cc).trans (ex_end ret_c))⟩
  | fn _ => cases hp
  | loc _ => cases hp
  | dct _ _ => cases hp
  | scr _ => cases hp
  | _ =>
    have e : ∀ {x : ME}, ev (callM T (k + 1)) mh.length (.or (.not (.isi (.var 2) .tuple)) x) _ mh = _ := fun {x} => by rw [ev, t1]
    rw [if_neg (by simp [pairB])]
    exact ⟨_, bad (y := .c .non) (e.trans rfl)⟩
theorem sp_rules {v : MV} (hd : dat v = true) : callM T (k + 2) 3 [v, .str L] mh = some (.bl (rulesB L v), mh) := by
  refine (fun (h : ∃ ρ', exs (callM T (k + 1)) mh.length _ [some v, some (.str L), none, none] mh = some (.rt (.bl (rulesB L v)), ρ', mh)) => let ⟨ρ', e⟩ := h; call_v (ρ0 := [some v, some (.str L), none, none]) (ρ := ρ') (mh1 := mh) (fl := .rt (.bl (rulesB L v))) rfl rfl e rfl rfl List.take_length) ?_
  have ty := isTy_tupV (mh := mh) (dat_dat2 _ hd)
  have t1 : ev (callM T (k + 1)) mh.length (.not (.isi (.var 0) .tuple)) [some v, some (.str L), none, none] mh = some (.bl (!isT v), mh) := by simp [ev, ty]
  cases v with
  | tup ps =>
    have hdx : dats ps = true := by unfold dat at hd; exact hd
    have c2 : ev (callM T (k + 1)) mh.length (.cmp .gt (.bi .len [(.var 0)]) (.c (.int (20)))) [some (.tup ps), some (.str L), none, none] mh = some (.bl (decide (20 < ps.length)), mh) := by
      have e : decide ((20 : Int) < (ps.length : Int)) = decide (20 < ps.length) := by
        by_cases h : 20 < ps.length <;> simp [h] <;> omega
      rw [← e]
      simp [ev, evs, biV, one1, lenV, cmpV, ordV]
    have cc := ev_orB t1 fun _ => c2
    by_cases hl : ps.length ≤ 20
    · have hf : (!isT (.tup ps) || decide (20 < ps.length)) = false := by
        rw [decide_eq_false (by omega)]
        rfl
      rw [hf] at cc
      have loop := for_relS (J := ⟨ps, none⟩) (f := forF (callM T (k + 1)) mh.length (.nm 2) arB) (emb := fun x => x) (g := fun (_ : Unit) p => if (!pairB L p) = true then .inr p else .inl ()) (fun _ ρ m => (∃ o2, ρ = [some (.tup ps), some (.str L), o2, none]) ∧ m = mh) (fun _ v m => v = .bl false ∧ m = mh) (fun _ _ _ _ => Its.ok_none rfl _) ps (by
        rintro p hp _ ρ m ⟨⟨o2, rfl⟩, rfl⟩
        have st := ar_step (k := k) (mh := m) (L := L) (v := .tup ps) (o2 := o2) (dats_iff.mp hdx p hp)
        cases hb : pairB L p with
        | true =>
          rw [if_pos hb] at st
          exact ⟨_, m, st, ⟨_, rfl⟩, rfl⟩
        | false =>
          rw [if_neg (by rw [hb]; simp)] at st
          obtain ⟨ρ', e⟩ := st
          exact ⟨_, ρ', m, e, rfl, rfl⟩) () [some (.tup ps), some (.str L), none, none] mh ⟨⟨_, rfl⟩, rfl⟩
      rw [stopF_find (fun p => !pairB L p), List.map_id'] at loop
      have hi : evI (callM T (k + 1)) mh.length (.var 0) [some (.tup ps), some (.str L), none, none] mh = some (⟨ps, none⟩, mh) := evI_var rfl rfl
      have r1 : ex (callM T (k + 1)) mh.length (.for (.nm 2) (.var 0) arB) [some (.tup ps), some (.str L), none, none] mh = forGo ⟨ps, none⟩ (forF (callM T (k + 1)) mh.length (.nm 2) arB) ps [some (.tup ps), some (.str L), none, none] mh := by rw [ex_for, hi]
      cases hf2 : ps.find? (fun p => !pairB L p) with
      | none =>
        rw [hf2] at loop
        obtain ⟨ρ', m', e, ⟨o2, rfl⟩, rfl⟩ := loop
        have hr : rulesB L (.tup ps) = true := by
          rw [List.find?_eq_none] at hf2
          simp only [rulesB, Bool.and_eq_true, decide_eq_true_iff, List.all_eq_true]
          exact ⟨hl, fun p hp => by have := hf2 p hp; simpa using this⟩
        rw [hr]
        exact ⟨_, ex_go ((ex_iteF cc).trans ex_done) (ex_go (r1.trans e) (ex_end ret_c))⟩
      | some p =>
        rw [hf2] at loop
        obtain ⟨v, ρ', m', e, rfl, rfl⟩ := loop
        have hr : rulesB L (.tup ps) = false := by
          have h1 := List.find?_some hf2
          have h2 := List.mem_of_find?_eq_some hf2
          cases h : rulesB L (.tup ps) with
          | false => rfl
          | true =>
            simp only [rulesB, Bool.and_eq_true, decide_eq_true_iff, List.all_eq_true] at h
            rw [h.2 p h2] at h1
            cases h1
        rw [hr]
        exact ⟨_, ex_go ((ex_iteF cc).trans ex_done) (ex_end (r1.trans e))⟩
    · have hf : (!isT (.tup ps) || decide (20 < ps.length)) = true := by
        rw [decide_eq_true (by omega)]
        rfl
      rw [hf] at cc
      have hr : rulesB L (.tup ps) = false := by
        show (decide (ps.length ≤ 20) && ps.all (pairB L)) = false
        rw [decide_eq_false hl]
        rfl
      rw [hr]
      exact ⟨_, ex_end ((ex_iteT cc).trans (ex_end ret_c))⟩
  | fn _ => cases hd
  | loc _ => cases hd
  | dct _ _ => cases hd
  | scr _ => cases hd
  | _ =>
    have e : ∀ {x : ME}, ev (callM T (k + 1)) mh.length (.or (.not (.isi (.var 0) .tuple)) x) _ mh = _ := fun {x} => by rw [ev, t1]
    exact ⟨_, ex_end ((ex_iteT (e.trans rfl)).trans (ex_end ret_c))⟩
end
end L2.Mi.k55

set_option Elab.async false
set_option linter.all false
set_option maxRecDepth 100000
set_option maxHeartbeats 4000000
/-! W55j: steps and rows of any kind. -/
namespace L2.Mi.k55
open PySem PySem.Spec PyProof.Rows L2.Mi
def wstepB (R : List Rl) (w : Sx) : MV → Bool
  | .tup [.int i, .int j] => (decide (0 ≤ i) && decide (i ≤ (R.length : Int) - 1)) && ((decide (0 ≤ j) && decide (j ≤ (w.length : Int) - 1)) && hitW (atR R i.toNat).1 w j.toNat)
  | _ => false
theorem wstepB_sV {R : List Rl} {w : Sx} {s : Nat × Nat} : wstepB R w (sV s) = decide (s ∈ stepsW R w) := by
  apply Bool.eq_iff_iff.mpr
  rw [decide_eq_true_iff]
  obtain ⟨i, j⟩ := s
  rw [mem_stepsW]
  show ((decide ((0 : Int) ≤ (i : Int)) && decide ((i : Int) ≤ (R.length : Int) - 1)) && ((decide ((0 : Int) ≤ (j : Int)) && decide ((j : Int) ≤ (w.length : Int) - 1)) && hitW (atR R (i : Int).toNat).1 w (j : Int).toNat)) = true ↔ _
  simp only [Bool.and_eq_true, decide_eq_true_iff, Int.toNat_natCast]
  constructor
  · rintro ⟨⟨h1, h2⟩, ⟨h3, h4⟩, h5⟩
    exact ⟨by omega, by omega, h5⟩
  · rintro ⟨h1, h2, h3⟩
    exact ⟨⟨by omega, by omega⟩, ⟨by omega, by omega⟩, h3⟩
section
variable {k : Nat} {mh : MHp} {R : List Rl} {w : Sx}
theorem sp_wstep (hR : OkR R) (hw : dat (.str w) = true) {v : MV} (hd : dat v = true) : callM T (k + 2) 6 [v, RV R, .str w] mh = some (.bl (wstepB R w v), mh) := by
  refine (fun (h : ∃ ρ', exs (callM T (k + 1)) mh.length _ [some v, some (RV R), some (.str w)] mh = some (.rt (.bl (wstepB R w v)), ρ', mh)) => let ⟨ρ', e⟩ := h; call_v (ρ0 := [some v, some (RV R), some (.str w)]) (ρ := ρ') (mh1 := mh) (fl := .rt (.bl (wstepB R w v))) rfl rfl e rfl rfl List.take_length) ?_
  have ty := isTy_tupV (mh := mh) (dat_dat2 _ hd)
  have t1 : ev (callM T (k + 1)) mh.length (.not (.isi (.var 0) .tuple)) [some v, some (RV R), some (.str w)] mh = some (.bl (!isT v), mh) := by simp [ev, ty]
  have hwl := dat_str_len hw
  have hlw : lenV mh (.str w) = _ := len_str (by omega)
  have hlR : lenV mh (RV R) = some (.int (R.length : Int)) := by simp [lenV]
  cases v with
  | tup xs =>
    have hdx : dats xs = true := by unfold dat at hd; exact hd
    have e2 : eqV mh (.int (xs.length : Int)) (.int 2) = some (decide (xs.length = 2)) := by
      rw [eqV_int]
      congr 1
      by_cases h : xs.length = 2 <;> simp [h] <;> omega
    have c2 : ev (callM T (k + 1)) mh.length (.cmp .ne (.bi .len [(.var 0)]) (.c (.int (2)))) [some (.tup xs), some (RV R), some (.str w)] mh = some (.bl (!decide (xs.length = 2)), mh) := by
      generalize decide (xs.length = 2) = bb at *
      simp [ev, evs, biV, one1, lenV, cmpV, e2]
    match xs, hdx, t1, c2 with
    | [a, c], hdx, t1, c2 =>
      have hda : dat a = true := by simp only [dats, Bool.and_eq_true] at hdx; exact hdx.1
      have hdc : dat c = true := by simp only [dats, Bool.and_eq_true] at hdx; exact hdx.2.1
      have w1 := whole_ok hWhole k a 0 ((R.length : Int) - 1) mh (dat_dat2 _ hda)
      have w2 := whole_ok hWhole k c 0 ((w.length : Int) - 1) mh (dat_dat2 _ hdc)
      have s0 : subV mh (.tup [a, c]) (.int 0) = some a := atI0
      have s1 : subV mh (.tup [a, c]) (.int 1) = some c := atI1
      have c3 : ev (callM T (k + 1)) mh.length (.not (.call 0 [(.sub (.var 0) (.c (.int (0)))), (.c (.int (0))), (.bin .sub (.bi .len [(.var 1)]) (.c (.int (1))))])) [some (.tup [a, c]), some (RV R), some (.str w)] mh = some (.bl (!isW a 0 ((R.length : Int) - 1)), mh) := by
        refine ev_notB ?_
        generalize RV R = rv at *
        simp [ev, evs, s0, biV, one1, hlR, binV, intV, w1]
      have cc := ev_orB t1 fun _ => ev_orB c2 fun _ => c3
      cases hi : isW a 0 ((R.length : Int) - 1) with
      | false =>
        rw [hi] at cc
        have hr : wstepB R w (.tup [a, c]) = false := by
          unfold wstepB
          split
          · rename_i i j e
            injection e with e
            injection e with q1 e
            injection e with q2 e
            subst q1 q2
            simp only [isW] at hi
            rw [hi]
            rfl
          · rfl
        rw [hr]
        exact ⟨_, ex_end ((ex_iteT cc).trans (ex_end ret_c))⟩
      | true =>
        rw [hi] at cc
        obtain ⟨i, rfl⟩ : ∃ i, a = .int i := by
          cases a <;> first | exact ⟨_, rfl⟩ | simp [isW] at hi
        have hi' := hi
        simp only [isW, Bool.and_eq_true, decide_eq_true_iff] at hi'
        have c4 : ev (callM T (k + 1)) mh.length (.call 0 [(.sub (.var 0) (.c (.int (1)))), (.c (.int (0))), (.bin .sub (.bi .len [(.var 2)]) (.c (.int (1))))]) [some (.tup [.int i, c]), some (RV R), some (.str w)] mh = some (.bl (isW c 0 ((w.length : Int) - 1)), mh) := by
          simp [ev, evs, s1, biV, one1, hlw, binV, intV, w2]
        cases hj : isW c 0 ((w.length : Int) - 1) with
        | false =>
          rw [hj] at c4
          have hr : wstepB R w (.tup [.int i, c]) = false := by
            unfold wstepB
            split
            · rename_i i' j e
              injection e with e
              injection e with q1 e
              injection e with q2 e
              injection q1 with q1
              subst q1 q2
              simp only [isW] at hj
              rw [hj]
              simp
            · rfl
          rw [hr]
          refine ⟨[some (.tup [.int i, c]), some (RV R), some (.str w)], ex_go ((ex_iteF cc).trans ex_done) (ex_end ?_)⟩
          simp only [ex]
          rw [ev, c4]
        | true =>
          rw [hj] at c4
          obtain ⟨j, rfl⟩ : ∃ j, c = .int j := by
            cases c <;> first | exact ⟨_, rfl⟩ | simp [isW] at hj
          have hj' := hj
          simp only [isW, Bool.and_eq_true, decide_eq_true_iff] at hj'
          have hr : wstepB R w (.tup [.int i, .int j]) = hitW (atR R i.toNat).1 w j.toNat := by
            show ((decide (0 ≤ i) && decide (i ≤ (R.length : Int) - 1)) && ((decide (0 ≤ j) && decide (j ≤ (w.length : Int) - 1)) && hitW (atR R i.toNat).1 w j.toNat)) = _
            rw [decide_eq_true hi'.1, decide_eq_true hi'.2, decide_eq_true hj'.1, decide_eq_true hj'.2]
            rfl
          rw [hr]
          have hs := sub_rule (R := R) (mh := mh) (k := i.toNat) (by omega)
          have ht := starts_hit (w := w) (l := (atR R i.toNat).1) (p := j.toNat) (by omega)
          rw [show ((i.toNat : Nat) : Int) = i by omega] at hs
          rw [show ((j.toNat : Nat) : Int) = j by omega] at ht
          have hp0 := sub_p0 (mh := mh) (p := atR R i.toNat)
          have c5 : ev (callM T (k + 1)) mh.length (.meth .start2 (.var 2) [(.sub (.sub (.var 1) (.sub (.var 0) (.c (.int (0))))) (.c (.int (0)))), (.sub (.var 0) (.c (.int (1))))]) [some (.tup [.int i, .int j]), some (RV R), some (.str w)] mh = some (.bl (hitW (atR R i.toNat).1 w j.toNat), mh) := by
            generalize RV R = rv at *
            generalize rV (atR R i.toNat) = pv at *
            simp [ev, evs, s0, s1, tyM, hs, hp0, methV, startV, ht]
          refine ⟨[some (.tup [.int i, .int j]), some (RV R), some (.str w)], ex_go ((ex_iteF cc).trans ex_done) (ex_end ?_)⟩
          simp only [ex]
          rw [ev, c4]
          simp only [c5]
    | [], hdx, t1, c2 =>
      have cc := ev_orB t1 fun _ => (ev_orB (y := .not (.call 0 [(.sub (.var 0) (.c (.int (0)))), (.c (.int (0))), (.bin .sub (.bi .len [(.var 1)]) (.c (.int (1))))])) (b := true) c2 (by simp))
      exact ⟨_, ex_end ((ex_iteT cc).trans (ex_end ret_c))⟩
    | [a], hdx, t1, c2 =>
      have cc := ev_orB t1 fun _ => (ev_orB (y := .not (.call 0 [(.sub (.var 0) (.c (.int (0)))), (.c (.int (0))), (.bin .sub (.bi .len [(.var 1)]) (.c (.int (1))))])) (b := true) c2 (by simp))
      rw [show wstepB R w (.tup [a]) = false by simp [wstepB]]
      exact ⟨_, ex_end ((ex_iteT cc).trans (ex_end ret_c))⟩
    | a :: c :: d :: xs, hdx, t1, c2 =>
      have cc := ev_orB t1 fun _ => (ev_orB (y := .not (.call 0 [(.sub (.var 0) (.c (.int (0)))), (.c (.int (0))), (.bin .sub (.bi .len [(.var 1)]) (.c (.int (1))))])) (b := true) c2 (by simp))
      have ht : (!isT (.tup (a :: c :: d :: xs)) || (!decide ((a :: c :: d :: xs).length = 2) || true)) = true := by simp
      rw [ht] at cc
      rw [show wstepB R w (.tup (a :: c :: d :: xs)) = false by simp [wstepB]]
      exact ⟨_, ex_end ((ex_iteT cc).trans (ex_end ret_c))⟩
  | fn _ => cases hd
  | loc _ => cases hd
  | dct _ _ => cases hd
  | scr _ => cases hd
  | _ =>
    have e : ∀ {x : ME}, ev (callM T (k + 1)) mh.length (.or (.not (.isi (.var 0) .tuple)) x) _ mh = _ := fun {x} => by rw [ev, t1]
    exact ⟨_, ex_end ((ex_iteT (e.trans rfl)).trans (ex_end ret_c))⟩
/-! ### rows -/
def behS (R : List Rl) : Sx → List (Nat × Nat) → Option Sx
  | w, [] => some w
  | w, s :: ss => if s ∈ stepsW R w then behS R (turnW R w s) ss else none
def optS : Option Sx → MV
  | some w => .str w
  | none => .non
theorem behS_ok (hR : OkR R) : ∀ (ss : List (Nat × Nat)) (w u : Sx), dat (.str w) = true → w.length + 4 * ss.length ≤ 900 → behS R w ss = some u → dat (.str u) = true ∧ u.length ≤ w.length + 4 * ss.length
  | [], w, u, hw, hl, h => by
    simp only [behS] at h
    cases h
    exact ⟨hw, by simp⟩
  | s :: ss, w, u, hw, hl, h => by
    simp only [behS] at h
    simp only [List.length_cons] at hl ⊢
    split at h
    · have h1 := len_turn (w := w) (s := s) hR
      obtain ⟨a, c⟩ := behS_ok hR ss _ _ (dat_turn hR hw (by omega)) (by omega) h
      exact ⟨a, by omega⟩
    · cases h
theorem optS_pd (hR : OkR R) {ss : List (Nat × Nat)} (hw : dat (.str w) = true) (hl : w.length + 4 * ss.length ≤ 900) : Pd (optS (behS R w ss)) := by
  cases e : behS R w ss with
  | none => exact Pd.non
  | some u => exact Pd.str (behS_ok hR ss w u hw hl e).1
abbrev bwB : List MS := [(.ite (.not (.call 6 [(.var 3), (.var 0), (.var 1)])) [(.ret (.c .non))] []), (.set (.nm 1) (.call 5 [(.var 0), (.var 1), (.var 3)]))]
abbrev lbB : List MS := [(.ite (.cmp .nmem (.var 3) (.call 22 [(.var 0), (.var 1)])) [(.ret (.c .non))] []), (.set (.nm 1) (.call 23 [(.var 0), (.var 1), (.var 3)]))]
theorem mem_sS {s : Nat × Nat} {ss : List (Nat × Nat)} : sV s ∈ ss.map sV ↔ s ∈ ss := by
  constructor
  · intro h
    obtain ⟨t, ht, e⟩ := List.mem_map.mp h
    have : t = s := by
      injection e with e
      injection e with e1 e
      injection e with e2 e
      injection e1 with e1
      injection e2 with e2
      exact Prod.ext (Int.ofNat.inj e1) (Int.ofNat.inj e2)
    subst this
    exact ht
  · exact fun h => List.mem_map.mpr ⟨s, h, rfl⟩
/-- one step of either loop -/
theorem beh_step (hR : OkR R) {s : Nat × Nat} {row : MV} {o3 : Option MV} (hw : dat (.str w) = true) (hl : w.length ≤ 900) {B : List MS} (hB : B = bwB ∨ B = lbB) :
    if s ∈ stepsW R w then forF (callM T (k + 2)) mh.length (.nm 3) B (sV s) [some (RV R), some (.str w), some row, o3] mh = some (.nx, [some (RV R), some (.str (turnW R w s)), some row, some (sV s)], mh)
    else forF (callM T (k + 2)) mh.length (.nm 3) B (sV s) [some (RV R), some (.str w), some row, o3] mh = some (.rt .non, [some (RV R), some (.str w), some row, some (sV s)], mh) := by
  have ha : asg mh (.nm 3) (sV s) [some (RV R), some (.str w), some row, o3] = some [some (RV R), some (.str w), some row, some (sV s)] := by simp [asg]
  have hcond : ∀ {c : ME} {ss : List MS}, ev (callM T (k + 2)) mh.length c [some (RV R), some (.str w), some row, some (sV s)] mh = some (.bl (!decide (s ∈ stepsW R w)), mh) → (s ∈ stepsW R w → exs (callM T (k + 2)) mh.length ss [some (RV R), some (.str w), some row, some (sV s)] mh = some (.nx, [some (RV R), some (.str (turnW R w s)), some row, some (sV s)], mh)) →
      if s ∈ stepsW R w then exs (callM T (k + 2)) mh.length ((.ite c [(.ret (.c .non))] []) :: ss) [some (RV R), some (.str w), some row, some (sV s)] mh = some (.nx, [some (RV R), some (.str (turnW R w s)), some row, some (sV s)], mh)
      else exs (callM T (k + 2)) mh.length ((.ite c [(.ret (.c .non))] []) :: ss) [some (RV R), some (.str w), some row, some (sV s)] mh = some (.rt .non, [some (RV R), some (.str w), some row, some (sV s)], mh) := by
    intro c ss h1 h2
    by_cases h : s ∈ stepsW R w
    · rw [if_pos h]
      rw [decide_eq_true h] at h1
      exact ex_go ((ex_iteF h1).trans ex_done) (h2 h)
    · rw [if_neg h]
      rw [decide_eq_false h] at h1
      exact ex_end ((ex_iteT h1).trans (ex_end ret_c))
  unfold forF
  rw [ha]
  simp only
  rcases hB with rfl | rfl
  · refine hcond ?_ fun hs => ?_
    · refine ev_notB ?_
      have := sp_wstep (k := k) (mh := mh) hR hw (dat_sV s)
      rw [wstepB_sV] at this
      generalize decide (s ∈ stepsW R w) = bb at *
      generalize RV R = rv at *
      generalize sV s = sv at *
      simp [ev, evs, this]
    · have := sp_turned (k := k + 1) (mh := mh) (s := s) hR (mem_stepsW.mp hs).1 hw hl
      have this : callM T (k + 2) 5 _ _ = _ := this
      generalize RV R = rv at *
      generalize sV s = sv at *
      simp [exs, ex, ev, evs, asg, this]
  · refine hcond ?_ fun hs => ?_
    · have h1 := sp_lsteps (k := k + 1) (mh := mh) hR hw
      have h1 : callM T (k + 2) 22 _ _ = _ := h1
      have h2 : memV mh (sV s) (.lst ((stepsW R w).map sV)) = some (decide (s ∈ stepsW R w)) := memV_b mh (pd_sV s) (frz_dat _ (pd_SL _).dat) (fun c t z => by cases z.1) (pd_SL _) (by rw [decide_eq_true_iff]; exact mem_sS.symm)
      generalize decide (s ∈ stepsW R w) = bb at *
      generalize RV R = rv at *
      generalize (stepsW R w).map sV = sm at *
      generalize sV s = sv at *
      simp [ev, evs, h1, cmpV, h2]
    · have := sp_lturned (k := k + 1) (mh := mh) (s := s) hR (mem_stepsW.mp hs).1 hw hl
      have this : callM T (k + 2) 23 _ _ = _ := this
      generalize RV R = rv at *
      generalize sV s = sv at *
      simp [exs, ex, ev, evs, asg, this]
theorem beh_loop (hR : OkR R) {row : MV} {B : List MS} (hB : B = bwB ∨ B = lbB) {J : Its} (hJ : J.src = none) : ∀ (ss : List (Nat × Nat)) (w : Sx) (o3 : Option MV), dat (.str w) = true → w.length + 4 * ss.length ≤ 900 →
    match behS R w ss with
    | some u => ∃ o3', forGo J (forF (callM T (k + 2)) mh.length (.nm 3) B) (ss.map sV) [some (RV R), some (.str w), some row, o3] mh = some (.nx, [some (RV R), some (.str u), some row, o3'], mh)
    | none => ∃ ρ', forGo J (forF (callM T (k + 2)) mh.length (.nm 3) B) (ss.map sV) [some (RV R), some (.str w), some row, o3] mh = some (.rt .non, ρ', mh)
  | [], w, o3, hw, hl => ⟨o3, forGo_nil_of hJ⟩
  | s :: ss, w, o3, hw, hl => by
    simp only [List.length_cons] at hl
    have st := beh_step (k := k) (mh := mh) (s := s) (row := row) (o3 := o3) hR hw (by omega) hB
    rw [behS]
    by_cases h : s ∈ stepsW R w
    · rw [if_pos h] at st
      rw [if_pos h]
      have ih := beh_loop (row := row) hR hB hJ ss (turnW R w s) (some (sV s)) (dat_turn hR hw (by omega)) (by have := len_turn (w := w) (s := s) hR; omega)
      cases e : behS R (turnW R w s) ss with
      | none =>
        rw [e] at ih
        obtain ⟨ρ', e2⟩ := ih
        refine ⟨ρ', ?_⟩
        rw [List.map_cons, forGo_cons_of hJ, st]
        exact e2
      | some u =>
        rw [e] at ih
        obtain ⟨o3', e2⟩ := ih
        refine ⟨o3', ?_⟩
        rw [List.map_cons, forGo_cons_of hJ, st]
        exact e2
    · rw [if_neg h] at st
      rw [if_neg h]
      refine ⟨[some (RV R), some (.str w), some row, some (sV s)], ?_⟩
      rw [List.map_cons, forGo_cons_of hJ, st]
theorem sp_behind (hR : OkR R) {ss : List (Nat × Nat)} (hw : dat (.str w) = true) (hl : w.length + 4 * ss.length ≤ 900) : callM T (k + 3) 7 [RV R, .str w, .tup (ss.map sV)] mh = some (optS (behS R w ss), mh) := by
  have loop := beh_loop (k := k) (mh := mh) (row := .tup (ss.map sV)) (B := bwB) hR (.inl rfl) (J := ⟨ss.map sV, none⟩) rfl ss w none hw hl
  have t1 : ev (callM T (k + 2)) mh.length (.not (.isi (.var 2) .tuple)) [some (RV R), some (.str w), some (.tup (ss.map sV)), none] mh = some (.bl false, mh) := by simp [ev, isTy]
  have hi : evI (callM T (k + 2)) mh.length (.var 2) [some (RV R), some (.str w), some (.tup (ss.map sV)), none] mh = some (⟨ss.map sV, none⟩, mh) := evI_var rfl rfl
  have r1 : ex (callM T (k + 2)) mh.length (.for (.nm 3) (.var 2) bwB) [some (RV R), some (.str w), some (.tup (ss.map sV)), none] mh = forGo ⟨ss.map sV, none⟩ (forF (callM T (k + 2)) mh.length (.nm 3) bwB) (ss.map sV) [some (RV R), some (.str w), some (.tup (ss.map sV)), none] mh := by rw [ex_for, hi]
  have hd := (optS_pd (ss := ss) hR hw hl).dat
  cases e : behS R w ss with
  | none =>
    rw [e] at loop hd
    obtain ⟨ρ', e2⟩ := loop
    exact call_v (ρ := ρ') (mh1 := mh) (fl := .rt .non) rfl rfl (ex_go ((ex_iteF t1).trans ex_done) (ex_end (r1.trans e2))) rfl rfl List.take_length
  | some u =>
    rw [e] at loop hd
    obtain ⟨o3', e2⟩ := loop
    refine call_v (ρ := [some (RV R), some (.str u), some (.tup (ss.map sV)), o3']) (mh1 := mh) (fl := .rt (.str u)) rfl rfl (ex_go ((ex_iteF t1).trans ex_done) (ex_go (r1.trans e2) (ex_end ?_))) rfl (dat_dat2 _ hd) List.take_length
    simp [ex, ev]
theorem sp_lbehind (hR : OkR R) {ss : List (Nat × Nat)} (hw : dat (.str w) = true) (hl : w.length + 4 * ss.length ≤ 900) : callM T (k + 3) 28 [RV R, .str w, .tup (ss.map sV)] mh = some (optS (behS R w ss), mh) := by
  have loop := beh_loop (k := k) (mh := mh) (row := .tup (ss.map sV)) (B := lbB) hR (.inr rfl) (J := ⟨ss.map sV, none⟩) rfl ss w none hw hl
  have hi : evI (callM T (k + 2)) mh.length (.var 2) [some (RV R), some (.str w), some (.tup (ss.map sV)), none] mh = some (⟨ss.map sV, none⟩, mh) := evI_var rfl rfl
  have r1 : ex (callM T (k + 2)) mh.length (.for (.nm 3) (.var 2) lbB) [some (RV R), some (.str w), some (.tup (ss.map sV)), none] mh = forGo ⟨ss.map sV, none⟩ (forF (callM T (k + 2)) mh.length (.nm 3) lbB) (ss.map sV) [some (RV R), some (.str w), some (.tup (ss.map sV)), none] mh := by rw [ex_for, hi]
  have hd := (optS_pd (ss := ss) hR hw hl).dat
  cases e : behS R w ss with
  | none =>
    rw [e] at loop hd
    obtain ⟨ρ', e2⟩ := loop
    exact call_v (ρ := ρ') (mh1 := mh) (fl := .rt .non) rfl rfl (ex_end (r1.trans e2)) rfl rfl List.take_length
  | some u =>
    rw [e] at loop hd
    obtain ⟨o3', e2⟩ := loop
    refine call_v (ρ := [some (RV R), some (.str u), some (.tup (ss.map sV)), o3']) (mh1 := mh) (fl := .rt (.str u)) rfl rfl (ex_go (r1.trans e2) (ex_end ?_)) rfl (dat_dat2 _ hd) List.take_length
    simp [ex, ev]
/-- a row that is none -/
theorem sp_behind_no (hR : OkR R) {v : MV} (hd : dat v = true) (hw : dat (.str w) = true) (h : isT v = false ∨ ∃ x, v = .tup [x] ∧ wstepB R w x = false) : callM T (k + 3) 7 [RV R, .str w, v] mh = some (.non, mh) := by
  refine (fun (h : ∃ ρ', exs (callM T (k + 2)) mh.length _ [some (RV R), some (.str w), some v, none] mh = some (.rt .non, ρ', mh)) => let ⟨ρ', e⟩ := h; call_v (ρ0 := [some (RV R), some (.str w), some v, none]) (ρ := ρ') (mh1 := mh) (fl := .rt .non) rfl rfl e rfl rfl List.take_length) ?_
  have ty := isTy_tupV (mh := mh) (dat_dat2 _ hd)
  rcases h with h | ⟨x, rfl, h⟩
  · rw [h] at ty
    have t1 : ev (callM T (k + 2)) mh.length (.not (.isi (.var 2) .tuple)) [some (RV R), some (.str w), some v, none] mh = some (.bl true, mh) := by simp [ev, ty]
    exact ⟨_, ex_end ((ex_iteT t1).trans (ex_end ret_c))⟩
  · have hdx : dat x = true := by simp only [dat, dats, Bool.and_true] at hd; exact hd
    have t1 : ev (callM T (k + 2)) mh.length (.not (.isi (.var 2) .tuple)) [some (RV R), some (.str w), some (.tup [x]), none] mh = some (.bl false, mh) := by simp [ev, isTy]
    have hs := sp_wstep (k := k) (mh := mh) hR hw hdx
    rw [h] at hs
    have hi : evI (callM T (k + 2)) mh.length (.var 2) [some (RV R), some (.str w), some (.tup [x]), none] mh = some (⟨[x], none⟩, mh) := evI_var rfl rfl
    have st : forF (callM T (k + 2)) mh.length (.nm 3) bwB x [some (RV R), some (.str w), some (.tup [x]), none] mh = some (.rt .non, [some (RV R), some (.str w), some (.tup [x]), some x], mh) := by
      have ha : asg mh (.nm 3) x [some (RV R), some (.str w), some (.tup [x]), none] = some [some (RV R), some (.str w), some (.tup [x]), some x] := by simp [asg]
      have hc : ev (callM T (k + 2)) mh.length (.not (.call 6 [(.var 3), (.var 0), (.var 1)])) [some (RV R), some (.str w), some (.tup [x]), some x] mh = some (.bl true, mh) := by
        generalize RV R = rv at *
        simp [ev, evs, hs]
      unfold forF
      rw [ha]
      exact ex_end ((ex_iteT hc).trans (ex_end ret_c))
    have r1 : ex (callM T (k + 2)) mh.length (.for (.nm 3) (.var 2) bwB) [some (RV R), some (.str w), some (.tup [x]), none] mh = some (.rt .non, [some (RV R), some (.str w), some (.tup [x]), some x], mh) := by
      rw [ex_for, hi]
      simp only
      rw [forGo_cons_of rfl, st]
    exact ⟨_, ex_go ((ex_iteF t1).trans ex_done) (ex_end r1)⟩
theorem sp_go_down (hR : OkR R) : callM T (k + 2) 9 [RV R] mh = some (.bl (R.all fun p => decide (Bef p.2 p.1)), mh) := by
  have hc := ev_compM (C := callM T (k + 1)) (base := mh.length) (ρ := [some (RV R), none]) (mh := mh) (tg := .nm 1) (own := [1]) (it := .var 0) (cond := .c (.bl true)) (e := .call 8 [(.sub (.var 1) (.c (.int (1)))), (.sub (.var 1) (.c (.int (0))))]) (emb := rV) (h := fun p => .bl (decide (Bef p.2 p.1))) (xs := R) (evI_var rfl rfl) (line_le (by have := hR.len; omega)) (fun p hp => by
    refine compF_T (ρ' := [some (RV R), some (rV p)]) (by simp [asg, wipeE]) (by simp [ev]) ?_
    have h1 := sp_is_before (k := k) (mh := mh) (hR.d2 p hp) (hR.d1 p hp)
    have h2 := sub_p0 (mh := mh) (p := p)
    have h3 := sub_p1 (mh := mh) (p := p)
    generalize rV p = pv at *
    generalize decide (Bef p.2 p.1) = bb at *
    simp [ev, evs, h2, h3, h1])
  have hb := bls_map' (mh := mh) R (fun p => decide (Bef p.2 p.1))
  refine call_v (ρ0 := [some (RV R), none]) (ρ := [some (RV R), none]) (mh1 := mh) (fl := .rt (.bl (R.all fun p => decide (Bef p.2 p.1)))) rfl rfl (ex_end ?_) rfl rfl List.take_length
  simp only [ex, ev]
  simp only [evs, hc, biV, one1, hb]
  simp [List.all_map, Function.comp_def]
end
end L2.Mi.k55

set_option Elab.async false
set_option linter.all false
set_option maxRecDepth 100000
set_option maxHeartbeats 4000000
/-! W55k: the law's drawing. -/
namespace L2.Mi.k55
open PySem PySem.Spec PyProof.Rows L2.Mi
theorem hTake : T[16]? = some takeD := rfl
theorem hPick : T[17]? = some (pickD 16) := rfl
theorem hState : T[15]? = some stateD := rfl
def alphs : List Sx := [[97, 98], [97, 98, 99], [120, 121], [97]]
def b0 (L : Sx) : Nat := L.headD 0
theorem alph_ok {L : Sx} (h : L ∈ alphs) : LW (b0 L) L ∧ b0 L ≤ 1000 ∧ L ≠ [] ∧ dat (.str L) = true := by
  simp only [alphs, List.mem_cons, List.not_mem_nil, or_false] at h
  rcases h with rfl | rfl | rfl | rfl <;> exact ⟨by unfold LW; decide, by decide, by decide, by decide⟩
/-- a word of some letters -/
def Of (L w : Sx) : Prop := ∀ c ∈ w, c ∈ L
theorem Of.lw {L w : Sx} (hL : L ∈ alphs) (h : Of L w) : LW (b0 L) w := fun c hc => (alph_ok hL).1 c (h c hc)
theorem Of.dat {L w : Sx} (hL : L ∈ alphs) (h : Of L w) (hl : w.length ≤ 1000) : dat (.str w) = true := dat_lw (alph_ok hL).2.1 (h.lw hL) hl
theorem lex_total : ∀ {u v : Sx}, u.length = v.length → u ≠ v → ¬ u < v → v < u
  | [], [], _, h, _ => absurd rfl h
  | [], _ :: _, h, _, _ => by simp at h
  | _ :: _, [], h, _, _ => by simp at h
  | a :: u, b :: v, h, hne, hn => by
    rw [List.cons_lt_cons_iff] at hn ⊢
    rcases Nat.lt_trichotomy a b with z | rfl | z
    · exact absurd (.inl z) hn
    · exact .inr ⟨rfl, lex_total (by simpa using h) (fun e => hne (by rw [e])) (fun e => hn (.inr ⟨rfl, e⟩))⟩
    · exact .inl z
theorem bef_total {u v : Sx} (hne : u ≠ v) (h : ¬ Bef u v) : Bef v u := by
  unfold Bef at h ⊢
  by_cases h1 : u.length = v.length
  · exact .inr ⟨h1.symm, lex_total h1 hne fun z => h (.inr ⟨h1, z⟩)⟩
  · have : ¬ u.length < v.length := fun z => h (.inl z)
    exact .inl (by omega)
section
variable {l n k : Nat} {hd : MHp} {L : Sx}
theorem sp_letters (tl : MHp) (S : St l n hd) : ∃ L hd', L ∈ alphs ∧ callM T (k + 3) 18 [.loc l] (hd ++ tl) = some (.str L, hd' ++ tl) ∧ St l n hd' := by
  obtain ⟨y, hd', hy, e, S'⟩ := pick_fr hTake hPick k tl S (alphs.map wS) (.inl rfl) (by simp [alphs]) (by simp [alphs]) (fun y hy => by
    obtain ⟨L, hL, rfl⟩ := List.mem_map.mp hy
    exact dat_dat2 _ (alph_ok hL).2.2.2)
  obtain ⟨L, hL, rfl⟩ := List.mem_map.mp hy
  refine ⟨L, hd', hL, ?_, S'⟩
  have z4 : 4 ≤ line := line_le (by omega)
  have hlen : (hd' ++ tl).length = (hd ++ tl).length := by rw [List.length_append, List.length_append, S'.1, S.1]
  have := call_st (T := T) (k := k + 2) (f := 18) (args := [.loc l]) (mh := hd ++ tl) (mh1 := hd' ++ tl) (ρ0 := [some (.loc l)]) (ρ := [some (.loc l)]) (fl := .rt (.str L)) (v := .str L) rfl rfl (by
    simp only [alphs, List.map] at e
    simp [exs, ex, ev, evs, z4, e]) rfl (dat_dat2 _ (alph_ok hL).2.2.2)
  rw [this, ← hlen, List.take_length]
theorem sp_word (hL : L ∈ alphs) (tl : MHp) (S : St l n hd) (m : Nat) (hm : m ≤ 100) : ∃ w hd', callM T (k + 3) 19 [.loc l, .str L, .int (m : Int)] (hd ++ tl) = some (.str w, hd' ++ tl) ∧ St l n hd' ∧ w.length ≤ m ∧ Of L w := by
  obtain ⟨r, hd1, e1, S1, r0, r1, r2⟩ := take_fr hTake (k + 1) tl S ((m : Int) + 1) (by omega)
  have e1 : callM T (k + 2) 16 [.loc l, .int ((m : Int) + 1)] (hd ++ tl) = _ := e1
  have hr : r.toNat ≤ m := by
    by_cases h : 2 ≤ (m : Int) + 1
    · have := r1 h; omega
    · have := r2 (by omega); omega
  obtain ⟨ys, mh2, e2, ⟨hd2, rfl, S2⟩, hl, hy⟩ := compGo_st (J := ⟨(List.range r.toNat).map iV, none⟩) rfl (f := compF (callM T (k + 2)) (hd ++ tl).length (.nm 3) [3] (.c (.bl true)) (.call 17 [(.var 0), (.var 1)]) [some (.loc l), some (.str L), some (.int (m : Int)), none]) (P := fun mh => ∃ hd', mh = hd' ++ tl ∧ St l n hd') (R := fun y => ∃ c ∈ L, y = .str [c]) (xs := (List.range r.toNat).map iV) ⟨hd1, rfl, S1⟩ (by
    rintro x hx mh ⟨hd', rfl, S'⟩
    obtain ⟨c, hd2, hc, e, S2⟩ := pick_frS hTake hPick k tl S' (alph_ok hL).2.2.1 (alph_ok hL).2.2.2
    refine ⟨.str [c], hd2 ++ tl, ?_, ⟨hd2, rfl, S2⟩, c, hc, rfl⟩
    exact compF_T (ρ' := [some (.loc l), some (.str L), some (.int (m : Int)), some x]) (by simp [asg, wipeE]) (by simp [ev]) (by simp [ev, evs, e]))
  obtain ⟨w, rfl, hw⟩ : ∃ w : Sx, ys = (w.map fun c => [c]).map MV.str ∧ ∀ c ∈ w, c ∈ L := by
    clear e2 hl
    induction ys with
    | nil => exact ⟨[], rfl, by simp⟩
    | cons y ys ih =>
      obtain ⟨c, hc, rfl⟩ := hy y List.mem_cons_self
      obtain ⟨w, rfl, hw⟩ := ih fun z hz => hy z (List.mem_cons_of_mem _ hz)
      exact ⟨c :: w, rfl, fun d hd => by
        rcases List.mem_cons.mp hd with rfl | hd
        · exact hc
        · exact hw d hd⟩
  have hwl : w.length ≤ m := by
    simp only [List.length_map, List.length_range] at hl
    omega
  have hsum : ((w.map fun c => [c]).map List.length).sum = w.length := by
    have gen : ∀ w : Sx, ((w.map fun c => [c]).map List.length).sum = w.length := by
      intro w
      induction w with
      | nil => rfl
      | cons c w ih => simp only [List.map_cons, List.sum_cons, ih, List.length_cons, List.length_nil]; omega
    exact gen w
  have hfl : (w.map fun c => [c]).flatten = w := by
    have gen : ∀ w : Sx, (w.map fun c => [c]).flatten = w := by
      intro w
      induction w with
      | nil => rfl
      | cons c w ih => simp only [List.map_cons, List.flatten_cons, ih, List.singleton_append]
    exact gen w
  have hj := join_ok (mh := hd2 ++ tl) (ws := w.map fun c => [c]) (by rw [hsum]; omega)
  rw [hfl] at hj
  refine ⟨w, hd2, ?_, S2, hwl, hw⟩
  have hlen : (hd2 ++ tl).length = (hd ++ tl).length := by rw [List.length_append, List.length_append, S2.1, S.1]
  have hi : evI (callM T (k + 2)) (hd ++ tl).length (.rng1 (.call 16 [(.var 0), (.bin .add (.var 2) (.c (.int (1))))])) [some (.loc l), some (.str L), some (.int (m : Int)), none] (hd ++ tl) = some (⟨(List.range r.toNat).map iV, none⟩, hd1 ++ tl) := by
    have b2 : r < 4611686018427387904 := by omega
    have b3 : (-4611686018427387904 : Int) ≤ r := by omega
    simp [evI, ev, evs, binV, add_int, e1, b2, b3]
  have hc : ev (callM T (k + 2)) (hd ++ tl).length (.comp (.nm 3) [3] (.rng1 (.call 16 [(.var 0), (.bin .add (.var 2) (.c (.int (1))))])) (.c (.bl true)) (.call 17 [(.var 0), (.var 1)])) [some (.loc l), some (.str L), some (.int (m : Int)), none] (hd ++ tl) = some (.lst ((w.map fun c => [c]).map MV.str), hd2 ++ tl) := by
    rw [ev_compq, hi]
    have : ((List.range r.toNat).map iV).length ≤ line := by rw [List.length_map, List.length_range]; exact line_le (by omega)
    simp only [this, if_true, e2]
  have := call_st (T := T) (k := k + 2) (f := 19) (args := [.loc l, .str L, .int (m : Int)]) (mh := hd ++ tl) (mh1 := hd2 ++ tl) (ρ0 := [some (.loc l), some (.str L), some (.int (m : Int)), none]) (ρ := [some (.loc l), some (.str L), some (.int (m : Int)), none]) (fl := .rt (.str w)) (v := .str w) rfl rfl (ex_end (by
    simp only [ex, ev, tyM, if_true, evs, hc, methV, hj])) rfl (dat_dat2 _ (Of.dat hL hw (by omega)))
  rw [this, ← hlen, List.take_length]
/-- rules as the law draws them -/
structure RW (L : Sx) (m : Nat) (R : List Rl) : Prop where
  len : R.length ≤ 4
  o1 : ∀ p ∈ R, Of L p.1
  o2 : ∀ p ∈ R, Of L p.2
  l1 : ∀ p ∈ R, p.1.length ≤ m
  l2 : ∀ p ∈ R, p.2.length ≤ m
theorem RW.ok {R : List Rl} {m : Nat} (hL : L ∈ alphs) (h : RW L m R) (hm : m ≤ 4) : OkR R :=
  ⟨by have := h.len; omega, fun p hp => (h.o1 p hp).dat hL (by have := h.l1 p hp; omega), fun p hp => (h.o2 p hp).dat hL (by have := h.l2 p hp; omega), fun p hp => by have := h.l1 p hp; omega, fun p hp => by have := h.l2 p hp; omega⟩
abbrev lrB : List MS := [(.par 5 6 (.call 19 [(.var 0), (.var 1), (.c (.int (4)))]) (.call 19 [(.var 0), (.var 1), (.c (.int (4)))])), (.ite (.cmp .ne (.var 5) (.var 6)) [(.ex (.meth .append (.var 3) [(.ite (.call 20 [(.var 5), (.var 6)]) (.tup [(.var 6), (.var 5)]) (.tup [(.var 5), (.var 6)]))]))] [])]
theorem sp_lrules (hL : L ∈ alphs) (tl : MHp) (S : St l n hd) : ∃ R hd', callM T (k + 5) 21 [.loc l, .str L, .int 4] (hd ++ tl) = some (RV R, hd' ++ tl) ∧ St l n hd' ∧ RW L 4 R ∧ ∀ p ∈ R, Bef p.2 p.1 := by
  have z0 : 0 ≤ line := line_le (by omega)
  have z2 : 2 ≤ line := line_le (by omega)
  obtain ⟨r, hd1, e1, S1, r0, r1, _⟩ := take_fr hTake (k + 3) (tl ++ [some (.lst [])]) S 5 (by omega)
  have r1 := r1 (by omega)
  let P : Nat → Env → MHp → Prop := fun i ρ m => ∃ (R : List Rl) (hd' : MHp) (o4 o5 o6 : Option MV), ρ = [some (.loc l), some (.str L), some (.int 4), some (.loc (hd ++ tl).length), o4, o5, o6] ∧ m = hd' ++ (tl ++ [some (.lst (R.map rV))]) ∧ St l n hd' ∧ R.length ≤ i ∧ (∀ p ∈ R, Of L p.1 ∧ Of L p.2 ∧ p.1.length ≤ 4 ∧ p.2.length ≤ 4 ∧ Bef p.2 p.1)
  obtain ⟨ρ2, mh2, e2, R, hd2, o4, o5, o6, rfl, rfl, S2, hRl, hR⟩ := for_cnt (J := ⟨(List.range r.toNat).map iV, none⟩) (f := forF (callM T (k + 4)) (hd ++ tl).length (.nm 4) lrB) P rfl ((List.range r.toNat).map iV) 0 (by
    rintro x hx i ρ m ⟨R, hd', o4, o5, o6, rfl, rfl, S', hRl, hR⟩ hi
    rw [List.length_map, List.length_range] at hi
    obtain ⟨u, hd1, f1, T1, u1, u2⟩ := sp_word (k := k + 1) hL (tl ++ [some (.lst (R.map rV))]) S' 4 (by omega)
    obtain ⟨v, hd2, f2, T2, v1, v2⟩ := sp_word (k := k + 1) hL (tl ++ [some (.lst (R.map rV))]) T1 4 (by omega)
    have du := u2.dat hL (by omega)
    have dv := v2.dat hL (by omega)
    have f1 : callM T (k + 4) 19 [.loc l, .str L, .int 4] (hd' ++ (tl ++ [some (.lst (R.map rV))])) = _ := f1
    have f2 : callM T (k + 4) 19 [.loc l, .str L, .int 4] (hd1 ++ (tl ++ [some (.lst (R.map rV))])) = _ := f2
    have e3 : eqV (hd2 ++ (tl ++ [some (.lst (R.map rV))])) (.str u) (.str v) = some (decide (u = v)) := eqV_str _ _ _ du dv
    have e4 := sp_lbefore (k := k + 3) (mh := hd2 ++ (tl ++ [some (.lst (R.map rV))])) du dv
    have e4 : callM T (k + 4) 20 _ _ = _ := e4
    have ha : asg (hd' ++ (tl ++ [some (.lst (R.map rV))])) (.nm 4) x [some (.loc l), some (.str L), some (.int 4), some (.loc (hd ++ tl).length), o4, o5, o6] = some [some (.loc l), some (.str L), some (.int 4), some (.loc (hd ++ tl).length), some x, o5, o6] := by simp [asg]
    have s1 : ex (callM T (k + 4)) (hd ++ tl).length (.par 5 6 (.call 19 [(.var 0), (.var 1), (.c (.int (4)))]) (.call 19 [(.var 0), (.var 1), (.c (.int (4)))])) [some (.loc l), some (.str L), some (.int 4), some (.loc (hd ++ tl).length), some x, o5, o6] (hd' ++ (tl ++ [some (.lst (R.map rV))])) = some (.nx, [some (.loc l), some (.str L), some (.int 4), some (.loc (hd ++ tl).length), some x, some (.str u), some (.str v)], hd2 ++ (tl ++ [some (.lst (R.map rV))])) := by
      generalize hd' ++ (tl ++ [some (MO.lst (R.map rV))]) = m0 at *
      generalize hd1 ++ (tl ++ [some (MO.lst (R.map rV))]) = m1 at *
      generalize hd2 ++ (tl ++ [some (MO.lst (R.map rV))]) = m2 at *
      simp [ex, ev, evs, f1, f2]
    by_cases huv : u = v
    · have c1 : ev (callM T (k + 4)) (hd ++ tl).length (.cmp .ne (.var 5) (.var 6)) [some (.loc l), some (.str L), some (.int 4), some (.loc (hd ++ tl).length), some x, some (.str u), some (.str v)] (hd2 ++ (tl ++ [some (.lst (R.map rV))])) = some (.bl false, hd2 ++ (tl ++ [some (.lst (R.map rV))])) := by
        rw [decide_eq_true huv] at e3
        simp [ev, cmpV, e3]
      refine ⟨[some (.loc l), some (.str L), some (.int 4), some (.loc (hd ++ tl).length), some x, some (.str u), some (.str v)], hd2 ++ (tl ++ [some (.lst (R.map rV))]), ?_, R, hd2, _, _, _, rfl, rfl, T2, by omega, hR⟩
      unfold forF
      rw [ha]
      exact ex_go s1 (ex_go ((ex_iteF c1).trans ex_done) ex_done)
    · have c1 : ev (callM T (k + 4)) (hd ++ tl).length (.cmp .ne (.var 5) (.var 6)) [some (.loc l), some (.str L), some (.int 4), some (.loc (hd ++ tl).length), some x, some (.str u), some (.str v)] (hd2 ++ (tl ++ [some (.lst (R.map rV))])) = some (.bl true, hd2 ++ (tl ++ [some (.lst (R.map rV))])) := by
        rw [decide_eq_false huv] at e3
        simp [ev, cmpV, e3]
      let p : Rl := if Bef u v then (v, u) else (u, v)
      have hp : Of L p.1 ∧ Of L p.2 ∧ p.1.length ≤ 4 ∧ p.2.length ≤ 4 ∧ Bef p.2 p.1 := by
        by_cases hb : Bef u v
        · have : p = (v, u) := if_pos hb
          rw [this]
          exact ⟨v2, u2, v1, u1, hb⟩
        · have : p = (u, v) := if_neg hb
          rw [this]
          exact ⟨u2, v2, u1, v1, bef_total huv hb⟩
      have hl2 : hd2.length = hd.length := by rw [T2.1, S.1]
      have hget : (hd2 ++ (tl ++ [some (MO.lst (R.map rV))]))[(hd ++ tl).length]? = some (some (.lst (R.map rV))) := by
        rw [← List.append_assoc, show (hd ++ tl).length = (hd2 ++ tl).length by rw [List.length_append, List.length_append, hl2]]
        exact get_app0
      have hset : (hd2 ++ (tl ++ [some (MO.lst (R.map rV))])).set (hd ++ tl).length (some (.lst (R.map rV ++ [rV p]))) = hd2 ++ (tl ++ [some (.lst ((R ++ [p]).map rV))]) := by
        rw [← List.append_assoc, show (hd ++ tl).length = (hd2 ++ tl).length by rw [List.length_append, List.length_append, hl2], set_app0, List.append_assoc, List.map_append]
        rfl
      have hev : ev (callM T (k + 4)) (hd ++ tl).length (.ite (.call 20 [(.var 5), (.var 6)]) (.tup [(.var 6), (.var 5)]) (.tup [(.var 5), (.var 6)])) [some (.loc l), some (.str L), some (.int 4), some (.loc (hd ++ tl).length), some x, some (.str u), some (.str v)] (hd2 ++ (tl ++ [some (.lst (R.map rV))])) = some (rV p, hd2 ++ (tl ++ [some (.lst (R.map rV))])) := by
        by_cases hb : Bef u v
        · have : p = (v, u) := if_pos hb
          rw [this]
          rw [decide_eq_true hb] at e4
          generalize hd2 ++ (tl ++ [some (MO.lst (R.map rV))]) = m2 at *
          simp [ev, evs, e4, z2]
        · have : p = (u, v) := if_neg hb
          rw [this]
          rw [decide_eq_false hb] at e4
          generalize hd2 ++ (tl ++ [some (MO.lst (R.map rV))]) = m2 at *
          simp [ev, evs, e4, z2]
      have happ := ex_app (C := callM T (k + 4)) (b := (hd ++ tl).length) (i := 3) (ρ := [some (.loc l), some (.str L), some (.int 4), some (.loc (hd ++ tl).length), some x, some (.str u), some (.str v)]) rfl (by simp only [liveL, hget]; rfl) hev hget (wr_own (Nat.le_refl _)) (by rw [List.length_map]; omega)
      rw [hset] at happ
      refine ⟨[some (.loc l), some (.str L), some (.int 4), some (.loc (hd ++ tl).length), some x, some (.str u), some (.str v)], hd2 ++ (tl ++ [some (.lst ((R ++ [p]).map rV))]), ?_, R ++ [p], hd2, _, _, _, rfl, rfl, T2, by rw [List.length_append, List.length_singleton]; omega, fun q hq => ?_⟩
      · unfold forF
        rw [ha]
        exact ex_go s1 (ex_go ((ex_iteT c1).trans (ex_go happ ex_done)) ex_done)
      · rcases List.mem_append.mp hq with hq | hq
        · exact hR q hq
        · rw [List.mem_singleton] at hq
          subst hq
          exact hp) [some (.loc l), some (.str L), some (.int 4), some (.loc (hd ++ tl).length), none, none, none] (hd1 ++ (tl ++ [some (.lst [])])) ⟨[], hd1, _, _, _, rfl, rfl, S1, by simp, by simp⟩
  rw [List.length_map, List.length_range] at hRl
  have hRW : RW L 4 R := ⟨by omega, fun p hp => (hR p hp).1, fun p hp => (hR p hp).2.1, fun p hp => (hR p hp).2.2.1, fun p hp => (hR p hp).2.2.2.1⟩
  refine ⟨R, hd2, ?_, S2, hRW, fun p hp => (hR p hp).2.2.2.2⟩
  have hl2 : hd2.length = hd.length := by rw [S2.1, S.1]
  have hdd : dat (RV R) = true := by
    have hok := hRW.ok hL (by omega)
    show dat (.tup (R.map rV)) = true
    unfold dat
    exact dats_iff.mpr fun x hx => by
      obtain ⟨p, hp, rfl⟩ := List.mem_map.mp hx
      exact (pd_rV hok hp).dat
  have hlen : (hd2 ++ tl).length = (hd ++ tl).length := by rw [List.length_append, List.length_append, hl2]
  have hget : (hd2 ++ (tl ++ [some (MO.lst (R.map rV))]))[(hd ++ tl).length]? = some (some (.lst (R.map rV))) := by
    rw [← List.append_assoc, ← hlen]
    exact get_app0
  have hi : evI (callM T (k + 4)) (hd ++ tl).length (.rng1 (.call 16 [(.var 0), (.bin .add (.var 2) (.c (.int (1))))])) [some (.loc l), some (.str L), some (.int 4), some (.loc (hd ++ tl).length), none, none, none] (hd ++ (tl ++ [some (.lst [])])) = some (⟨(List.range r.toNat).map iV, none⟩, hd1 ++ (tl ++ [some (.lst [])])) := by
    have b2 : r < 4611686018427387904 := by omega
    have b3 : (-4611686018427387904 : Int) ≤ r := by omega
    have e1 : callM T (k + 4) 16 [.loc l, .int 5] (hd ++ (tl ++ [some (.lst [])])) = _ := e1
    generalize hd ++ (tl ++ [some (MO.lst [])]) = m0 at *
    generalize hd1 ++ (tl ++ [some (MO.lst [])]) = m1 at *
    simp [evI, ev, evs, binV, add_int, e1, b2, b3]
  have := call_st (T := T) (k := k + 4) (f := 21) (args := [.loc l, .str L, .int 4]) (mh := hd ++ tl) (mh1 := hd2 ++ (tl ++ [some (.lst (R.map rV))])) (ρ0 := [some (.loc l), some (.str L), some (.int 4), none, none, none, none]) (ρ := [some (.loc l), some (.str L), some (.int 4), some (.loc (hd ++ tl).length), o4, o5, o6]) (fl := .rt (RV R)) (v := RV R) rfl rfl (by
    refine ex_go (ρ1 := [some (.loc l), some (.str L), some (.int 4), some (.loc (hd ++ tl).length), none, none, none]) (mh1 := hd ++ (tl ++ [some (.lst [])])) (by simp [ex, ev, evs, asg, z0]) (ex_go (ρ1 := [some (.loc l), some (.str L), some (.int 4), some (.loc (hd ++ tl).length), o4, o5, o6]) (mh1 := hd2 ++ (tl ++ [some (.lst (R.map rV))])) ?_ (ex_end ?_))
    · rw [ex_for, hi]
      exact e2
    · generalize hd2 ++ (tl ++ [some (MO.lst (R.map rV))]) = m2 at *
      generalize (hd ++ tl).length = bb at *
      simp [ex, ev, evs, biV, one1, tupV, getL, hget]) rfl (dat_dat2 _ hdd)
  rw [this, ← List.append_assoc, ← hlen, List.take_left]
end
end L2.Mi.k55

set_option Elab.async false
set_option linter.all false
set_option maxRecDepth 100000
set_option maxHeartbeats 4000000
/-! W55l: free rules, rows, odd values. -/
namespace L2.Mi.k55
open PySem PySem.Spec PyProof.Rows L2.Mi
section
variable {l n k : Nat} {hd : MHp} {L : Sx}
theorem sp_lany (hL : L ∈ alphs) (tl : MHp) (S : St l n hd) : ∃ R hd', callM T (k + 5) 29 [.loc l, .str L] (hd ++ tl) = some (RV R, hd' ++ tl) ∧ St l n hd' ∧ RW L 3 R ∧ ∀ p ∈ R, p.1 ≠ [] := by
  have z2 : 2 ≤ line := line_le (by omega)
  obtain ⟨r, hd1, e1, S1, r0, r1, _⟩ := take_fr hTake (k + 3) tl S 4 (by omega)
  have r1 := r1 (by omega)
  have e1 : callM T (k + 4) 16 [.loc l, .int 4] (hd ++ tl) = _ := e1
  obtain ⟨ys, mh2, e2, ⟨hd2, rfl, S2⟩, hl, hy⟩ := compGo_st (J := ⟨(List.range r.toNat).map iV, none⟩) rfl (f := compF (callM T (k + 4)) (hd ++ tl).length (.nm 2) [2] (.c (.bl true)) (.tup [(.bin .add (.call 17 [(.var 0), (.var 1)]) (.call 19 [(.var 0), (.var 1), (.c (.int (2)))])), (.call 19 [(.var 0), (.var 1), (.c (.int (3)))])]) [some (.loc l), some (.str L), none]) (P := fun mh => ∃ hd', mh = hd' ++ tl ∧ St l n hd') (R := fun y => ∃ p : Rl, y = rV p ∧ Of L p.1 ∧ Of L p.2 ∧ p.1.length ≤ 3 ∧ p.2.length ≤ 3 ∧ p.1 ≠ []) (xs := (List.range r.toNat).map iV) ⟨hd1, rfl, S1⟩ (by
    rintro x hx mh ⟨hd', rfl, S'⟩
    obtain ⟨c, h1, hc, f1, T1⟩ := pick_frS hTake hPick (k + 2) tl S' (alph_ok hL).2.2.1 (alph_ok hL).2.2.2
    have f1 : callM T (k + 4) 17 _ _ = _ := f1
    obtain ⟨u, h2, f2, T2, u1, u2⟩ := sp_word (k := k + 1) hL tl T1 2 (by omega)
    have f2 : callM T (k + 4) 19 [.loc l, .str L, .int 2] _ = _ := f2
    obtain ⟨v, h3, f3, T3, v1, v2⟩ := sp_word (k := k + 1) hL tl T2 3 (by omega)
    have f3 : callM T (k + 4) 19 [.loc l, .str L, .int 3] _ = _ := f3
    have f4 : addV (h2 ++ tl) (.str [c]) (.str u) = _ := add_str (by simp) (by omega)
    refine ⟨rV ([c] ++ u, v), h3 ++ tl, ?_, ⟨h3, rfl, T3⟩, ([c] ++ u, v), rfl, ?_, v2, ?_, v1, by simp⟩
    · exact compF_T (ρ' := [some (.loc l), some (.str L), some x]) (by simp [asg, wipeE]) (by simp [ev]) (by
        generalize hd' ++ tl = m0 at *
        generalize h1 ++ tl = m1 at *
        generalize h2 ++ tl = m2 at *
        generalize h3 ++ tl = m3 at *
        generalize [c] ++ u = cu at *
        simp [ev, evs, f1, f2, f3, binV, f4, z2])
    · intro d hd
      rcases List.mem_append.mp hd with hd | hd
      · simp at hd; subst hd; exact hc
      · exact u2 d hd
    · simp only [List.length_append, List.length_singleton]; omega)
  obtain ⟨R, rfl, hR⟩ : ∃ R : List Rl, ys = R.map rV ∧ ∀ p ∈ R, Of L p.1 ∧ Of L p.2 ∧ p.1.length ≤ 3 ∧ p.2.length ≤ 3 ∧ p.1 ≠ [] := by
    clear e2 hl
    induction ys with
    | nil => exact ⟨[], rfl, by simp⟩
    | cons y ys ih =>
      obtain ⟨p, rfl, hp⟩ := hy y List.mem_cons_self
      obtain ⟨R, rfl, hR⟩ := ih fun z hz => hy z (List.mem_cons_of_mem _ hz)
      exact ⟨p :: R, rfl, fun q hq => by
        rcases List.mem_cons.mp hq with rfl | hq
        · exact hp
        · exact hR q hq⟩
  simp only [List.length_map, List.length_range] at hl
  have hRW : RW L 3 R := ⟨by omega, fun p hp => (hR p hp).1, fun p hp => (hR p hp).2.1, fun p hp => (hR p hp).2.2.1, fun p hp => (hR p hp).2.2.2.1⟩
  refine ⟨R, hd2, ?_, S2, hRW, fun p hp => (hR p hp).2.2.2.2⟩
  have hlen : (hd2 ++ tl).length = (hd ++ tl).length := by rw [List.length_append, List.length_append, S2.1, S.1]
  have hdd : dat (RV R) = true := by
    have hok := hRW.ok hL (by omega)
    show dat (.tup (R.map rV)) = true
    unfold dat
    exact dats_iff.mpr fun x hx => by
      obtain ⟨p, hp, rfl⟩ := List.mem_map.mp hx
      exact (pd_rV hok hp).dat
  have hi : evI (callM T (k + 4)) (hd ++ tl).length (.rng1 (.call 16 [(.var 0), (.c (.int (4)))])) [some (.loc l), some (.str L), none] (hd ++ tl) = some (⟨(List.range r.toNat).map iV, none⟩, hd1 ++ tl) := by
    have b2 : r < 4611686018427387904 := by omega
    have b3 : (-4611686018427387904 : Int) ≤ r := by omega
    simp [evI, ev, evs, e1, b2, b3]
  have hc : ev (callM T (k + 4)) (hd ++ tl).length (.comp (.nm 2) [2] (.rng1 (.call 16 [(.var 0), (.c (.int (4)))])) (.c (.bl true)) (.tup [(.bin .add (.call 17 [(.var 0), (.var 1)]) (.call 19 [(.var 0), (.var 1), (.c (.int (2)))])), (.call 19 [(.var 0), (.var 1), (.c (.int (3)))])])) [some (.loc l), some (.str L), none] (hd ++ tl) = some (.lst (R.map rV), hd2 ++ tl) := by
    rw [ev_compq, hi]
    have : ((List.range r.toNat).map iV).length ≤ line := by rw [List.length_map, List.length_range]; exact line_le (by omega)
    simp only [this, if_true, e2]
  have := call_st (T := T) (k := k + 4) (f := 29) (args := [.loc l, .str L]) (mh := hd ++ tl) (mh1 := hd2 ++ tl) (ρ0 := [some (.loc l), some (.str L), none]) (ρ := [some (.loc l), some (.str L), none]) (fl := .rt (RV R)) (v := RV R) rfl rfl (ex_end (by
    simp only [ex, ev]
    simp only [evs, hc, biV, one1, tupV, getL, Option.map_some])) rfl (dat_dat2 _ hdd)
  rw [this, ← hlen, List.take_length]
/-! ### rows -/
theorem behS_snoc {R : List Rl} : ∀ (ss : List (Nat × Nat)) (w u : Sx) (s : Nat × Nat), behS R w ss = some u → s ∈ stepsW R u → behS R w (ss ++ [s]) = some (turnW R u s)
  | [], w, u, s, h, hs => by
    simp only [behS] at h
    cases h
    simp only [List.nil_append, behS]
    rw [if_pos hs]
  | t :: ss, w, u, s, h, hs => by
    simp only [behS, List.cons_append] at h ⊢
    split at h
    · rename_i ht
      rw [if_pos ht]
      exact behS_snoc ss _ u s h hs
    · cases h
abbrev rwB : List MS := [(.set (.nm 5) (.call 22 [(.var 1), (.var 2)])), (.ite (.and (.cmp .ne (.var 5) (.lst [])) (.cmp .lt (.bi .len [(.var 2)]) (.c (.int (40))))) [(.ex (.meth .append (.var 3) [(.call 17 [(.var 0), (.var 5)])])), (.set (.nm 2) (.call 23 [(.var 1), (.var 2), (.sub (.var 3) (.neg (.c (.int (1)))))]))] [])]
theorem sp_lrow {R : List Rl} (hR : OkR R) {w : Sx} (hw : dat (.str w) = true) (hwl : w.length ≤ 100) (tl : MHp) (S : St l n hd) : ∃ ss u hd', callM T (k + 4) 27 [.loc l, RV R, .str w] (hd ++ tl) = some (.tup [.tup (ss.map sV), .str u], hd' ++ tl) ∧ St l n hd' ∧ ss.length ≤ 4 ∧ behS R w ss = some u := by
  have z0 : 0 ≤ line := line_le (by omega)
  have z2 : 2 ≤ line := line_le (by omega)
  obtain ⟨r, hd1, e1, S1, r0, r1, _⟩ := take_fr hTake (k + 2) (tl ++ [some (.lst [])]) S 5 (by omega)
  have r1 := r1 (by omega)
  have e1 : callM T (k + 3) 16 [.loc l, .int 5] _ = _ := e1
  let P : Nat → Env → MHp → Prop := fun i ρ m => ∃ (ss : List (Nat × Nat)) (u : Sx) (hd' : MHp) (o4 o5 : Option MV), ρ = [some (.loc l), some (RV R), some (.str u), some (.loc (hd ++ tl).length), o4, o5] ∧ m = hd' ++ (tl ++ [some (.lst (ss.map sV))]) ∧ St l n hd' ∧ ss.length ≤ i ∧ behS R w ss = some u
  obtain ⟨ρ2, mh2, e2, ss, u, hd2, o4, o5, rfl, rfl, S2, hsl, hb⟩ := for_cnt (J := ⟨(List.range r.toNat).map iV, none⟩) (f := forF (callM T (k + 3)) (hd ++ tl).length (.nm 4) rwB) P rfl ((List.range r.toNat).map iV) 0 (by
    rintro x hx i ρ m ⟨ss, u, hd', o4, o5, rfl, rfl, S', hsl, hb⟩ hi
    rw [List.length_map, List.length_range] at hi
    obtain ⟨du, lu⟩ := behS_ok hR ss w u hw (by omega) hb
    have c1 := sp_lsteps (k := k + 2) (mh := hd' ++ (tl ++ [some (.lst (ss.map sV))])) hR du
    have c1 : callM T (k + 3) 22 _ _ = _ := c1
    have hnil := eqV_nil (mh := hd' ++ (tl ++ [some (.lst (ss.map sV))])) (stepsW R u)
    have hlu : lenV (hd' ++ (tl ++ [some (.lst (ss.map sV))])) (.str u) = _ := len_str (by omega)
    have ha : asg (hd' ++ (tl ++ [some (.lst (ss.map sV))])) (.nm 4) x [some (.loc l), some (RV R), some (.str u), some (.loc (hd ++ tl).length), o4, o5] = some [some (.loc l), some (RV R), some (.str u), some (.loc (hd ++ tl).length), some x, o5] := by simp [asg]
    have s1 : ex (callM T (k + 3)) (hd ++ tl).length (.set (.nm 5) (.call 22 [(.var 1), (.var 2)])) [some (.loc l), some (RV R), some (.str u), some (.loc (hd ++ tl).length), some x, o5] (hd' ++ (tl ++ [some (.lst (ss.map sV))])) = some (.nx, [some (.loc l), some (RV R), some (.str u), some (.loc (hd ++ tl).length), some x, some (.lst ((stepsW R u).map sV))], hd' ++ (tl ++ [some (.lst (ss.map sV))])) := by
      generalize hd' ++ (tl ++ [some (MO.lst (ss.map sV))]) = m0 at *
      generalize (stepsW R u).map sV = sm at *
      generalize RV R = rv at *
      simp [ex, ev, evs, c1, asg]
    have hc : ev (callM T (k + 3)) (hd ++ tl).length (.and (.cmp .ne (.var 5) (.lst [])) (.cmp .lt (.bi .len [(.var 2)]) (.c (.int (40))))) [some (.loc l), some (RV R), some (.str u), some (.loc (hd ++ tl).length), some x, some (.lst ((stepsW R u).map sV))] (hd' ++ (tl ++ [some (.lst (ss.map sV))])) = some (.bl (!(stepsW R u).isEmpty && decide ((u.length : Int) < 40)), hd' ++ (tl ++ [some (.lst (ss.map sV))])) := by
      generalize hd' ++ (tl ++ [some (MO.lst (ss.map sV))]) = m0 at *
      generalize (stepsW R u).map sV = sm at *
      generalize (stepsW R u).isEmpty = eb at *
      generalize RV R = rv at *
      generalize (u.length : Int) = ul at *
      refine ev_andB ?_ fun _ => ?_
      · simp [ev, evs, cmpV, hnil, z0]
      · simp [ev, evs, biV, one1, hlu, cmpV, ordV]
    by_cases hcc : stepsW R u ≠ [] ∧ (u.length : Int) < 40
    · have hb2 : (!(stepsW R u).isEmpty && decide ((u.length : Int) < 40)) = true := by
        rw [decide_eq_true hcc.2]
        cases h : stepsW R u with
        | nil => exact absurd h hcc.1
        | cons _ _ => rfl
      rw [hb2] at hc
      have hstl := steps_le (w := u) hR.len
      obtain ⟨y, hd2, hy, f1, T1⟩ := pick_fr hTake hPick (k + 1) (tl ++ [some (.lst (ss.map sV))]) S' ((stepsW R u).map sV) (.inl rfl) (by simpa using hcc.1) (by rw [List.length_map]; omega) (fun y hy => by
        obtain ⟨s, _, rfl⟩ := List.mem_map.mp hy
        rfl)
      obtain ⟨s, hs, rfl⟩ := List.mem_map.mp hy
      have f1 : callM T (k + 3) 17 _ _ = _ := f1
      have hl2 : hd2.length = hd.length := by rw [T1.1, S.1]
      have hl1 : hd'.length = hd.length := by rw [S'.1, S.1]
      have hlen : (hd ++ tl).length = (hd2 ++ tl).length := by rw [List.length_append, List.length_append, hl2]
      have hlen1 : (hd ++ tl).length = (hd' ++ tl).length := by rw [List.length_append, List.length_append, hl1]
      have hget0 : (hd' ++ (tl ++ [some (MO.lst (ss.map sV))]))[(hd ++ tl).length]? = some (some (.lst (ss.map sV))) := by
        rw [← List.append_assoc, hlen1]
        exact get_app0
      have hget : (hd2 ++ (tl ++ [some (MO.lst (ss.map sV))]))[(hd ++ tl).length]? = some (some (.lst (ss.map sV))) := by
        rw [← List.append_assoc, hlen]
        exact get_app0
      have hset : (hd2 ++ (tl ++ [some (MO.lst (ss.map sV))])).set (hd ++ tl).length (some (.lst (ss.map sV ++ [sV s]))) = hd2 ++ (tl ++ [some (.lst ((ss ++ [s]).map sV))]) := by
        rw [← List.append_assoc, hlen, set_app0, List.append_assoc, List.map_append]
        rfl
      have hget2 : (hd2 ++ (tl ++ [some (MO.lst ((ss ++ [s]).map sV))]))[(hd ++ tl).length]? = some (some (.lst (ss.map sV ++ [sV s]))) := by
        rw [← List.append_assoc, hlen, List.map_append]
        exact get_app0
      have hev : ev (callM T (k + 3)) (hd ++ tl).length (.call 17 [(.var 0), (.var 5)]) [some (.loc l), some (RV R), some (.str u), some (.loc (hd ++ tl).length), some x, some (.lst ((stepsW R u).map sV))] (hd' ++ (tl ++ [some (.lst (ss.map sV))])) = some (sV s, hd2 ++ (tl ++ [some (.lst (ss.map sV))])) := by
        generalize hd' ++ (tl ++ [some (MO.lst (ss.map sV))]) = m0 at *
        generalize (stepsW R u).map sV = sm at *
        generalize sV s = sv at *
        simp [ev, evs, f1]
      have happ := ex_app (C := callM T (k + 3)) (b := (hd ++ tl).length) (i := 3) (ρ := [some (.loc l), some (RV R), some (.str u), some (.loc (hd ++ tl).length), some x, some (.lst ((stepsW R u).map sV))]) rfl (by simp only [liveL, hget0]; rfl) hev hget (wr_own (Nat.le_refl _)) (by rw [List.length_map]; omega)
      rw [hset] at happ
      have c2 := sp_lturned (k := k + 2) (mh := hd2 ++ (tl ++ [some (.lst ((ss ++ [s]).map sV))])) (s := s) hR (mem_stepsW.mp (show (s.1, s.2) ∈ stepsW R u from hs)).1 du (by omega)
      have c2 : callM T (k + 3) 23 _ _ = _ := c2
      have il : idx (ss.map sV ++ [sV s]) (-1) = some (sV s) := idx_last
      have s3 : ex (callM T (k + 3)) (hd ++ tl).length (.set (.nm 2) (.call 23 [(.var 1), (.var 2), (.sub (.var 3) (.neg (.c (.int (1)))))])) [some (.loc l), some (RV R), some (.str u), some (.loc (hd ++ tl).length), some x, some (.lst ((stepsW R u).map sV))] (hd2 ++ (tl ++ [some (.lst ((ss ++ [s]).map sV))])) = some (.nx, [some (.loc l), some (RV R), some (.str (turnW R u s)), some (.loc (hd ++ tl).length), some x, some (.lst ((stepsW R u).map sV))], hd2 ++ (tl ++ [some (.lst ((ss ++ [s]).map sV))])) := by
        generalize hd2 ++ (tl ++ [some (MO.lst ((ss ++ [s]).map sV))]) = m0 at *
        generalize (stepsW R u).map sV = sm at *
        generalize ss.map sV = sm2 at *
        generalize sV s = sv at *
        generalize RV R = rv at *
        generalize (hd ++ tl).length = bb at *
        simp [ex, ev, evs, subV, getL, hget2, il, c2, asg]
      refine ⟨[some (.loc l), some (RV R), some (.str (turnW R u s)), some (.loc (hd ++ tl).length), some x, some (.lst ((stepsW R u).map sV))], hd2 ++ (tl ++ [some (.lst ((ss ++ [s]).map sV))]), ?_, ss ++ [s], turnW R u s, hd2, _, _, rfl, rfl, T1, by rw [List.length_append, List.length_singleton]; omega, behS_snoc ss w u s hb hs⟩
      unfold forF
      rw [ha]
      exact ex_go s1 (ex_go ((ex_iteT hc).trans (ex_go happ (ex_go s3 ex_done))) ex_done)
    · have hb2 : (!(stepsW R u).isEmpty && decide ((u.length : Int) < 40)) = false := by
        cases h : stepsW R u with
        | nil => rfl
        | cons _ _ =>
          have : ¬ (u.length : Int) < 40 := fun z => hcc ⟨by rw [h]; simp, z⟩
          rw [decide_eq_false this]
          rfl
      rw [hb2] at hc
      refine ⟨[some (.loc l), some (RV R), some (.str u), some (.loc (hd ++ tl).length), some x, some (.lst ((stepsW R u).map sV))], hd' ++ (tl ++ [some (.lst (ss.map sV))]), ?_, ss, u, hd', _, _, rfl, rfl, S', by omega, hb⟩
      unfold forF
      rw [ha]
      exact ex_go s1 (ex_go ((ex_iteF hc).trans ex_done) ex_done)) [some (.loc l), some (RV R), some (.str w), some (.loc (hd ++ tl).length), none, none] (hd1 ++ (tl ++ [some (.lst [])])) ⟨[], w, hd1, _, _, rfl, rfl, S1, by simp, rfl⟩
  rw [List.length_map, List.length_range] at hsl
  obtain ⟨du, lu⟩ := behS_ok hR ss w u hw (by omega) hb
  refine ⟨ss, u, hd2, ?_, S2, by omega, hb⟩
  have hl2 : hd2.length = hd.length := by rw [S2.1, S.1]
  have hlen : (hd2 ++ tl).length = (hd ++ tl).length := by rw [List.length_append, List.length_append, hl2]
  have hget : (hd2 ++ (tl ++ [some (MO.lst (ss.map sV))]))[(hd ++ tl).length]? = some (some (.lst (ss.map sV))) := by
    rw [← List.append_assoc, ← hlen]
    exact get_app0
  have hi : evI (callM T (k + 3)) (hd ++ tl).length (.rng1 (.call 16 [(.var 0), (.c (.int (5)))])) [some (.loc l), some (RV R), some (.str w), some (.loc (hd ++ tl).length), none, none] (hd ++ (tl ++ [some (.lst [])])) = some (⟨(List.range r.toNat).map iV, none⟩, hd1 ++ (tl ++ [some (.lst [])])) := by
    have b2 : r < 4611686018427387904 := by omega
    have b3 : (-4611686018427387904 : Int) ≤ r := by omega
    generalize hd ++ (tl ++ [some (MO.lst [])]) = m0 at *
    generalize hd1 ++ (tl ++ [some (MO.lst [])]) = m1 at *
    simp [evI, ev, evs, e1, b2, b3]
  have := call_st (T := T) (k := k + 3) (f := 27) (args := [.loc l, RV R, .str w]) (mh := hd ++ tl) (mh1 := hd2 ++ (tl ++ [some (.lst (ss.map sV))])) (ρ0 := [some (.loc l), some (RV R), some (.str w), none, none, none]) (ρ := [some (.loc l), some (RV R), some (.str u), some (.loc (hd ++ tl).length), o4, o5]) (fl := .rt (.tup [.tup (ss.map sV), .str u])) (v := .tup [.tup (ss.map sV), .str u]) rfl rfl (by
    refine ex_go (ρ1 := [some (.loc l), some (RV R), some (.str w), some (.loc (hd ++ tl).length), none, none]) (mh1 := hd ++ (tl ++ [some (.lst [])])) (by simp [ex, ev, evs, asg, z0]) (ex_go (ρ1 := [some (.loc l), some (RV R), some (.str u), some (.loc (hd ++ tl).length), o4, o5]) (mh1 := hd2 ++ (tl ++ [some (.lst (ss.map sV))])) ?_ (ex_end ?_))
    · rw [ex_for, hi]
      exact e2
    · generalize hd2 ++ (tl ++ [some (MO.lst (ss.map sV))]) = m2 at *
      generalize (hd ++ tl).length = bb at *
      generalize ss.map sV = sm at *
      generalize RV R = rv at *
      simp [ex, ev, evs, biV, one1, tupV, getL, hget, z2]) rfl (dat_dat2 _ (dat_t2 (pd_ST _).dat du))
  rw [this, ← List.append_assoc, ← hlen, List.take_left]
end
end L2.Mi.k55

set_option Elab.async false
set_option linter.all false
set_option maxRecDepth 100000
set_option maxHeartbeats 4000000
/-! W55m: odd values. -/
namespace L2.Mi.k55
open PySem PySem.Spec PyProof.Rows L2.Mi
abbrev OD0_0 : MS := (.ite (.cmp .ne (.call 2 [(.var 1)]) (.var 4)) [(.ret (.c (.bl false)))] [])
abbrev OD0B : List MS := [OD0_0]
abbrev OD0 : MS := (.for (.tp [(.nm 1), (.nm 4)]) (.tup [(.tup [(.c (.str [])), (.c (.bl false))]), (.tup [(.c (.str [97])), (.c (.bl true))]), (.tup [(.c (.str [97, 98])), (.c (.bl true))]), (.tup [(.c (.str [98, 97])), (.c (.bl false))]), (.tup [(.c (.str [97, 97])), (.c (.bl false))]), (.tup [(.c (.str [97, 49])), (.c (.bl false))]), (.tup [(.c (.str [65])), (.c (.bl false))]), (.tup [(.c .non), (.c (.bl false))]), (.tup [(.tup [(.c (.str [97]))]), (.c (.bl false))]), (.tup [(.c (.str [97, 98, 99, 100, 101, 102, 103, 104, 105, 106, 107, 108, 109, 110, 111, 112, 113, 114, 115, 116, 117, 118, 119, 120, 121, 122])), (.c (.bl true))])]) OD0B)
abbrev OD1_0 : MS := (.ite (.cmp .isn (.call 1 [(.var 1), (.var 0)]) (.c (.bl false))) [(.ret (.c (.bl false)))] [])
abbrev OD1B : List MS := [OD1_0]
abbrev OD1 : MS := (.for (.nm 1) (.tup [(.c .non), (.c (.int (5))), (.c (.str [49])), (.bin .mul (.sub (.var 0) (.c (.int (0)))) (.c (.int (61)))), (.ite (.cmp .nmem (.c (.str [122])) (.var 0)) (.c (.str [122, 122])) (.c (.str [113]))), (.tup [(.sub (.var 0) (.c (.int (0))))]), (.c (.str [65]))]) OD1B)
abbrev OD2 : MS := (.set (.nm 2) (.tup [(.sub (.var 0) (.c (.int (0)))), (.c (.str []))]))
abbrev OD3 : MS := (.set (.nm 3) (.lst [(.c .non), (.lst [(.var 2)]), (.bin .mul (.tup [(.var 2)]) (.c (.int (21)))), (.tup [(.tup [(.c (.str [])), (.sub (.var 0) (.c (.int (0))))])]), (.tup [(.tup [(.sub (.var 0) (.c (.int (0))))])]), (.tup [(.lst [(.sub (.var 0) (.c (.int (0)))), (.c (.str []))])]), (.tup [(.bin .add (.var 2) (.tup [(.c (.str []))]))]), (.tup [(.tup [(.c (.str [49])), (.c (.str []))])]), (.tup [(.tup [(.sub (.var 0) (.c (.int (0)))), (.c .non)])]), (.c (.int (5)))]))
abbrev OD4 : MS := (.ite (.not (.bi .all [(.comp (.nm 1) [1] (.var 3) (.c (.bl true)) (.cmp .is (.call 3 [(.var 1), (.var 0)]) (.c (.bl false))))])) [(.ret (.c (.bl false)))] [])
abbrev OD5 : MS := (.ret (.and (.cmp .is (.call 1 [(.c (.str [])), (.var 0)]) (.c (.bl true))) (.and (.cmp .is (.call 1 [(.bin .mul (.sub (.var 0) (.c (.int (0)))) (.c (.int (60)))), (.var 0)]) (.c (.bl true))) (.and (.cmp .is (.call 3 [(.bin .mul (.tup [(.var 2)]) (.c (.int (20)))), (.var 0)]) (.c (.bl true))) (.cmp .eq (.tup [(.c (.int (60))), (.c (.int (20)))]) (.tup [(.c (.int (60))), (.c (.int (20)))]))))))
theorem OD_eq : d_l_odd.body = [OD0, OD1, OD2, OD3, OD4, OD5] := rfl
def lets : List (MV × Bool) := [(.str [], false), (.str [97], true), (.str [97, 98], true), (.str [98, 97], false), (.str [97, 97], false), (.str [97, 49], false), (.str [65], false), (.non, false), (.tup [.str [97]], false), (.str [97, 98, 99, 100, 101, 102, 103, 104, 105, 106, 107, 108, 109, 110, 111, 112, 113, 114, 115, 116, 117, 118, 119, 120, 121, 122], true)]
def embL (x : MV × Bool) : MV := .tup [x.1, .bl x.2]
theorem lets_ok : ∀ x ∈ lets, letB x.1 = x.2 ∧ dat x.1 = true := by
  intro x hx
  simp only [lets, List.mem_cons, List.not_mem_nil, or_false] at hx
  rcases hx with rfl | rfl | rfl | rfl | rfl | rfl | rfl | rfl | rfl | rfl <;> exact ⟨by decide, by decide⟩
def bad1 (c : Nat) : List MV := [.non, .int 5, .str [49], .str (List.replicate 61 [c]).flatten, .str [122, 122], .tup [.str [c]], .str [65]]
def ruleO (c : Nat) : MV := .tup [.str [c], .str []]
def odds (c : Nat) : List MV := [.non, .lst [ruleO c], .tup (List.replicate 21 [ruleO c]).flatten, .tup [.tup [.str [], .str [c]]], .tup [.tup [.str [c]]], .tup [.lst [.str [c], .str []]], .tup [.tup [.str [c], .str [], .str []]], .tup [.tup [.str [49], .str []]], .tup [.tup [.str [c], .non]], .int 5]
section
variable {k : Nat} {mh : MHp} {L : Sx} {c : Nat}
theorem isV_bl (a b : Bool) : isV (.bl a) (.bl b) = some (decide (a = b)) := rfl
theorem od_run (hL : L.length ≤ 100) (h0 : idx L 0 = some c) (hz : decide (122 ∈ L) = false) (hd1 : ∀ v ∈ bad1 c, wordB L v = false ∧ dat v = true) (hr : ∀ v ∈ odds c, rulesB L v = false ∧ dat v = true)
    (g1 : wordB L (.str []) = true) (g2 : wordB L (.str (List.replicate 60 [c]).flatten) = true ∧ dat (.str (List.replicate 60 [c]).flatten) = true) (g3 : rulesB L (.tup (List.replicate 20 [ruleO c]).flatten) = true ∧ dat (.tup (List.replicate 20 [ruleO c]).flatten) = true) : callM T (k + 3) 30 [.str L] mh = some (.bl true, mh) := by
  have zl : ∀ n, n ≤ 1000 → n ≤ line := fun n h => line_le (by omega)
  have z0 := zl 0 (by omega)
  have z1 := zl 1 (by omega)
  have z2 := zl 2 (by omega)
  have z3 := zl 3 (by omega)
  have z7 := zl 7 (by omega)
  have z10 := zl 10 (by omega)
  have z61 := zl 61 (by omega)
  have z60 := zl 60 (by omega)
  have zL := zl L.length (by omega)
  have s0 : subV mh (.str L) (.int 0) = some (.str [c]) := by simp only [subV, zL, if_true, h0, Option.map_some]
  refine (fun (h : ∃ ρ', exs (callM T (k + 2)) mh.length _ [some (.str L), none, none, none, none] mh = some (.rt (.bl true), ρ', mh)) => let ⟨ρ', e⟩ := h; call_v (ρ0 := [some (.str L), none, none, none, none]) (ρ := ρ') (mh1 := mh) (fl := .rt (.bl true)) (show T[30]? = some ⟨1, 5, false, [OD0, OD1, OD2, OD3, OD4, OD5]⟩ from rfl) rfl e rfl rfl List.take_length) ?_
  -- the letters
  obtain ⟨ρ1, m1, e1, ⟨o1, o4, rfl⟩, rfl⟩ := forGo_st (J := ⟨lets.map embL, none⟩) rfl (f := forF (callM T (k + 2)) mh.length (.tp [(.nm 1), (.nm 4)]) OD0B) (P := fun ρ m => (∃ o1 o4, ρ = [some (.str L), o1, none, none, o4]) ∧ m = mh) (xs := lets.map embL) (ρ := [some (.str L), none, none, none, none]) (mh := mh) ⟨⟨_, _, rfl⟩, rfl⟩ (by
    rintro x hx ρ m ⟨⟨o1, o4, rfl⟩, rfl⟩
    obtain ⟨v, hv, rfl⟩ := List.mem_map.mp hx
    obtain ⟨q1, q2⟩ := lets_ok v hv
    have e := sp_are_letters (k := k + 1) (mh := m) q2
    have e : callM T (k + 2) 2 _ _ = _ := e
    rw [q1] at e
    have hc : ev (callM T (k + 2)) m.length (.cmp .ne (.call 2 [(.var 1)]) (.var 4)) [some (.str L), some v.1, none, none, some (.bl v.2)] m = some (.bl false, m) := by
      simp [ev, evs, e, cmpV, eqV_bl]
    refine ⟨[some (.str L), some v.1, none, none, some (.bl v.2)], m, ?_, ⟨_, _, rfl⟩, rfl⟩
    unfold forF
    simp only [embL, asg, asgs, List.length_cons, List.length_nil, List.set, Nat.reduceAdd, Nat.reduceLT, if_true]
    exact ex_go ((ex_iteF hc).trans ex_done) ex_done)
  have r0 : ex (callM T (k + 2)) m1.length OD0 [some (.str L), none, none, none, none] m1 = some (.nx, [some (.str L), o1, none, none, o4], m1) := by
    have hi : evI (callM T (k + 2)) m1.length (.tup [(.tup [(.c (.str [])), (.c (.bl false))]), (.tup [(.c (.str [97])), (.c (.bl true))]), (.tup [(.c (.str [97, 98])), (.c (.bl true))]), (.tup [(.c (.str [98, 97])), (.c (.bl false))]), (.tup [(.c (.str [97, 97])), (.c (.bl false))]), (.tup [(.c (.str [97, 49])), (.c (.bl false))]), (.tup [(.c (.str [65])), (.c (.bl false))]), (.tup [(.c .non), (.c (.bl false))]), (.tup [(.tup [(.c (.str [97]))]), (.c (.bl false))]), (.tup [(.c (.str [97, 98, 99, 100, 101, 102, 103, 104, 105, 106, 107, 108, 109, 110, 111, 112, 113, 114, 115, 116, 117, 118, 119, 120, 121, 122])), (.c (.bl true))])]) [some (.str L), none, none, none, none] m1 = some (⟨lets.map embL, none⟩, m1) := by
      simp [evI, ev, evs, z1, z2, z10, itsOf, lets, embL]
    rw [OD0, ex_for, hi]
    exact e1
  clear e1
  -- the words
  obtain ⟨ρ2, m2, e2, ⟨o1', rfl⟩, rfl⟩ := forGo_st (J := ⟨bad1 c, none⟩) rfl (f := forF (callM T (k + 2)) m1.length (.nm 1) OD1B) (P := fun ρ m => (∃ o1, ρ = [some (.str L), o1, none, none, o4]) ∧ m = m1) (xs := bad1 c) (ρ := [some (.str L), o1, none, none, o4]) (mh := m1) ⟨⟨_, rfl⟩, rfl⟩ (by
    rintro v hv ρ m ⟨⟨o1, rfl⟩, rfl⟩
    obtain ⟨q1, q2⟩ := hd1 v hv
    have e := sp_is_word (k := k + 1) (mh := m) (L := L) q2
    have e : callM T (k + 2) 1 _ _ = _ := e
    rw [q1] at e
    have hc : ev (callM T (k + 2)) m.length (.cmp .isn (.call 1 [(.var 1), (.var 0)]) (.c (.bl false))) [some (.str L), some v, none, none, o4] m = some (.bl false, m) := by
      simp [ev, evs, e, cmpV, isV_bl]
    refine ⟨[some (.str L), some v, none, none, o4], m, ?_, ⟨_, rfl⟩, rfl⟩
    unfold forF
    simp only [asg, List.length_cons, List.length_nil, List.set, Nat.reduceAdd, Nat.reduceLT, if_true]
    exact ex_go ((ex_iteF hc).trans ex_done) ex_done)
  have r1 : ex (callM T (k + 2)) m2.length OD1 [some (.str L), o1, none, none, o4] m2 = some (.nx, [some (.str L), o1', none, none, o4], m2) := by
    have hmul : mulV (.str [c]) (.int 61) = some (.str (List.replicate 61 [c]).flatten) := by
      simp only [mulV]
      rw [if_pos ⟨by omega, by omega, z61⟩]
      rfl
    have hmem : memV m2 (.str [122]) (.str L) = some false := by rw [mem_chr, hz]
    have hi : evI (callM T (k + 2)) m2.length (.tup [(.c .non), (.c (.int (5))), (.c (.str [49])), (.bin .mul (.sub (.var 0) (.c (.int (0)))) (.c (.int (61)))), (.ite (.cmp .nmem (.c (.str [122])) (.var 0)) (.c (.str [122, 122])) (.c (.str [113]))), (.tup [(.sub (.var 0) (.c (.int (0))))]), (.c (.str [65]))]) [some (.str L), o1, none, none, o4] m2 = some (⟨bad1 c, none⟩, m2) := by
      unfold bad1
      generalize (List.replicate 61 [c]).flatten = rp at *
      simp [evI, ev, evs, z1, z7, itsOf, binV, s0, hmul, cmpV, hmem]
    rw [OD1, ex_for, hi]
    exact e2
  clear e2
  have r2 : ex (callM T (k + 2)) m2.length OD2 [some (.str L), o1', none, none, o4] m2 = some (.nx, [some (.str L), o1', some (ruleO c), none, o4], m2) := by
    simp [OD2, ex, ev, evs, s0, z2, asg, ruleO]
  have r3 : ex (callM T (k + 2)) m2.length OD3 [some (.str L), o1', some (ruleO c), none, o4] m2 = some (.nx, [some (.str L), o1', some (ruleO c), some (.lst (odds c)), o4], m2) := by
    have hmul : mulV (.tup [ruleO c]) (.int 21) = some (.tup (List.replicate 21 [ruleO c]).flatten) := by
      simp only [mulV]
      rw [if_pos ⟨by rfl, by omega, by omega, by simp⟩]
      rfl
    have hadd : addV m2 (ruleO c) (.tup [.str []]) = some (.tup [.str [c], .str [], .str []]) := by
      unfold ruleO
      rw [add_tup (by simp)]
      rfl
    unfold odds
    generalize (List.replicate 21 [ruleO c]).flatten = rp at *
    generalize ruleO c = rc at *
    simp [OD3, ex, ev, evs, z0, z1, z2, z10, binV, s0, hmul, hadd, asg]
  have r4 : ex (callM T (k + 2)) m2.length OD4 [some (.str L), o1', some (ruleO c), some (.lst (odds c)), o4] m2 = some (.nx, [some (.str L), o1', some (ruleO c), some (.lst (odds c)), o4], m2) := by
    have hcomp := ev_compM (C := callM T (k + 2)) (base := m2.length) (ρ := [some (.str L), o1', some (ruleO c), some (.lst (odds c)), o4]) (mh := m2) (tg := .nm 1) (own := [1]) (it := .var 3) (cond := .c (.bl true)) (e := .cmp .is (.call 3 [(.var 1), (.var 0)]) (.c (.bl false))) (emb := fun x => x) (h := fun _ => .bl true) (xs := odds c) (evI_var rfl (by simp [itsOf])) (zl _ (by simp [odds])) (fun v hv => by
      obtain ⟨q1, q2⟩ := hr v hv
      have e := sp_rules (k := k) (mh := m2) (L := L) q2
      rw [q1] at e
      refine compF_T (ρ' := [some (.str L), some v, some (ruleO c), some (.lst (odds c)), o4]) (by simp [asg, wipeE]) (by simp [ev]) ?_
      generalize odds c = od at *
      generalize ruleO c = rc at *
      simp [ev, evs, e, cmpV, isV_bl])
    have hb := bls_map' (mh := m2) (odds c) (fun _ => true)
    have hcnd : ev (callM T (k + 2)) m2.length (.not (.bi .all [(.comp (.nm 1) [1] (.var 3) (.c (.bl true)) (.cmp .is (.call 3 [(.var 1), (.var 0)]) (.c (.bl false))))])) [some (.str L), o1', some (ruleO c), some (.lst (odds c)), o4] m2 = some (.bl false, m2) := by
      refine ev_notB (a := true) ?_
      rw [ev]
      simp only [evs, hcomp, biV, one1, hb]
      simp [List.all_map]
    rw [OD4]
    exact (ex_iteF hcnd).trans ex_done
  have r5 : ex (callM T (k + 2)) m2.length OD5 [some (.str L), o1', some (ruleO c), some (.lst (odds c)), o4] m2 = some (.rt (.bl true), [some (.str L), o1', some (ruleO c), some (.lst (odds c)), o4], m2) := by
    have f1 := sp_is_word (k := k + 1) (mh := m2) (L := L) (v := .str []) rfl
    rw [g1] at f1
    have f1 : callM T (k + 2) 1 _ _ = _ := f1
    have f2 := sp_is_word (k := k + 1) (mh := m2) (L := L) g2.2
    rw [g2.1] at f2
    have f2 : callM T (k + 2) 1 _ _ = _ := f2
    have f3 := sp_rules (k := k) (mh := m2) (L := L) g3.2
    rw [g3.1] at f3
    have m60 : mulV (.str [c]) (.int 60) = some (.str (List.replicate 60 [c]).flatten) := by
      simp only [mulV]
      rw [if_pos ⟨by omega, by omega, z60⟩]
      rfl
    have m20 : mulV (.tup [ruleO c]) (.int 20) = some (.tup (List.replicate 20 [ruleO c]).flatten) := by
      simp only [mulV]
      rw [if_pos ⟨by rfl, by omega, by omega, by simp⟩]
      rfl
    have e4 : eqV m2 (.tup [.int 60, .int 20]) (.tup [.int 60, .int 20]) = some true := eqV_refl m2 rfl (by simp [dep, deps])
    generalize (List.replicate 60 [c]).flatten = p1 at *
    generalize (List.replicate 20 [ruleO c]).flatten = p2 at *
    generalize odds c = od at *
    generalize ruleO c = rc at *
    simp [OD5, ex, ev, evs, f1, f2, f3, cmpV, isV_bl, binV, s0, m60, m20, z1, z2, e4]
  exact ⟨_, ex_go r0 (ex_go r1 (ex_go r2 (ex_go r3 (ex_go r4 (ex_end r5)))))⟩
theorem sp_lodd (hL : L ∈ alphs) : callM T (k + 3) 30 [.str L] mh = some (.bl true, mh) := by
  simp only [alphs, List.mem_cons, List.not_mem_nil, or_false] at hL
  rcases hL with rfl | rfl | rfl | rfl
  · exact od_run (c := 97) (by decide) atI0 (by decide) (by intro v hv; simp only [bad1, List.mem_cons, List.not_mem_nil, or_false] at hv; rcases hv with rfl | rfl | rfl | rfl | rfl | rfl | rfl <;> exact ⟨by decide, by decide⟩) (by intro v hv; simp only [odds, List.mem_cons, List.not_mem_nil, or_false] at hv; rcases hv with rfl | rfl | rfl | rfl | rfl | rfl | rfl | rfl | rfl | rfl <;> exact ⟨by decide, by decide⟩) (by decide) ⟨by decide, by decide⟩ ⟨by decide, by decide⟩
  · exact od_run (c := 97) (by decide) atI0 (by decide) (by intro v hv; simp only [bad1, List.mem_cons, List.not_mem_nil, or_false] at hv; rcases hv with rfl | rfl | rfl | rfl | rfl | rfl | rfl <;> exact ⟨by decide, by decide⟩) (by intro v hv; simp only [odds, List.mem_cons, List.not_mem_nil, or_false] at hv; rcases hv with rfl | rfl | rfl | rfl | rfl | rfl | rfl | rfl | rfl | rfl <;> exact ⟨by decide, by decide⟩) (by decide) ⟨by decide, by decide⟩ ⟨by decide, by decide⟩
  · exact od_run (c := 120) (by decide) atI0 (by decide) (by intro v hv; simp only [bad1, List.mem_cons, List.not_mem_nil, or_false] at hv; rcases hv with rfl | rfl | rfl | rfl | rfl | rfl | rfl <;> exact ⟨by decide, by decide⟩) (by intro v hv; simp only [odds, List.mem_cons, List.not_mem_nil, or_false] at hv; rcases hv with rfl | rfl | rfl | rfl | rfl | rfl | rfl | rfl | rfl | rfl <;> exact ⟨by decide, by decide⟩) (by decide) ⟨by decide, by decide⟩ ⟨by decide, by decide⟩
  · exact od_run (c := 97) (by decide) atI0 (by decide) (by intro v hv; simp only [bad1, List.mem_cons, List.not_mem_nil, or_false] at hv; rcases hv with rfl | rfl | rfl | rfl | rfl | rfl | rfl <;> exact ⟨by decide, by decide⟩) (by intro v hv; simp only [odds, List.mem_cons, List.not_mem_nil, or_false] at hv; rcases hv with rfl | rfl | rfl | rfl | rfl | rfl | rfl | rfl | rfl | rfl <;> exact ⟨by decide, by decide⟩) (by decide) ⟨by decide, by decide⟩ ⟨by decide, by decide⟩
end
end L2.Mi.k55

set_option Elab.async false
set_option linter.all false
set_option maxRecDepth 100000
set_option maxHeartbeats 4000000
/-! W55n: the law, one turn. -/
namespace L2.Mi.k55
open PySem PySem.Spec PyProof.Rows L2.Mi
abbrev LA0 : MS := (.set (.nm 1) (.call 15 [(.var 0)]))
abbrev LA1_0 : MS := (.set (.nm 3) (.call 18 [(.var 1)]))
abbrev LA1_1 : MS := (.set (.nm 4) (.call 21 [(.var 1), (.var 3), (.c (.int (4)))]))
abbrev LA1_2 : MS := (.set (.nm 5) (.call 19 [(.var 1), (.var 3), (.c (.int (10)))]))
abbrev LA1_3 : MS := (.ite (.or (.cmp .ne (.call 4 [(.var 4), (.var 5)]) (.call 22 [(.var 4), (.var 5)])) (.or (.cmp .ne (.call 10 [(.var 4), (.var 5)]) (.call 24 [(.var 4), (.var 5)])) (.cmp .ne (.call 11 [(.var 4)]) (.call 25 [(.var 4)])))) [(.ret (.c (.bl false)))] [])
abbrev LA1_4 : MS := (.set (.nm 6) (.tup [(.c (.str [109, 101, 101, 116, 115]))]))
abbrev LA1_5_0 : MS := (.set (.nm 14) (.tup [(.sub (.call 24 [(.var 4), (.var 12)]) (.c (.int (0)))), (.sub (.call 24 [(.var 4), (.var 13)]) (.c (.int (0))))]))
abbrev LA1_5_1 : MS := (.ite (.cmp .ne (.sub (.var 14) (.c (.int (0)))) (.sub (.var 14) (.c (.int (1))))) [(.set (.nm 6) (.bin .add (.tup [(.c (.str [112, 97, 114, 116, 115])), (.var 11)]) (.var 14)))] [])
abbrev LA1_5B : List MS := [LA1_5_0, LA1_5_1]
abbrev LA1_5 : MS := (.for (.tp [(.nm 11), (.nm 12), (.nm 13)]) (.rev (.call 25 [(.var 4)])) LA1_5B)
abbrev LA1_6 : MS := (.ite (.cmp .ne (.call 12 [(.var 4)]) (.var 6)) [(.ret (.c (.bl false)))] [])
abbrev LA1_7_0 : MS := (.par 12 13 (.call 19 [(.var 1), (.var 3), (.c (.int (6)))]) (.call 19 [(.var 1), (.var 3), (.c (.int (6)))]))
abbrev LA1_7_1 : MS := (.ite (.and (.cmp .eq (.var 6) (.tup [(.c (.str [109, 101, 101, 116, 115]))])) (.cmp .nmem (.call 26 [(.var 4), (.var 12)]) (.tup [(.c .non), (.lst [(.sub (.call 24 [(.var 4), (.var 12)]) (.c (.int (0))))])]))) [(.ret (.c (.bl false)))] [])
abbrev LA1_7_2 : MS := (.ite (.or (.cmp .ne (.call 13 [(.var 4), (.var 12), (.var 13)]) (.cmp .eq (.sub (.call 24 [(.var 4), (.var 12)]) (.c (.int (0)))) (.sub (.call 24 [(.var 4), (.var 13)]) (.c (.int (0)))))) (.cmp .ne (.call 14 [(.var 4), (.var 12), (.var 13)]) (.sub (.call 24 [(.var 4), (.bin .add (.var 12) (.var 13))]) (.c (.int (0)))))) [(.ret (.c (.bl false)))] [])
abbrev LA1_7_3 : MS := (.ite (.cmp .ne (.call 8 [(.var 12), (.var 13)]) (.call 20 [(.var 12), (.var 13)])) [(.ret (.c (.bl false)))] [])
abbrev LA1_7B : List MS := [LA1_7_0, LA1_7_1, LA1_7_2, LA1_7_3]
abbrev LA1_7 : MS := (.for (.nm 7) (.rng1 (.c (.int (3)))) LA1_7B)
abbrev LA1_8 : MS := (.ite (.and (.cmp .ne (.var 6) (.tup [(.c (.str [109, 101, 101, 116, 115]))])) (.cmp .lt (.bi .len [(.orv (.call 26 [(.var 4), (.sub (.var 6) (.c (.int (1))))]) (.lst [(.c (.int (0))), (.c (.int (0)))]))]) (.c (.int (2))))) [(.ret (.c (.bl false)))] [])
abbrev LA1_9 : MS := (.set (.nm 8) (.call 29 [(.var 1), (.var 3)]))
abbrev LA1_10 : MS := (.ite (.or (.cmp .ne (.call 9 [(.var 8)]) (.cmp .eq (.bi .len [(.comp (.tp [(.nm 12), (.nm 13)]) [12, 13] (.var 8) (.not (.call 20 [(.var 13), (.var 12)])) (.c (.int (1))))]) (.c (.int (0))))) (.or (.cmp .isn (.call 9 [(.var 4)]) (.c (.bl true))) (.cmp .isn (.call 3 [(.var 8), (.var 3)]) (.c (.bl true))))) [(.ret (.c (.bl false)))] [])
abbrev LA1_11 : MS := (.set (.tp [(.nm 15), (.nm 16)]) (.call 27 [(.var 1), (.var 8), (.var 5)]))
abbrev LA1_12 : MS := (.ite (.or (.cmp .ne (.call 7 [(.var 8), (.var 5), (.var 15)]) (.var 16)) (.cmp .ne (.comp (.nm 17) [17] (.call 22 [(.var 8), (.var 5)]) (.c (.bl true)) (.call 5 [(.var 8), (.var 5), (.var 17)])) (.comp (.nm 17) [17] (.call 22 [(.var 8), (.var 5)]) (.c (.bl true)) (.call 23 [(.var 8), (.var 5), (.var 17)])))) [(.ret (.c (.bl false)))] [])
abbrev LA1_13 : MS := (.set (.nm 9) (.bin .add (.var 15) (.tup [(.tup [(.call 16 [(.var 1), (.c (.int (4)))]), (.call 16 [(.var 1), (.c (.int (12)))])])])))
abbrev LA1_14 : MS := (.ite (.cmp .ne (.call 7 [(.var 8), (.var 5), (.var 9)]) (.call 28 [(.var 8), (.var 5), (.var 9)])) [(.ret (.c (.bl false)))] [])
abbrev LA1_15_0 : MS := (.ite (.cmp .isn (.call 7 [(.var 8), (.var 5), (.var 10)]) (.c .non)) [(.ret (.c (.bl false)))] [])
abbrev LA1_15B : List MS := [LA1_15_0]
abbrev LA1_15 : MS := (.for (.nm 10) (.tup [(.c .non), (.bi .list [(.var 15)]), (.tup [(.c .non)]), (.tup [(.tup [(.c (.int (0)))])]), (.tup [(.tup [(.neg (.c (.int (1)))), (.c (.int (0)))])]), (.tup [(.tup [(.c (.int (0))), (.c (.bl true))])]), (.tup [(.tup [(.c (.int (0))), (.bi .len [(.var 5)])])]), (.tup [(.tup [(.c (.str [48])), (.c (.int (0)))])])]) LA1_15B)
abbrev LA1_16 : MS := (.ite (.not (.call 30 [(.var 3)])) [(.ret (.c (.bl false)))] [])
abbrev LA1B : List MS := [LA1_0, LA1_1, LA1_2, LA1_3, LA1_4, LA1_5, LA1_6, LA1_7, LA1_8, LA1_9, LA1_10, LA1_11, LA1_12, LA1_13, LA1_14, LA1_15, LA1_16]
abbrev LA1 : MS := (.for (.nm 2) (.rng1 (.c (.int (4)))) LA1B)
abbrev LA2 : MS := (.ret (.c (.bl true)))
theorem LA_eq : d_law.body = [LA0, LA1, LA2] := rfl
noncomputable abbrev CC : CallF := callM T 140
abbrev LE (sc : MV) (l : Nat) (o2 o3 o4 o5 o6 o7 o8 o9 o10 o11 o12 o13 o14 o15 o16 o17 : Option MV) : Env := [some sc, some (.loc l), o2, o3, o4, o5, o6, o7, o8, o9, o10, o11, o12, o13, o14, o15, o16, o17]
def meetsV : MV := .tup [.str meetsS]
section
variable {sc : MV} {l n : Nat} {hd : MHp} {L : Sx} {R F : List Rl} {w : Sx} {o2 o3 o4 o5 o6 o7 o8 o9 o10 o11 o12 o13 o14 o15 o16 o17 : Option MV}
theorem t0 (S : St l n hd) : ∃ L hd', L ∈ alphs ∧ ex CC 0 LA1_0 (LE sc l o2 o3 o4 o5 o6 o7 o8 o9 o10 o11 o12 o13 o14 o15 o16 o17) hd = some (.nx, LE sc l o2 (some (.str L)) o4 o5 o6 o7 o8 o9 o10 o11 o12 o13 o14 o15 o16 o17, hd') ∧ St l n hd' := by
  obtain ⟨L, hd', hL, e, S'⟩ := sp_letters (k := 137) [] S
  simp only [List.append_nil] at e
  refine ⟨L, hd', hL, ?_, S'⟩
  simp [LA1_0, ex, ev, evs, e, asg]
theorem t1 (hL : L ∈ alphs) (S : St l n hd) : ∃ R hd', ex CC 0 LA1_1 (LE sc l o2 (some (.str L)) o4 o5 o6 o7 o8 o9 o10 o11 o12 o13 o14 o15 o16 o17) hd = some (.nx, LE sc l o2 (some (.str L)) (some (RV R)) o5 o6 o7 o8 o9 o10 o11 o12 o13 o14 o15 o16 o17, hd') ∧ St l n hd' ∧ Rok (b0 L) R := by
  obtain ⟨R, hd', e, S', hR, hb⟩ := sp_lrules (k := 135) hL [] S
  simp only [List.append_nil] at e
  refine ⟨R, hd', ?_, S', ⟨hR.ok hL (by omega), fun p hp => ⟨(hR.o1 p hp).lw hL, (hR.o2 p hp).lw hL, hb p hp⟩, (alph_ok hL).2.1⟩⟩
  generalize RV R = rv at *
  simp [LA1_1, ex, ev, evs, e, asg]
theorem t2 (hL : L ∈ alphs) (S : St l n hd) : ∃ w hd', ex CC 0 LA1_2 (LE sc l o2 (some (.str L)) o4 o5 o6 o7 o8 o9 o10 o11 o12 o13 o14 o15 o16 o17) hd = some (.nx, LE sc l o2 (some (.str L)) o4 (some (.str w)) o6 o7 o8 o9 o10 o11 o12 o13 o14 o15 o16 o17, hd') ∧ St l n hd' ∧ Wk (b0 L) w := by
  obtain ⟨w, hd', e, S', hw, ho⟩ := sp_word (k := 137) hL [] S 10 (by omega)
  simp only [List.append_nil] at e
  have e : callM T 140 19 [.loc l, .str L, .int 10] hd = _ := e
  refine ⟨w, hd', ?_, S', ⟨ho.lw hL, by omega⟩⟩
  simp [LA1_2, ex, ev, evs, e, asg]
theorem nf_pd {b : Nat} (hR : Rok b R) (hw : Wk b w) : Pd (.tup [.str (nf b R w), .tup ((nfp b R w).2.map sV)]) := Pd.tup (n := 2) (by omega) fun x hx => by
  simp only [List.mem_cons, List.not_mem_nil, or_false] at hx
  rcases hx with rfl | rfl
  · exact ⟨(hw.nf hR).dat hR.hb, rfl, by simp [dep]⟩
  · have := pd_ST (nfp b R w).2
    refine ⟨this.dat, this.pln, ?_⟩
    simp only [dep]
    have := deps_le (b := 1) (xs := (nfp b R w).2.map sV) fun x hx => by
      obtain ⟨s, _, rfl⟩ := List.mem_map.mp hx
      simp [dep, deps]
    omega
theorem t3 {b : Nat} (hR : Rok b R) (hw : Wk b w) : ex CC 0 LA1_3 (LE sc l o2 o3 (some (RV R)) (some (.str w)) o6 o7 o8 o9 o10 o11 o12 o13 o14 o15 o16 o17) hd = some (.nx, LE sc l o2 o3 (some (RV R)) (some (.str w)) o6 o7 o8 o9 o10 o11 o12 o13 o14 o15 o16 o17, hd) := by
  have dw := hw.dat hR.hb
  have c4 : CC 4 [RV R, .str w] hd = some (.lst ((stepsW R w).map sV), hd) := sp_word_steps (k := 139) hR.ok (by have := hw.len; omega)
  have c22 : CC 22 [RV R, .str w] hd = some (.lst ((stepsW R w).map sV), hd) := sp_lsteps (k := 139) hR.ok dw
  have c10 : CC 10 [RV R, .str w] hd = some (.tup [.str (nf b R w), .tup ((nfp b R w).2.map sV)], hd) := sp_word_normal (k := 138) hR.hb hR.ok hR.dn hw.lw hw.len
  have c24 : CC 24 [RV R, .str w] hd = some (.tup [.str (nf b R w), .tup ((nfp b R w).2.map sV)], hd) := sp_lnormal (k := 138) hR.hb hR.ok hR.dn hw.lw hw.len
  have c11 : CC 11 [RV R] hd = some (.lst ((pairsW R).map cV), hd) := sp_overlaps (k := 139) hR.ok
  have c25 : CC 25 [RV R] hd = some (.lst ((pairsW R).map cV), hd) := sp_lpairs (k := 139) hR.ok
  have e1 := eqV_b hd (b := true) (pd_SL (stepsW R w)) (pd_SL (stepsW R w)) (by simp)
  have e2 := eqV_b hd (b := true) (nf_pd hR hw) (nf_pd hR hw) (by simp)
  have e3 := eqV_b hd (b := true) (pd_PL hR.ok) (pd_PL hR.ok) (by simp)
  generalize MV.tup [.str (nf b R w), .tup ((nfp b R w).2.map sV)] = nt at *
  generalize (stepsW R w).map sV = sm at *
  generalize (pairsW R).map cV = pm at *
  generalize RV R = rv at *
  have hc : ev CC 0 (.or (.cmp .ne (.call 4 [(.var 4), (.var 5)]) (.call 22 [(.var 4), (.var 5)])) (.or (.cmp .ne (.call 10 [(.var 4), (.var 5)]) (.call 24 [(.var 4), (.var 5)])) (.cmp .ne (.call 11 [(.var 4)]) (.call 25 [(.var 4)])))) (LE sc l o2 o3 (some rv) (some (.str w)) o6 o7 o8 o9 o10 o11 o12 o13 o14 o15 o16 o17) hd = some (.bl false, hd) := by
    simp [ev, evs, c4, c22, c10, c24, c11, c25, cmpV, e1, e2, e3]
  exact (ex_iteF hc).trans ex_done
theorem t4 : ex CC 0 LA1_4 (LE sc l o2 o3 o4 o5 o6 o7 o8 o9 o10 o11 o12 o13 o14 o15 o16 o17) hd = some (.nx, LE sc l o2 o3 o4 o5 (some meetsV) o7 o8 o9 o10 o11 o12 o13 o14 o15 o16 o17, hd) := by
  have z1 : 1 ≤ line := line_le (by omega)
  simp [LA1_4, ex, ev, evs, asg, z1, meetsV, meetsS]
theorem t5 {b : Nat} (hR : Rok b R) : ∃ o11' o12' o13' o14', ex CC 0 LA1_5 (LE sc l o2 o3 (some (RV R)) o5 (some meetsV) o7 o8 o9 o10 o11 o12 o13 o14 o15 o16 o17) hd = some (.nx, LE sc l o2 o3 (some (RV R)) o5 (some (dueV b R)) o7 o8 o9 o10 o11' o12' o13' o14' o15 o16 o17, hd) := by
  have z2 : 2 ≤ line := line_le (by omega)
  have c25 : CC 25 [RV R] hd = some (.lst ((pairsW R).map cV), hd) := sp_lpairs (k := 139) hR.ok
  have loop := for_rel (J := ⟨(pairsW R).reverse.map cV, none⟩) (f := forF CC 0 (.tp [(.nm 11), (.nm 12), (.nm 13)]) LA1_5B) (emb := cV) (g := fun (d : MV) c => if parP b R c = true then parV b R c else d) (fun d ρ m => (∃ o11 o12 o13 o14, ρ = LE sc l o2 o3 (some (RV R)) o5 (some d) o7 o8 o9 o10 o11 o12 o13 o14 o15 o16 o17) ∧ m = hd) (fun _ _ _ _ => Its.ok_none rfl _) (pairsW R).reverse (by
    rintro c hc d ρ m ⟨⟨o11, o12, o13, o14, rfl⟩, rfl⟩
    have hc := List.mem_reverse.mp hc
    obtain ⟨w1, w2, w3, _⟩ := pair_wk hR hc
    have c1 : CC 24 [RV R, .str c.2.1] m = some (.tup [.str (nf b R c.2.1), .tup ((nfp b R c.2.1).2.map sV)], m) := sp_lnormal (k := 138) hR.hb hR.ok hR.dn w2.lw w2.len
    have c2 : CC 24 [RV R, .str c.2.2] m = some (.tup [.str (nf b R c.2.2), .tup ((nfp b R c.2.2).2.map sV)], m) := sp_lnormal (k := 138) hR.hb hR.ok hR.dn w3.lw w3.len
    have s1 : subV m (.tup [.str (nf b R c.2.1), .tup ((nfp b R c.2.1).2.map sV)]) (.int 0) = _ := sub_tup0
    have s2 : subV m (.tup [.str (nf b R c.2.2), .tup ((nfp b R c.2.2).2.map sV)]) (.int 0) = _ := sub_tup0
    have e1 : eqV m (.str (nf b R c.2.1)) (.str (nf b R c.2.2)) = some (!parP b R c) := eqV_b m (Pd.str ((w2.nf hR).dat hR.hb)) (Pd.str ((w3.nf hR).dat hR.hb)) (by unfold parP; simp)
    have ha : asg m (.tp [(.nm 11), (.nm 12), (.nm 13)]) (cV c) (LE sc l o2 o3 (some (RV R)) o5 (some d) o7 o8 o9 o10 o11 o12 o13 o14 o15 o16 o17) = some (LE sc l o2 o3 (some (RV R)) o5 (some d) o7 o8 o9 o10 (some (.str c.1)) (some (.str c.2.1)) (some (.str c.2.2)) o14 o15 o16 o17) := by simp [asg, asgs]
    let t : MV := .tup [.str (nf b R c.2.1), .str (nf b R c.2.2)]
    have q0 : subV m t (.int 0) = some (.str (nf b R c.2.1)) := atI0
    have q1 : subV m t (.int 1) = some (.str (nf b R c.2.2)) := atI1
    have r1 : ex CC 0 LA1_5_0 (LE sc l o2 o3 (some (RV R)) o5 (some d) o7 o8 o9 o10 (some (.str c.1)) (some (.str c.2.1)) (some (.str c.2.2)) o14 o15 o16 o17) m = some (.nx, LE sc l o2 o3 (some (RV R)) o5 (some d) o7 o8 o9 o10 (some (.str c.1)) (some (.str c.2.1)) (some (.str c.2.2)) (some t) o15 o16 o17, m) := by
      generalize MV.tup [.str (nf b R c.2.1), .tup ((nfp b R c.2.1).2.map sV)] = t1 at *
      generalize MV.tup [.str (nf b R c.2.2), .tup ((nfp b R c.2.2).2.map sV)] = t2 at *
      generalize RV R = rv at *
      simp [LA1_5_0, ex, ev, evs, c1, c2, s1, s2, asg, z2, t]
    have hcnd : ev CC 0 (.cmp .ne (.sub (.var 14) (.c (.int (0)))) (.sub (.var 14) (.c (.int (1))))) (LE sc l o2 o3 (some (RV R)) o5 (some d) o7 o8 o9 o10 (some (.str c.1)) (some (.str c.2.1)) (some (.str c.2.2)) (some t) o15 o16 o17) m = some (.bl (parP b R c), m) := by
      generalize parP b R c = bb at *
      generalize RV R = rv at *
      generalize t = t at *
      simp [ev, q0, q1, cmpV, e1]
    have hset : ex CC 0 (.set (.nm 6) (.bin .add (.tup [(.c (.str [112, 97, 114, 116, 115])), (.var 11)]) (.var 14))) (LE sc l o2 o3 (some (RV R)) o5 (some d) o7 o8 o9 o10 (some (.str c.1)) (some (.str c.2.1)) (some (.str c.2.2)) (some t) o15 o16 o17) m = some (.nx, LE sc l o2 o3 (some (RV R)) o5 (some (parV b R c)) o7 o8 o9 o10 (some (.str c.1)) (some (.str c.2.1)) (some (.str c.2.2)) (some t) o15 o16 o17, m) := by
      have hadd : addV m (.tup [.str [112, 97, 114, 116, 115], .str c.1]) t = some (parV b R c) := add_tup (by simp)
      generalize parV b R c = pv at *
      generalize RV R = rv at *
      generalize t = t at *
      simp [ex, ev, evs, asg, z2, binV, hadd]
    refine ⟨LE sc l o2 o3 (some (RV R)) o5 (some (if parP b R c = true then parV b R c else d)) o7 o8 o9 o10 (some (.str c.1)) (some (.str c.2.1)) (some (.str c.2.2)) (some t) o15 o16 o17, m, ?_, ⟨_, _, _, _, rfl⟩, rfl⟩
    unfold forF
    rw [ha]
    refine ex_go r1 (ex_go (ex_if hcnd (fun h => ?_) (fun h => ?_)) ex_done)
    · rw [if_pos h]
      exact ex_go hset ex_done
    · rw [if_neg (by rw [h]; simp)]
      exact ex_done) meetsV (LE sc l o2 o3 (some (RV R)) o5 (some meetsV) o7 o8 o9 o10 o11 o12 o13 o14 o15 o16 o17) hd ⟨⟨_, _, _, _, rfl⟩, rfl⟩
  obtain ⟨ρ', m', e, ⟨p11, p12, p13, p14, rfl⟩, rfl⟩ := loop
  have hdue : (pairsW R).reverse.foldl (fun (d : MV) c => if parP b R c = true then parV b R c else d) meetsV = dueV b R := (fold_rev_find (parP b R) (parV b R) meetsV (pairsW R)).trans (by unfold dueV; cases (pairsW R).find? (parP b R) <;> rfl)
  rw [hdue] at e
  refine ⟨p11, p12, p13, p14, ?_⟩
  have hi : evI CC 0 (.rev (.call 25 [(.var 4)])) (LE sc l o2 o3 (some (RV R)) o5 (some meetsV) o7 o8 o9 o10 o11 o12 o13 o14 o15 o16 o17) m' = some (⟨(pairsW R).reverse.map cV, none⟩, m') := by
    rw [List.map_reverse]
    generalize (pairsW R).map cV = pm at *
    generalize RV R = rv at *
    simp [evI, ev, evs, c25, itsOf]
  rw [LA1_5, ex_for, hi]
  exact e
theorem t6 {b : Nat} (hR : Rok b R) : ex CC 0 LA1_6 (LE sc l o2 o3 (some (RV R)) o5 (some (dueV b R)) o7 o8 o9 o10 o11 o12 o13 o14 o15 o16 o17) hd = some (.nx, LE sc l o2 o3 (some (RV R)) o5 (some (dueV b R)) o7 o8 o9 o10 o11 o12 o13 o14 o15 o16 o17, hd) := by
  have c12 : CC 12 [RV R] hd = some (dueV b R, hd) := sp_words_meet (k := 137) hR
  have e1 := eqV_b hd (b := true) (dueV_pd hR) (dueV_pd hR) (by simp)
  generalize dueV b R = dv at *
  generalize RV R = rv at *
  have hc : ev CC 0 (.cmp .ne (.call 12 [(.var 4)]) (.var 6)) (LE sc l o2 o3 (some rv) o5 (some dv) o7 o8 o9 o10 o11 o12 o13 o14 o15 o16 o17) hd = some (.bl false, hd) := by
    simp [ev, evs, c12, cmpV, e1]
  exact (ex_iteF hc).trans ex_done
/-- the pairs meet, if that is due -/
theorem due_meets {b : Nat} (hR : Rok b R) : dueV b R = meetsV ↔ MeetsW b R := by
  unfold dueV
  cases hf : (pairsW R).find? (parP b R) with
  | none =>
    rw [List.find?_eq_none] at hf
    refine ⟨fun _ c hc => ?_, fun _ => rfl⟩
    have := hf c hc
    unfold parP at this
    simpa using this
  | some c =>
    have h1 := List.find?_some hf
    have h2 := List.mem_of_find?_eq_some hf
    refine ⟨fun h => ?_, fun h => ?_⟩
    · exfalso
      simp only [parV, meetsV] at h
      injection h with h
      injection h with _ h
      cases h
    · exfalso
      have := h c h2
      unfold parP at h1
      rw [decide_eq_true_iff] at h1
      exact h1 this
theorem pd_meets : Pd meetsV := Pd.tup (n := 0) (by omega) fun x hx => by
  simp only [List.mem_cons, List.not_mem_nil, or_false] at hx
  subst hx
  exact ⟨by decide, rfl, by simp [dep]⟩
theorem ends_pd {b : Nat} (hR : Rok b R) (hw : Wk b w) : dat (endsV R w) = true ∧ pln (endsV R w) = true ∧ dep (endsV R w) ≤ 1 := by
  have hk := (sp_ends (k := 0) (mh := []) hR hw).2
  unfold endsV
  split
  · have h := pd_ws hR.hb hk
    refine ⟨h.dat, h.pln, ?_⟩
    simp only [dep]
    have := deps_le (b := 0) (xs := (endsB R w).2.2.map wS) fun x hx => by
      obtain ⟨s, _, rfl⟩ := List.mem_map.mp hx
      simp [dep]
    omega
  · exact ⟨rfl, rfl, by simp [dep]⟩
end
end L2.Mi.k55

set_option Elab.async false
set_option linter.all false
set_option maxRecDepth 100000
set_option maxHeartbeats 4000000
/-! W55o: the law's turn, on. -/
namespace L2.Mi.k55
open PySem PySem.Spec PyProof.Rows L2.Mi
section
variable {sc : MV} {l n : Nat} {hd : MHp} {L : Sx} {R F : List Rl} {w : Sx} {o2 o3 o4 o5 o6 o7 o8 o9 o10 o11 o12 o13 o14 o15 o16 o17 : Option MV}
theorem ev_nor {C : CallF} {b : Nat} {x y : ME} {ρ : Env} {m : MHp} (h1 : ev C b x ρ m = some (.bl false, m)) (h2 : ev C b y ρ m = some (.bl false, m)) : ev C b (.or x y) ρ m = some (.bl false, m) := ev_orB h1 fun _ => h2
open Classical in
theorem ev_eqm {C : CallF} {b0 : Nat} {b : Nat} {ρ : Env} {m : MHp} (hR : Rok b R) (h6 : ρ[6]? = some (some (dueV b R))) : ev C b0 (.cmp .eq (.var 6) (.tup [(.c (.str [109, 101, 101, 116, 115]))])) ρ m = some (.bl (decide (MeetsW b R)), m) := by
  have z1 : 1 ≤ line := line_le (by omega)
  have e : eqV m (dueV b R) meetsV = some (decide (MeetsW b R)) := eqV_b m (dueV_pd hR) pd_meets (by rw [decide_eq_true_iff]; exact (due_meets hR).symm)
  generalize dueV b R = dv at *
  generalize decide (MeetsW b R) = bb at *
  unfold meetsV meetsS at e
  simp [ev, evs, h6, z1, cmpV, e]
open Classical in
theorem ev_nem {C : CallF} {b0 : Nat} {b : Nat} {ρ : Env} {m : MHp} (hR : Rok b R) (h6 : ρ[6]? = some (some (dueV b R))) : ev C b0 (.cmp .ne (.var 6) (.tup [(.c (.str [109, 101, 101, 116, 115]))])) ρ m = some (.bl (!decide (MeetsW b R)), m) := by
  have z1 : 1 ≤ line := line_le (by omega)
  have e : eqV m (dueV b R) meetsV = some (decide (MeetsW b R)) := eqV_b m (dueV_pd hR) pd_meets (by rw [decide_eq_true_iff]; exact (due_meets hR).symm)
  generalize dueV b R = dv at *
  generalize decide (MeetsW b R) = bb at *
  unfold meetsV meetsS at e
  simp [ev, evs, h6, z1, cmpV, e]
open Classical in
theorem t7 {b : Nat} (hL : L ∈ alphs) (hb : b = b0 L) (hR : Rok b R) (S : St l n hd) : ∃ o7' o12' o13' hd', ex CC 0 LA1_7 (LE sc l o2 (some (.str L)) (some (RV R)) o5 (some (dueV b R)) o7 o8 o9 o10 o11 o12 o13 o14 o15 o16 o17) hd = some (.nx, LE sc l o2 (some (.str L)) (some (RV R)) o5 (some (dueV b R)) o7' o8 o9 o10 o11 o12' o13' o14 o15 o16 o17, hd') ∧ St l n hd' := by
  have z1 : 1 ≤ line := line_le (by omega)
  have z2 : 2 ≤ line := line_le (by omega)
  obtain ⟨ρ', m', e, ⟨p7, p12, p13, rfl⟩, S'⟩ := forGo_st (J := ⟨(List.range 3).map iV, none⟩) rfl (f := forF CC 0 (.nm 7) LA1_7B) (P := fun ρ m => (∃ o7 o12 o13, ρ = LE sc l o2 (some (.str L)) (some (RV R)) o5 (some (dueV b R)) o7 o8 o9 o10 o11 o12 o13 o14 o15 o16 o17) ∧ St l n m) (xs := (List.range 3).map iV) (ρ := LE sc l o2 (some (.str L)) (some (RV R)) o5 (some (dueV b R)) o7 o8 o9 o10 o11 o12 o13 o14 o15 o16 o17) (mh := hd) ⟨⟨_, _, _, rfl⟩, S⟩ (by
    rintro x hx ρ m ⟨⟨o7, o12, o13, rfl⟩, S⟩
    obtain ⟨u, m1, e1, S1, u1, u2⟩ := sp_word (k := 137) hL [] S 6 (by omega)
    obtain ⟨v, m2, e2, S2, v1, v2⟩ := sp_word (k := 137) hL [] S1 6 (by omega)
    simp only [List.append_nil] at e1 e2
    have e1 : CC 19 [.loc l, .str L, .int 6] m = _ := e1
    have e2 : CC 19 [.loc l, .str L, .int 6] m1 = _ := e2
    have ku : Wk b u := ⟨by rw [hb]; exact u2.lw hL, by omega⟩
    have kv : Wk b v := ⟨by rw [hb]; exact v2.lw hL, by omega⟩
    have kuv : Wk b (u ++ v) := ⟨LW.app.mpr ⟨ku.lw, kv.lw⟩, by rw [List.length_append]; omega⟩
    have ha : asg m (.nm 7) x (LE sc l o2 (some (.str L)) (some (RV R)) o5 (some (dueV b R)) o7 o8 o9 o10 o11 o12 o13 o14 o15 o16 o17) = some (LE sc l o2 (some (.str L)) (some (RV R)) o5 (some (dueV b R)) (some x) o8 o9 o10 o11 o12 o13 o14 o15 o16 o17) := by simp [asg]
    have r0 : ex CC 0 LA1_7_0 (LE sc l o2 (some (.str L)) (some (RV R)) o5 (some (dueV b R)) (some x) o8 o9 o10 o11 o12 o13 o14 o15 o16 o17) m = some (.nx, LE sc l o2 (some (.str L)) (some (RV R)) o5 (some (dueV b R)) (some x) o8 o9 o10 o11 (some (.str u)) (some (.str v)) o14 o15 o16 o17, m2) := by
      generalize RV R = rv at *
      generalize dueV b R = dv at *
      simp [LA1_7_0, ex, ev, evs, e1, e2]
    have c24u : CC 24 [RV R, .str u] m2 = some (.tup [.str (nf b R u), .tup ((nfp b R u).2.map sV)], m2) := sp_lnormal (k := 138) hR.hb hR.ok hR.dn ku.lw ku.len
    have c24v : CC 24 [RV R, .str v] m2 = some (.tup [.str (nf b R v), .tup ((nfp b R v).2.map sV)], m2) := sp_lnormal (k := 138) hR.hb hR.ok hR.dn kv.lw kv.len
    have c24w : CC 24 [RV R, .str (u ++ v)] m2 = some (.tup [.str (nf b R (u ++ v)), .tup ((nfp b R (u ++ v)).2.map sV)], m2) := sp_lnormal (k := 138) hR.hb hR.ok hR.dn kuv.lw kuv.len
    have s1 : subV m2 (.tup [.str (nf b R u), .tup ((nfp b R u).2.map sV)]) (.int 0) = _ := sub_tup0
    have s2 : subV m2 (.tup [.str (nf b R v), .tup ((nfp b R v).2.map sV)]) (.int 0) = _ := sub_tup0
    have s3 : subV m2 (.tup [.str (nf b R (u ++ v)), .tup ((nfp b R (u ++ v)).2.map sV)]) (.int 0) = _ := sub_tup0
    have c26 : CC 26 [RV R, .str u] m2 = some (endsV R u, m2) := (sp_ends (k := 138) hR ku).1
    have c13 : CC 13 [RV R, .str u, .str v] m2 = some (.bl (decide (nf b R u = nf b R v)), m2) := sp_same (k := 137) hR ku kv
    have c14 : CC 14 [RV R, .str u, .str v] m2 = some (.str (nf b R (u ++ v)), m2) := sp_product (k := 137) hR ku kv (by omega)
    have c8 : CC 8 [.str u, .str v] m2 = some (.bl (decide (Bef u v)), m2) := sp_is_before (k := 139) (ku.dat hR.hb) (kv.dat hR.hb)
    have c20 : CC 20 [.str u, .str v] m2 = some (.bl (decide (Bef u v)), m2) := sp_lbefore (k := 139) (ku.dat hR.hb) (kv.dat hR.hb)
    have hadd : addV m2 (.str u) (.str v) = _ := add_str (by omega) (by omega)
    have dnu := (ku.nf hR).dat hR.hb
    have dnv := (kv.nf hR).dat hR.hb
    have dnw := (kuv.nf hR).dat hR.hb
    -- the ends
    have hmem : MeetsW b R → memV m2 (endsV R u) (.tup [.non, .lst [.str (nf b R u)]]) = some true := fun hm => by
      obtain ⟨q1, q2, q3⟩ := ends_pd hR ku
      refine memV_bt m2 ⟨q1, q2, by omega⟩ (frz_dat _ (by simp only [dat, dats, Bool.true_and, Bool.and_true] at dnu ⊢; exact dnu)) (fun c t z => by cases z.2) (Pd.tup (n := 1) (by omega) fun y hy => ?_) (iff_of_true rfl ?_)
      · simp only [List.mem_cons, List.not_mem_nil, or_false] at hy
        rcases hy with rfl | rfl
        · exact ⟨rfl, rfl, by simp [dep]⟩
        · exact ⟨by simp only [dat, dats, Bool.and_true] at dnu ⊢; exact dnu, rfl, by simp [dep, deps]⟩
      · unfold endsV
        split
        · rename_i hlt
          rw [ends_meets hR.dn hm ku.lw hlt]
          simp
        · simp
    have k1 : ev CC 0 (.and (.cmp .eq (.var 6) (.tup [(.c (.str [109, 101, 101, 116, 115]))])) (.cmp .nmem (.call 26 [(.var 4), (.var 12)]) (.tup [(.c .non), (.lst [(.sub (.call 24 [(.var 4), (.var 12)]) (.c (.int (0))))])]))) (LE sc l o2 (some (.str L)) (some (RV R)) o5 (some (dueV b R)) (some x) o8 o9 o10 o11 (some (.str u)) (some (.str v)) o14 o15 o16 o17) m2 = some (.bl (decide (MeetsW b R) && false), m2) := by
      refine ev_andB (ev_eqm hR rfl) fun hm => ?_
      have hmem := hmem (of_decide_eq_true hm)
      generalize MV.tup [.str (nf b R u), .tup ((nfp b R u).2.map sV)] = tu at *
      generalize endsV R u = eu at *
      generalize RV R = rv at *
      generalize dueV b R = dv at *
      simp [ev, evs, c26, c24u, s1, z1, z2, cmpV, hmem]
    rw [Bool.and_false] at k1
    have k2 : ev CC 0 (.or (.cmp .ne (.call 13 [(.var 4), (.var 12), (.var 13)]) (.cmp .eq (.sub (.call 24 [(.var 4), (.var 12)]) (.c (.int (0)))) (.sub (.call 24 [(.var 4), (.var 13)]) (.c (.int (0)))))) (.cmp .ne (.call 14 [(.var 4), (.var 12), (.var 13)]) (.sub (.call 24 [(.var 4), (.bin .add (.var 12) (.var 13))]) (.c (.int (0)))))) (LE sc l o2 (some (.str L)) (some (RV R)) o5 (some (dueV b R)) (some x) o8 o9 o10 o11 (some (.str u)) (some (.str v)) o14 o15 o16 o17) m2 = some (.bl false, m2) := by
      have q1 : eqV m2 (.str (nf b R u)) (.str (nf b R v)) = some (decide (nf b R u = nf b R v)) := eqV_str m2 _ _ dnu dnv
      have q2 : eqV m2 (.str (nf b R (u ++ v))) (.str (nf b R (u ++ v))) = some true := eqV_refl m2 dnw (by simp [dep])
      have q3 : eqV m2 (.bl (decide (nf b R u = nf b R v))) (.bl (decide (nf b R u = nf b R v))) = some true := by rw [eqV_bl]; simp
      refine ev_nor ?_ ?_
      · generalize MV.tup [.str (nf b R u), .tup ((nfp b R u).2.map sV)] = tu at *
        generalize MV.tup [.str (nf b R v), .tup ((nfp b R v).2.map sV)] = tv at *
        generalize decide (nf b R u = nf b R v) = bb at *
        generalize RV R = rv at *
        generalize dueV b R = dv at *
        simp [ev, evs, c13, c24u, c24v, s1, s2, cmpV, q1, q3]
      · generalize MV.tup [.str (nf b R (u ++ v)), .tup ((nfp b R (u ++ v)).2.map sV)] = tw at *
        generalize RV R = rv at *
        generalize dueV b R = dv at *
        simp [ev, evs, c14, binV, hadd, c24w, s3, cmpV, q2]
    have k3 : ev CC 0 (.cmp .ne (.call 8 [(.var 12), (.var 13)]) (.call 20 [(.var 12), (.var 13)])) (LE sc l o2 (some (.str L)) (some (RV R)) o5 (some (dueV b R)) (some x) o8 o9 o10 o11 (some (.str u)) (some (.str v)) o14 o15 o16 o17) m2 = some (.bl false, m2) := by
      have q3 : eqV m2 (.bl (decide (Bef u v))) (.bl (decide (Bef u v))) = some true := by rw [eqV_bl]; simp
      generalize decide (Bef u v) = bb at *
      simp [ev, evs, c8, c20, cmpV, q3]
    refine ⟨LE sc l o2 (some (.str L)) (some (RV R)) o5 (some (dueV b R)) (some x) o8 o9 o10 o11 (some (.str u)) (some (.str v)) o14 o15 o16 o17, m2, ?_, ⟨_, _, _, rfl⟩, S2⟩
    unfold forF
    rw [ha]
    exact ex_go r0 (ex_go ((ex_iteF k1).trans ex_done) (ex_go ((ex_iteF k2).trans ex_done) (ex_go ((ex_iteF k3).trans ex_done) ex_done))))
  refine ⟨p7, p12, p13, m', ?_, S'⟩
  rw [LA1_7, ex_for, evI_rng1 (m := 3) (by simp [ev]) (by omega)]
  exact e
open Classical in
theorem t8 {b : Nat} (hR : Rok b R) : ex CC 0 LA1_8 (LE sc l o2 o3 (some (RV R)) o5 (some (dueV b R)) o7 o8 o9 o10 o11 o12 o13 o14 o15 o16 o17) hd = some (.nx, LE sc l o2 o3 (some (RV R)) o5 (some (dueV b R)) o7 o8 o9 o10 o11 o12 o13 o14 o15 o16 o17, hd) := by
  have z2 : 2 ≤ line := line_le (by omega)
  have k1 : ev CC 0 (.and (.cmp .ne (.var 6) (.tup [(.c (.str [109, 101, 101, 116, 115]))])) (.cmp .lt (.bi .len [(.orv (.call 26 [(.var 4), (.sub (.var 6) (.c (.int (1))))]) (.lst [(.c (.int (0))), (.c (.int (0)))]))]) (.c (.int (2))))) (LE sc l o2 o3 (some (RV R)) o5 (some (dueV b R)) o7 o8 o9 o10 o11 o12 o13 o14 o15 o16 o17) hd = some (.bl (!decide (MeetsW b R) && false), hd) := by
    refine ev_andB (ev_nem hR rfl) fun hm => ?_
    have hm : ¬ MeetsW b R := by simpa using hm
    obtain ⟨c, hc, hdue, hpar⟩ : ∃ c ∈ pairsW R, dueV b R = parV b R c ∧ nf b R c.2.1 ≠ nf b R c.2.2 := by
      unfold dueV
      cases hf : (pairsW R).find? (parP b R) with
      | none =>
        exfalso
        refine hm ((due_meets hR).mp ?_)
        unfold dueV
        rw [hf]
        rfl
      | some c =>
        have h1 := List.find?_some hf
        unfold parP at h1
        exact ⟨c, List.mem_of_find?_eq_some hf, rfl, of_decide_eq_true h1⟩
    obtain ⟨w1, w2, w3, h1, h2⟩ := pair_wk hR hc
    have c26 : CC 26 [RV R, .str c.1] hd = some (endsV R c.1, hd) := (sp_ends (k := 138) hR w1).1
    have s1 : subV hd (dueV b R) (.int 1) = some (.str c.1) := by rw [hdue]; exact atI1
    have hlen : ∃ v, (match truM hd (endsV R c.1) with | some true => some (endsV R c.1, hd) | some false => some (MV.lst [.int 0, .int 0], hd) | none => none) = some (v, hd) ∧ ∃ q : Int, lenV hd v = some (.int q) ∧ ¬ q < 2 := by
      by_cases hlt : (endsB R c.1).2.1.length < 300
      · have he : endsV R c.1 = .lst ((endsB R c.1).2.2.map wS) := if_pos hlt
        rw [he]
        obtain ⟨a1, a2, _⟩ := nf_ok hR.dn w2.lw
        obtain ⟨b1, b2, _⟩ := nf_ok hR.dn w3.lw
        have htwo := ends_two (Star.head h1 a2) (Star.head h2 b2) a1 b1 hpar hlt
        have ht : truM hd (.lst ((endsB R c.1).2.2.map wS)) = some true := by
          cases h : (endsB R c.1).2.2 with
          | nil => rw [h] at htwo; simp at htwo
          | cons _ _ => rfl
        rw [ht]
        exact ⟨.lst ((endsB R c.1).2.2.map wS), rfl, ((endsB R c.1).2.2.length : Int), by simp [lenV, getL], by omega⟩
      · have he : endsV R c.1 = .non := if_neg hlt
        rw [he]
        exact ⟨.lst [.int 0, .int 0], rfl, 2, rfl, by omega⟩
    obtain ⟨v, hv, q, hq, hq2⟩ := hlen
    have horv : ev CC 0 (.orv (.call 26 [(.var 4), (.sub (.var 6) (.c (.int (1))))]) (.lst [(.c (.int (0))), (.c (.int (0)))])) (LE sc l o2 o3 (some (RV R)) o5 (some (dueV b R)) o7 o8 o9 o10 o11 o12 o13 o14 o15 o16 o17) hd = some (v, hd) := by
      rw [← hv]
      generalize endsV R c.1 = ee at *
      generalize RV R = rv at *
      generalize dueV b R = dv at *
      simp only [ev]
      simp [ev, evs, s1, c26, z2]
      all_goals (rcases truM hd ee with _ | b <;> first | rfl | (cases b <;> rfl))
    generalize RV R = rv at *
    generalize dueV b R = dv at *
    simp only [ev]
    simp only [evs, horv, biV, one1, hq, Option.map_some, cmpV, ordV, decide_eq_false hq2]
  rw [Bool.and_false] at k1
  exact (ex_iteF k1).trans ex_done
theorem t9 (hL : L ∈ alphs) (S : St l n hd) : ∃ F hd', ex CC 0 LA1_9 (LE sc l o2 (some (.str L)) o4 o5 o6 o7 o8 o9 o10 o11 o12 o13 o14 o15 o16 o17) hd = some (.nx, LE sc l o2 (some (.str L)) o4 o5 o6 o7 (some (RV F)) o9 o10 o11 o12 o13 o14 o15 o16 o17, hd') ∧ St l n hd' ∧ RW L 3 F ∧ ∀ p ∈ F, p.1 ≠ [] := by
  obtain ⟨F, hd', e, S', hF, hn⟩ := sp_lany (k := 135) hL [] S
  simp only [List.append_nil] at e
  refine ⟨F, hd', ?_, S', hF, hn⟩
  generalize RV F = rv at *
  simp [LA1_9, ex, ev, evs, e, asg]
theorem rules_ok (hL : L ∈ alphs) (hF : RW L 3 F) (hn : ∀ p ∈ F, p.1 ≠ []) : rulesB L (RV F) = true := by
  show (decide ((F.map rV).length ≤ 20) && (F.map rV).all (pairB L)) = true
  rw [Bool.and_eq_true, decide_eq_true_iff, List.length_map, List.all_eq_true]
  refine ⟨by have := hF.len; omega, fun x hx => ?_⟩
  obtain ⟨p, hp, rfl⟩ := List.mem_map.mp hx
  have wb : ∀ {u : Sx}, Of L u → u.length ≤ 3 → wordB L (.str u) = true := fun {u} h1 h2 => by
    show (decide (u.length ≤ 60) && u.all fun c => decide (c ∈ L)) = true
    rw [Bool.and_eq_true, decide_eq_true_iff, List.all_eq_true]
    exact ⟨by omega, fun c hc => decide_eq_true (h1 c hc)⟩
  show (wordB L (.str p.1) && wordB L (.str p.2) && !nilS (.str p.1)) = true
  rw [wb (hF.o1 p hp) (hF.l1 p hp), wb (hF.o2 p hp) (hF.l2 p hp)]
  cases h : p.1 with
  | nil => exact absurd h (hn p hp)
  | cons _ _ => rfl
theorem t10 {b : Nat} (hL : L ∈ alphs) (hR : Rok b R) (hF : RW L 3 F) (hn : ∀ p ∈ F, p.1 ≠ []) : ex CC 0 LA1_10 (LE sc l o2 (some (.str L)) (some (RV R)) o5 o6 o7 (some (RV F)) o9 o10 o11 o12 o13 o14 o15 o16 o17) hd = some (.nx, LE sc l o2 (some (.str L)) (some (RV R)) o5 o6 o7 (some (RV F)) o9 o10 o11 o12 o13 o14 o15 o16 o17, hd) := by
  have hokF := hF.ok hL (by omega)
  have c9F : CC 9 [RV F] hd = some (.bl (F.all fun p => decide (Bef p.2 p.1)), hd) := sp_go_down (k := 138) hokF
  have c9R : CC 9 [RV R] hd = some (.bl (R.all fun p => decide (Bef p.2 p.1)), hd) := sp_go_down (k := 138) hR.ok
  have hall : (R.all fun p => decide (Bef p.2 p.1)) = true := List.all_eq_true.mpr fun p hp => decide_eq_true (hR.dn p hp).2.2
  rw [hall] at c9R
  have hdF : dat (RV F) = true := by
    show dat (.tup (F.map rV)) = true
    unfold dat
    exact dats_iff.mpr fun x hx => by
      obtain ⟨p, hp, rfl⟩ := List.mem_map.mp hx
      exact (pd_rV hokF hp).dat
  have c3 : CC 3 [RV F, .str L] hd = some (.bl (rulesB L (RV F)), hd) := sp_rules (k := 138) hdF
  rw [rules_ok hL hF hn] at c3
  have hcomp := ev_compF (C := CC) (base := 0) (ρ := LE sc l o2 (some (.str L)) (some (RV R)) o5 o6 o7 (some (RV F)) o9 o10 o11 o12 o13 o14 o15 o16 o17) (mh := hd) (tg := .tp [(.nm 12), (.nm 13)]) (own := [12, 13]) (it := .var 8) (cond := .not (.call 20 [(.var 13), (.var 12)])) (e := .c (.int (1))) (emb := rV) (c := fun p => !decide (Bef p.2 p.1)) (h := fun _ => .int 1) (xs := F) (evI_var rfl rfl) (line_le (by have := hF.len; omega)) (fun p hp => by
    have c20 : CC 20 [.str p.2, .str p.1] hd = some (.bl (decide (Bef p.2 p.1)), hd) := sp_lbefore (k := 139) (hokF.d2 p hp) (hokF.d1 p hp)
    refine compF_B (ρ' := LE sc l o2 (some (.str L)) (some (RV R)) o5 o6 o7 (some (RV F)) o9 o10 o11 (some (.str p.1)) (some (.str p.2)) o14 o15 o16 o17) (by simp [asg, asgs, wipeE]) ?_ (fun _ => by simp [ev])
    generalize decide (Bef p.2 p.1) = bb at *
    simp [ev, evs, c20])
  have hfl : decide ((F.filter fun p => !decide (Bef p.2 p.1)).length = 0) = (F.all fun p => decide (Bef p.2 p.1)) := by
    apply Bool.eq_iff_iff.mpr
    rw [decide_eq_true_iff, List.length_eq_zero_iff, List.filter_eq_nil_iff, List.all_eq_true]
    simp
  have q1 : eqV hd (.int ((F.filter fun p => !decide (Bef p.2 p.1)).length : Int)) (.int 0) = some (F.all fun p => decide (Bef p.2 p.1)) := by
    rw [eqV_int, ← hfl]
    congr 1
    apply Bool.eq_iff_iff.mpr
    simp only [decide_eq_true_iff]
    omega
  have q2 : ∀ a : Bool, eqV hd (.bl a) (.bl a) = some true := fun a => by rw [eqV_bl]; simp
  have k1 : ev CC 0 (.or (.cmp .ne (.call 9 [(.var 8)]) (.cmp .eq (.bi .len [(.comp (.tp [(.nm 12), (.nm 13)]) [12, 13] (.var 8) (.not (.call 20 [(.var 13), (.var 12)])) (.c (.int (1))))]) (.c (.int (0))))) (.or (.cmp .isn (.call 9 [(.var 4)]) (.c (.bl true))) (.cmp .isn (.call 3 [(.var 8), (.var 3)]) (.c (.bl true))))) (LE sc l o2 (some (.str L)) (some (RV R)) o5 o6 o7 (some (RV F)) o9 o10 o11 o12 o13 o14 o15 o16 o17) hd = some (.bl false, hd) := by
    refine ev_nor ?_ (ev_nor ?_ ?_)
    · have h1 : ev CC 0 (.call 9 [(.var 8)]) (LE sc l o2 (some (.str L)) (some (RV R)) o5 o6 o7 (some (RV F)) o9 o10 o11 o12 o13 o14 o15 o16 o17) hd = some (.bl (F.all fun p => decide (Bef p.2 p.1)), hd) := by
        generalize (F.all fun p => decide (Bef p.2 p.1)) = fa at *
        generalize RV F = rf at *
        simp [ev, evs, c9F]
      have h2 : ev CC 0 (.cmp .eq (.bi .len [(.comp (.tp [(.nm 12), (.nm 13)]) [12, 13] (.var 8) (.not (.call 20 [(.var 13), (.var 12)])) (.c (.int (1))))]) (.c (.int (0)))) (LE sc l o2 (some (.str L)) (some (RV R)) o5 o6 o7 (some (RV F)) o9 o10 o11 o12 o13 o14 o15 o16 o17) hd = some (.bl (F.all fun p => decide (Bef p.2 p.1)), hd) := by
        have hlv : lenV hd (.lst ((F.filter fun p => !decide (Bef p.2 p.1)).map fun _ => MV.int 1)) = some (.int ((F.filter fun p => !decide (Bef p.2 p.1)).length : Int)) := by simp [lenV, getL]
        have gen : ∀ cm : ME, ev CC 0 cm (LE sc l o2 (some (.str L)) (some (RV R)) o5 o6 o7 (some (RV F)) o9 o10 o11 o12 o13 o14 o15 o16 o17) hd = some (.lst ((F.filter fun p => !decide (Bef p.2 p.1)).map fun _ => MV.int 1), hd) → ev CC 0 (.cmp .eq (.bi .len [cm]) (.c (.int (0)))) (LE sc l o2 (some (.str L)) (some (RV R)) o5 o6 o7 (some (RV F)) o9 o10 o11 o12 o13 o14 o15 o16 o17) hd = some (.bl (F.all fun p => decide (Bef p.2 p.1)), hd) := fun cm hcm => by
          simp only [ev, evs, hcm, biV, one1, hlv, Option.map_some, cmpV, q1]
        exact gen _ hcomp
      rw [ev, h1]
      simp only [h2, cmpV, q2, Option.map_some, Bool.not_true]
    · generalize RV R = rv at *
      simp [ev, evs, c9R, cmpV, isV_bl]
    · generalize RV F = rf at *
      simp [ev, evs, c3, cmpV, isV_bl]
  exact (ex_iteF k1).trans ex_done
end
end L2.Mi.k55

set_option Elab.async false
set_option linter.all false
set_option maxRecDepth 100000
set_option maxHeartbeats 4000000
/-! W55p: the law. -/
namespace L2.Mi.k55
open PySem PySem.Spec PyProof.Rows L2.Mi
section
variable {sc : MV} {l n : Nat} {hd : MHp} {L : Sx} {R F : List Rl} {w : Sx} {o2 o3 o4 o5 o6 o7 o8 o9 o10 o11 o12 o13 o14 o15 o16 o17 : Option MV}
theorem t11 (hF : OkR F) (hw : dat (.str w) = true) (hwl : w.length ≤ 100) (S : St l n hd) : ∃ ss u hd', ex CC 0 LA1_11 (LE sc l o2 o3 o4 (some (.str w)) o6 o7 (some (RV F)) o9 o10 o11 o12 o13 o14 o15 o16 o17) hd = some (.nx, LE sc l o2 o3 o4 (some (.str w)) o6 o7 (some (RV F)) o9 o10 o11 o12 o13 o14 (some (.tup (ss.map sV))) (some (.str u)) o17, hd') ∧ St l n hd' ∧ ss.length ≤ 4 ∧ behS F w ss = some u := by
  obtain ⟨ss, u, hd', e, S', h1, h2⟩ := sp_lrow (k := 136) hF hw hwl [] S
  simp only [List.append_nil] at e
  refine ⟨ss, u, hd', ?_, S', h1, h2⟩
  generalize RV F = rv at *
  simp [LA1_11, ex, ev, evs, e, asg, asgs]
theorem t12 (hF : OkR F) (hw : dat (.str w) = true) (hwl : w.length ≤ 100) {ss : List (Nat × Nat)} {u : Sx} (hs : ss.length ≤ 4) (hb : behS F w ss = some u) : ex CC 0 LA1_12 (LE sc l o2 o3 o4 (some (.str w)) o6 o7 (some (RV F)) o9 o10 o11 o12 o13 o14 (some (.tup (ss.map sV))) (some (.str u)) o17) hd = some (.nx, LE sc l o2 o3 o4 (some (.str w)) o6 o7 (some (RV F)) o9 o10 o11 o12 o13 o14 (some (.tup (ss.map sV))) (some (.str u)) o17, hd) := by
  have c7 : CC 7 [RV F, .str w, .tup (ss.map sV)] hd = some (optS (behS F w ss), hd) := sp_behind (k := 137) hF hw (by omega)
  rw [hb] at c7
  have c7 : CC 7 [RV F, .str w, .tup (ss.map sV)] hd = some (.str u, hd) := c7
  have du := (behS_ok hF ss w u hw (by omega) hb).1
  have q1 : eqV hd (.str u) (.str u) = some true := eqV_refl hd du (by simp [dep])
  have c22 : CC 22 [RV F, .str w] hd = some (.lst ((stepsW F w).map sV), hd) := sp_lsteps (k := 139) hF hw
  have hstl := steps_le (w := w) hF.len
  have hi : evI CC 0 (.call 22 [(.var 8), (.var 5)]) (LE sc l o2 o3 o4 (some (.str w)) o6 o7 (some (RV F)) o9 o10 o11 o12 o13 o14 (some (.tup (ss.map sV))) (some (.str u)) o17) hd = some (⟨(stepsW F w).map sV, none⟩, hd) := by
    generalize (stepsW F w).map sV = sm at *
    generalize ss.map sV = sm2 at *
    generalize RV F = rv at *
    simp [evI, ev, evs, c22, itsOf]
  have hcomp : ∀ f : Nat, (∀ s ∈ stepsW F w, CC f [RV F, .str w, sV s] hd = some (.str (turnW F w s), hd)) → ev CC 0 (.comp (.nm 17) [17] (.call 22 [(.var 8), (.var 5)]) (.c (.bl true)) (.call f [(.var 8), (.var 5), (.var 17)])) (LE sc l o2 o3 o4 (some (.str w)) o6 o7 (some (RV F)) o9 o10 o11 o12 o13 o14 (some (.tup (ss.map sV))) (some (.str u)) o17) hd = some (.lst ((stepsW F w).map fun s => .str (turnW F w s)), hd) := fun f hf => by
    refine ev_compM (emb := sV) (h := fun s => .str (turnW F w s)) hi (line_le (by omega)) fun s hs => ?_
    have e := hf s hs
    refine compF_T (ρ' := LE sc l o2 o3 o4 (some (.str w)) o6 o7 (some (RV F)) o9 o10 o11 o12 o13 o14 (some (.tup (ss.map sV))) (some (.str u)) (some (sV s))) (by simp [asg, wipeE]) (by simp [ev]) ?_
    generalize ss.map sV = sm2 at *
    generalize sV s = sv at *
    generalize RV F = rv at *
    simp [ev, evs, e]
  have h5 := hcomp 5 fun s hs => sp_turned (k := 139) hF (mem_stepsW.mp (show (s.1, s.2) ∈ stepsW F w from hs)).1 hw (by omega)
  have h23 := hcomp 23 fun s hs => sp_lturned (k := 139) hF (mem_stepsW.mp (show (s.1, s.2) ∈ stepsW F w from hs)).1 hw (by omega)
  have hpd : Pd (.lst ((stepsW F w).map fun s => .str (turnW F w s))) := Pd.lst (n := 0) (by omega) fun x hx => by
    obtain ⟨s, _, rfl⟩ := List.mem_map.mp hx
    exact ⟨dat_turn hF hw (by omega), rfl, by simp [dep]⟩
  have q2 := eqV_b hd (b := true) hpd hpd (by simp)
  have k1 : ev CC 0 (.or (.cmp .ne (.call 7 [(.var 8), (.var 5), (.var 15)]) (.var 16)) (.cmp .ne (.comp (.nm 17) [17] (.call 22 [(.var 8), (.var 5)]) (.c (.bl true)) (.call 5 [(.var 8), (.var 5), (.var 17)])) (.comp (.nm 17) [17] (.call 22 [(.var 8), (.var 5)]) (.c (.bl true)) (.call 23 [(.var 8), (.var 5), (.var 17)])))) (LE sc l o2 o3 o4 (some (.str w)) o6 o7 (some (RV F)) o9 o10 o11 o12 o13 o14 (some (.tup (ss.map sV))) (some (.str u)) o17) hd = some (.bl false, hd) := by
    refine ev_nor ?_ ?_
    · generalize ss.map sV = sm2 at *
      generalize RV F = rv at *
      simp [ev, evs, c7, cmpV, q1]
    · have gen : ∀ x y : ME, ev CC 0 x (LE sc l o2 o3 o4 (some (.str w)) o6 o7 (some (RV F)) o9 o10 o11 o12 o13 o14 (some (.tup (ss.map sV))) (some (.str u)) o17) hd = some (.lst ((stepsW F w).map fun s => .str (turnW F w s)), hd) → ev CC 0 y (LE sc l o2 o3 o4 (some (.str w)) o6 o7 (some (RV F)) o9 o10 o11 o12 o13 o14 (some (.tup (ss.map sV))) (some (.str u)) o17) hd = some (.lst ((stepsW F w).map fun s => .str (turnW F w s)), hd) → ev CC 0 (.cmp .ne x y) (LE sc l o2 o3 o4 (some (.str w)) o6 o7 (some (RV F)) o9 o10 o11 o12 o13 o14 (some (.tup (ss.map sV))) (some (.str u)) o17) hd = some (.bl false, hd) := fun x y hx hy => by
        simp only [ev, hx, hy, cmpV, q2, Option.map_some, Bool.not_true]
      exact gen _ _ h5 h23
  exact (ex_iteF k1).trans ex_done
theorem t13 {ss : List (Nat × Nat)} (hs : ss.length ≤ 4) (S : St l n hd) : ∃ (s : Nat × Nat) (hd' : MHp), ex CC 0 LA1_13 (LE sc l o2 o3 o4 o5 o6 o7 o8 o9 o10 o11 o12 o13 o14 (some (.tup (ss.map sV))) o16 o17) hd = some (.nx, LE sc l o2 o3 o4 o5 o6 o7 o8 (some (.tup ((ss ++ [s]).map sV))) o10 o11 o12 o13 o14 (some (.tup (ss.map sV))) o16 o17, hd') ∧ St l n hd' := by
  have z1 : 1 ≤ line := line_le (by omega)
  have z2 : 2 ≤ line := line_le (by omega)
  obtain ⟨a, h1, e1, S1, a0, a1, _⟩ := take_fr hTake 139 [] S 4 (by omega)
  obtain ⟨b, h2, e2, S2, b0, b1, _⟩ := take_fr hTake 139 [] S1 12 (by omega)
  simp only [List.append_nil] at e1 e2
  have e1 : CC 16 [.loc l, .int 4] hd = _ := e1
  have e2 : CC 16 [.loc l, .int 12] h1 = _ := e2
  refine ⟨(a.toNat, b.toNat), h2, ?_, S2⟩
  have hv : sV (a.toNat, b.toNat) = .tup [.int a, .int b] := by
    show MV.tup [.int ((a.toNat : Nat) : Int), .int ((b.toNat : Nat) : Int)] = _
    rw [show ((a.toNat : Nat) : Int) = a by omega, show ((b.toNat : Nat) : Int) = b by omega]
  have hadd : addV h2 (.tup (ss.map sV)) (.tup [.tup [.int a, .int b]]) = some (.tup ((ss ++ [(a.toNat, b.toNat)]).map sV)) := by
    rw [add_tup (by rw [List.length_map]; simp; omega), List.map_append, List.map_cons, List.map_nil, hv]
  generalize ss.map sV = sm at *
  generalize (ss ++ [(a.toNat, b.toNat)]).map sV = sm2 at *
  simp [LA1_13, ex, ev, evs, e1, e2, z1, z2, binV, hadd, asg]
theorem t14 (hF : OkR F) (hw : dat (.str w) = true) (hwl : w.length ≤ 100) {ss : List (Nat × Nat)} (hs : ss.length ≤ 5) : ex CC 0 LA1_14 (LE sc l o2 o3 o4 (some (.str w)) o6 o7 (some (RV F)) (some (.tup (ss.map sV))) o10 o11 o12 o13 o14 o15 o16 o17) hd = some (.nx, LE sc l o2 o3 o4 (some (.str w)) o6 o7 (some (RV F)) (some (.tup (ss.map sV))) o10 o11 o12 o13 o14 o15 o16 o17, hd) := by
  have c7 : CC 7 [RV F, .str w, .tup (ss.map sV)] hd = some (optS (behS F w ss), hd) := sp_behind (k := 137) hF hw (by omega)
  have c28 : CC 28 [RV F, .str w, .tup (ss.map sV)] hd = some (optS (behS F w ss), hd) := sp_lbehind (k := 137) hF hw (by omega)
  have hpd := optS_pd (ss := ss) hF hw (by omega)
  have q1 := eqV_b hd (b := true) hpd hpd (by simp)
  generalize optS (behS F w ss) = ov at *
  generalize ss.map sV = sm at *
  generalize RV F = rv at *
  have k1 : ev CC 0 (.cmp .ne (.call 7 [(.var 8), (.var 5), (.var 9)]) (.call 28 [(.var 8), (.var 5), (.var 9)])) (LE sc l o2 o3 o4 (some (.str w)) o6 o7 (some rv) (some (.tup sm)) o10 o11 o12 o13 o14 o15 o16 o17) hd = some (.bl false, hd) := by
    simp [ev, evs, c7, c28, cmpV, q1]
  exact (ex_iteF k1).trans ex_done
theorem t15 (hF : OkR F) (hw : dat (.str w) = true) (hwl : w.length ≤ 100) {ss : List (Nat × Nat)} : ∃ o10', ex CC 0 LA1_15 (LE sc l o2 o3 o4 (some (.str w)) o6 o7 (some (RV F)) o9 o10 o11 o12 o13 o14 (some (.tup (ss.map sV))) o16 o17) hd = some (.nx, LE sc l o2 o3 o4 (some (.str w)) o6 o7 (some (RV F)) o9 o10' o11 o12 o13 o14 (some (.tup (ss.map sV))) o16 o17, hd) := by
  have z1 : 1 ≤ line := line_le (by omega)
  have z2 : 2 ≤ line := line_le (by omega)
  have z8 : 8 ≤ line := line_le (by omega)
  let vs : List MV := [.non, .lst (ss.map sV), .tup [.non], .tup [.tup [.int 0]], .tup [.tup [.int (-1), .int 0]], .tup [.tup [.int 0, .bl true]], .tup [.tup [.int 0, .int (w.length : Int)]], .tup [.tup [.str [48], .int 0]]]
  have hall : ∀ v ∈ vs, CC 7 [RV F, .str w, v] hd = some (.non, hd) := fun v hv => by
    simp only [vs, List.mem_cons, List.not_mem_nil, or_false] at hv
    rcases hv with rfl | rfl | rfl | rfl | rfl | rfl | rfl | rfl
    · exact sp_behind_no (k := 137) hF rfl hw (.inl rfl)
    · exact sp_behind_no (k := 137) hF (pd_SL ss).dat hw (.inl rfl)
    · exact sp_behind_no (k := 137) hF rfl hw (.inr ⟨_, rfl, rfl⟩)
    · exact sp_behind_no (k := 137) hF rfl hw (.inr ⟨_, rfl, rfl⟩)
    · exact sp_behind_no (k := 137) hF rfl hw (.inr ⟨_, rfl, rfl⟩)
    · exact sp_behind_no (k := 137) hF rfl hw (.inr ⟨_, rfl, rfl⟩)
    · refine sp_behind_no (k := 137) hF rfl hw (.inr ⟨_, rfl, ?_⟩)
      show ((decide ((0 : Int) ≤ 0) && decide ((0 : Int) ≤ (F.length : Int) - 1)) && ((decide ((0 : Int) ≤ (w.length : Int)) && decide ((w.length : Int) ≤ (w.length : Int) - 1)) && _)) = false
      rw [decide_eq_false (show ¬ (w.length : Int) ≤ (w.length : Int) - 1 by omega)]
      simp
    · exact sp_behind_no (k := 137) hF (by decide) hw (.inr ⟨_, rfl, rfl⟩)
  obtain ⟨ρ', m', e, ⟨p10, rfl⟩, rfl⟩ := forGo_st (J := ⟨vs, none⟩) rfl (f := forF CC 0 (.nm 10) LA1_15B) (P := fun ρ m => (∃ o10, ρ = LE sc l o2 o3 o4 (some (.str w)) o6 o7 (some (RV F)) o9 o10 o11 o12 o13 o14 (some (.tup (ss.map sV))) o16 o17) ∧ m = hd) (xs := vs) (ρ := LE sc l o2 o3 o4 (some (.str w)) o6 o7 (some (RV F)) o9 o10 o11 o12 o13 o14 (some (.tup (ss.map sV))) o16 o17) (mh := hd) ⟨⟨_, rfl⟩, rfl⟩ (by
    rintro v hv ρ m ⟨⟨o10, rfl⟩, rfl⟩
    have c := hall v hv
    have ha : asg m (.nm 10) v (LE sc l o2 o3 o4 (some (.str w)) o6 o7 (some (RV F)) o9 o10 o11 o12 o13 o14 (some (.tup (ss.map sV))) o16 o17) = some (LE sc l o2 o3 o4 (some (.str w)) o6 o7 (some (RV F)) o9 (some v) o11 o12 o13 o14 (some (.tup (ss.map sV))) o16 o17) := by simp [asg]
    have hc : ev CC 0 (.cmp .isn (.call 7 [(.var 8), (.var 5), (.var 10)]) (.c .non)) (LE sc l o2 o3 o4 (some (.str w)) o6 o7 (some (RV F)) o9 (some v) o11 o12 o13 o14 (some (.tup (ss.map sV))) o16 o17) m = some (.bl false, m) := by
      generalize ss.map sV = sm at *
      generalize RV F = rv at *
      simp [ev, evs, c, cmpV, isV]
    refine ⟨_, m, ?_, ⟨some v, rfl⟩, rfl⟩
    unfold forF
    rw [ha]
    exact ex_go ((ex_iteF hc).trans ex_done) ex_done)
  refine ⟨p10, ?_⟩
  have hlw : lenV m' (.str w) = _ := len_str (by omega)
  have hi : evI CC 0 (.tup [(.c .non), (.bi .list [(.var 15)]), (.tup [(.c .non)]), (.tup [(.tup [(.c (.int (0)))])]), (.tup [(.tup [(.neg (.c (.int (1)))), (.c (.int (0)))])]), (.tup [(.tup [(.c (.int (0))), (.c (.bl true))])]), (.tup [(.tup [(.c (.int (0))), (.bi .len [(.var 5)])])]), (.tup [(.tup [(.c (.str [48])), (.c (.int (0)))])])]) (LE sc l o2 o3 o4 (some (.str w)) o6 o7 (some (RV F)) o9 o10 o11 o12 o13 o14 (some (.tup (ss.map sV))) o16 o17) m' = some (⟨vs, none⟩, m') := by
    simp only [vs]
    generalize ss.map sV = sm
    generalize RV F = rv
    simp [evI, ev, evs, z1, z2, z8, biV, one1, lstV, hlw, itsOf]
  rw [LA1_15, ex_for, hi]
  exact e
theorem t16 (hL : L ∈ alphs) : ex CC 0 LA1_16 (LE sc l o2 (some (.str L)) o4 o5 o6 o7 o8 o9 o10 o11 o12 o13 o14 o15 o16 o17) hd = some (.nx, LE sc l o2 (some (.str L)) o4 o5 o6 o7 o8 o9 o10 o11 o12 o13 o14 o15 o16 o17, hd) := by
  have c30 : CC 30 [.str L] hd = some (.bl true, hd) := sp_lodd (k := 137) hL
  have k1 : ev CC 0 (.not (.call 30 [(.var 3)])) (LE sc l o2 (some (.str L)) o4 o5 o6 o7 o8 o9 o10 o11 o12 o13 o14 o15 o16 o17) hd = some (.bl false, hd) := by
    simp [ev, evs, c30]
  exact (ex_iteF k1).trans ex_done
/-- a turn -/
theorem turn {x : MV} (S : St l n hd) : ∃ p2 p3 p4 p5 p6 p7 p8 p9 p10 p11 p12 p13 p14 p15 p16 p17 hd', forF CC 0 (.nm 2) LA1B x (LE sc l o2 o3 o4 o5 o6 o7 o8 o9 o10 o11 o12 o13 o14 o15 o16 o17) hd = some (.nx, LE sc l p2 p3 p4 p5 p6 p7 p8 p9 p10 p11 p12 p13 p14 p15 p16 p17, hd') ∧ St l n hd' := by
  have ha : asg hd (.nm 2) x (LE sc l o2 o3 o4 o5 o6 o7 o8 o9 o10 o11 o12 o13 o14 o15 o16 o17) = some (LE sc l (some x) o3 o4 o5 o6 o7 o8 o9 o10 o11 o12 o13 o14 o15 o16 o17) := by simp [asg]
  obtain ⟨L, h0, hL, e0, S0⟩ := t0 (sc := sc) (o2 := some x) (o3 := o3) (o4 := o4) (o5 := o5) (o6 := o6) (o7 := o7) (o8 := o8) (o9 := o9) (o10 := o10) (o11 := o11) (o12 := o12) (o13 := o13) (o14 := o14) (o15 := o15) (o16 := o16) (o17 := o17) S
  obtain ⟨R, h1, e1, S1, hR⟩ := t1 (sc := sc) (o2 := some x) (o4 := o4) (o5 := o5) (o6 := o6) (o7 := o7) (o8 := o8) (o9 := o9) (o10 := o10) (o11 := o11) (o12 := o12) (o13 := o13) (o14 := o14) (o15 := o15) (o16 := o16) (o17 := o17) hL S0
  obtain ⟨w, h2, e2, S2, hw⟩ := t2 (sc := sc) (o2 := some x) (o4 := some (RV R)) (o5 := o5) (o6 := o6) (o7 := o7) (o8 := o8) (o9 := o9) (o10 := o10) (o11 := o11) (o12 := o12) (o13 := o13) (o14 := o14) (o15 := o15) (o16 := o16) (o17 := o17) hL S1
  have hdw := hw.dat hR.hb
  have hwl := hw.len
  have e3 := t3 (sc := sc) (l := l) (hd := h2) (o2 := some x) (o3 := some (.str L)) (o6 := o6) (o7 := o7) (o8 := o8) (o9 := o9) (o10 := o10) (o11 := o11) (o12 := o12) (o13 := o13) (o14 := o14) (o15 := o15) (o16 := o16) (o17 := o17) hR hw
  have e4 := t4 (sc := sc) (l := l) (hd := h2) (o2 := some x) (o3 := some (.str L)) (o4 := some (RV R)) (o5 := some (.str w)) (o6 := o6) (o7 := o7) (o8 := o8) (o9 := o9) (o10 := o10) (o11 := o11) (o12 := o12) (o13 := o13) (o14 := o14) (o15 := o15) (o16 := o16) (o17 := o17)
  obtain ⟨q11, q12, q13, q14, e5⟩ := t5 (sc := sc) (l := l) (hd := h2) (o2 := some x) (o3 := some (.str L)) (o5 := some (.str w)) (o7 := o7) (o8 := o8) (o9 := o9) (o10 := o10) (o11 := o11) (o12 := o12) (o13 := o13) (o14 := o14) (o15 := o15) (o16 := o16) (o17 := o17) hR
  have e6 := t6 (sc := sc) (l := l) (hd := h2) (o2 := some x) (o3 := some (.str L)) (o5 := some (.str w)) (o7 := o7) (o8 := o8) (o9 := o9) (o10 := o10) (o11 := q11) (o12 := q12) (o13 := q13) (o14 := q14) (o15 := o15) (o16 := o16) (o17 := o17) hR
  obtain ⟨r7, r12, r13, h7, e7, S7⟩ := t7 (sc := sc) (o2 := some x) (o5 := some (.str w)) (o7 := o7) (o8 := o8) (o9 := o9) (o10 := o10) (o11 := q11) (o12 := q12) (o13 := q13) (o14 := q14) (o15 := o15) (o16 := o16) (o17 := o17) hL rfl hR S2
  have e8 := t8 (sc := sc) (l := l) (hd := h7) (o2 := some x) (o3 := some (.str L)) (o5 := some (.str w)) (o7 := r7) (o8 := o8) (o9 := o9) (o10 := o10) (o11 := q11) (o12 := r12) (o13 := r13) (o14 := q14) (o15 := o15) (o16 := o16) (o17 := o17) hR
  obtain ⟨F, h9, e9, S9, hF, hn⟩ := t9 (sc := sc) (o2 := some x) (o4 := some (RV R)) (o5 := some (.str w)) (o6 := some (dueV (b0 L) R)) (o7 := r7) (o8 := o8) (o9 := o9) (o10 := o10) (o11 := q11) (o12 := r12) (o13 := r13) (o14 := q14) (o15 := o15) (o16 := o16) (o17 := o17) hL S7
  have hokF := hF.ok hL (by omega)
  have e10 := t10 (sc := sc) (l := l) (hd := h9) (o2 := some x) (o5 := some (.str w)) (o6 := some (dueV (b0 L) R)) (o7 := r7) (o9 := o9) (o10 := o10) (o11 := q11) (o12 := r12) (o13 := r13) (o14 := q14) (o15 := o15) (o16 := o16) (o17 := o17) hL hR hF hn
  obtain ⟨ss, u, h11, e11, S11, hss, hbeh⟩ := t11 (sc := sc) (o2 := some x) (o3 := some (.str L)) (o4 := some (RV R)) (o6 := some (dueV (b0 L) R)) (o7 := r7) (o9 := o9) (o10 := o10) (o11 := q11) (o12 := r12) (o13 := r13) (o14 := q14) (o15 := o15) (o16 := o16) (o17 := o17) hokF hdw (by omega) S9
  have e12 := t12 (sc := sc) (l := l) (hd := h11) (o2 := some x) (o3 := some (.str L)) (o4 := some (RV R)) (o6 := some (dueV (b0 L) R)) (o7 := r7) (o9 := o9) (o10 := o10) (o11 := q11) (o12 := r12) (o13 := r13) (o14 := q14) (o17 := o17) hokF hdw (by omega) hss hbeh
  obtain ⟨s, h13, e13, S13⟩ := t13 (sc := sc) (ss := ss) (o2 := some x) (o3 := some (.str L)) (o4 := some (RV R)) (o5 := some (.str w)) (o6 := some (dueV (b0 L) R)) (o7 := r7) (o8 := some (RV F)) (o9 := o9) (o10 := o10) (o11 := q11) (o12 := r12) (o13 := r13) (o14 := q14) (o16 := some (.str u)) (o17 := o17) hss S11
  have e14 := t14 (sc := sc) (l := l) (hd := h13) (ss := ss ++ [s]) (o2 := some x) (o3 := some (.str L)) (o4 := some (RV R)) (o6 := some (dueV (b0 L) R)) (o7 := r7) (o10 := o10) (o11 := q11) (o12 := r12) (o13 := r13) (o14 := q14) (o15 := some (.tup (ss.map sV))) (o16 := some (.str u)) (o17 := o17) hokF hdw (by omega) (by rw [List.length_append, List.length_singleton]; omega)
  obtain ⟨r10, e15⟩ := t15 (sc := sc) (l := l) (hd := h13) (ss := ss) (o2 := some x) (o3 := some (.str L)) (o4 := some (RV R)) (o6 := some (dueV (b0 L) R)) (o7 := r7) (o9 := some (.tup ((ss ++ [s]).map sV))) (o10 := o10) (o11 := q11) (o12 := r12) (o13 := r13) (o14 := q14) (o16 := some (.str u)) (o17 := o17) hokF hdw (by omega)
  have e16 := t16 (sc := sc) (l := l) (hd := h13) (o2 := some x) (o4 := some (RV R)) (o5 := some (.str w)) (o6 := some (dueV (b0 L) R)) (o7 := r7) (o8 := some (RV F)) (o9 := some (.tup ((ss ++ [s]).map sV))) (o10 := r10) (o11 := q11) (o12 := r12) (o13 := r13) (o14 := q14) (o15 := some (.tup (ss.map sV))) (o16 := some (.str u)) (o17 := o17) hL
  refine ⟨some x, some (.str L), some (RV R), some (.str w), some (dueV (b0 L) R), r7, some (RV F), some (.tup ((ss ++ [s]).map sV)), r10, q11, r12, r13, q14, some (.tup (ss.map sV)), some (.str u), o17, h13, ?_, S13⟩
  unfold forF
  rw [ha]
  exact ex_go e0 (ex_go e1 (ex_go e2 (ex_go e3 (ex_go e4 (ex_go e5 (ex_go e6 (ex_go e7 (ex_go e8 (ex_go e9 (ex_go e10 (ex_go e11 (ex_go e12 (ex_go e13 (ex_go e14 (ex_go e15 (ex_go e16 ex_done))))))))))))))))
end
theorem law_true (ns : List Int) : ∃ mh, callM T 141 31 [.scr ns] [] = some (.bl true, mh) := by
  obtain ⟨l, n, h0, e0, S0⟩ := state_ok hState 139 ns
  have e0 : CC 15 [.scr ns] [] = some (.loc l, h0) := e0
  obtain ⟨ρ', m', e, ⟨p2, p3, p4, p5, p6, p7, p8, p9, p10, p11, p12, p13, p14, p15, p16, p17, rfl⟩, S'⟩ := forGo_st (J := ⟨(List.range 4).map iV, none⟩) rfl (f := forF CC 0 (.nm 2) LA1B) (P := fun ρ m => (∃ o2 o3 o4 o5 o6 o7 o8 o9 o10 o11 o12 o13 o14 o15 o16 o17, ρ = LE (.scr ns) l o2 o3 o4 o5 o6 o7 o8 o9 o10 o11 o12 o13 o14 o15 o16 o17) ∧ St l n m) (xs := (List.range 4).map iV) (ρ := LE (.scr ns) l none none none none none none none none none none none none none none none none) (mh := h0) ⟨⟨_, _, _, _, _, _, _, _, _, _, _, _, _, _, _, _, rfl⟩, S0⟩ (by
    rintro x hx ρ m ⟨⟨o2, o3, o4, o5, o6, o7, o8, o9, o10, o11, o12, o13, o14, o15, o16, o17, rfl⟩, S⟩
    obtain ⟨p2, p3, p4, p5, p6, p7, p8, p9, p10, p11, p12, p13, p14, p15, p16, p17, m', e, S'⟩ := turn (sc := .scr ns) (o2 := o2) (o3 := o3) (o4 := o4) (o5 := o5) (o6 := o6) (o7 := o7) (o8 := o8) (o9 := o9) (o10 := o10) (o11 := o11) (o12 := o12) (o13 := o13) (o14 := o14) (o15 := o15) (o16 := o16) (o17 := o17) (x := x) S
    exact ⟨_, m', e, ⟨p2, p3, p4, p5, p6, p7, p8, p9, p10, p11, p12, p13, p14, p15, p16, p17, rfl⟩, S'⟩)
  have r0 : ex CC 0 LA0 [some (.scr ns), none, none, none, none, none, none, none, none, none, none, none, none, none, none, none, none, none] [] = some (.nx, LE (.scr ns) l none none none none none none none none none none none none none none none none, h0) := by
    simp [LA0, ex, ev, evs, e0, asg]
  have r1 : ex CC 0 LA1 (LE (.scr ns) l none none none none none none none none none none none none none none none none) h0 = some (.nx, LE (.scr ns) l p2 p3 p4 p5 p6 p7 p8 p9 p10 p11 p12 p13 p14 p15 p16 p17, m') := by
    rw [LA1, ex_for, evI_rng1 (m := 4) (by simp [ev]) (by omega)]
    exact e
  exact ⟨_, call_st (T := T) (k := 140) (f := 31) (args := [.scr ns]) (mh := []) (mh1 := m') (ρ0 := [some (.scr ns), none, none, none, none, none, none, none, none, none, none, none, none, none, none, none, none, none]) (ρ := LE (.scr ns) l p2 p3 p4 p5 p6 p7 p8 p9 p10 p11 p12 p13 p14 p15 p16 p17) (fl := .rt (.bl true)) (v := .bl true) (show T[31]? = some ⟨1, 18, false, [LA0, LA1, LA2]⟩ from rfl) rfl (ex_go r0 (ex_go r1 (ex_end ret_c))) rfl rfl⟩
end L2.Mi.k55

set_option Elab.async false
set_option linter.all false
set_option maxRecDepth 100000
set_option maxHeartbeats 4000000

namespace L2.Mi.k55
open PySem PySem.Spec PyProof.Rows L2.Mi L2
/-! the table -/
theorem bd_is_whole {P : Program} {w : World} {K : PySem.W.Frag} {mg : Str → Option Value} {base : Heap} {fd : FuncData} (F : FunD K "is_whole" "is_whole" (defArgs s_is_whole) (defBody s_is_whole) (defScope s_is_whole) [] [] (He.ga K "is_whole") fd) : Binds K fd P_is_whole [] := F.bindsN fun _ _ _ _ _ _ us hl => match us, hl with | [_, _, _], _ => rfl
theorem bd_is_word {P : Program} {w : World} {K : PySem.W.Frag} {mg : Str → Option Value} {base : Heap} {fd : FuncData} (F : FunD K "is_word" "is_word" (defArgs s_is_word) (defBody s_is_word) (defScope s_is_word) [] [] (He.ga K "is_word") fd) : Binds K fd P_is_word [] := F.bindsN fun _ _ _ _ _ _ us hl => match us, hl with | [_, _], _ => rfl
theorem bd_are_letters {P : Program} {w : World} {K : PySem.W.Frag} {mg : Str → Option Value} {base : Heap} {fd : FuncData} (F : FunD K "are_letters" "are_letters" (defArgs s_are_letters) (defBody s_are_letters) (defScope s_are_letters) [] [] (He.ga K "are_letters") fd) : Binds K fd P_are_letters [] := F.bindsN fun _ _ _ _ _ _ us hl => match us, hl with | [_], _ => rfl
theorem bd_are_word_rules {P : Program} {w : World} {K : PySem.W.Frag} {mg : Str → Option Value} {base : Heap} {fd : FuncData} (F : FunD K "are_word_rules" "are_word_rules" (defArgs s_are_word_rules) (defBody s_are_word_rules) (defScope s_are_word_rules) [] [] (He.ga K "are_word_rules") fd) : Binds K fd P_are_word_rules [] := F.bindsN fun _ _ _ _ _ _ us hl => match us, hl with | [_, _], _ => rfl
theorem bd_word_steps {P : Program} {w : World} {K : PySem.W.Frag} {mg : Str → Option Value} {base : Heap} {fd : FuncData} (F : FunD K "word_steps" "word_steps" (defArgs s_word_steps) (defBody s_word_steps) (defScope s_word_steps) [] [] (He.ga K "word_steps") fd) : Binds K fd P_word_steps [] := F.bindsN fun _ _ _ _ _ _ us hl => match us, hl with | [_, _], _ => rfl
theorem bd_word_turned {P : Program} {w : World} {K : PySem.W.Frag} {mg : Str → Option Value} {base : Heap} {fd : FuncData} (F : FunD K "word_turned" "word_turned" (defArgs s_word_turned) (defBody s_word_turned) (defScope s_word_turned) [] [] (He.ga K "word_turned") fd) : Binds K fd P_word_turned [] := F.bindsN fun _ _ _ _ _ _ us hl => match us, hl with | [_, _, _], _ => rfl
theorem bd_is_word_step {P : Program} {w : World} {K : PySem.W.Frag} {mg : Str → Option Value} {base : Heap} {fd : FuncData} (F : FunD K "is_word_step" "is_word_step" (defArgs s_is_word_step) (defBody s_is_word_step) (defScope s_is_word_step) [] [] (He.ga K "is_word_step") fd) : Binds K fd P_is_word_step [] := F.bindsN fun _ _ _ _ _ _ us hl => match us, hl with | [_, _, _], _ => rfl
theorem bd_behind_word_row {P : Program} {w : World} {K : PySem.W.Frag} {mg : Str → Option Value} {base : Heap} {fd : FuncData} (F : FunD K "behind_word_row" "behind_word_row" (defArgs s_behind_word_row) (defBody s_behind_word_row) (defScope s_behind_word_row) [] [] (He.ga K "behind_word_row") fd) : Binds K fd P_behind_word_row [] := F.bindsN fun _ _ _ _ _ _ us hl => match us, hl with | [_, _, _], _ => rfl
theorem bd_is_before {P : Program} {w : World} {K : PySem.W.Frag} {mg : Str → Option Value} {base : Heap} {fd : FuncData} (F : FunD K "is_before" "is_before" (defArgs s_is_before) (defBody s_is_before) (defScope s_is_before) [] [] (He.ga K "is_before") fd) : Binds K fd P_is_before [] := F.bindsN fun _ _ _ _ _ _ us hl => match us, hl with | [_, _], _ => rfl
theorem bd_go_down {P : Program} {w : World} {K : PySem.W.Frag} {mg : Str → Option Value} {base : Heap} {fd : FuncData} (F : FunD K "go_down" "go_down" (defArgs s_go_down) (defBody s_go_down) (defScope s_go_down) [] [] (He.ga K "go_down") fd) : Binds K fd P_go_down [] := F.bindsN fun _ _ _ _ _ _ us hl => match us, hl with | [_], _ => rfl
theorem bd_word_normal {P : Program} {w : World} {K : PySem.W.Frag} {mg : Str → Option Value} {base : Heap} {fd : FuncData} (F : FunD K "word_normal" "word_normal" (defArgs s_word_normal) (defBody s_word_normal) (defScope s_word_normal) [] [] (He.ga K "word_normal") fd) : Binds K fd P_word_normal [] := F.bindsN fun _ _ _ _ _ _ us hl => match us, hl with | [_, _], _ => rfl
theorem bd_overlaps {P : Program} {w : World} {K : PySem.W.Frag} {mg : Str → Option Value} {base : Heap} {fd : FuncData} (F : FunD K "overlaps" "overlaps" (defArgs s_overlaps) (defBody s_overlaps) (defScope s_overlaps) [] [] (He.ga K "overlaps") fd) : Binds K fd P_overlaps [] := F.bindsN fun _ _ _ _ _ _ us hl => match us, hl with | [_], _ => rfl
theorem bd_words_meet {P : Program} {w : World} {K : PySem.W.Frag} {mg : Str → Option Value} {base : Heap} {fd : FuncData} (F : FunD K "words_meet" "words_meet" (defArgs s_words_meet) (defBody s_words_meet) (defScope s_words_meet) [] [] (He.ga K "words_meet") fd) : Binds K fd P_words_meet [] := F.bindsN fun _ _ _ _ _ _ us hl => match us, hl with | [_], _ => rfl
theorem bd_are_same_words {P : Program} {w : World} {K : PySem.W.Frag} {mg : Str → Option Value} {base : Heap} {fd : FuncData} (F : FunD K "are_same_words" "are_same_words" (defArgs s_are_same_words) (defBody s_are_same_words) (defScope s_are_same_words) [] [] (He.ga K "are_same_words") fd) : Binds K fd P_are_same_words [] := F.bindsN fun _ _ _ _ _ _ us hl => match us, hl with | [_, _, _], _ => rfl
theorem bd_product {P : Program} {w : World} {K : PySem.W.Frag} {mg : Str → Option Value} {base : Heap} {fd : FuncData} (F : FunD K "product" "product" (defArgs s_product) (defBody s_product) (defScope s_product) [] [] (He.ga K "product") fd) : Binds K fd P_product [] := F.bindsN fun _ _ _ _ _ _ us hl => match us, hl with | [_, _, _], _ => rfl
theorem bd_l_state {P : Program} {w : World} {K : PySem.W.Frag} {mg : Str → Option Value} {base : Heap} {fd : FuncData} (F : FunD K "_law_state" "_law_state" (defArgs s_l_state) (defBody s_l_state) (defScope s_l_state) [] [] (He.ga K "_law_state") fd) : Binds K fd P_l_state [] := F.bindsN fun _ _ _ _ _ _ us hl => match us, hl with | [_], _ => rfl
theorem bd_l_take {P : Program} {w : World} {K : PySem.W.Frag} {mg : Str → Option Value} {base : Heap} {fd : FuncData} (F : FunD K "_law_take" "_law_take" (defArgs s_l_take) (defBody s_l_take) (defScope s_l_take) [] [] (He.ga K "_law_take") fd) : Binds K fd P_l_take [] := F.bindsN fun _ _ _ _ _ _ us hl => match us, hl with | [_, _], _ => rfl
theorem bd_l_pick {P : Program} {w : World} {K : PySem.W.Frag} {mg : Str → Option Value} {base : Heap} {fd : FuncData} (F : FunD K "_law_pick" "_law_pick" (defArgs s_l_pick) (defBody s_l_pick) (defScope s_l_pick) [] [] (He.ga K "_law_pick") fd) : Binds K fd P_l_pick [] := F.bindsN fun _ _ _ _ _ _ us hl => match us, hl with | [_, _], _ => rfl
theorem bd_l_letters {P : Program} {w : World} {K : PySem.W.Frag} {mg : Str → Option Value} {base : Heap} {fd : FuncData} (F : FunD K "_law_letters" "_law_letters" (defArgs s_l_letters) (defBody s_l_letters) (defScope s_l_letters) [] [] (He.ga K "_law_letters") fd) : Binds K fd P_l_letters [] := F.bindsN fun _ _ _ _ _ _ us hl => match us, hl with | [_], _ => rfl
theorem bd_l_word {P : Program} {w : World} {K : PySem.W.Frag} {mg : Str → Option Value} {base : Heap} {fd : FuncData} (F : FunD K "_law_word" "_law_word" (defArgs s_l_word) (defBody s_l_word) (defScope s_l_word) [] [] (He.ga K "_law_word") fd) : Binds K fd P_l_word [] := F.bindsN fun _ _ _ _ _ _ us hl => match us, hl with | [_, _, _], _ => rfl
theorem bd_l_before {P : Program} {w : World} {K : PySem.W.Frag} {mg : Str → Option Value} {base : Heap} {fd : FuncData} (F : FunD K "_law_before" "_law_before" (defArgs s_l_before) (defBody s_l_before) (defScope s_l_before) [] [] (He.ga K "_law_before") fd) : Binds K fd P_l_before [] := F.bindsN fun _ _ _ _ _ _ us hl => match us, hl with | [_, _], _ => rfl
theorem bd_l_rules {P : Program} {w : World} {K : PySem.W.Frag} {mg : Str → Option Value} {base : Heap} {fd : FuncData} (F : FunD K "_law_rules" "_law_rules" (defArgs s_l_rules) (defBody s_l_rules) (defScope s_l_rules) [] [] (He.ga K "_law_rules") fd) : Binds K fd P_l_rules [] := F.bindsN fun _ _ _ _ _ _ us hl => match us, hl with | [_, _, _], _ => rfl
theorem bd_l_steps {P : Program} {w : World} {K : PySem.W.Frag} {mg : Str → Option Value} {base : Heap} {fd : FuncData} (F : FunD K "_law_steps" "_law_steps" (defArgs s_l_steps) (defBody s_l_steps) (defScope s_l_steps) [] [] (He.ga K "_law_steps") fd) : Binds K fd P_l_steps [] := F.bindsN fun _ _ _ _ _ _ us hl => match us, hl with | [_, _], _ => rfl
theorem bd_l_turned {P : Program} {w : World} {K : PySem.W.Frag} {mg : Str → Option Value} {base : Heap} {fd : FuncData} (F : FunD K "_law_turned" "_law_turned" (defArgs s_l_turned) (defBody s_l_turned) (defScope s_l_turned) [] [] (He.ga K "_law_turned") fd) : Binds K fd P_l_turned [] := F.bindsN fun _ _ _ _ _ _ us hl => match us, hl with | [_, _, _], _ => rfl
theorem bd_l_normal {P : Program} {w : World} {K : PySem.W.Frag} {mg : Str → Option Value} {base : Heap} {fd : FuncData} (F : FunD K "_law_normal" "_law_normal" (defArgs s_l_normal) (defBody s_l_normal) (defScope s_l_normal) [] [] (He.ga K "_law_normal") fd) : Binds K fd P_l_normal [] := F.bindsN fun _ _ _ _ _ _ us hl => match us, hl with | [_, _], _ => rfl
theorem bd_l_pairs {P : Program} {w : World} {K : PySem.W.Frag} {mg : Str → Option Value} {base : Heap} {fd : FuncData} (F : FunD K "_law_pairs" "_law_pairs" (defArgs s_l_pairs) (defBody s_l_pairs) (defScope s_l_pairs) [] [] (He.ga K "_law_pairs") fd) : Binds K fd P_l_pairs [] := F.bindsN fun _ _ _ _ _ _ us hl => match us, hl with | [_], _ => rfl
theorem bd_l_ends {P : Program} {w : World} {K : PySem.W.Frag} {mg : Str → Option Value} {base : Heap} {fd : FuncData} (F : FunD K "_law_ends" "_law_ends" (defArgs s_l_ends) (defBody s_l_ends) (defScope s_l_ends) [] [] (He.ga K "_law_ends") fd) : Binds K fd P_l_ends [] := F.bindsN fun _ _ _ _ _ _ us hl => match us, hl with | [_, _], _ => rfl
theorem bd_l_row {P : Program} {w : World} {K : PySem.W.Frag} {mg : Str → Option Value} {base : Heap} {fd : FuncData} (F : FunD K "_law_row" "_law_row" (defArgs s_l_row) (defBody s_l_row) (defScope s_l_row) [] [] (He.ga K "_law_row") fd) : Binds K fd P_l_row [] := F.bindsN fun _ _ _ _ _ _ us hl => match us, hl with | [_, _, _], _ => rfl
theorem bd_l_behind {P : Program} {w : World} {K : PySem.W.Frag} {mg : Str → Option Value} {base : Heap} {fd : FuncData} (F : FunD K "_law_behind" "_law_behind" (defArgs s_l_behind) (defBody s_l_behind) (defScope s_l_behind) [] [] (He.ga K "_law_behind") fd) : Binds K fd P_l_behind [] := F.bindsN fun _ _ _ _ _ _ us hl => match us, hl with | [_, _, _], _ => rfl
theorem bd_l_any {P : Program} {w : World} {K : PySem.W.Frag} {mg : Str → Option Value} {base : Heap} {fd : FuncData} (F : FunD K "_law_any" "_law_any" (defArgs s_l_any) (defBody s_l_any) (defScope s_l_any) [] [] (He.ga K "_law_any") fd) : Binds K fd P_l_any [] := F.bindsN fun _ _ _ _ _ _ us hl => match us, hl with | [_, _], _ => rfl
theorem bd_l_odd {P : Program} {w : World} {K : PySem.W.Frag} {mg : Str → Option Value} {base : Heap} {fd : FuncData} (F : FunD K "_law_odd" "_law_odd" (defArgs s_l_odd) (defBody s_l_odd) (defScope s_l_odd) [] [] (He.ga K "_law_odd") fd) : Binds K fd P_l_odd [] := F.bindsN fun _ _ _ _ _ _ us hl => match us, hl with | [_], _ => rfl
theorem bd_law {P : Program} {w : World} {K : PySem.W.Frag} {mg : Str → Option Value} {base : Heap} {fd : FuncData} (F : FunD K "law" "law" (defArgs s_law) (defBody s_law) (defScope s_law) [] [] (He.ga K "law") fd) : Binds K fd P_law [] := F.bindsN fun _ _ _ _ _ _ us hl => match us, hl with | [_], _ => rfl
abbrev DD (K : PySem.W.Frag) (x : Str) (st : Stmt) : Prop := ∃ fd, FunD K x x (defArgs st) (defBody st) (defScope st) [] [] (He.ga K x) fd
structure DF (K : PySem.W.Frag) : Prop where
  d_is_whole : DD K "is_whole" s_is_whole
  d_is_word : DD K "is_word" s_is_word
  d_are_letters : DD K "are_letters" s_are_letters
  d_are_word_rules : DD K "are_word_rules" s_are_word_rules
  d_word_steps : DD K "word_steps" s_word_steps
  d_word_turned : DD K "word_turned" s_word_turned
  d_is_word_step : DD K "is_word_step" s_is_word_step
  d_behind_word_row : DD K "behind_word_row" s_behind_word_row
  d_is_before : DD K "is_before" s_is_before
  d_go_down : DD K "go_down" s_go_down
  d_word_normal : DD K "word_normal" s_word_normal
  d_overlaps : DD K "overlaps" s_overlaps
  d_words_meet : DD K "words_meet" s_words_meet
  d_are_same_words : DD K "are_same_words" s_are_same_words
  d_product : DD K "product" s_product
  d_l_state : DD K "_law_state" s_l_state
  d_l_take : DD K "_law_take" s_l_take
  d_l_pick : DD K "_law_pick" s_l_pick
  d_l_letters : DD K "_law_letters" s_l_letters
  d_l_word : DD K "_law_word" s_l_word
  d_l_before : DD K "_law_before" s_l_before
  d_l_rules : DD K "_law_rules" s_l_rules
  d_l_steps : DD K "_law_steps" s_l_steps
  d_l_turned : DD K "_law_turned" s_l_turned
  d_l_normal : DD K "_law_normal" s_l_normal
  d_l_pairs : DD K "_law_pairs" s_l_pairs
  d_l_ends : DD K "_law_ends" s_l_ends
  d_l_row : DD K "_law_row" s_l_row
  d_l_behind : DD K "_law_behind" s_l_behind
  d_l_any : DD K "_law_any" s_l_any
  d_l_odd : DD K "_law_odd" s_l_odd
  d_law : DD K "law" s_law
theorem table {P : Program} {w : World} {K : PySem.W.Frag} {mg : Str → Option Value} {base : Heap} (g : GF K mg) (D : DF K) : ∀ f a, (gb K).fa f = some a → DefOk P w K mg base (gb K) T f a := by
  intro f a h
  by_cases h0 : f = 0
  · subst h0
    have e : some (He.ga K "is_whole") = some a := h
    cases e
    obtain ⟨fd, F⟩ := D.d_is_whole
    exact ⟨d_is_whole, "is_whole", "is_whole", s_is_whole, fd, N_is_whole, P_is_whole, rfl, F, sc_is_whole, rfl, rfl, bd_is_whole (P := P) (w := w) (mg := mg) (base := base) F, fun k C cdv A outer s H E FF hr => b_is_whole g _ cdv A outer s H E FF hr⟩
  by_cases h1 : f = 1
  · subst h1
    have e : some (He.ga K "is_word") = some a := h
    cases e
    obtain ⟨fd, F⟩ := D.d_is_word
    exact ⟨d_is_word, "is_word", "is_word", s_is_word, fd, N_is_word, P_is_word, rfl, F, sc_is_word, rfl, rfl, bd_is_word (P := P) (w := w) (mg := mg) (base := base) F, fun k C cdv A outer s H E FF hr => b_is_word g _ cdv A outer s H E FF hr⟩
  by_cases h2 : f = 2
  · subst h2
    have e : some (He.ga K "are_letters") = some a := h
    cases e
    obtain ⟨fd, F⟩ := D.d_are_letters
    exact ⟨d_are_letters, "are_letters", "are_letters", s_are_letters, fd, N_are_letters, P_are_letters, rfl, F, sc_are_letters, rfl, rfl, bd_are_letters (P := P) (w := w) (mg := mg) (base := base) F, fun k C cdv A outer s H E FF hr => b_are_letters g _ cdv A outer s H E FF hr⟩
  by_cases h3 : f = 3
  · subst h3
    have e : some (He.ga K "are_word_rules") = some a := h
    cases e
    obtain ⟨fd, F⟩ := D.d_are_word_rules
    exact ⟨d_are_word_rules, "are_word_rules", "are_word_rules", s_are_word_rules, fd, N_are_word_rules, P_are_word_rules, rfl, F, sc_are_word_rules, rfl, rfl, bd_are_word_rules (P := P) (w := w) (mg := mg) (base := base) F, fun k C cdv A outer s H E FF hr => b_are_word_rules g _ cdv A outer s H E FF hr⟩
  by_cases h4 : f = 4
  · subst h4
    have e : some (He.ga K "word_steps") = some a := h
    cases e
    obtain ⟨fd, F⟩ := D.d_word_steps
    exact ⟨d_word_steps, "word_steps", "word_steps", s_word_steps, fd, N_word_steps, P_word_steps, rfl, F, sc_word_steps, rfl, rfl, bd_word_steps (P := P) (w := w) (mg := mg) (base := base) F, fun k C cdv A outer s H E FF hr => b_word_steps g _ cdv A outer s H E FF hr⟩
  by_cases h5 : f = 5
  · subst h5
    have e : some (He.ga K "word_turned") = some a := h
    cases e
    obtain ⟨fd, F⟩ := D.d_word_turned
    exact ⟨d_word_turned, "word_turned", "word_turned", s_word_turned, fd, N_word_turned, P_word_turned, rfl, F, sc_word_turned, rfl, rfl, bd_word_turned (P := P) (w := w) (mg := mg) (base := base) F, fun k C cdv A outer s H E FF hr => b_word_turned g _ cdv A outer s H E FF hr⟩
  by_cases h6 : f = 6
  · subst h6
    have e : some (He.ga K "is_word_step") = some a := h
    cases e
    obtain ⟨fd, F⟩ := D.d_is_word_step
    exact ⟨d_is_word_step, "is_word_step", "is_word_step", s_is_word_step, fd, N_is_word_step, P_is_word_step, rfl, F, sc_is_word_step, rfl, rfl, bd_is_word_step (P := P) (w := w) (mg := mg) (base := base) F, fun k C cdv A outer s H E FF hr => b_is_word_step g _ cdv A outer s H E FF hr⟩
  by_cases h7 : f = 7
  · subst h7
    have e : some (He.ga K "behind_word_row") = some a := h
    cases e
    obtain ⟨fd, F⟩ := D.d_behind_word_row
    exact ⟨d_behind_word_row, "behind_word_row", "behind_word_row", s_behind_word_row, fd, N_behind_word_row, P_behind_word_row, rfl, F, sc_behind_word_row, rfl, rfl, bd_behind_word_row (P := P) (w := w) (mg := mg) (base := base) F, fun k C cdv A outer s H E FF hr => b_behind_word_row g _ cdv A outer s H E FF hr⟩
  by_cases h8 : f = 8
  · subst h8
    have e : some (He.ga K "is_before") = some a := h
    cases e
    obtain ⟨fd, F⟩ := D.d_is_before
    exact ⟨d_is_before, "is_before", "is_before", s_is_before, fd, N_is_before, P_is_before, rfl, F, sc_is_before, rfl, rfl, bd_is_before (P := P) (w := w) (mg := mg) (base := base) F, fun k C cdv A outer s H E FF hr => b_is_before g _ cdv A outer s H E FF hr⟩
  by_cases h9 : f = 9
  · subst h9
    have e : some (He.ga K "go_down") = some a := h
    cases e
    obtain ⟨fd, F⟩ := D.d_go_down
    exact ⟨d_go_down, "go_down", "go_down", s_go_down, fd, N_go_down, P_go_down, rfl, F, sc_go_down, rfl, rfl, bd_go_down (P := P) (w := w) (mg := mg) (base := base) F, fun k C cdv A outer s H E FF hr => b_go_down g _ cdv A outer s H E FF hr⟩
  by_cases h10 : f = 10
  · subst h10
    have e : some (He.ga K "word_normal") = some a := h
    cases e
    obtain ⟨fd, F⟩ := D.d_word_normal
    exact ⟨d_word_normal, "word_normal", "word_normal", s_word_normal, fd, N_word_normal, P_word_normal, rfl, F, sc_word_normal, rfl, rfl, bd_word_normal (P := P) (w := w) (mg := mg) (base := base) F, fun k C cdv A outer s H E FF hr => b_word_normal g _ cdv A outer s H E FF hr⟩
  by_cases h11 : f = 11
  · subst h11
    have e : some (He.ga K "overlaps") = some a := h
    cases e
    obtain ⟨fd, F⟩ := D.d_overlaps
    exact ⟨d_overlaps, "overlaps", "overlaps", s_overlaps, fd, N_overlaps, P_overlaps, rfl, F, sc_overlaps, rfl, rfl, bd_overlaps (P := P) (w := w) (mg := mg) (base := base) F, fun k C cdv A outer s H E FF hr => b_overlaps g _ cdv A outer s H E FF hr⟩
  by_cases h12 : f = 12
  · subst h12
    have e : some (He.ga K "words_meet") = some a := h
    cases e
    obtain ⟨fd, F⟩ := D.d_words_meet
    exact ⟨d_words_meet, "words_meet", "words_meet", s_words_meet, fd, N_words_meet, P_words_meet, rfl, F, sc_words_meet, rfl, rfl, bd_words_meet (P := P) (w := w) (mg := mg) (base := base) F, fun k C cdv A outer s H E FF hr => b_words_meet g _ cdv A outer s H E FF hr⟩
  by_cases h13 : f = 13
  · subst h13
    have e : some (He.ga K "are_same_words") = some a := h
    cases e
    obtain ⟨fd, F⟩ := D.d_are_same_words
    exact ⟨d_are_same_words, "are_same_words", "are_same_words", s_are_same_words, fd, N_are_same_words, P_are_same_words, rfl, F, sc_are_same_words, rfl, rfl, bd_are_same_words (P := P) (w := w) (mg := mg) (base := base) F, fun k C cdv A outer s H E FF hr => b_are_same_words g _ cdv A outer s H E FF hr⟩
  by_cases h14 : f = 14
  · subst h14
    have e : some (He.ga K "product") = some a := h
    cases e
    obtain ⟨fd, F⟩ := D.d_product
    exact ⟨d_product, "product", "product", s_product, fd, N_product, P_product, rfl, F, sc_product, rfl, rfl, bd_product (P := P) (w := w) (mg := mg) (base := base) F, fun k C cdv A outer s H E FF hr => b_product g _ cdv A outer s H E FF hr⟩
  by_cases h15 : f = 15
  · subst h15
    have e : some (He.ga K "_law_state") = some a := h
    cases e
    obtain ⟨fd, F⟩ := D.d_l_state
    exact ⟨d_l_state, "_law_state", "_law_state", s_l_state, fd, N_l_state, P_l_state, rfl, F, sc_l_state, rfl, rfl, bd_l_state (P := P) (w := w) (mg := mg) (base := base) F, fun k C cdv A outer s H E FF hr => b_l_state g _ cdv A outer s H E FF hr⟩
  by_cases h16 : f = 16
  · subst h16
    have e : some (He.ga K "_law_take") = some a := h
    cases e
    obtain ⟨fd, F⟩ := D.d_l_take
    exact ⟨d_l_take, "_law_take", "_law_take", s_l_take, fd, N_l_take, P_l_take, rfl, F, sc_l_take, rfl, rfl, bd_l_take (P := P) (w := w) (mg := mg) (base := base) F, fun k C cdv A outer s H E FF hr => b_l_take g _ cdv A outer s H E FF hr⟩
  by_cases h17 : f = 17
  · subst h17
    have e : some (He.ga K "_law_pick") = some a := h
    cases e
    obtain ⟨fd, F⟩ := D.d_l_pick
    exact ⟨d_l_pick, "_law_pick", "_law_pick", s_l_pick, fd, N_l_pick, P_l_pick, rfl, F, sc_l_pick, rfl, rfl, bd_l_pick (P := P) (w := w) (mg := mg) (base := base) F, fun k C cdv A outer s H E FF hr => b_l_pick g _ cdv A outer s H E FF hr⟩
  by_cases h18 : f = 18
  · subst h18
    have e : some (He.ga K "_law_letters") = some a := h
    cases e
    obtain ⟨fd, F⟩ := D.d_l_letters
    exact ⟨d_l_letters, "_law_letters", "_law_letters", s_l_letters, fd, N_l_letters, P_l_letters, rfl, F, sc_l_letters, rfl, rfl, bd_l_letters (P := P) (w := w) (mg := mg) (base := base) F, fun k C cdv A outer s H E FF hr => b_l_letters g _ cdv A outer s H E FF hr⟩
  by_cases h19 : f = 19
  · subst h19
    have e : some (He.ga K "_law_word") = some a := h
    cases e
    obtain ⟨fd, F⟩ := D.d_l_word
    exact ⟨d_l_word, "_law_word", "_law_word", s_l_word, fd, N_l_word, P_l_word, rfl, F, sc_l_word, rfl, rfl, bd_l_word (P := P) (w := w) (mg := mg) (base := base) F, fun k C cdv A outer s H E FF hr => b_l_word g _ cdv A outer s H E FF hr⟩
  by_cases h20 : f = 20
  · subst h20
    have e : some (He.ga K "_law_before") = some a := h
    cases e
    obtain ⟨fd, F⟩ := D.d_l_before
    exact ⟨d_l_before, "_law_before", "_law_before", s_l_before, fd, N_l_before, P_l_before, rfl, F, sc_l_before, rfl, rfl, bd_l_before (P := P) (w := w) (mg := mg) (base := base) F, fun k C cdv A outer s H E FF hr => b_l_before g _ cdv A outer s H E FF hr⟩
  by_cases h21 : f = 21
  · subst h21
    have e : some (He.ga K "_law_rules") = some a := h
    cases e
    obtain ⟨fd, F⟩ := D.d_l_rules
    exact ⟨d_l_rules, "_law_rules", "_law_rules", s_l_rules, fd, N_l_rules, P_l_rules, rfl, F, sc_l_rules, rfl, rfl, bd_l_rules (P := P) (w := w) (mg := mg) (base := base) F, fun k C cdv A outer s H E FF hr => b_l_rules g _ cdv A outer s H E FF hr⟩
  by_cases h22 : f = 22
  · subst h22
    have e : some (He.ga K "_law_steps") = some a := h
    cases e
    obtain ⟨fd, F⟩ := D.d_l_steps
    exact ⟨d_l_steps, "_law_steps", "_law_steps", s_l_steps, fd, N_l_steps, P_l_steps, rfl, F, sc_l_steps, rfl, rfl, bd_l_steps (P := P) (w := w) (mg := mg) (base := base) F, fun k C cdv A outer s H E FF hr => b_l_steps g _ cdv A outer s H E FF hr⟩
  by_cases h23 : f = 23
  · subst h23
    have e : some (He.ga K "_law_turned") = some a := h
    cases e
    obtain ⟨fd, F⟩ := D.d_l_turned
    exact ⟨d_l_turned, "_law_turned", "_law_turned", s_l_turned, fd, N_l_turned, P_l_turned, rfl, F, sc_l_turned, rfl, rfl, bd_l_turned (P := P) (w := w) (mg := mg) (base := base) F, fun k C cdv A outer s H E FF hr => b_l_turned g _ cdv A outer s H E FF hr⟩
  by_cases h24 : f = 24
  · subst h24
    have e : some (He.ga K "_law_normal") = some a := h
    cases e
    obtain ⟨fd, F⟩ := D.d_l_normal
    exact ⟨d_l_normal, "_law_normal", "_law_normal", s_l_normal, fd, N_l_normal, P_l_normal, rfl, F, sc_l_normal, rfl, rfl, bd_l_normal (P := P) (w := w) (mg := mg) (base := base) F, fun k C cdv A outer s H E FF hr => b_l_normal g _ cdv A outer s H E FF hr⟩
  by_cases h25 : f = 25
  · subst h25
    have e : some (He.ga K "_law_pairs") = some a := h
    cases e
    obtain ⟨fd, F⟩ := D.d_l_pairs
    exact ⟨d_l_pairs, "_law_pairs", "_law_pairs", s_l_pairs, fd, N_l_pairs, P_l_pairs, rfl, F, sc_l_pairs, rfl, rfl, bd_l_pairs (P := P) (w := w) (mg := mg) (base := base) F, fun k C cdv A outer s H E FF hr => b_l_pairs g _ cdv A outer s H E FF hr⟩
  by_cases h26 : f = 26
  · subst h26
    have e : some (He.ga K "_law_ends") = some a := h
    cases e
    obtain ⟨fd, F⟩ := D.d_l_ends
    exact ⟨d_l_ends, "_law_ends", "_law_ends", s_l_ends, fd, N_l_ends, P_l_ends, rfl, F, sc_l_ends, rfl, rfl, bd_l_ends (P := P) (w := w) (mg := mg) (base := base) F, fun k C cdv A outer s H E FF hr => b_l_ends g _ cdv A outer s H E FF hr⟩
  by_cases h27 : f = 27
  · subst h27
    have e : some (He.ga K "_law_row") = some a := h
    cases e
    obtain ⟨fd, F⟩ := D.d_l_row
    exact ⟨d_l_row, "_law_row", "_law_row", s_l_row, fd, N_l_row, P_l_row, rfl, F, sc_l_row, rfl, rfl, bd_l_row (P := P) (w := w) (mg := mg) (base := base) F, fun k C cdv A outer s H E FF hr => b_l_row g _ cdv A outer s H E FF hr⟩
  by_cases h28 : f = 28
  · subst h28
    have e : some (He.ga K "_law_behind") = some a := h
    cases e
    obtain ⟨fd, F⟩ := D.d_l_behind
    exact ⟨d_l_behind, "_law_behind", "_law_behind", s_l_behind, fd, N_l_behind, P_l_behind, rfl, F, sc_l_behind, rfl, rfl, bd_l_behind (P := P) (w := w) (mg := mg) (base := base) F, fun k C cdv A outer s H E FF hr => b_l_behind g _ cdv A outer s H E FF hr⟩
  by_cases h29 : f = 29
  · subst h29
    have e : some (He.ga K "_law_any") = some a := h
    cases e
    obtain ⟨fd, F⟩ := D.d_l_any
    exact ⟨d_l_any, "_law_any", "_law_any", s_l_any, fd, N_l_any, P_l_any, rfl, F, sc_l_any, rfl, rfl, bd_l_any (P := P) (w := w) (mg := mg) (base := base) F, fun k C cdv A outer s H E FF hr => b_l_any g _ cdv A outer s H E FF hr⟩
  by_cases h30 : f = 30
  · subst h30
    have e : some (He.ga K "_law_odd") = some a := h
    cases e
    obtain ⟨fd, F⟩ := D.d_l_odd
    exact ⟨d_l_odd, "_law_odd", "_law_odd", s_l_odd, fd, N_l_odd, P_l_odd, rfl, F, sc_l_odd, rfl, rfl, bd_l_odd (P := P) (w := w) (mg := mg) (base := base) F, fun k C cdv A outer s H E FF hr => b_l_odd g _ cdv A outer s H E FF hr⟩
  by_cases h31 : f = 31
  · subst h31
    have e : some (He.ga K "law") = some a := h
    cases e
    obtain ⟨fd, F⟩ := D.d_law
    exact ⟨d_law, "law", "law", s_law, fd, N_law, P_law, rfl, F, sc_law, rfl, rfl, bd_law (P := P) (w := w) (mg := mg) (base := base) F, fun k C cdv A outer s H E FF hr => b_law g _ cdv A outer s H E FF hr⟩
  exfalso
  have : faO K f = none := by
    unfold faO
    split <;> first | contradiction | rfl
  rw [show (gb K).fa f = faO K f from rfl, this] at h
  cases h
/-! the head -/
def h_is_whole : He.DefD := ⟨("is_whole", none), "is_whole", "is_whole", defArgs s_is_whole, defBody s_is_whole, defScope s_is_whole, [], []⟩
def h_is_word : He.DefD := ⟨("is_word", none), "is_word", "is_word", defArgs s_is_word, defBody s_is_word, defScope s_is_word, [], []⟩
def h_are_letters : He.DefD := ⟨("are_letters", none), "are_letters", "are_letters", defArgs s_are_letters, defBody s_are_letters, defScope s_are_letters, [], []⟩
def h_are_word_rules : He.DefD := ⟨("are_word_rules", none), "are_word_rules", "are_word_rules", defArgs s_are_word_rules, defBody s_are_word_rules, defScope s_are_word_rules, [], []⟩
def h_word_steps : He.DefD := ⟨("word_steps", none), "word_steps", "word_steps", defArgs s_word_steps, defBody s_word_steps, defScope s_word_steps, [], []⟩
def h_word_turned : He.DefD := ⟨("word_turned", none), "word_turned", "word_turned", defArgs s_word_turned, defBody s_word_turned, defScope s_word_turned, [], []⟩
def h_is_word_step : He.DefD := ⟨("is_word_step", none), "is_word_step", "is_word_step", defArgs s_is_word_step, defBody s_is_word_step, defScope s_is_word_step, [], []⟩
def h_behind_word_row : He.DefD := ⟨("behind_word_row", none), "behind_word_row", "behind_word_row", defArgs s_behind_word_row, defBody s_behind_word_row, defScope s_behind_word_row, [], []⟩
def h_is_before : He.DefD := ⟨("is_before", none), "is_before", "is_before", defArgs s_is_before, defBody s_is_before, defScope s_is_before, [], []⟩
def h_go_down : He.DefD := ⟨("go_down", none), "go_down", "go_down", defArgs s_go_down, defBody s_go_down, defScope s_go_down, [], []⟩
def h_word_normal : He.DefD := ⟨("word_normal", none), "word_normal", "word_normal", defArgs s_word_normal, defBody s_word_normal, defScope s_word_normal, [], []⟩
def h_overlaps : He.DefD := ⟨("overlaps", none), "overlaps", "overlaps", defArgs s_overlaps, defBody s_overlaps, defScope s_overlaps, [], []⟩
def h_words_meet : He.DefD := ⟨("words_meet", none), "words_meet", "words_meet", defArgs s_words_meet, defBody s_words_meet, defScope s_words_meet, [], []⟩
def h_are_same_words : He.DefD := ⟨("are_same_words", none), "are_same_words", "are_same_words", defArgs s_are_same_words, defBody s_are_same_words, defScope s_are_same_words, [], []⟩
def h_product : He.DefD := ⟨("product", none), "product", "product", defArgs s_product, defBody s_product, defScope s_product, [], []⟩
def h_l_state : He.DefD := ⟨("_law_state", none), "_law_state", "_law_state", defArgs s_l_state, defBody s_l_state, defScope s_l_state, [], []⟩
def h_l_take : He.DefD := ⟨("_law_take", none), "_law_take", "_law_take", defArgs s_l_take, defBody s_l_take, defScope s_l_take, [], []⟩
def h_l_pick : He.DefD := ⟨("_law_pick", none), "_law_pick", "_law_pick", defArgs s_l_pick, defBody s_l_pick, defScope s_l_pick, [], []⟩
def h_l_letters : He.DefD := ⟨("_law_letters", none), "_law_letters", "_law_letters", defArgs s_l_letters, defBody s_l_letters, defScope s_l_letters, [], []⟩
def h_l_word : He.DefD := ⟨("_law_word", none), "_law_word", "_law_word", defArgs s_l_word, defBody s_l_word, defScope s_l_word, [], []⟩
def h_l_before : He.DefD := ⟨("_law_before", none), "_law_before", "_law_before", defArgs s_l_before, defBody s_l_before, defScope s_l_before, [], []⟩
def h_l_rules : He.DefD := ⟨("_law_rules", none), "_law_rules", "_law_rules", defArgs s_l_rules, defBody s_l_rules, defScope s_l_rules, [], []⟩
def h_l_steps : He.DefD := ⟨("_law_steps", none), "_law_steps", "_law_steps", defArgs s_l_steps, defBody s_l_steps, defScope s_l_steps, [], []⟩
def h_l_turned : He.DefD := ⟨("_law_turned", none), "_law_turned", "_law_turned", defArgs s_l_turned, defBody s_l_turned, defScope s_l_turned, [], []⟩
def h_l_normal : He.DefD := ⟨("_law_normal", none), "_law_normal", "_law_normal", defArgs s_l_normal, defBody s_l_normal, defScope s_l_normal, [], []⟩
def h_l_pairs : He.DefD := ⟨("_law_pairs", none), "_law_pairs", "_law_pairs", defArgs s_l_pairs, defBody s_l_pairs, defScope s_l_pairs, [], []⟩
def h_l_ends : He.DefD := ⟨("_law_ends", none), "_law_ends", "_law_ends", defArgs s_l_ends, defBody s_l_ends, defScope s_l_ends, [], []⟩
def h_l_row : He.DefD := ⟨("_law_row", none), "_law_row", "_law_row", defArgs s_l_row, defBody s_l_row, defScope s_l_row, [], []⟩
def h_l_behind : He.DefD := ⟨("_law_behind", none), "_law_behind", "_law_behind", defArgs s_l_behind, defBody s_l_behind, defScope s_l_behind, [], []⟩
def h_l_any : He.DefD := ⟨("_law_any", none), "_law_any", "_law_any", defArgs s_l_any, defBody s_l_any, defScope s_l_any, [], []⟩
def h_l_odd : He.DefD := ⟨("_law_odd", none), "_law_odd", "_law_odd", defArgs s_l_odd, defBody s_l_odd, defScope s_l_odd, [], []⟩
def h_law : He.DefD := ⟨("law", none), "law", "law", defArgs s_law, defBody s_law, defScope s_law, [], []⟩
def fn : List He.DefD := [h_is_whole, h_is_word, h_are_letters, h_are_word_rules, h_word_steps, h_word_turned, h_is_word_step, h_behind_word_row, h_is_before, h_go_down, h_word_normal, h_overlaps, h_words_meet, h_are_same_words, h_product, h_l_state, h_l_take, h_l_pick, h_l_letters, h_l_word, h_l_before, h_l_rules, h_l_steps, h_l_turned, h_l_normal, h_l_pairs, h_l_ends, h_l_row, h_l_behind, h_l_any, h_l_odd, h_law]
def fa : List He.Fa := [.free "abs", .free "all", .free "bool", .free "int", .free "isinstance", .free "len", .free "list", .free "min", .free "range", .free "str", .free "tuple", .glo "_law_any", .glo "_law_before", .glo "_law_behind", .glo "_law_ends", .glo "_law_letters", .glo "_law_normal", .glo "_law_odd", .glo "_law_pairs", .glo "_law_pick", .glo "_law_row", .glo "_law_rules", .glo "_law_state", .glo "_law_steps", .glo "_law_take", .glo "_law_turned", .glo "_law_word", .glo "are_letters", .glo "are_same_words", .glo "are_word_rules", .glo "behind_word_row", .glo "go_down", .glo "is_before", .glo "is_whole", .glo "is_word", .glo "is_word_step", .glo "overlaps", .glo "product", .glo "word_normal", .glo "word_steps", .glo "word_turned", .glo "words_meet", .int "MOST_WORD" (60), .int "MOST_WORD_RULES" (20), .str "LETTERS" "abcdefghijklmnopqrstuvwxyz", .glo "is_whole", .glo "is_word", .glo "are_letters", .glo "are_word_rules", .glo "word_steps", .glo "word_turned", .glo "is_word_step", .glo "behind_word_row", .glo "is_before", .glo "go_down", .glo "word_normal", .glo "overlaps", .glo "words_meet", .glo "are_same_words", .glo "product", .glo "_law_state", .glo "_law_take", .glo "_law_pick", .glo "_law_letters", .glo "_law_word", .glo "_law_before", .glo "_law_rules", .glo "_law_steps", .glo "_law_turned", .glo "_law_normal", .glo "_law_pairs", .glo "_law_ends", .glo "_law_row", .glo "_law_behind", .glo "_law_any", .glo "_law_odd", .glo "law"]
abbrev R : PySem.W.OpenRow := PySem.W.OpenLaw.row PySem.Challenge.rw_termwright_k55_words_and_their_rules
abbrev hk : PySem.W.Hook := He.hookD 4 fa fn
def ob (s : PySem.W.SharedT) : He.AlD := He.obsDG 4 fa fn (HandSHeadRun.getT s)
theorem ob_eq (s : PySem.W.SharedT) : ob s = hk.obs s.abs := He.obsDG_eq (HandSHeadRun.getT_eq s)
theorem run (w : World) : HandSHeadRun.RunEq R (PySem.W.view R.prog [37]) hk ob 4000 (("is_whole" : PySem.Str) :: ("MOST_WORD" : PySem.Str) :: ("MOST_WORD_RULES" : PySem.Str) :: ("LETTERS" : PySem.Str) :: ("is_word" : PySem.Str) :: ("are_letters" : PySem.Str) :: ("are_word_rules" : PySem.Str) :: ("word_steps" : PySem.Str) :: ("word_turned" : PySem.Str) :: ("is_word_step" : PySem.Str) :: ("behind_word_row" : PySem.Str) :: ("is_before" : PySem.Str) :: ("go_down" : PySem.Str) :: ("word_normal" : PySem.Str) :: ("overlaps" : PySem.Str) :: ("words_meet" : PySem.Str) :: ("are_same_words" : PySem.Str) :: ("product" : PySem.Str) :: ("_law_state" : PySem.Str) :: ("_law_take" : PySem.Str) :: ("_law_pick" : PySem.Str) :: ("_law_letters" : PySem.Str) :: ("_law_word" : PySem.Str) :: ("_law_before" : PySem.Str) :: ("_law_rules" : PySem.Str) :: ("_law_steps" : PySem.Str) :: ("_law_turned" : PySem.Str) :: ("_law_normal" : PySem.Str) :: ("_law_pairs" : PySem.Str) :: ("_law_ends" : PySem.Str) :: ("_law_row" : PySem.Str) :: ("_law_behind" : PySem.Str) :: ("_law_any" : PySem.Str) :: ("_law_odd" : PySem.Str) :: []) w := by
  intro os
  kernel_rfl
theorem facts {K : PySem.W.Frag} {h : Heap} {mg : Str → Option Value} (X : K.In h) (G : h.Ns mainGlobals mg) (c : He.SaysD fa fn K) : GF K mg ∧ DF K := by
  refine ⟨⟨He.free_ok X G (c.fact 0 (f := .free "abs") rfl), He.free_ok X G (c.fact 1 (f := .free "all") rfl), He.free_ok X G (c.fact 2 (f := .free "bool") rfl), He.free_ok X G (c.fact 3 (f := .free "int") rfl), He.free_ok X G (c.fact 4 (f := .free "isinstance") rfl), He.free_ok X G (c.fact 5 (f := .free "len") rfl), He.free_ok X G (c.fact 6 (f := .free "list") rfl), He.free_ok X G (c.fact 7 (f := .free "min") rfl), He.free_ok X G (c.fact 8 (f := .free "range") rfl), He.free_ok X G (c.fact 9 (f := .free "str") rfl), He.free_ok X G (c.fact 10 (f := .free "tuple") rfl), He.glo_ok X G (c.fact 11 (f := .glo "_law_any") rfl), He.glo_ok X G (c.fact 12 (f := .glo "_law_before") rfl), He.glo_ok X G (c.fact 13 (f := .glo "_law_behind") rfl), He.glo_ok X G (c.fact 14 (f := .glo "_law_ends") rfl), He.glo_ok X G (c.fact 15 (f := .glo "_law_letters") rfl), He.glo_ok X G (c.fact 16 (f := .glo "_law_normal") rfl), He.glo_ok X G (c.fact 17 (f := .glo "_law_odd") rfl), He.glo_ok X G (c.fact 18 (f := .glo "_law_pairs") rfl), He.glo_ok X G (c.fact 19 (f := .glo "_law_pick") rfl), He.glo_ok X G (c.fact 20 (f := .glo "_law_row") rfl), He.glo_ok X G (c.fact 21 (f := .glo "_law_rules") rfl), He.glo_ok X G (c.fact 22 (f := .glo "_law_state") rfl), He.glo_ok X G (c.fact 23 (f := .glo "_law_steps") rfl), He.glo_ok X G (c.fact 24 (f := .glo "_law_take") rfl), He.glo_ok X G (c.fact 25 (f := .glo "_law_turned") rfl), He.glo_ok X G (c.fact 26 (f := .glo "_law_word") rfl), He.glo_ok X G (c.fact 27 (f := .glo "are_letters") rfl), He.glo_ok X G (c.fact 28 (f := .glo "are_same_words") rfl), He.glo_ok X G (c.fact 29 (f := .glo "are_word_rules") rfl), He.glo_ok X G (c.fact 30 (f := .glo "behind_word_row") rfl), He.glo_ok X G (c.fact 31 (f := .glo "go_down") rfl), He.glo_ok X G (c.fact 32 (f := .glo "is_before") rfl), He.glo_ok X G (c.fact 33 (f := .glo "is_whole") rfl), He.glo_ok X G (c.fact 34 (f := .glo "is_word") rfl), He.glo_ok X G (c.fact 35 (f := .glo "is_word_step") rfl), He.glo_ok X G (c.fact 36 (f := .glo "overlaps") rfl), He.glo_ok X G (c.fact 37 (f := .glo "product") rfl), He.glo_ok X G (c.fact 38 (f := .glo "word_normal") rfl), He.glo_ok X G (c.fact 39 (f := .glo "word_steps") rfl), He.glo_ok X G (c.fact 40 (f := .glo "word_turned") rfl), He.glo_ok X G (c.fact 41 (f := .glo "words_meet") rfl), He.int_ok X G (c.fact 42 (f := .int "MOST_WORD" (60)) rfl), He.int_ok X G (c.fact 43 (f := .int "MOST_WORD_RULES" (20)) rfl), He.str_ok X G (c.fact 44 (f := .str "LETTERS" "abcdefghijklmnopqrstuvwxyz") rfl)⟩, ⟨c.def_ 0 (d := h_is_whole) rfl, c.def_ 1 (d := h_is_word) rfl, c.def_ 2 (d := h_are_letters) rfl, c.def_ 3 (d := h_are_word_rules) rfl, c.def_ 4 (d := h_word_steps) rfl, c.def_ 5 (d := h_word_turned) rfl, c.def_ 6 (d := h_is_word_step) rfl, c.def_ 7 (d := h_behind_word_row) rfl, c.def_ 8 (d := h_is_before) rfl, c.def_ 9 (d := h_go_down) rfl, c.def_ 10 (d := h_word_normal) rfl, c.def_ 11 (d := h_overlaps) rfl, c.def_ 12 (d := h_words_meet) rfl, c.def_ 13 (d := h_are_same_words) rfl, c.def_ 14 (d := h_product) rfl, c.def_ 15 (d := h_l_state) rfl, c.def_ 16 (d := h_l_take) rfl, c.def_ 17 (d := h_l_pick) rfl, c.def_ 18 (d := h_l_letters) rfl, c.def_ 19 (d := h_l_word) rfl, c.def_ 20 (d := h_l_before) rfl, c.def_ 21 (d := h_l_rules) rfl, c.def_ 22 (d := h_l_steps) rfl, c.def_ 23 (d := h_l_turned) rfl, c.def_ 24 (d := h_l_normal) rfl, c.def_ 25 (d := h_l_pairs) rfl, c.def_ 26 (d := h_l_ends) rfl, c.def_ 27 (d := h_l_row) rfl, c.def_ 28 (d := h_l_behind) rfl, c.def_ 29 (d := h_l_any) rfl, c.def_ 30 (d := h_l_odd) rfl, c.def_ 31 (d := h_law) rfl⟩⟩
theorem holds_of (LT : ∀ ns : List Int, ns.length ≤ 63 → ∃ mh, callM T 141 31 [.scr ns] [] = some (.bl true, mh)) : PySem.Challenge.rw_termwright_k55_words_and_their_rules.Holds := by
  open PySem.W PySem.Calls in
  w_on; o_law
  refine HandSHeadRun.head_any (r := PySem.W.OpenLaw.row PySem.Challenge.rw_termwright_k55_words_and_their_rules) (q := PySem.W.view (PySem.W.OpenLaw.row PySem.Challenge.rw_termwright_k55_words_and_their_rules).prog [37]) (H := hk) (ob := ob) (M := 4000) (loose := (("is_whole" : PySem.Str) :: ("MOST_WORD" : PySem.Str) :: ("MOST_WORD_RULES" : PySem.Str) :: ("LETTERS" : PySem.Str) :: ("is_word" : PySem.Str) :: ("are_letters" : PySem.Str) :: ("are_word_rules" : PySem.Str) :: ("word_steps" : PySem.Str) :: ("word_turned" : PySem.Str) :: ("is_word_step" : PySem.Str) :: ("behind_word_row" : PySem.Str) :: ("is_before" : PySem.Str) :: ("go_down" : PySem.Str) :: ("word_normal" : PySem.Str) :: ("overlaps" : PySem.Str) :: ("words_meet" : PySem.Str) :: ("are_same_words" : PySem.Str) :: ("product" : PySem.Str) :: ("_law_state" : PySem.Str) :: ("_law_take" : PySem.Str) :: ("_law_pick" : PySem.Str) :: ("_law_letters" : PySem.Str) :: ("_law_word" : PySem.Str) :: ("_law_before" : PySem.Str) :: ("_law_rules" : PySem.Str) :: ("_law_steps" : PySem.Str) :: ("_law_turned" : PySem.Str) :: ("_law_normal" : PySem.Str) :: ("_law_pairs" : PySem.Str) :: ("_law_ends" : PySem.Str) :: ("_law_row" : PySem.Str) :: ("_law_behind" : PySem.Str) :: ("_law_any" : PySem.Str) :: ("_law_odd" : PySem.Str) :: [])) (d := HandSHeadRun.topDef (PySem.W.OpenLaw.row PySem.Challenge.rw_termwright_k55_words_and_their_rules).prog 37) (kwd := []) ob_eq
    (by kernel_rfl) (fun s => by kernel_rfl) run (by kernel_rfl) (by kernel_rfl) (by kernel_rfl) (by rfl) (by first | assumption | decide +kernel) (by decide +kernel) ⟨rfl, rfl, rfl, rfl, rfl, by decide +kernel⟩ ?hw ?hc
  case hw => w_witness2
  case hc =>
    refine L2.walk_ofE (l := PySem.Challenge.rw_termwright_k55_words_and_their_rules) (n := 63) (k := 141) (x := "script") (CX := L2.CX0) rfl (by decide) (by kernel_rfl) ⟨rfl, by decide, by decide⟩ ?F (fun _ _ _ _ z => z)
    intro w mg fa h Y G hmg0
    obtain ⟨K, KX, c⟩ := Y
    have hmg : mg ("law" : PySem.Str) = some (.ref fa) := by
      have e : (HandSHeadRun.topDef (PySem.W.OpenLaw.row PySem.Challenge.rw_termwright_k55_words_and_their_rules).prog 37).name = ("law" : PySem.Str) := by kernel_rfl
      rw [← e]
      exact hmg0
    obtain ⟨g, D⟩ := facts KX G c
    have e := hmg.symm.trans (He.glo_ok KX G (c.fact 76 (f := .glo "law") rfl))
    cases e
    obtain ⟨fd, F⟩ := D.d_law
    have b := FunD.bindsA (ps := P_law) F fun _ _ _ _ _ _ us hl => match us, hl with | [_], _ => rfl
    refine ⟨K, fd, spC (gb K) (callM T 141) 31 1, KX, fun s v => b s [v] rfl, fun H a ns hl _ hS => ?_, fun base _ _ => ?_⟩
    · obtain ⟨mh, e⟩ := LT ns hl
      exact sp_law (G := gb K) e hS
    · exact fnOk_of (fnC_of (table g D) 140) rfl F sc_law rfl fun k C cdv A outer s H E FF hr => b_law g _ cdv A outer s H E FF hr
end L2.Mi.k55

theorem PySem.Challenge.cw_termwright_k55_words_and_their_rules_holds : PySem.Challenge.rw_termwright_k55_words_and_their_rules.Holds := by
  exact L2.Mi.k55.holds_of fun ns _ => L2.Mi.k55.law_true ns
