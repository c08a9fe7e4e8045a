import PyProof.Rows.All
import Wide.All
import OpenK.AllK
import Wide.FinOn
import KE.KStateDown
import HandS.ForMost
import HandS.IsInst
import HandS.Deep
import HandS.TupAny
import HandS.DictComp
import HandS.CallLocal
import HandS.Wide
import HandS.Defaults
import HandS.WordsExc
import HandS.Head0
import HandS.Head1
import HandS.Head2
import HandS.HeadEnd
import HandS.HeadHook1
import HandS.HeadHook2
import KE.DataCmp
import PyProof.ReprRoads
import HandS.DeepEq
import HandS.TupLe
import HandS.TupMul
import KE.KEqNest
import PyProof.NeKinds
import PyProof.AutoSeq1
import PyProof.ListStr
import HandS.Conv
import HandS.Walk
import HandS.Comp
import HandS.Words
import HandS.List
import HandS.Style
import KE.KRevSl
import HandS.SortInts
import HandS.NamedTupSort
import HandS.SortRule
import HandS.More
import HandS.Zip
import KE.KDictZip
import KE.KDictList
import HandS.DictTup
import HandS.Keys
import HandS.Flow
import HandS.Text
import HandS.StrMore
import HandS.Strs
import PyProof.StrLawsRepr
import PySem.Challenge.RW_termwright_k04_puttings
set_option Elab.async false
set_option linter.all false
set_option maxRecDepth 100000
set_option maxHeartbeats 4000000
/-! Mini1: tree values, the little heap, the evaluator of the little language. -/
namespace L2.Mi
open PySem PySem.Spec PyProof.Rows

abbrev Sx := List Nat
abbrev MKey := Sum Int Sx
/-- a value: a tree; loc: a live (changeable) object; fn: a def of the text; scr: the law's script -/
inductive MV where
  | non | bl (b : Bool) | int (i : Int) | str (s : Sx) | fn (f : Nat)
  | tup (xs : List MV) | lst (xs : List MV) | loc (l : Nat) | dct (ks : List MKey) (vs : List MV) | scr (ns : List Int)
inductive MO where
  | lst (xs : List MV) | dct (ks : List MKey) (vs : List MV)
  | ins (c : Nat) (fs : List (Nat × MV))
abbrev MHp := List (Option MO)
abbrev Env := List (Option MV)

inductive Op | add | sub | mul | fdiv | mod
inductive Cop | eq | ne | lt | le | gt | ge | mem | nmem | is | isn
inductive Ty | int | bool | str | tuple | list | dict
inductive Bi | len | abs | int | strI | tuple | list | all | any | sum | max | min | sorted | dict | lset | flat | repr | dzip
inductive Me | append | extend | pop | popAt | upper | get2 | start2 | join | index
inductive Tg | nm (i : Nat) | tp (ts : List Tg)
inductive ME where
  | var (i : Nat)
  | c (v : MV)
  | bin (o : Op) (a b : ME)
  | neg (a : ME)
  | cmp (o : Cop) (a b : ME)
  | chn (o o' : Cop) (a b c : ME)
  | and (a b : ME) | or (a b : ME) | not (a : ME) | ite (c a b : ME)
  | tup (es : List ME) | lst (es : List ME) | dnew
  | call (f : Nat) (es : List ME) | callv (i : Nat) (es : List ME)
  | bi (f : Bi) (es : List ME) | isi (e : ME) (t : Ty)
  | meth (m : Me) (o : ME) (es : List ME)
  | sub (a i : ME) | slcL (a lo : ME) | slcH (a hi : ME) | slcB (a lo hi : ME) | rev (a : ME)
  | comp (tg : Tg) (own : List Nat) (it : ME) (cond : ME) (e : ME)
  | dcomp (tg : Tg) (own : List Nat) (it : ME) (cond : ME) (k e : ME)
  | rng1 (a : ME) | rng2 (a b : ME) | zip (a b : ME)
  | al (e : ME)
  | disp1 (k v : ME)
  | lzip (a b : ME)
  | orv (a b : ME)
  | fld (e : ME) (f : Nat)
  | disp2 (k v k' v' : ME)
  | mk (c i : Nat) (es : List ME)
  | mc (c m : Nat) (o : ME) (es : List ME)
inductive MS where
  | ex (e : ME)
  | set (t : Tg) (e : ME)
  | par (i j : Nat) (a b : ME)
  | par3 (i j l : Nat) (a b c : ME)
  | ret (e : ME)
  | ite (c : ME) (a b : List MS)
  | for (t : Tg) (it : ME) (body : List MS)
  | while (c : ME) (body : List MS)
  | sti (o i e : ME)
  | aug (i : Nat) (o : Op) (e : ME)
  | pass | brk | cnt
  | stf (o : ME) (f : Nat) (e : ME)
  | nev

/-- a call: the def's number, its arguments, the heap -/
abbrev CallF := Nat → List MV → MHp → Option (MV × MHp)

/-! ### values -/
abbrev line : Nat := 16777216
/-- the items of a list -/
def getL (mh : MHp) : MV → Option (List MV)
  | .lst xs => some xs
  | .loc l => match mh[l]? with
    | some (some (.lst xs)) => some xs
    | _ => none
  | _ => none
def getD (mh : MHp) : MV → Option (List MKey × List MV)
  | .dct ks vs => some (ks, vs)
  | .loc l => match mh[l]? with
    | some (some (.dct ks vs)) => some (ks, vs)
    | _ => none
  | _ => none
def kyV : MV → Option MKey
  | .int i => some (.inl i)
  | .str s => some (.inr s)
  | _ => none
def kM : MKey → MV
  | .inl i => .int i
  | .inr s => .str s
/-- what a dict holds at a key -/
def dLook : List MKey → List MV → MKey → Option MV
  | k' :: ks, m :: ms, k => if k' = k then some m else dLook ks ms k
  | _, _, _ => none
/-- d[k] = m: the keys, the values -/
def dPutK (ks : List MKey) (k : MKey) : List MKey := if (ks.any fun k' => decide (k' = k)) = true then ks else ks ++ [k]
def dPutV (ks : List MKey) (ms : List MV) (k : MKey) (m : MV) : List MV := if (ks.any fun k' => decide (k' = k)) = true then List.zipWith (fun k' m' => if k' = k then m else m') ks ms else ms ++ [m]
def dFold : List (MKey × MV) → List MKey → List MV → List MKey × List MV
  | [], ks, ms => (ks, ms)
  | p :: ps, ks, ms => dFold ps (dPutK ks p.1) (dPutV ks ms p.1 p.2)
def pairK : MV → Option (MKey × MV)
  | .tup [k, v] => (kyV k).map (·, v)
  | _ => none
def strOf : MV → Option Sx
  | .str s => some s
  | _ => none
def sortS (xs : List Sx) : List Sx := xs.mergeSort fun a b => decide (a ≤ b)
mutual
/-- live objects with numbers from n on are read out -/
def frz (n : Nat) (mh : MHp) : Nat → MV → Option MV
  | k, .tup xs => (frzs n mh k xs).map .tup
  | k, .lst xs => (frzs n mh k xs).map .lst
  | k, .dct ks vs => (frzs n mh k vs).map (.dct ks)
  | k, .loc l => if l < n then some (.loc l) else match k with
    | 0 => none
    | k + 1 => match mh[l]? with
      | some (some (.lst xs)) => (frzs n mh k xs).map .lst
      | some (some (.dct ks vs)) => (frzs n mh k vs).map (.dct ks)
      | _ => none
  | _, .non => some .non
  | _, .bl b => some (.bl b)
  | _, .int i => some (.int i)
  | _, .str s => some (.str s)
  | _, .fn f => some (.fn f)
  | _, .scr ns => some (.scr ns)
def frzs (n : Nat) (mh : MHp) : Nat → List MV → Option (List MV)
  | _, [] => some []
  | k, x :: xs => match frz n mh k x with
    | none => none
    | some y => (frzs n mh k xs).map (y :: ·)
end

mutual
/-- plain data -/
def toD : MV → PyData
  | .non => .none
  | .bl b => .bool b
  | .int i => .int i
  | .str s => .str ⟨s.toArray⟩
  | .tup xs => .tuple (toDs xs)
  | .lst xs => .list (toDs xs)
  | .scr ns => .list (ns.map .int)
  | .fn _ => .dict []
  | .loc _ => .dict []
  | .dct _ _ => .dict []
def toDs : List MV → List PyData
  | [] => []
  | x :: xs => toD x :: toDs xs
end
/-- data that == serves -/
def okD (x : MV) : Bool := SeqAt.shaped (toD x)
def eqD (x y : MV) : Bool := PyData.eqv (toD x) (toD y)
mutual
/-- how deep eqT goes -/
def hgt : MV → Nat
  | .tup xs => hgts xs + 1
  | .lst xs => hgts xs + 1
  | .dct _ ms => hgts ms + 1
  | _ => 0
def hgts : List MV → Nat
  | [] => 0
  | x :: xs => max (hgt x) (hgts xs)
end
def notTup : MV → Bool
  | .tup _ => false
  | _ => true
mutual
/-- the two are equal; dicts may stand within -/
def eqT : MV → MV → Bool
  | .dct ks ms, .dct ls ns => decide (ks.length = ls.length) && eqKs ms ks ls ns
  | .tup xs, .tup ys => eqTs xs ys
  | .lst xs, .lst ys => eqTs xs ys
  | x, y => okD x && okD y && eqD x y && decide (PyData.depth (toD x) = 0)
def eqTs : List MV → List MV → Bool
  | [], [] => true
  | x :: xs, y :: ys => eqT x y && eqTs xs ys
  | _, _ => false
def eqKs : List MV → List MKey → List MKey → List MV → Bool
  | m :: ms, k :: ks, ls, ns => (match dLook ls ns k with
    | some n => eqT m n
    | none => false) && eqKs ms ks ls ns
  | _, _, _, _ => true
end
def idx {α : Type} (xs : List α) (i : Int) : Option α := L2.atI xs i
def cut {α : Type} (xs : List α) (lo hi : Option Int) : List α := (xs.drop (HT.sIx xs.length 0 lo)).take (HT.sIx xs.length xs.length hi - HT.sIx xs.length 0 lo)

/-! ### operations -/
def addV (mh : MHp) (x y : MV) : Option MV := match x, y with
  | .int i, .int j => some (.int (i + j))
  | .str s, .str t => if s.length + t.length ≤ line then some (.str (s ++ t)) else none
  | .tup xs, .tup ys => if xs.length + ys.length ≤ line then some (.tup (xs ++ ys)) else none
  | x, y => match getL mh x with
    | none => none
    | some xs => match getL mh y with
      | none => none
      | some ys => if xs.length + ys.length ≤ line then some (.lst (xs ++ ys)) else none
def mulV (x y : MV) : Option MV := match x, y with
  | .int i, .int j => if (-(2 ^ 64) < i ∧ i < 2 ^ 64) ∨ (-(2 ^ 64) < j ∧ j < 2 ^ 64) then some (.int (i * j)) else none
  | .str s, .int j => if 0 ≤ j ∧ j ≤ 1000000 ∧ s.length * j.toNat ≤ line then some (.str (List.replicate j.toNat s).flatten) else none
  | .tup xs, .int j => if xs.isEmpty = false ∧ 2 ≤ j ∧ j ≤ 1000 ∧ xs.length ≤ 1000 then some (.tup (List.replicate j.toNat xs).flatten) else none
  | _, _ => none
def intV (f : Int → Int → Option Int) (x y : MV) : Option MV := match x, y with
  | .int i, .int j => (f i j).map .int
  | _, _ => none
def binV (mh : MHp) : Op → MV → MV → Option MV
  | .add, x, y => addV mh x y
  | .mul, x, y => mulV x y
  | .sub, x, y => intV (fun i j => some (i - j)) x y
  | .fdiv, x, y => intV (fun i j => if j ≠ 0 ∧ j.natAbs < 1073741824 then some (i.fdiv j) else none) x y
  | .mod, x, y => intV (fun i j => if j ≠ 0 then some (i.fmod j) else none) x y
def eqV (mh : MHp) (x y : MV) : Option Bool := match frz 0 mh 8 x with
  | none => none
  | some x' => match frz 0 mh 8 y with
    | none => none
    | some y' => if okD x' = true ∧ okD y' = true then some (eqD x' y') else if eqT x' y' = true ∧ hgt x' ≤ 60 ∧ notTup x' = true then some true else none
def memV (mh : MHp) (x y : MV) : Option Bool := match x, y with
  | .str [c], .str t => some (decide (c ∈ t))
  | x, y => match frz 0 mh 8 x with
    | none => none
    | some x' => match frz 0 mh 8 y with
      | some (.lst ys) => if okD x' = true ∧ okD (.lst ys) = true then some (ys.any fun z => eqD z x') else none
      | some (.tup ys) => if okD x' = true ∧ okD (.tup ys) = true then some (ys.any fun z => eqD z x') else none
      | some (.dct ks ms) => (kyV x).map fun k => (dLook ks ms k).isSome
      | _ => none
def ordV (x y : MV) : Option (Bool × Bool) := match x, y with
  | .int i, .int j => some (decide (i < j), decide (j < i))
  | .str s, .str t => some (decide (s < t), decide (t < s))
  | _, _ => none
def isV : MV → MV → Option Bool
  | .non, .non => some true
  | _, .non => some false
  | .bl a, .bl b => some (decide (a = b))
  | _, _ => none
def notNon : MV → Bool
  | .non => false
  | _ => true
/-- < of alike data -/
def ltD (mh : MHp) (x y : MV) : Option Bool := match frz 0 mh 8 x with
  | none => none
  | some x' => match frz 0 mh 8 y with
    | none => none
    | some y' => if okD x' = true ∧ okD y' = true ∧ PySem.W.alike (toD x') (toD y') = true ∧ notNon x' = true then some (PySem.W.dataLt (toD x') (toD y')) else none
def cmpV (mh : MHp) : Cop → MV → MV → Option Bool
  | .eq, x, y => eqV mh x y
  | .ne, x, y => (eqV mh x y).map (!·)
  | .mem, x, y => memV mh x y
  | .nmem, x, y => (memV mh x y).map (!·)
  | .lt, .tup xs, .tup ys => ltD mh (.tup xs) (.tup ys)
  | .lt, x, y => (ordV x y).map fun p => p.1
  | .gt, x, y => (ordV x y).map fun p => p.2
  | .le, x, y => (ordV x y).map fun p => !p.2
  | .ge, x, y => (ordV x y).map fun p => !p.1
  | .is, x, y => isV x y
  | .isn, x, y => (isV x y).map (!·)
def subD (mh : MHp) (x y : MV) : Option MV := match getD mh x with
  | some (ks, ms) => (kyV y).bind fun k => dLook ks ms k
  | none => none
def subV (mh : MHp) : MV → MV → Option MV
  | .tup xs, .int i => idx xs i
  | .str s, .int i => if s.length ≤ line then (idx s i).map fun c => .str [c] else none
  | x, .int i => match getL mh x with
    | some xs => idx xs i
    | none => subD mh x (.int i)
  | x, y => subD mh x y
def slcV (mh : MHp) (x : MV) (lo hi : Option Int) : Option MV := match x with
  | .tup xs => some (.tup (cut xs lo hi))
  | .str s => if s.length ≤ line then some (.str (cut s lo hi)) else none
  | .scr ns => some (.lst (cut (ns.map .int) lo hi))
  | x => (getL mh x).map fun xs => .lst (cut xs lo hi)
def isTy : MV → Ty → MHp → Option Bool
  | .non, _, _ => some false
  | .bl _, t, _ => some (match t with | .bool => true | .int => true | _ => false)
  | .int _, t, _ => some (match t with | .int => true | _ => false)
  | .str _, t, _ => some (match t with | .str => true | _ => false)
  | .tup _, t, _ => some (match t with | .tuple => true | _ => false)
  | .lst _, t, _ => some (match t with | .list => true | _ => false)
  | .dct _ _, t, _ => some (match t with | .dict => true | _ => false)
  | .loc l, t, mh => match mh[l]? with
    | some (some (.lst _)) => some (match t with | .list => true | _ => false)
    | some (some (.dct _ _)) => some (match t with | .dict => true | _ => false)
    | _ => none
  | .fn _, _, _ => none
  | .scr _, _, _ => none
def blOf : MV → Option Bool
  | .bl b => some b
  | _ => none
def intOf : MV → Option Int
  | .int i => some i
  | _ => none
def one1 (f : MV → Option MV) : List MV → Option MV
  | [x] => f x
  | _ => none
def lenV (mh : MHp) (x : MV) : Option MV := match x with
  | .str s => if s.length ≤ line then some (.int s.length) else none
  | .tup xs => some (.int xs.length)
  | x => match getL mh x with
    | some xs => some (.int xs.length)
    | none => (getD mh x).map fun d => .int d.1.length
def absV (x : MV) : Option MV := match x with
  | .int i => some (.int (if i < 0 then -i else i))
  | _ => none
def intV1 (x : MV) : Option MV := match x with
  | .int i => some (.int i)
  | .bl b => some (.int (if b = true then 1 else 0))
  | _ => none
def strV (x : MV) : Option MV := match x with
  | .int i => if i.natAbs.log2 < 1920 then some (.str (toString i : Str).cps.toList) else none
  | _ => none
def tupV (mh : MHp) (x : MV) : Option MV := match x with
  | .tup xs => some (.tup xs)
  | x => (getL mh x).map .tup
def lstV (mh : MHp) (x : MV) : Option MV := match x with
  | .tup xs => some (.lst xs)
  | .str s => if s.length ≤ line then some (.lst (s.map fun c => .str [c])) else none
  | x => match getL mh x with
    | some xs => some (.lst xs)
    | none => (getD mh x).map fun d => .lst (d.1.map kM)
def bls (mh : MHp) (x : MV) : Option (List Bool) := (getL mh x).bind fun xs => xs.mapM blOf
def intsM (mh : MHp) (x : MV) : Option (List Int) := (getL mh x).bind fun xs => xs.mapM intOf
def tupI (x : MV) : Option (List Int) := match x with
  | .tup ys => ys.mapM intOf
  | _ => none
/-- sorted: whole numbers; or tuples of whole numbers that stand in order already, the first of them empty -/
def sortedV (mh : MHp) (x : MV) : Option MV := match getL mh x with
  | none => match getD mh x with
    | none => none
    | some d => match (d.1.map kM).mapM strOf with
      | some ss => if ss.length < 64 then some (.lst ((sortS ss).map .str)) else none
      | none => none
  | some xs => match xs.mapM intOf with
    | some ns => some (.lst ((ns.mergeSort fun a b => decide (a ≤ b)).map .int))
    | none => match xs.mapM tupI with
      | some nss => if nss.head? = some [] ∧ nss.Pairwise (fun a b => HT.lexLt b a = false) then some (.lst xs) else none
      | none => match xs.mapM strOf with
        | some ss => if ss.length < 64 then some (.lst ((sortS ss).map .str)) else none
        | none => none
def dictV (mh : MHp) (x : MV) : Option MV := match getL mh x with
  | none => none
  | some xs => match xs.mapM pairK with
    | some ps => some (.dct (dFold ps [] []).1 (dFold ps [] []).2)
    | none => none
def minV (mh : MHp) : List MV → Option MV
  | [x, y] => match x, y with
    | .int i, .int j => some (.int (if j < i then j else i))
    | _, _ => none
  | xs => one1 (fun x => (intsM mh x).bind fun ns => ns.min?.map .int) xs
/-- the texts met first -/
def addX (σ : List Sx) (v : Sx) : List Sx := if v ∈ σ then σ else σ ++ [v]
def dedX (xs : List Sx) : List Sx := xs.foldl addX []
/-- len(set(texts)) -/
def lsetV (mh : MHp) (x : MV) : Option MV := (getL mh x).bind fun ys => (ys.mapM strOf).bind fun ss => if ss.length < 4000 then some (.int ((dedX ss).length : Nat)) else none
def lstOf : MV → Option (List MV)
  | .lst xs => some xs
  | _ => none
/-- lists' items in one list (a comprehension with two fors) -/
def flatV (x : MV) : Option MV := (lstOf x).bind fun xs => (xs.mapM lstOf).bind fun ls => if ls.flatten.length ≤ line then some (.lst ls.flatten) else none
def keyD : MKey → PyData
  | .inl i => .int i
  | .inr s => .str ⟨s.toArray⟩
def txtK : MKey → Bool
  | .inl _ => false
  | .inr _ => true
mutual
/-- what repr shows -/
def toR : MV → PyData
  | .bl b => .bool b
  | .str s => .str ⟨s.toArray⟩
  | .tup xs => .tuple (toRs xs)
  | .dct ks ms => .dict ((ks.map keyD).zip (toRs ms))
  | .non => .none
  | .int i => .int i
  | .lst _ => .none
  | .fn _ => .none
  | .loc _ => .none
  | .scr _ => .none
def toRs : List MV → List PyData
  | [] => []
  | x :: xs => toR x :: toRs xs
end
mutual
def okR : MV → Bool
  | .bl _ => true
  | .str _ => true
  | .non => true
  | .tup xs => okRs xs
  | .dct ks ms => ks.all txtK && decide (ks.length = ms.length) && okRs ms
  | .int _ => false
  | .lst _ => false
  | .fn _ => false
  | .loc _ => false
  | .scr _ => false
def okRs : List MV → Bool
  | [] => true
  | x :: xs => okR x && okRs xs
end
/-- repr of tuples, texts, dicts with texts as keys -/
def reprV (x : MV) : Option MV := match x with
  | .tup xs => if okRs xs = true ∧ PyData.depth (toR (.tup xs)) ≤ 40 ∧ (PyData.shown (toR (.tup xs))).length ≤ line then some (.str (PyData.shown (toR (.tup xs))).cps.toList) else none
  | _ => none
/-- dict(zip(xs, ys)), two lists -/
def dzipV (mh : MHp) : List MV → Option MV
  | [x, y] => (getL mh x).bind fun xs => (getL mh y).bind fun ys => (xs.mapM kyV).bind fun ks => if xs.length = ys.length ∧ xs.length ≤ 1000000 then some (.dct (dFold (ks.zip ys) [] []).1 (dFold (ks.zip ys) [] []).2) else none
  | _ => none
def biV (mh : MHp) : Bi → List MV → Option MV
  | .len, xs => one1 (lenV mh) xs
  | .abs, xs => one1 absV xs
  | .int, xs => one1 intV1 xs
  | .strI, xs => one1 strV xs
  | .tuple, xs => one1 (tupV mh) xs
  | .list, xs => one1 (lstV mh) xs
  | .all, xs => one1 (fun x => (bls mh x).map fun bs => .bl (bs.all id)) xs
  | .any, xs => one1 (fun x => (bls mh x).map fun bs => .bl (bs.any id)) xs
  | .sum, xs => one1 (fun x => (intsM mh x).map fun ns => .int ns.sum) xs
  | .max, xs => one1 (fun x => (intsM mh x).bind fun ns => ns.max?.map .int) xs
  | .min, xs => minV mh xs
  | .sorted, xs => one1 (sortedV mh) xs
  | .dict, xs => one1 (dictV mh) xs
  | .lset, xs => one1 (lsetV mh) xs
  | .flat, xs => one1 flatV xs
  | .repr, xs => one1 reprV xs
  | .dzip, xs => dzipV mh xs
mutual
/-- all live objects within have numbers below n -/
def bd (n : Nat) : MV → Bool
  | .tup xs => bds n xs
  | .lst xs => bds n xs
  | .dct _ vs => bds n vs
  | .loc l => decide (l < n)
  | .non => true
  | .bl _ => true
  | .int _ => true
  | .str _ => true
  | .fn _ => true
  | .scr _ => true
def bds (n : Nat) : List MV → Bool
  | [] => true
  | x :: xs => bd n x && bds n xs
end
/-- what may be written into the object l while a frame that began at base runs -/
def wr (base l : Nat) (x : MV) : Bool := decide (base ≤ l) || bd l x
def upperC (s : Sx) : Sx := (Txt.upper ⟨s.toArray⟩).cps.toList
/-- the live list l -/
def liveL (mh : MHp) (x : MV) : Option (Nat × List MV) := match x with
  | .loc l => match mh[l]? with
    | some (some (.lst xs)) => some (l, xs)
    | _ => none
  | _ => none
/-- the receiver's kind, ahead of the arguments -/
def tyM (mh : MHp) : Me → MV → Bool
  | .upper, .str _ => true
  | .append, x => (liveL mh x).isSome
  | .extend, x => (liveL mh x).isSome
  | .pop, x => (liveL mh x).isSome
  | .popAt, x => (liveL mh x).isSome
  | .get2, x => (getD mh x).isSome
  | .start2, .str _ => true
  | .join, .str _ => true
  | .index, x => (getL mh x).isSome
  | _, _ => false
/-- the items of a list or a tuple -/
def seqOf (mh : MHp) (x : MV) : Option (List MV) := match x with
  | .tup ys => some ys
  | x => getL mh x
def appV (base : Nat) (mh : MHp) (o : MV) (es : List MV) : Option (MV × MHp) := match liveL mh o, es with
  | some (l, xs), [x] => if wr base l x = true ∧ xs.length < line then some (.non, mh.set l (some (.lst (xs ++ [x])))) else none
  | _, _ => none
def extV (base : Nat) (mh : MHp) (o : MV) (es : List MV) : Option (MV × MHp) := match liveL mh o, es with
  | some (l, xs), [x] => match seqOf mh x with
    | some ys => if (ys.all (wr base l)) = true ∧ xs.length + ys.length ≤ line then some (.non, mh.set l (some (.lst (xs ++ ys)))) else none
    | none => none
  | _, _ => none
def popV (mh : MHp) (o : MV) (es : List MV) : Option (MV × MHp) := match liveL mh o, es with
  | some (l, xs), [] => (xs[xs.length - 1]?).map fun y => (y, mh.set l (some (.lst xs.dropLast)))
  | _, _ => none
def popAtV (mh : MHp) (o : MV) (es : List MV) : Option (MV × MHp) := match liveL mh o, es with
  | some (l, xs), [.int i] => if -(2 ^ 63) ≤ i ∧ i < 2 ^ 63 then (match seqIndex? i xs.length with
      | none => none
      | some k => (xs[k]?).map fun y => (y, mh.set l (some (.lst (xs.eraseIdx k))))) else none
  | _, _ => none
def uppV (mh : MHp) (o : MV) (es : List MV) : Option (MV × MHp) := match o, es with
  | .str s, [] => if s.length ≤ 5592405 then some (.str (upperC s), mh) else none
  | _, _ => none
def getV (mh : MHp) (o : MV) (es : List MV) : Option (MV × MHp) := match getD mh o, es with
  | some (ks, ms), [y, d] => (kyV y).map fun k => ((dLook ks ms k).getD d, mh)
  | _, _ => none
def startV (mh : MHp) (o : MV) (es : List MV) : Option (MV × MHp) := match o, es with
  | .str s, [.str t, .int i] => some (.bl (Txt.startswith3 ⟨s.toArray⟩ ⟨t.toArray⟩ i), mh)
  | _, _ => none
def joinV (mh : MHp) (o : MV) (es : List MV) : Option (MV × MHp) := match o, es with
  | .str s, [x] => match getL mh x with
    | some xs => match xs.mapM strOf with
      | some ss => if (ss.map List.length).sum + ss.length * s.length ≤ line then some (.str (Txt.join ⟨s.toArray⟩ (ss.map fun t => ⟨t.toArray⟩)).cps.toList, mh) else none
      | none => none
    | none => none
  | _, _ => none
/-- the first place of an equal one -/
def idxV (mh : MHp) (o : MV) (es : List MV) : Option (MV × MHp) := match es with
  | [x] => match frz 0 mh 8 o with
    | some (.lst ys) => match frz 0 mh 8 x with
      | some x' => if okD x' = true ∧ okD (.lst ys) = true then (ys.findIdx? fun z => eqD z x').map fun (j : Nat) => (.int (j : Int), mh) else none
      | none => none
    | _ => none
  | _ => none
/-- a list's truth, None's -/
def truM (mh : MHp) (x : MV) : Option Bool := match x with
  | .non => some false
  | x => (getL mh x).map fun xs => !xs.isEmpty
def methV (base : Nat) (mh : MHp) : Me → MV → List MV → Option (MV × MHp)
  | .append, o, es => appV base mh o es
  | .extend, o, es => extV base mh o es
  | .pop, o, es => popV mh o es
  | .popAt, o, es => popAtV mh o es
  | .upper, o, es => uppV mh o es
  | .get2, o, es => getV mh o es
  | .start2, o, es => startV mh o es
  | .join, o, es => joinV mh o es
  | .index, o, es => idxV mh o es
mutual
def asg (mh : MHp) : Tg → MV → Env → Option Env
  | .nm i, v, ρ => if i < ρ.length then some (ρ.set i (some v)) else none
  | .tp ts, v, ρ => match v with
    | .tup xs => asgs mh ts xs ρ
    | _ => none
def asgs (mh : MHp) : List Tg → List MV → Env → Option Env
  | [], [], ρ => some ρ
  | t :: ts, x :: xs, ρ => match asg mh t x ρ with
    | none => none
    | some ρ' => asgs mh ts xs ρ'
  | _, _, _ => none
end
def wipeE (ρ : Env) : List Nat → Env
  | [] => ρ
  | v :: vs => (wipeE ρ vs).set v none
/-- what a loop walks: the items; the live list that they are read from -/
structure Its where
  items : List MV
  src : Option Nat := none
def Its.ok (J : Its) (mh : MHp) : Prop := match J.src with
  | none => True
  | some l => mh[l]? = some (some (.lst J.items))
def itsOf (mh : MHp) : MV → Option Its
  | .tup xs => some ⟨xs, none⟩
  | .lst xs => some ⟨xs, none⟩
  | .str s => some ⟨s.map fun c => .str [c], none⟩
  | .dct ks _ => some ⟨ks.map kM, none⟩
  | .loc l => match mh[l]? with
    | some (some (.lst xs)) => some ⟨xs, some l⟩
    | _ => none
  | _ => none
open Classical in
noncomputable def compGo (J : Its) (f : MV → MHp → Option (Option MV × MHp)) : List MV → MHp → Option (List MV × MHp)
  | [], mh => if J.ok mh then some ([], mh) else none
  | x :: xs, mh => if J.ok mh then (match f x mh with
    | none => none
    | some (r, mh1) => match compGo J f xs mh1 with
      | none => none
      | some (rs, mh2) => some (r.toList ++ rs, mh2)) else none

inductive Fl where
  | nx | bk | ct | rt (v : MV)
open Classical in
noncomputable def forGo (J : Its) (f : MV → Env → MHp → Option (Fl × Env × MHp)) : List MV → Env → MHp → Option (Fl × Env × MHp)
  | [], ρ, mh => if J.ok mh then some (.nx, ρ, mh) else none
  | x :: xs, ρ, mh => if J.ok mh then (match f x ρ mh with
    | none => none
    | some (.nx, ρ1, mh1) => forGo J f xs ρ1 mh1
    | some (.ct, ρ1, mh1) => forGo J f xs ρ1 mh1
    | some (.bk, ρ1, mh1) => some (.nx, ρ1, mh1)
    | some (.rt v, ρ1, mh1) => some (.rt v, ρ1, mh1)) else none
def whileN (c : Env → MHp → Option (Bool × MHp)) (f : Env → MHp → Option (Fl × Env × MHp)) : Nat → Env → MHp → Option (Fl × Env × MHp)
  | 0, _, _ => none
  | n + 1, ρ, mh => match c ρ mh with
    | none => none
    | some (false, mh1) => some (.nx, ρ, mh1)
    | some (true, mh1) => match f ρ mh1 with
      | none => none
      | some (.nx, ρ1, mh2) => whileN c f n ρ1 mh2
      | some (.ct, ρ1, mh2) => whileN c f n ρ1 mh2
      | some (.bk, ρ1, mh2) => some (.nx, ρ1, mh2)
      | some (.rt v, ρ1, mh2) => some (.rt v, ρ1, mh2)
open Classical in
noncomputable def whileM (c : Env → MHp → Option (Bool × MHp)) (f : Env → MHp → Option (Fl × Env × MHp)) (ρ : Env) (mh : MHp) : Option (Fl × Env × MHp) :=
  if h : ∃ n, whileN c f n ρ mh ≠ none then whileN c f (Classical.choose h) ρ mh else none

/-- a def that runs in its caller's frame (an __init__), base the frame's: its number for a call -/
def icode (f b : Nat) : Nat := f + 100000 * (b + 1)
/-- what a field holds; a field's store -/
def lkF (f : Nat) : List (Nat × MV) → Option MV
  | [] => none
  | p :: r => if p.1 = f then some p.2 else lkF f r
def ptF (f : Nat) (v : MV) : List (Nat × MV) → List (Nat × MV)
  | [] => [(f, v)]
  | p :: r => if p.1 = f then (f, v) :: r else p :: ptF f v r
/-! ### the evaluator -/
section
variable (C : CallF) (base : Nat)
mutual
noncomputable def ev : ME → Env → MHp → Option (MV × MHp)
  | .var i, ρ, mh => match ρ[i]? with
    | some (some v) => some (v, mh)
    | _ => none
  | .c v, _, mh => some (v, mh)
  | .bin o a b, ρ, mh => match ev a ρ mh with
    | none => none
    | some (x, mh1) => match ev b ρ mh1 with
      | none => none
      | some (y, mh2) => (binV mh2 o x y).map (·, mh2)
  | .neg a, ρ, mh => match ev a ρ mh with
    | some (.int i, mh1) => some (.int (-i), mh1)
    | _ => none
  | .cmp o a b, ρ, mh => match ev a ρ mh with
    | none => none
    | some (x, mh1) => match ev b ρ mh1 with
      | none => none
      | some (y, mh2) => (cmpV mh2 o x y).map (.bl ·, mh2)
  | .chn o o' a b c, ρ, mh => match ev a ρ mh with
    | none => none
    | some (x, mh1) => match ev b ρ mh1 with
      | none => none
      | some (y, mh2) => match cmpV mh2 o x y with
        | none => none
        | some false => some (.bl false, mh2)
        | some true => match ev c ρ mh2 with
          | none => none
          | some (z, mh3) => (cmpV mh3 o' y z).map (.bl ·, mh3)
  | .and a b, ρ, mh => match ev a ρ mh with
    | some (.bl true, mh1) => ev b ρ mh1
    | some (.bl false, mh1) => some (.bl false, mh1)
    | _ => none
  | .or a b, ρ, mh => match ev a ρ mh with
    | some (.bl false, mh1) => ev b ρ mh1
    | some (.bl true, mh1) => some (.bl true, mh1)
    | _ => none
  | .not a, ρ, mh => match ev a ρ mh with
    | some (.bl b, mh1) => some (.bl (!b), mh1)
    | _ => none
  | .ite c a b, ρ, mh => match ev c ρ mh with
    | some (.bl true, mh1) => ev a ρ mh1
    | some (.bl false, mh1) => ev b ρ mh1
    | _ => none
  | .tup es, ρ, mh => match evs es ρ mh with
    | none => none
    | some (xs, mh1) => if xs.length ≤ line then some (.tup xs, mh1) else none
  | .lst es, ρ, mh => match evs es ρ mh with
    | none => none
    | some (xs, mh1) => if xs.length ≤ line then some (.lst xs, mh1) else none
  | .dnew, _, mh => some (.dct [] [], mh)
  | .call f es, ρ, mh => match evs es ρ mh with
    | none => none
    | some (xs, mh1) => C f xs mh1
  | .callv i es, ρ, mh => match ρ[i]? with
    | some (some (.fn f)) => match evs es ρ mh with
      | none => none
      | some (xs, mh1) => C f xs mh1
    | _ => none
  | .bi f es, ρ, mh => match evs es ρ mh with
    | none => none
    | some (xs, mh1) => (biV mh1 f xs).map (·, mh1)
  | .isi e t, ρ, mh => match ev e ρ mh with
    | none => none
    | some (x, mh1) => (isTy x t mh1).map (.bl ·, mh1)
  | .meth m o es, ρ, mh => match ev o ρ mh with
    | none => none
    | some (x, mh1) => if tyM mh1 m x = true then (match evs es ρ mh1 with
      | none => none
      | some (xs, mh2) => methV base mh2 m x xs) else none
  | .sub a i, ρ, mh => match ev a ρ mh with
    | none => none
    | some (x, mh1) => match ev i ρ mh1 with
      | none => none
      | some (y, mh2) => (subV mh2 x y).map (·, mh2)
  | .slcL a lo, ρ, mh => match ev a ρ mh with
    | none => none
    | some (x, mh1) => match ev lo ρ mh1 with
      | some (.int l, mh2) => (slcV mh2 x (some l) none).map (·, mh2)
      | _ => none
  | .slcH a hi, ρ, mh => match ev a ρ mh with
    | none => none
    | some (x, mh1) => match ev hi ρ mh1 with
      | some (.int l, mh2) => (slcV mh2 x none (some l)).map (·, mh2)
      | _ => none
  | .slcB a lo hi, ρ, mh => match ev a ρ mh with
    | none => none
    | some (x, mh1) => match ev lo ρ mh1 with
      | some (.int l, mh2) => match ev hi ρ mh2 with
        | some (.int h, mh3) => (slcV mh3 x (some l) (some h)).map (·, mh3)
        | _ => none
      | _ => none
  | .rev a, ρ, mh => match ev a ρ mh with
    | some (.tup xs, mh1) => some (.tup xs.reverse, mh1)
    | some (.lst xs, mh1) => some (.lst xs.reverse, mh1)
    | _ => none
  | .comp tg own it cond e, ρ, mh => match evI it ρ mh with
    | none => none
    | some (J, mh1) => if J.items.length ≤ line then (match compGo J (fun x mh2 => match asg mh2 tg x (wipeE ρ own) with
        | none => none
        | some ρ' => match ev cond ρ' mh2 with
          | some (.bl true, mh3) => match ev e ρ' mh3 with
            | none => none
            | some (y, mh4) => some (some y, mh4)
          | some (.bl false, mh3) => some (none, mh3)
          | _ => none) J.items mh1 with
      | none => none
      | some (ys, mh5) => some (.lst ys, mh5)) else none
  | .al e, ρ, mh => match ev e ρ mh with
    | some (.lst xs, mh1) => some (.loc mh1.length, mh1 ++ [some (.lst xs)])
    | some (.dct ks vs, mh1) => some (.loc mh1.length, mh1 ++ [some (.dct ks vs)])
    | _ => none
  | .disp1 k v, ρ, mh => match ev k ρ mh with
    | none => none
    | some (x, mh1) => match ev v ρ mh1 with
      | none => none
      | some (y, mh2) => (kyV x).map fun k => (.dct [k] [y], mh2)
  | .orv a b, ρ, mh => match ev a ρ mh with
    | none => none
    | some (x, mh1) => match truM mh1 x with
      | some true => some (x, mh1)
      | some false => ev b ρ mh1
      | none => none
  | .lzip a b, ρ, mh => match ev a ρ mh with
    | some (.tup xs, mh1) => match ev b ρ mh1 with
      | some (.tup ys, mh2) => if xs.length ≤ 1000000 ∧ ys.length ≤ 1000000 then some (.lst (List.zipWith (fun x y => .tup [x, y]) xs ys), mh2) else none
      | _ => none
    | _ => none
  | .dcomp tg own it cond k e, ρ, mh => match evI it ρ mh with
    | none => none
    | some (J, mh1) => if J.items.length ≤ line then (match compGo J (fun x mh2 => match asg mh2 tg x (wipeE ρ own) with
        | none => none
        | some ρ' => match ev cond ρ' mh2 with
          | some (.bl true, mh3) => match ev k ρ' mh3 with
            | none => none
            | some (z, mh4) => match ev e ρ' mh4 with
              | none => none
              | some (y, mh5) => some (some (.tup [z, y]), mh5)
          | some (.bl false, mh3) => some (none, mh3)
          | _ => none) J.items mh1 with
      | none => none
      | some (ys, mh5) => match ys.mapM pairK with
        | some ps => some (.dct (dFold ps [] []).1 (dFold ps [] []).2, mh5)
        | none => none) else none
  | .disp2 k v k' v', ρ, mh => match ev k ρ mh with
    | none => none
    | some (x, mh1) => match ev v ρ mh1 with
      | none => none
      | some (y, mh2) => match ev k' ρ mh2 with
        | none => none
        | some (x', mh3) => match ev v' ρ mh3 with
          | none => none
          | some (y', mh4) => match kyV x, kyV x' with
            | some a, some b => if a = b then none else some (.dct [a, b] [y, y'], mh4)
            | _, _ => none
  | .fld e f, ρ, mh => match ev e ρ mh with
    | some (.loc l, mh1) => match mh1[l]? with
      | some (some (.ins _ fs)) => (lkF f fs).map (·, mh1)
      | _ => none
    | _ => none
  | .mk c i es, ρ, mh => match evs es ρ mh with
    | none => none
    | some (xs, mh1) => match C (icode i base) (.loc mh1.length :: xs) (mh1 ++ [some (.ins c [])]) with
      | some (.non, mh2) => some (.loc mh1.length, mh2)
      | _ => none
  | .mc c m o es, ρ, mh => match ev o ρ mh with
    | some (.loc l, mh1) => match mh1[l]? with
      | some (some (.ins c' _)) => if c' = c then (match evs es ρ mh1 with
        | none => none
        | some (xs, mh2) => C m (.loc l :: xs) mh2) else none
      | _ => none
    | _ => none
  | .rng1 _, _, _ => none
  | .rng2 .., _, _ => none
  | .zip .., _, _ => none
noncomputable def evs : List ME → Env → MHp → Option (List MV × MHp)
  | [], _, mh => some ([], mh)
  | e :: es, ρ, mh => match ev e ρ mh with
    | none => none
    | some (x, mh1) => match evs es ρ mh1 with
      | none => none
      | some (xs, mh2) => some (x :: xs, mh2)
noncomputable def evI : ME → Env → MHp → Option (Its × MHp)
  | .rng1 a, ρ, mh => match ev a ρ mh with
    | some (.int n, mh1) => if -(2 ^ 62) ≤ n ∧ n < 2 ^ 62 then some (⟨(List.range n.toNat).map fun (k : Nat) => .int (k : Int), none⟩, mh1) else none
    | _ => none
  | .rng2 a b, ρ, mh => match ev a ρ mh with
    | some (.int i, mh1) => match ev b ρ mh1 with
      | some (.int j, mh2) => if -(2 ^ 62) ≤ i ∧ i < 2 ^ 62 ∧ -(2 ^ 62) ≤ j ∧ j < 2 ^ 62 then some (⟨(List.range (j - i).toNat).map fun (k : Nat) => .int (i + (k : Int)), none⟩, mh2) else none
      | _ => none
    | _ => none
  | e, ρ, mh => match ev e ρ mh with
    | none => none
    | some (v, mh1) => (itsOf mh1 v).map (·, mh1)
end
mutual
noncomputable def ex : MS → Env → MHp → Option (Fl × Env × MHp)
  | .ex e, ρ, mh => match ev C base e ρ mh with
    | none => none
    | some (_, mh1) => some (.nx, ρ, mh1)
  | .set t e, ρ, mh => match ev C base e ρ mh with
    | none => none
    | some (v, mh1) => match asg mh1 t v ρ with
      | none => none
      | some ρ' => some (.nx, ρ', mh1)
  | .par i j a b, ρ, mh => match ev C base a ρ mh with
    | none => none
    | some (x, mh1) => match ev C base b ρ mh1 with
      | none => none
      | some (y, mh2) => if i < ρ.length ∧ j < ρ.length then some (.nx, (ρ.set i (some x)).set j (some y), mh2) else none
  | .par3 i j l a b c, ρ, mh => match ev C base a ρ mh with
    | none => none
    | some (x, mh1) => match ev C base b ρ mh1 with
      | none => none
      | some (y, mh2) => match ev C base c ρ mh2 with
        | none => none
        | some (z, mh3) => if i < ρ.length ∧ j < ρ.length ∧ l < ρ.length then some (.nx, ((ρ.set i (some x)).set j (some y)).set l (some z), mh3) else none
  | .ret e, ρ, mh => match ev C base e ρ mh with
    | none => none
    | some (v, mh1) => some (.rt v, ρ, mh1)
  | .ite c a b, ρ, mh => match ev C base c ρ mh with
    | some (.bl true, mh1) => exs a ρ mh1
    | some (.bl false, mh1) => exs b ρ mh1
    | _ => none
  | .for t it body, ρ, mh => match evI C base it ρ mh with
    | none => none
    | some (J, mh1) => forGo J (fun x ρ1 mh2 => match asg mh2 t x ρ1 with
      | none => none
      | some ρ2 => exs body ρ2 mh2) J.items ρ mh1
  | .while c body, ρ, mh => whileM (fun ρ1 mh1 => match ev C base c ρ1 mh1 with
      | some (.bl b, mh2) => some (b, mh2)
      | _ => none) (fun ρ1 mh1 => exs body ρ1 mh1) ρ mh
  | .sti o i e, ρ, mh => match ev C base e ρ mh with
    | none => none
    | some (v, mh1) => match ev C base o ρ mh1 with
      | some (.loc l, mh2) => match ev C base i ρ mh2 with
        | some (.int k, mh3) => match mh3[l]? with
          | some (some (.lst xs)) => match L2.ixN xs.length k with
            | none => none
            | some j => if wr base l v = true then some (.nx, ρ, mh3.set l (some (.lst (xs.set j v)))) else none
          | some (some (.dct ks ms)) => if wr base l v = true ∧ ks.length < line then some (.nx, ρ, mh3.set l (some (.dct (dPutK ks (.inl k)) (dPutV ks ms (.inl k) v)))) else none
          | _ => none
        | some (.str s, mh3) => match mh3[l]? with
          | some (some (.dct ks ms)) => if wr base l v = true ∧ ks.length < line then some (.nx, ρ, mh3.set l (some (.dct (dPutK ks (.inr s)) (dPutV ks ms (.inr s) v)))) else none
          | _ => none
        | _ => none
      | _ => none
  | .aug i o e, ρ, mh => match ρ[i]? with
    | some (some (.int x)) => match ev C base e ρ mh with
      | some (.int y, mh1) => match o with
        | .add => some (.nx, ρ.set i (some (.int (x + y))), mh1)
        | .sub => some (.nx, ρ.set i (some (.int (x - y))), mh1)
        | _ => none
      | _ => none
    | _ => none
  | .stf o f e, ρ, mh => match ev C base e ρ mh with
    | none => none
    | some (v, mh1) => match ev C base o ρ mh1 with
      | some (.loc l, mh2) => match mh2[l]? with
        | some (some (.ins c fs)) => if wr base l v = true ∧ fs.length < 900 then some (.nx, ρ, mh2.set l (some (.ins c (ptF f v fs)))) else none
        | _ => none
      | _ => none
  | .nev, _, _ => none
  | .pass, ρ, mh => some (.nx, ρ, mh)
  | .brk, ρ, mh => some (.bk, ρ, mh)
  | .cnt, ρ, mh => some (.ct, ρ, mh)
noncomputable def exs : List MS → Env → MHp → Option (Fl × Env × MHp)
  | [], ρ, mh => some (.nx, ρ, mh)
  | s :: ss, ρ, mh => match ex s ρ mh with
    | some (.nx, ρ1, mh1) => exs ss ρ1 mh1
    | r => r
end
end
/-- a def: its parameters' number, its names' number, whether what it makes stays live, its body -/
structure Df where
  np : Nat
  ns : Nat
  live : Bool
  body : List MS
def endV : Fl → Option MV
  | .nx => some .non
  | .rt v => some v
  | _ => none
noncomputable def runD (C : CallF) (d : Df) (args : List MV) (mh : MHp) : Option (MV × MHp) :=
  if args.length = d.np then
    match exs C mh.length d.body (args.map some ++ List.replicate (d.ns - d.np) none) mh with
    | none => none
    | some (fl, _, mh1) => match endV fl with
      | none => none
      | some v => if d.live = true then some (v, mh1) else (frz mh.length mh1 8 v).map (·, mh1.take mh.length)
  else none
/-- a def that runs in the frame of number base -/
noncomputable def runI (C : CallF) (base : Nat) (d : Df) (args : List MV) (mh : MHp) : Option (MV × MHp) :=
  if args.length = d.np then
    match exs C base d.body (args.map some ++ List.replicate (d.ns - d.np) none) mh with
    | none => none
    | some (fl, _, mh1) => (endV fl).map (·, mh1)
  else none
noncomputable def callM (T : List Df) : Nat → CallF
  | 0, _, _, _ => none
  | k + 1, f, args, mh => match T[f]? with
    | none => if 100000 ≤ f then (match T[f % 100000]? with
      | none => none
      | some d => runI (callM T k) (f / 100000 - 1) d args mh) else none
    | some d => runD (callM T k) d args mh
end L2.Mi

set_option Elab.async false
set_option linter.all false
set_option maxRecDepth 100000
set_option maxHeartbeats 4000000
/-! Mini2: how values and the little heap stand for the layer's; what is kept. -/
namespace L2.Mi
open PySem PySem.Spec PyProof.Rows

structure Wd where
  H : Hp
  β : List Addr
  mh : MHp
  ex : List Addr
  bs : List Nat
def Wd.base (W : Wd) : Nat := W.bs.headD 0
structure Gb where
  K : PySem.W.Frag
  fa : Nat → Option Addr
  cl : Nat → Option Addr := fun _ => none
  fl : Nat → Str := fun _ => Str.empty
def Wd.live (W : Wd) (a : Addr) : Prop := ∃ (l : Nat) (o : MO), W.mh[l]? = some (some o) ∧ W.β[l]? = some a
def kOf : MKey → Key
  | .inl i => .inl i
  | .inr s => .inr ⟨s.toArray⟩
abbrev noH : Hp := fun _ => none
mutual
def Rep (G : Gb) (W : Wd) : MV → V → Prop
  | .non, v => v = .non
  | .bl b, v => v = .bl b
  | .int i, v => v = .int i
  | .str s, v => v = .str ⟨s.toArray⟩
  | .fn f, v => ∃ a, G.fa f = some a ∧ v = .ref a
  | .tup xs, v => ∃ a vs, v = .ref a ∧ SqT G.K W.H a vs ∧ Reps G W xs vs
  | .lst xs, v => ∃ a vs, v = .ref a ∧ W.H a = some (.lst vs) ∧ (¬ W.live a ∧ a ∉ W.ex) ∧ Reps G W xs vs
  | .dct ks ms, v => ∃ a vs, v = .ref a ∧ Rd W.H a (.dK ((ks.map kOf).zip vs)) ∧ (¬ W.live a ∧ a ∉ W.ex) ∧ ks.length = ms.length ∧ Reps G W ms vs
  | .loc l, v => ∃ a, v = .ref a ∧ W.β[l]? = some a
  | .scr ns, v => ∃ a, v = .ref a ∧ ((Rd W.H a (.lst (ns.map .int)) ∧ ¬ W.live a ∧ a ∉ W.ex) ∨ SqL G.K noH a (ns.map .int))
def Reps (G : Gb) (W : Wd) : List MV → List V → Prop
  | [], vs => vs = []
  | x :: xs, vs => ∃ v r, vs = v :: r ∧ Rep G W x v ∧ Reps G W xs r
end
def ORep (G : Gb) (W : Wd) : MO → Addr → Prop
  | .lst xs, a => ∃ vs, W.H a = some (.lst vs) ∧ Reps G W xs vs
  | .dct ks ms, a => ∃ vs, W.H a = some (.dK ((ks.map kOf).zip vs)) ∧ ks.length = ms.length ∧ Reps G W ms vs
  | .ins c fs, a => ∃ Ca dx vs, G.cl c = some Ca ∧ W.H a = some (.ins Ca dx ((fs.map fun p => G.fl p.1).zip vs)) ∧ Reps G W (fs.map Prod.snd) vs
def obd (n : Nat) : MO → Bool
  | .lst xs => bds n xs
  | .dct _ vs => bds n vs
  | .ins _ fs => bds n (fs.map Prod.snd)
def NoTup (u : HO) : Prop := (∀ xs, u ≠ .tup xs) ∧ ∀ o v, u ≠ .frz o v
structure Sim (G : Gb) (W : Wd) : Prop where
  len : W.β.length = W.mh.length
  ble : ∀ b ∈ W.bs, b ≤ W.mh.length
  top : ∀ b ∈ W.bs, b ≤ W.base
  obj : ∀ (l : Nat) (o : MO), W.mh[l]? = some (some o) → ∀ a, W.β[l]? = some a → ORep G W o a
  inj : ∀ (l l' : Nat) (a : Addr) (o o' : MO), W.mh[l]? = some (some o) → W.mh[l']? = some (some o') → W.β[l]? = some a → W.β[l']? = some a → l = l'
  exo : ∀ a ∈ W.ex, ∃ u, W.H a = some u ∧ NoTup u
  exl : ∀ a ∈ W.ex, ¬ W.live a
  bnd : ∀ b ∈ W.bs, ∀ (l : Nat) (o : MO), l < b → W.mh[l]? = some (some o) → obd b o = true
/-- what stands at a place stays; a dict may be locked -/
def Sm (o u : HO) : Prop := u = o ∨ ∃ q kvs, o = .dK kvs ∧ u = .frz q (.dK kvs)
structure Keep (A B : Wd) : Prop where
  ex : ∀ a ∈ A.ex, a ∈ B.ex
  exn : ∀ a ∈ B.ex, a ∈ A.ex ∨ A.H a = none
  dom : ∀ a, A.H a ≠ none → B.H a ≠ none
  bs : B.bs = A.bs
  pre : ∃ t, B.β = A.β ++ t
  obj : ∀ a o, A.H a = some o → ¬ A.live a → ∃ u, B.H a = some u ∧ Sm o u
  liv : ∀ a, B.live a → A.live a ∨ A.H a = none
  exk : ∀ a ∈ A.ex, ∀ o, A.H a = some o → ¬ A.live a → B.H a = some o

theorem ORep.at {G : Gb} {W : Wd} {o : MO} {a : Addr} (h : ORep G W o a) : ∃ u, W.H a = some u ∧ NoTup u := by
  cases o with
  | lst xs => obtain ⟨vs, e, _⟩ := h; exact ⟨_, e, ⟨(fun _ z => nomatch z), (fun _ _ z => nomatch z)⟩⟩
  | dct ks ms => obtain ⟨vs, e, _⟩ := h; exact ⟨_, e, ⟨(fun _ z => nomatch z), (fun _ _ z => nomatch z)⟩⟩
  | ins c fs => obtain ⟨Ca, dx, vs, _, e, _⟩ := h; exact ⟨_, e, ⟨(fun _ z => nomatch z), (fun _ _ z => nomatch z)⟩⟩
theorem Sim.liveAt {G : Gb} {W : Wd} (S : Sim G W) {a : Addr} (h : W.live a) : ∃ u, W.H a = some u ∧ NoTup u := by
  obtain ⟨l, o, e1, e2⟩ := h
  exact (S.obj l o e1 a e2).at
theorem SqT_cases {K : PySem.W.Frag} {H H' : Hp} {a : Addr} {vs : List V} (h : SqT K H a vs) (k : ∀ u, H a = some u → ¬ NoTup u → H' a = some u) : SqT K H' a vs := by
  rcases h with (h | ⟨o, h⟩) | h
  · exact .inl (.inl (k _ h fun z => z.1 _ rfl))
  · exact .inl (.inr ⟨o, k _ h fun z => z.2 _ _ rfl⟩)
  · exact .inr h
theorem Keep.obj' {A B : Wd} (k : Keep A B) {a : Addr} {o : HO} (e : A.H a = some o) (n : ¬ A.live a) (hd : ∀ kvs, o ≠ .dK kvs) : B.H a = some o := by
  obtain ⟨u, e', rfl | ⟨q, kvs, z, _⟩⟩ := k.obj a o e n
  · exact e'
  · exact absurd z (hd kvs)
theorem Keep.tup {G : Gb} {A B : Wd} (S : Sim G A) (k : Keep A B) {a : Addr} {vs : List V} (h : SqT G.K A.H a vs) : SqT G.K B.H a vs :=
  SqT_cases h fun u e n => k.obj' e (fun z => by
    obtain ⟨w, e', n'⟩ := S.liveAt z
    rw [e] at e'; cases e'
    exact n n') fun kvs z => n (by subst z; exact ⟨(fun _ z => nomatch z), (fun _ _ z => nomatch z)⟩)
theorem Keep.off1 {A B : Wd} (k : Keep A B) {a : Addr} {u : HO} (e : A.H a = some u) (n : ¬ A.live a ∧ a ∉ A.ex) : ¬ B.live a ∧ a ∉ B.ex := by
  refine ⟨fun z => ?_, fun z => (k.exn a z).elim n.2 fun z => by rw [e] at z; cases z⟩
  rcases k.liv a z with z | z
  · exact n.1 z
  · rw [e] at z; cases z
theorem Keep.off {A B : Wd} (k : Keep A B) {a : Addr} {u : HO} (e : A.H a = some u) (n : ¬ A.live a ∧ a ∉ A.ex) (hd : ∀ kvs, u ≠ .dK kvs) : B.H a = some u ∧ ¬ B.live a ∧ a ∉ B.ex := ⟨k.obj' e n.1 hd, k.off1 e n⟩
theorem Keep.dct {A B : Wd} (k : Keep A B) {a : Addr} {kvs : List (Key × V)} (e : Rd A.H a (.dK kvs)) (n : ¬ A.live a ∧ a ∉ A.ex) : Rd B.H a (.dK kvs) ∧ ¬ B.live a ∧ a ∉ B.ex := by
  rcases e with e | ⟨o, e⟩
  · refine ⟨?_, k.off1 e n⟩
    obtain ⟨u, e', rfl | ⟨q, kvs', z, rfl⟩⟩ := k.obj a _ e n.1
    · exact .inl e'
    · cases z; exact .inr ⟨q, e'⟩
  · obtain ⟨q1, q2⟩ := k.off e n (fun _ z => nomatch z)
    exact ⟨.inr ⟨o, q1⟩, q2⟩
theorem pre_get {α : Type} {xs t : List α} {l : Nat} {a : α} (h : xs[l]? = some a) : (xs ++ t)[l]? = some a := by
  rw [List.getElem?_append_left (List.getElem?_eq_some_iff.mp h).1]; exact h
mutual
theorem Rep.keep {G : Gb} {A B : Wd} (S : Sim G A) (k : Keep A B) : ∀ (x : MV) (v : V), Rep G A x v → Rep G B x v
  | .non, v, h => h
  | .bl b, v, h => h
  | .int i, v, h => h
  | .str s, v, h => h
  | .fn f, v, h => h
  | .tup xs, v, h => by
    unfold Rep at h ⊢
    obtain ⟨a, vs, e, h1, h2⟩ := h
    exact ⟨a, vs, e, k.tup S h1, Reps.keep S k xs vs h2⟩
  | .lst xs, v, h => by
    unfold Rep at h ⊢
    obtain ⟨a, vs, e, h1, h2, h3⟩ := h
    obtain ⟨q1, q2⟩ := k.off h1 h2 (fun _ z => nomatch z)
    exact ⟨a, vs, e, q1, q2, Reps.keep S k xs vs h3⟩
  | .dct ks ms, v, h => by
    unfold Rep at h ⊢
    obtain ⟨a, vs, e, h1, h2, h3, h4⟩ := h
    obtain ⟨q1, q2⟩ := k.dct h1 h2
    exact ⟨a, vs, e, q1, q2, h3, Reps.keep S k ms vs h4⟩
  | .loc l, v, h => by
    unfold Rep at h ⊢
    obtain ⟨a, e, h1⟩ := h
    obtain ⟨t, ht⟩ := k.pre
    exact ⟨a, e, by rw [ht]; exact pre_get h1⟩
  | .scr ns, v, h => by
    unfold Rep at h ⊢
    obtain ⟨a, e, h1⟩ := h
    refine ⟨a, e, ?_⟩
    rcases h1 with ⟨h1, h2⟩ | h1
    · rcases h1 with h1 | ⟨o, h1⟩
      · obtain ⟨q1, q2⟩ := k.off h1 h2 (fun _ z => nomatch z)
        exact .inl ⟨.inl q1, q2⟩
      · obtain ⟨q1, q2⟩ := k.off h1 h2 (fun _ z => nomatch z)
        exact .inl ⟨.inr ⟨o, q1⟩, q2⟩
    · exact .inr h1
theorem Reps.keep {G : Gb} {A B : Wd} (S : Sim G A) (k : Keep A B) : ∀ (xs : List MV) (vs : List V), Reps G A xs vs → Reps G B xs vs
  | [], vs, h => h
  | x :: xs, vs, h => by
    unfold Reps at h ⊢
    obtain ⟨v, r, e, h1, h2⟩ := h
    exact ⟨v, r, e, Rep.keep S k x v h1, Reps.keep S k xs r h2⟩
end
theorem Reps.len {G : Gb} {W : Wd} : ∀ {xs : List MV} {vs : List V}, Reps G W xs vs → xs.length = vs.length
  | [], vs, h => by unfold Reps at h; subst h; rfl
  | x :: xs, vs, h => by
    unfold Reps at h
    obtain ⟨v, r, rfl, _, h2⟩ := h
    rw [List.length_cons, List.length_cons, Reps.len h2]
theorem Reps.app {G : Gb} {W : Wd} : ∀ {xs ys : List MV} {vs ws : List V}, Reps G W xs vs → Reps G W ys ws → Reps G W (xs ++ ys) (vs ++ ws)
  | [], ys, vs, ws, h, h' => by unfold Reps at h; subst h; exact h'
  | x :: xs, ys, vs, ws, h, h' => by
    unfold Reps at h
    obtain ⟨v, r, rfl, h1, h2⟩ := h
    show Reps G W (x :: (xs ++ ys)) (v :: (r ++ ws))
    unfold Reps
    exact ⟨v, _, rfl, h1, Reps.app h2 h'⟩
theorem Reps.one {G : Gb} {W : Wd} {x : MV} {v : V} (h : Rep G W x v) : Reps G W [x] [v] := by
  unfold Reps
  exact ⟨v, [], rfl, h, by unfold Reps; rfl⟩
theorem Reps.get {G : Gb} {W : Wd} : ∀ {xs : List MV} {vs : List V} {i : Nat} {x : MV}, Reps G W xs vs → xs[i]? = some x → ∃ v, vs[i]? = some v ∧ Rep G W x v
  | [], vs, i, x, h, e => by simp at e
  | y :: xs, vs, i, x, h, e => by
    unfold Reps at h
    obtain ⟨v, r, rfl, h1, h2⟩ := h
    cases i with
    | zero => simp at e; subst e; exact ⟨v, rfl, h1⟩
    | succ i =>
      simp only [List.getElem?_cons_succ] at e ⊢
      exact Reps.get h2 e
theorem Reps.all {G : Gb} {W : Wd} : ∀ {xs : List MV} {vs : List V} (f : MV → MV → Prop), Reps G W xs vs → True := fun _ _ => trivial
theorem Reps.of {G : Gb} {W : Wd} : ∀ {xs : List MV} {vs : List V}, xs.length = vs.length → (∀ (i : Nat) x v, xs[i]? = some x → vs[i]? = some v → Rep G W x v) → Reps G W xs vs
  | [], vs, hl, _ => by
    unfold Reps
    cases vs with
    | nil => rfl
    | cons => simp at hl
  | x :: xs, [], hl, _ => by simp at hl
  | x :: xs, v :: vs, hl, h => by
    unfold Reps
    exact ⟨v, vs, rfl, h 0 x v rfl rfl, Reps.of (by simpa using hl) fun i x' v' e1 e2 => h (i + 1) x' v' (by simpa using e1) (by simpa using e2)⟩
theorem Reps.at {G : Gb} {W : Wd} {xs : List MV} {vs : List V} (h : Reps G W xs vs) {i : Nat} {x : MV} {v : V} (e1 : xs[i]? = some x) (e2 : vs[i]? = some v) : Rep G W x v := by
  obtain ⟨v', q, r⟩ := h.get e1
  have : v = v' := Option.some.inj (e2.symm.trans q)
  subst this
  exact r
theorem Reps.set {G : Gb} {W : Wd} {xs : List MV} {vs : List V} (h : Reps G W xs vs) {x : MV} {v : V} (r : Rep G W x v) (j : Nat) : Reps G W (xs.set j x) (vs.set j v) := by
  refine Reps.of (by rw [List.length_set, List.length_set]; exact h.len) fun i y w e1 e2 => ?_
  by_cases hij : j = i
  · subst hij
    have l1 := (List.getElem?_eq_some_iff.mp e1).1
    have l2 := (List.getElem?_eq_some_iff.mp e2).1
    rw [List.length_set] at l1 l2
    rw [List.getElem?_set_self l1] at e1
    rw [List.getElem?_set_self l2] at e2
    cases e1; cases e2; exact r
  · rw [List.getElem?_set_ne hij] at e1 e2
    exact h.at e1 e2
theorem Reps.take {G : Gb} {W : Wd} {xs : List MV} {vs : List V} (h : Reps G W xs vs) (n : Nat) : Reps G W (xs.take n) (vs.take n) := by
  refine Reps.of (by rw [List.length_take, List.length_take, h.len]) fun i y w e1 e2 => ?_
  rw [List.getElem?_take] at e1 e2
  by_cases hn : i < n
  · rw [if_pos hn] at e1 e2
    exact h.at e1 e2
  · rw [if_neg hn] at e1
    cases e1
theorem Reps.drop {G : Gb} {W : Wd} {xs : List MV} {vs : List V} (h : Reps G W xs vs) (n : Nat) : Reps G W (xs.drop n) (vs.drop n) := by
  refine Reps.of (by rw [List.length_drop, List.length_drop, h.len]) fun i y w e1 e2 => ?_
  rw [List.getElem?_drop] at e1 e2
  exact h.at e1 e2
theorem Reps.eraseIdx {G : Gb} {W : Wd} {xs : List MV} {vs : List V} (h : Reps G W xs vs) (n : Nat) : Reps G W (xs.eraseIdx n) (vs.eraseIdx n) := by
  rw [List.eraseIdx_eq_take_drop_succ, List.eraseIdx_eq_take_drop_succ]
  exact (h.take n).app (h.drop (n + 1))
theorem Reps.dropLast {G : Gb} {W : Wd} {xs : List MV} {vs : List V} (h : Reps G W xs vs) : Reps G W xs.dropLast vs.dropLast := by
  rw [List.dropLast_eq_take, List.dropLast_eq_take, h.len]
  exact h.take _

/-! ### what is kept -/
theorem Keep.refl (A : Wd) : Keep A A := ⟨fun _ h => h, fun _ h => .inl h, fun _ h => h, rfl, ⟨[], by simp⟩, fun _ _ h _ => ⟨_, h, .inl rfl⟩, fun _ h => .inl h, fun _ _ _ h _ => h⟩
theorem Keep.trans {A B C : Wd} (k : Keep A B) (k' : Keep B C) : Keep A C where
  ex := fun a h => k'.ex a (k.ex a h)
  exn := fun a h => (k'.exn a h).elim (fun h => k.exn a h) fun h => .inr (Classical.byContradiction fun n => k.dom a n h)
  dom := fun a h => k'.dom a (k.dom a h)
  bs := k'.bs.trans k.bs
  pre := by
    obtain ⟨t, e⟩ := k.pre
    obtain ⟨t', e'⟩ := k'.pre
    exact ⟨t ++ t', by rw [e', e, List.append_assoc]⟩
  obj := fun a o h n => by
    have nl : ¬ B.live a := fun z => (k.liv a z).elim n fun z => by rw [h] at z; cases z
    obtain ⟨u, e1, s1⟩ := k.obj a o h n
    obtain ⟨u', e2, s2⟩ := k'.obj a u e1 nl
    refine ⟨u', e2, ?_⟩
    rcases s1 with rfl | ⟨q, kvs, rfl, rfl⟩
    · exact s2
    · rcases s2 with rfl | ⟨q', kvs', z, _⟩
      · exact .inr ⟨q, kvs, rfl, rfl⟩
      · cases z
  liv := fun a z => (k'.liv a z).elim (fun z => k.liv a z) fun z => by
    cases e : A.H a with
    | none => exact .inr rfl
    | some o =>
      refine .inl (Classical.byContradiction fun n => ?_)
      obtain ⟨u, this, _⟩ := k.obj a o e n
      rw [z] at this; cases this
  exk := fun a ha o h n => k'.exk a (k.ex a ha) o (k.exk a ha o h n) fun z => (k.liv a z).elim n fun z => by rw [h] at z; cases z
abbrev Wd.up (W : Wd) (p : Addr) (o : HO) : Wd := { W with H := upd W.H p o }
/-- the same but for what stands hidden: that may have changed -/
structure KeepW (A B : Wd) : Prop where
  exn : ∀ a ∈ B.ex, a ∈ A.ex ∨ A.H a = none
  dom : ∀ a, A.H a ≠ none → B.H a ≠ none
  bs : B.bs = A.bs
  pre : ∃ t, B.β = A.β ++ t
  obj : ∀ a o, A.H a = some o → ¬ A.live a → a ∉ A.ex → ∃ u, B.H a = some u ∧ Sm o u
  liv : ∀ a, B.live a → A.live a ∨ A.H a = none
theorem Keep.w {A B : Wd} (k : Keep A B) : KeepW A B := ⟨k.exn, k.dom, k.bs, k.pre, fun a o e n _ => k.obj a o e n, k.liv⟩
theorem KeepW.step {A B C : Wd} (k : KeepW A B) (k' : Keep B C) : KeepW A C where
  exn := fun a h => (k'.exn a h).elim (fun h => k.exn a h) fun h => .inr (Classical.byContradiction fun n => k.dom a n h)
  dom := fun a h => k'.dom a (k.dom a h)
  bs := k'.bs.trans k.bs
  pre := by
    obtain ⟨t, e⟩ := k.pre
    obtain ⟨t', e'⟩ := k'.pre
    exact ⟨t ++ t', by rw [e', e, List.append_assoc]⟩
  obj := fun a o h n x => by
    have nl : ¬ B.live a := fun z => (k.liv a z).elim n fun z => by rw [h] at z; cases z
    obtain ⟨u, e1, s1⟩ := k.obj a o h n x
    obtain ⟨u', e2, s2⟩ := k'.obj a u e1 nl
    refine ⟨u', e2, ?_⟩
    rcases s1 with rfl | ⟨q, kvs, rfl, rfl⟩
    · exact s2
    · rcases s2 with rfl | ⟨q', kvs', z, _⟩
      · exact .inr ⟨q, kvs, rfl, rfl⟩
      · cases z
  liv := fun a z => (k'.liv a z).elim (fun z => k.liv a z) fun z => by
    cases e : A.H a with
    | none => exact .inr rfl
    | some o => exact absurd z (k.dom a (by rw [e]; exact fun z => nomatch z))
theorem KeepW.obj' {A B : Wd} (k : KeepW A B) {a : Addr} {o : HO} (e : A.H a = some o) (n : ¬ A.live a) (x : a ∉ A.ex) (hd : ∀ kvs, o ≠ .dK kvs) : B.H a = some o := by
  obtain ⟨u, e', rfl | ⟨q, kvs, z, _⟩⟩ := k.obj a o e n x
  · exact e'
  · exact absurd z (hd kvs)
theorem KeepW.tup {G : Gb} {A B : Wd} (S : Sim G A) (k : KeepW A B) {a : Addr} {vs : List V} (h : SqT G.K A.H a vs) : SqT G.K B.H a vs :=
  SqT_cases h fun u e n => k.obj' e (fun z => by
    obtain ⟨w, e', n'⟩ := S.liveAt z
    rw [e] at e'; cases e'
    exact n n') (fun z => by
    obtain ⟨w, e', n'⟩ := S.exo a z
    rw [e] at e'; cases e'
    exact n n') fun kvs z => n (by subst z; exact ⟨(fun _ z => nomatch z), (fun _ _ z => nomatch z)⟩)
theorem KeepW.off1 {A B : Wd} (k : KeepW A B) {a : Addr} {u : HO} (e : A.H a = some u) (n : ¬ A.live a ∧ a ∉ A.ex) : ¬ B.live a ∧ a ∉ B.ex := by
  refine ⟨fun z => ?_, fun z => (k.exn a z).elim n.2 fun z => by rw [e] at z; cases z⟩
  rcases k.liv a z with z | z
  · exact n.1 z
  · rw [e] at z; cases z
theorem KeepW.off {A B : Wd} (k : KeepW A B) {a : Addr} {u : HO} (e : A.H a = some u) (n : ¬ A.live a ∧ a ∉ A.ex) (hd : ∀ kvs, u ≠ .dK kvs) : B.H a = some u ∧ ¬ B.live a ∧ a ∉ B.ex := ⟨k.obj' e n.1 n.2 hd, k.off1 e n⟩
theorem KeepW.dct {A B : Wd} (k : KeepW A B) {a : Addr} {kvs : List (Key × V)} (e : Rd A.H a (.dK kvs)) (n : ¬ A.live a ∧ a ∉ A.ex) : Rd B.H a (.dK kvs) ∧ ¬ B.live a ∧ a ∉ B.ex := by
  rcases e with e | ⟨o, e⟩
  · refine ⟨?_, k.off1 e n⟩
    obtain ⟨u, e', rfl | ⟨q, kvs', z, rfl⟩⟩ := k.obj a _ e n.1 n.2
    · exact .inl e'
    · cases z; exact .inr ⟨q, e'⟩
  · obtain ⟨q1, q2⟩ := k.off e n (fun _ z => nomatch z)
    exact ⟨.inr ⟨o, q1⟩, q2⟩
mutual
theorem Rep.keepW {G : Gb} {A B : Wd} (S : Sim G A) (k : KeepW A B) : ∀ (x : MV) (v : V), Rep G A x v → Rep G B x v
  | .non, v, h => h
  | .bl b, v, h => h
  | .int i, v, h => h
  | .str s, v, h => h
  | .fn f, v, h => h
  | .tup xs, v, h => by
    unfold Rep at h ⊢
    obtain ⟨a, vs, e, h1, h2⟩ := h
    exact ⟨a, vs, e, k.tup S h1, Reps.keepW S k xs vs h2⟩
  | .lst xs, v, h => by
    unfold Rep at h ⊢
    obtain ⟨a, vs, e, h1, h2, h3⟩ := h
    obtain ⟨q1, q2⟩ := k.off h1 h2 (fun _ z => nomatch z)
    exact ⟨a, vs, e, q1, q2, Reps.keepW S k xs vs h3⟩
  | .dct ks ms, v, h => by
    unfold Rep at h ⊢
    obtain ⟨a, vs, e, h1, h2, h3, h4⟩ := h
    obtain ⟨q1, q2⟩ := k.dct h1 h2
    exact ⟨a, vs, e, q1, q2, h3, Reps.keepW S k ms vs h4⟩
  | .loc l, v, h => by
    unfold Rep at h ⊢
    obtain ⟨a, e, h1⟩ := h
    obtain ⟨t, ht⟩ := k.pre
    exact ⟨a, e, by rw [ht]; exact pre_get h1⟩
  | .scr ns, v, h => by
    unfold Rep at h ⊢
    obtain ⟨a, e, h1⟩ := h
    refine ⟨a, e, ?_⟩
    rcases h1 with ⟨h1, h2⟩ | h1
    · rcases h1 with h1 | ⟨o, h1⟩
      · obtain ⟨q1, q2⟩ := k.off h1 h2 (fun _ z => nomatch z)
        exact .inl ⟨.inl q1, q2⟩
      · obtain ⟨q1, q2⟩ := k.off h1 h2 (fun _ z => nomatch z)
        exact .inl ⟨.inr ⟨o, q1⟩, q2⟩
    · exact .inr h1
theorem Reps.keepW {G : Gb} {A B : Wd} (S : Sim G A) (k : KeepW A B) : ∀ (xs : List MV) (vs : List V), Reps G A xs vs → Reps G B xs vs
  | [], vs, h => h
  | x :: xs, vs, h => by
    unfold Reps at h ⊢
    obtain ⟨v, r, e, h1, h2⟩ := h
    exact ⟨v, r, e, Rep.keepW S k x v h1, Reps.keepW S k xs r h2⟩
end

theorem upd_dom {H : Hp} {p : Addr} {o : HO} : ∀ a, H a ≠ none → upd H p o a ≠ none := fun a h => by
  by_cases e : a = p
  · subst e; rw [upd_same]; exact fun z => nomatch z
  · rw [upd_ne e]; exact h
theorem keep_new {W : Wd} {p : Addr} {o : HO} (h : W.H p = none) : Keep W (W.up p o) :=
  ⟨fun _ h => h, fun _ h => .inl h, upd_dom, rfl, ⟨[], by simp⟩, fun a u e _ => ⟨u, by show upd W.H p o a = _; rw [upd_ne (ne_of_none e h)]; exact e, .inl rfl⟩, fun a z => .inl z, fun a _ u e _ => by show upd W.H p o a = _; rw [upd_ne (ne_of_none e h)]; exact e⟩
theorem ORep.keep {G : Gb} {A B : Wd} (S : Sim G A) (k : Keep A B) {o : MO} {a : Addr} (h : ORep G A o a) (e : B.H a = A.H a) : ORep G B o a := by
  cases o with
  | lst xs => obtain ⟨vs, q, r⟩ := h; exact ⟨vs, e.trans q, Reps.keep S k _ _ r⟩
  | dct ks ms => obtain ⟨vs, q, l, r⟩ := h; exact ⟨vs, e.trans q, l, Reps.keep S k _ _ r⟩
  | ins c fs => obtain ⟨Ca, dx, vs, hc, q, r⟩ := h; exact ⟨Ca, dx, vs, hc, e.trans q, Reps.keep S k _ _ r⟩
theorem Sim.new {G : Gb} {W : Wd} (S : Sim G W) {p : Addr} {o : HO} (h : W.H p = none) : Sim G (W.up p o) where
  len := S.len
  ble := S.ble
  top := S.top
  obj := fun l u e a q => by
    have r := S.obj l u e a q
    refine r.keep S (keep_new h) ?_
    obtain ⟨v, e', _⟩ := r.at
    exact upd_ne (ne_of_none e' h)
  inj := S.inj
  exo := fun a ha => by
    obtain ⟨u, e, n⟩ := S.exo a ha
    exact ⟨u, by show upd W.H p o a = _; rw [upd_ne (ne_of_none e h)]; exact e, n⟩
  exl := S.exl
  bnd := S.bnd
theorem off_new {G : Gb} {W : Wd} (S : Sim G W) {p : Addr} (h : W.H p = none) : ¬ W.live p ∧ p ∉ W.ex :=
  ⟨(fun z => by obtain ⟨u, e, _⟩ := S.liveAt z; rw [h] at e; exact nomatch e), (fun z => by obtain ⟨u, e, _⟩ := S.exo p z; rw [h] at e; exact nomatch e)⟩
/-- a new tuple, a new list that never changes -/
theorem rep_tup {G : Gb} {W : Wd} (S : Sim G W) {p : Addr} {xs : List MV} {vs : List V} (h : W.H p = none) (r : Reps G W xs vs) : Rep G (W.up p (.tup vs)) (.tup xs) (.ref p) := by
  unfold Rep
  exact ⟨p, vs, rfl, .inl (.inl upd_same), Reps.keep S (keep_new h) _ _ r⟩
theorem rep_lst {G : Gb} {W : Wd} (S : Sim G W) {p : Addr} {xs : List MV} {vs : List V} (h : W.H p = none) (r : Reps G W xs vs) : Rep G (W.up p (.lst vs)) (.lst xs) (.ref p) := by
  unfold Rep
  exact ⟨p, vs, rfl, upd_same, off_new S h, Reps.keep S (keep_new h) _ _ r⟩
theorem rep_dct {G : Gb} {W : Wd} (S : Sim G W) {p : Addr} {ks : List MKey} {ms : List MV} {vs : List V} (h : W.H p = none) (hl : ks.length = ms.length) (r : Reps G W ms vs) : Rep G (W.up p (.dK ((ks.map kOf).zip vs))) (.dct ks ms) (.ref p) := by
  unfold Rep
  exact ⟨p, vs, rfl, .inl upd_same, off_new S h, hl, Reps.keep S (keep_new h) _ _ r⟩
/-- the live object l is written -/
abbrev Wd.wr (W : Wd) (l : Nat) (a : Addr) (o : HO) (u : MO) : Wd := { W with H := upd W.H a o, mh := W.mh.set l (some u) }
theorem set_get {mh : MHp} {l l' : Nat} {u v : MO} (h : (mh.set l (some u))[l']? = some (some v)) : (l' = l ∧ v = u ∧ l < mh.length) ∨ (l' ≠ l ∧ mh[l']? = some (some v)) := by
  by_cases e : l = l'
  · subst e
    have l1 := (List.getElem?_eq_some_iff.mp h).1
    rw [List.length_set] at l1
    rw [List.getElem?_set_self l1] at h
    cases h; exact .inl ⟨rfl, rfl, l1⟩
  · rw [List.getElem?_set_ne e] at h
    exact .inr ⟨fun z => e z.symm, h⟩
theorem keep_wr {G : Gb} {W : Wd} {l : Nat} {a : Addr} {o : HO} {u v : MO} (S : Sim G W) (h1 : W.mh[l]? = some (some v)) (h2 : W.β[l]? = some a) : Keep W (W.wr l a o u) := by
  refine ⟨fun _ h => h, fun _ h => .inl h, upd_dom, rfl, ⟨[], by simp⟩, fun c w e n => ?_, fun c z => .inl ?_, fun c _ w e n => by show upd W.H a o c = _; rw [upd_ne fun z => n (by rw [z]; exact ⟨l, v, h1, h2⟩)]; exact e⟩
  · refine ⟨w, ?_, .inl rfl⟩
    show upd W.H a o c = _
    rw [upd_ne fun z => n (by rw [z]; exact ⟨l, v, h1, h2⟩)]; exact e
  · obtain ⟨l', o', e1, e2⟩ := z
    rcases set_get e1 with ⟨rfl, _, _⟩ | ⟨_, e1⟩
    · rw [h2] at e2; cases e2; exact ⟨_, v, h1, h2⟩
    · exact ⟨l', o', e1, e2⟩
theorem Sim.wr {G : Gb} {W : Wd} {l : Nat} {a : Addr} {o : HO} {u v : MO} (S : Sim G W) (h1 : W.mh[l]? = some (some v)) (h2 : W.β[l]? = some a) (hr : ORep G (W.wr l a o u) u a) (nt : NoTup o) (hb : ∀ b ∈ W.bs, l < b → obd b u = true) : Sim G (W.wr l a o u) where
  len := by show W.β.length = (W.mh.set l (some u)).length; rw [List.length_set]; exact S.len
  ble := fun b hb => by show b ≤ (W.mh.set l (some u)).length; rw [List.length_set]; exact S.ble b hb
  top := S.top
  obj := fun l' w e c q => by
    rcases set_get e with ⟨rfl, rfl, _⟩ | ⟨ne, e⟩
    · have q' : W.β[l']? = some c := q
      rw [h2] at q'; cases q'; exact hr
    · have r := S.obj l' w e c q
      refine r.keep S (keep_wr S h1 h2) ?_
      exact upd_ne fun z => ne (S.inj l' l a w v e h1 (by rw [← z]; exact q) h2)
  inj := fun l1 l2 c o1 o2 e1 e2 q1 q2 => by
    have f : ∀ {l' o'}, (W.mh.set l (some u))[l']? = some (some o') → ∃ o'', W.mh[l']? = some (some o'') := fun {l' o'} e => by
      rcases set_get e with ⟨rfl, _, _⟩ | ⟨_, e⟩
      · exact ⟨v, h1⟩
      · exact ⟨_, e⟩
    obtain ⟨_, e1'⟩ := f e1
    obtain ⟨_, e2'⟩ := f e2
    exact S.inj l1 l2 c _ _ e1' e2' q1 q2
  exo := fun c hc => by
    obtain ⟨w, e, n⟩ := S.exo c hc
    have hn : c ≠ a := fun z => S.exl c hc (by rw [z]; exact ⟨l, v, h1, h2⟩)
    exact ⟨w, by show upd W.H a o c = _; rw [upd_ne hn]; exact e, n⟩
  exl := fun c hc z => S.exl c hc (by
    obtain ⟨l', o', e1, e2⟩ := z
    rcases set_get e1 with ⟨rfl, _, _⟩ | ⟨_, e1⟩
    · exact ⟨_, v, h1, e2⟩
    · exact ⟨l', o', e1, e2⟩)
  bnd := fun b hbs l' w hl e => by
    rcases set_get e with ⟨rfl, rfl, _⟩ | ⟨_, e⟩
    · exact hb b hbs hl
    · exact S.bnd b hbs l' w hl e
/-- a new live object -/
abbrev Wd.al (W : Wd) (p : Addr) (o : HO) (u : MO) : Wd := { W with H := upd W.H p o, β := W.β ++ [p], mh := W.mh ++ [some u] }
theorem app_get {α : Type} {xs : List α} {x y : α} {l : Nat} (h : (xs ++ [x])[l]? = some y) : xs[l]? = some y ∨ (l = xs.length ∧ y = x) := by
  by_cases hl : l < xs.length
  · rw [List.getElem?_append_left hl] at h; exact .inl h
  · rw [List.getElem?_append_right (by omega)] at h
    have : l - xs.length = 0 := by
      have := (List.getElem?_eq_some_iff.mp h).1
      simp at this; omega
    rw [this] at h
    simp at h
    exact .inr ⟨by omega, h.symm⟩
theorem keep_al {G : Gb} {W : Wd} (S : Sim G W) {p : Addr} {o : HO} {u : MO} (h : W.H p = none) : Keep W (W.al p o u) := by
  refine ⟨fun _ h => h, fun _ h => .inl h, upd_dom, rfl, ⟨[p], rfl⟩, fun c w e n => ?_, fun c z => ?_, fun c _ w e n => by show upd W.H p o c = _; rw [upd_ne (ne_of_none e h)]; exact e⟩
  · refine ⟨w, ?_, .inl rfl⟩
    show upd W.H p o c = _
    rw [upd_ne (ne_of_none e h)]; exact e
  · obtain ⟨l, o', e1, e2⟩ := z
    rcases app_get e1 with e1 | ⟨rfl, _⟩
    · have hl : l < W.β.length := by rw [S.len]; exact (List.getElem?_eq_some_iff.mp e1).1
      have e2' : (W.β ++ [p])[l]? = some c := e2
      rw [List.getElem?_append_left hl] at e2'
      exact .inl ⟨l, o', e1, e2'⟩
    · have e2' : (W.β ++ [p])[W.mh.length]? = some c := e2
      rw [← S.len, List.getElem?_append_right (Nat.le_refl _)] at e2'
      simp at e2'
      subst e2'
      exact .inr h
theorem Sim.al {G : Gb} {W : Wd} (S : Sim G W) {p : Addr} {o : HO} {u : MO} (h : W.H p = none) (hr : ORep G (W.al p o u) u p) (nt : NoTup o) : Sim G (W.al p o u) where
  len := by show (W.β ++ [p]).length = (W.mh ++ [some u]).length; rw [List.length_append, List.length_append, S.len]; rfl
  ble := fun b hb => by show b ≤ (W.mh ++ [some u]).length; rw [List.length_append]; exact Nat.le_trans (S.ble b hb) (Nat.le_add_right _ _)
  top := S.top
  obj := fun l w e c q => by
    have q' : (W.β ++ [p])[l]? = some c := q
    rcases app_get e with e | ⟨rfl, e9⟩
    · have hl : l < W.β.length := by rw [S.len]; exact (List.getElem?_eq_some_iff.mp e).1
      rw [List.getElem?_append_left hl] at q'
      have r := S.obj l w e c q'
      refine r.keep S (keep_al S h) ?_
      obtain ⟨v, e', _⟩ := r.at
      exact upd_ne (ne_of_none e' h)
    · have e' : w = u := Option.some.inj e9
      subst e'
      rw [← S.len, List.getElem?_append_right (Nat.le_refl _)] at q'
      simp at q'
      subst q'
      exact hr
  inj := fun l1 l2 c o1 o2 e1 e2 q1 q2 => by
    have key : ∀ {l o'}, (W.mh ++ [some u])[l]? = some (some o') → (W.β ++ [p])[l]? = some c → (W.mh[l]? = some (some o') ∧ W.β[l]? = some c ∧ c ≠ p) ∨ (l = W.mh.length ∧ c = p) := fun {l o'} e q => by
      rcases app_get e with e | ⟨rfl, _⟩
      · have hl : l < W.β.length := by rw [S.len]; exact (List.getElem?_eq_some_iff.mp e).1
        rw [List.getElem?_append_left hl] at q
        refine .inl ⟨e, q, ?_⟩
        obtain ⟨v, e', _⟩ := (S.obj l _ e c q).at
        exact ne_of_none e' h
      · rw [← S.len, List.getElem?_append_right (Nat.le_refl _)] at q
        simp at q
        exact .inr ⟨rfl, q.symm⟩
    rcases key e1 q1 with ⟨a1, a2, a3⟩ | ⟨a1, a2⟩
    · rcases key e2 q2 with ⟨b1, b2, b3⟩ | ⟨b1, b2⟩
      · exact S.inj l1 l2 c _ _ a1 b1 a2 b2
      · exact absurd b2 a3
    · rcases key e2 q2 with ⟨b1, b2, b3⟩ | ⟨b1, b2⟩
      · exact absurd a2 b3
      · rw [a1, b1]
  exo := fun c hc => by
    obtain ⟨w, e, n⟩ := S.exo c hc
    exact ⟨w, by show upd W.H p o c = _; rw [upd_ne (ne_of_none e h)]; exact e, n⟩
  exl := fun c hc z => by
    rcases (keep_al S h).liv c z with z | z
    · exact S.exl c hc z
    · obtain ⟨w, e, n⟩ := S.exo c hc
      rw [z] at e; cases e
  bnd := fun b hbs l w hl e => by
    rcases app_get e with e | ⟨rfl, _⟩
    · exact S.bnd b hbs l w hl e
    · exact absurd (Nat.lt_of_lt_of_le hl (S.ble b hbs)) (Nat.lt_irrefl _)
/-! ### names -/
def Envs (G : Gb) (W : Wd) (ρ : Env) (σ : L2.St) : Prop := ρ.length = σ.length ∧ ∀ (i : Nat) (v : MV), ρ[i]? = some (some v) → ∃ x, σ[i]? = some (some x) ∧ Rep G W v x
theorem Envs.keep {G : Gb} {A B : Wd} {ρ : Env} {σ : St} (h : Envs G A ρ σ) (S : Sim G A) (k : Keep A B) : Envs G B ρ σ :=
  ⟨h.1, fun i v e => let ⟨x, q, r⟩ := h.2 i v e; ⟨x, q, Rep.keep S k _ _ r⟩⟩
theorem Envs.set {G : Gb} {W : Wd} {ρ : Env} {σ : St} (h : Envs G W ρ σ) {v : MV} {x : V} (r : Rep G W v x) (i : Nat) : Envs G W (ρ.set i (some v)) (σ.set i (some x)) := by
  refine ⟨by rw [List.length_set, List.length_set]; exact h.1, fun j u e => ?_⟩
  by_cases hij : i = j
  · subst hij
    have l1 := (List.getElem?_eq_some_iff.mp e).1
    rw [List.length_set] at l1
    rw [List.getElem?_set_self l1] at e
    cases e
    exact ⟨x, List.getElem?_set_self (by rw [← h.1]; exact l1), r⟩
  · rw [List.getElem?_set_ne hij] at e ⊢
    exact h.2 j u e
theorem Envs.wipe {G : Gb} {W : Wd} {ρ : Env} {σ : St} (h : Envs G W ρ σ) : ∀ vs : List Nat, Envs G W (wipeE ρ vs) (L2.wipe σ vs)
  | [] => h
  | v :: vs => by
    have ih := Envs.wipe h vs
    refine ⟨by unfold wipeE L2.wipe; rw [List.length_set, List.length_set]; exact ih.1, fun j u e => ?_⟩
    unfold wipeE at e
    unfold L2.wipe
    by_cases hij : v = j
    · subst hij
      have l1 := (List.getElem?_eq_some_iff.mp e).1
      rw [List.length_set] at l1
      rw [List.getElem?_set_self l1] at e
      cases e
    · rw [List.getElem?_set_ne hij] at e ⊢
      exact ih.2 j u e
end L2.Mi

set_option Elab.async false
set_option linter.all false
set_option maxRecDepth 100000
set_option maxHeartbeats 4000000
/-! Mini3: the operations of the evaluator are the layer's. -/
namespace L2.Mi
open PySem PySem.Spec PyProof.Rows

/-- what is wanted behind an evaluation that began in A -/
def Post (G : Gb) (A : Wd) (mh' : MHp) (v : MV) (Q : VK) : Prop := ∀ (B : Wd) (x : V), Keep A B → B.mh = mh' → Sim G B → Rep G B v x → Q x B.H
theorem Post.here {G : Gb} {A : Wd} {v : MV} {x : V} {Q : VK} (h : Post G A A.mh v Q) (S : Sim G A) (r : Rep G A v x) : Q x A.H := h A x (Keep.refl A) rfl S r
theorem Post.step {G : Gb} {A B : Wd} {mh' : MHp} {v : MV} {Q : VK} (h : Post G A mh' v Q) (k : Keep A B) : Post G B mh' v Q := fun C x k' e S r => h C x (k.trans k') e S r
theorem Post.newTup {G : Gb} {A : Wd} {xs : List MV} {vs : List V} {Q : VK} {p : Addr} (h : Post G A A.mh (.tup xs) Q) (S : Sim G A) (r : Reps G A xs vs) (hp : A.H p = none) : Q (.ref p) (upd A.H p (.tup vs)) :=
  h (A.up p (.tup vs)) (.ref p) (keep_new hp) rfl (S.new hp) (rep_tup S hp r)
theorem Post.newLst {G : Gb} {A : Wd} {xs : List MV} {vs : List V} {Q : VK} {p : Addr} (h : Post G A A.mh (.lst xs) Q) (S : Sim G A) (r : Reps G A xs vs) (hp : A.H p = none) : Q (.ref p) (upd A.H p (.lst vs)) :=
  h (A.up p (.lst vs)) (.ref p) (keep_new hp) rfl (S.new hp) (rep_lst S hp r)

theorem OpR.or {X : Cx} {f : Value → Value → Sem Value} {r r' : R2} (h : OpR X f r) (h' : OpR X f r') : OpR X f (fun x y H Q => r x y H Q ∨ r' x y H Q) := by
  intro pins s σ H x y v u Q I rx ry q
  rcases q with q | q
  · exact h pins s σ H x y v u Q I rx ry q
  · exact h' pins s σ H x y v u Q I rx ry q
theorem CallR.or {X : Cx} {f : Value} {r r' : List V → Hp → VK → Prop} (h : CallR X f r) (h' : CallR X f r') : CallR X f (fun xs H Q => r xs H Q ∨ r' xs H Q) := by
  intro pins s σ H xs us Q I r q
  rcases q with q | q
  · exact h pins s σ H xs us Q I r q
  · exact h' pins s σ H xs us Q I r q
theorem MtR.or' {X : Cx} {id : String} {r r' : V → List V → Hp → VK → Prop} (h : MtR X id r) (h' : MtR X id r') : MtR X id (fun x xs H Q => r x xs H Q ∨ r' x xs H Q) := MtR.or h h'

/-! ### shapes -/
section
variable {G : Gb} {A : Wd}
theorem Rep.int_ {i : Int} {v : V} (h : Rep G A (.int i) v) : v = .int i := by unfold Rep at h; exact h
theorem Rep.str_ {s : Sx} {v : V} (h : Rep G A (.str s) v) : v = .str ⟨s.toArray⟩ := by unfold Rep at h; exact h
theorem Rep.bl_ {b : Bool} {v : V} (h : Rep G A (.bl b) v) : v = .bl b := by unfold Rep at h; exact h
theorem Rep.non_ {v : V} (h : Rep G A .non v) : v = .non := by unfold Rep at h; exact h
theorem Rep.tup_ {xs : List MV} {v : V} (h : Rep G A (.tup xs) v) : ∃ a vs, v = .ref a ∧ SqT G.K A.H a vs ∧ Reps G A xs vs := by unfold Rep at h; exact h
theorem Rep.loc_ {l : Nat} {v : V} (h : Rep G A (.loc l) v) : ∃ a, v = .ref a ∧ A.β[l]? = some a := by unfold Rep at h; exact h
theorem rep_int (i : Int) : Rep G A (.int i) (.int i) := by unfold Rep; rfl
theorem rep_str (s : Sx) : Rep G A (.str s) (.str ⟨s.toArray⟩) := by unfold Rep; rfl
theorem rep_bl (b : Bool) : Rep G A (.bl b) (.bl b) := by unfold Rep; rfl
theorem rep_non : Rep G A .non .non := by unfold Rep; rfl
/-- a list that is read: its items -/
theorem getL_rep (S : Sim G A) {x : MV} {v : V} {xs : List MV} (e : getL A.mh x = some xs) (h : Rep G A x v) : ∃ a vs, v = .ref a ∧ A.H a = some (.lst vs) ∧ Reps G A xs vs := by
  cases x with
  | lst ys =>
    cases e
    unfold Rep at h
    obtain ⟨a, vs, e1, e2, _, r⟩ := h
    exact ⟨a, vs, e1, e2, r⟩
  | loc l =>
    simp only [getL] at e
    split at e
    · rename_i ys hl
      cases e
      obtain ⟨a, e1, e2⟩ := h.loc_
      obtain ⟨vs, e3, r⟩ := S.obj l _ hl a e2
      exact ⟨a, vs, e1, e3, r⟩
    · cases e
  | _ => exact absurd e (by simp [getL])
/-! dicts -/
theorem kOf_inj {a b : MKey} (h : kOf a = kOf b) : a = b := by
  cases a with
  | inl i => cases b with
    | inl j => cases h; rfl
    | inr t => cases h
  | inr s => cases b with
    | inl j => cases h
    | inr t =>
      have h2 : (⟨s.toArray⟩ : Str) = ⟨t.toArray⟩ := by unfold kOf at h; exact Sum.inr.inj h
      have h3 := congrArg (fun z : Str => z.cps.toList) h2
      simp at h3
      rw [h3]
theorem kyV_rep {x : MV} {v : V} {k : MKey} (e : kyV x = some k) (h : Rep G A x v) : v = kV (kOf k) := by
  cases x with
  | int i => cases e; exact h.int_
  | str s => cases e; exact h.str_
  | _ => cases e
theorem kM_rep (k : MKey) : Rep G A (kM k) (kV (kOf k)) := by
  cases k with
  | inl i => exact rep_int i
  | inr s => exact rep_str s
theorem kMs_rep (ks : List MKey) : Reps G A (ks.map kM) (ks.map fun k => kV (kOf k)) := by
  induction ks with
  | nil => unfold Reps; rfl
  | cons k ks ih => rw [List.map_cons, List.map_cons]; unfold Reps; exact ⟨_, _, rfl, kM_rep k, ih⟩
theorem getD_rep (S : Sim G A) {x : MV} {v : V} {ks : List MKey} {ms : List MV} (e : getD A.mh x = some (ks, ms)) (h : Rep G A x v) : ∃ a vs, v = .ref a ∧ Rd A.H a (.dK ((ks.map kOf).zip vs)) ∧ ks.length = ms.length ∧ Reps G A ms vs := by
  cases x with
  | dct ls ns =>
    cases e
    unfold Rep at h
    obtain ⟨a, vs, e1, e2, _, l, r⟩ := h
    exact ⟨a, vs, e1, e2, l, r⟩
  | loc l =>
    simp only [getD] at e
    split at e
    · rename_i ls ns hl
      cases e
      obtain ⟨a, e1, e2⟩ := h.loc_
      obtain ⟨vs, e3, l, r⟩ := S.obj l _ hl a e2
      exact ⟨a, vs, e1, .inl e3, l, r⟩
    · cases e
  | _ => exact absurd e (by simp [getD])
theorem look_rep : ∀ {ks : List MKey} {ms : List MV} {vs : List V} (k : MKey), ks.length = ms.length → Reps G A ms vs → match dLook ks ms k with
    | some m => ∃ v, valV ((ks.map kOf).zip vs) (kOf k) = some v ∧ Rep G A m v
    | none => valV ((ks.map kOf).zip vs) (kOf k) = none
  | [], ms, vs, k, hl, r => by
    have : dLook [] ms k = none := by unfold dLook; rfl
    rw [this]
    rfl
  | k' :: ks, [], vs, k, hl, r => by simp at hl
  | k' :: ks, m :: ms, vs, k, hl, r => by
    unfold Reps at r
    obtain ⟨v, t, rfl, h1, h2⟩ := r
    unfold dLook
    by_cases h : k' = k
    · subst h
      rw [if_pos rfl]
      exact ⟨v, valV_pos (p := (kOf k', v)) rfl, h1⟩
    · rw [if_neg h]
      have ih := look_rep k (by simpa using hl) h2
      have e : valV (((k' :: ks).map kOf).zip (v :: t)) (kOf k) = valV ((ks.map kOf).zip t) (kOf k) := valV_neg (p := (kOf k', v)) fun z => h (kOf_inj z)
      rw [e]
      exact ih
theorem look_some {ks : List MKey} {ms : List MV} {vs : List V} {k : MKey} {m : MV} (hl : ks.length = ms.length) (r : Reps G A ms vs) (e : dLook ks ms k = some m) : ∃ v, valV ((ks.map kOf).zip vs) (kOf k) = some v ∧ Rep G A m v := by
  have := look_rep k hl r
  rw [e] at this
  exact this
theorem look_none {ks : List MKey} {ms : List MV} {vs : List V} {k : MKey} (hl : ks.length = ms.length) (r : Reps G A ms vs) (e : dLook ks ms k = none) : valV ((ks.map kOf).zip vs) (kOf k) = none := by
  have := look_rep k hl r
  rw [e] at this
  exact this
theorem any_rep (k : MKey) : ∀ {ks : List MKey} {vs : List V}, ks.length = vs.length → (((ks.map kOf).zip vs).any fun kv => decide (kv.1 = kOf k)) = ks.any fun k' => decide (k' = k)
  | [], vs, _ => rfl
  | k' :: ks, [], h => by simp at h
  | k' :: ks, v :: vs, h => by
    rw [List.map_cons, List.zip_cons_cons, List.any_cons, List.any_cons, any_rep k (by simpa using h)]
    congr 1
    by_cases e : k' = k
    · subst e; simp
    · rw [decide_eq_false e, decide_eq_false fun z => e (kOf_inj z)]
theorem dput_len {ks : List MKey} {ms : List MV} (k : MKey) (m : MV) (hl : ks.length = ms.length) : (dPutK ks k).length = (dPutV ks ms k m).length := by
  unfold dPutK dPutV
  split
  · rw [List.length_zipWith]; omega
  · simp [hl]
theorem dput_rep {ks : List MKey} {ms : List MV} {vs : List V} {k : MKey} {m : MV} {v : V} (hl : ks.length = ms.length) (r : Reps G A ms vs) (rv : Rep G A m v) :
    ∃ ws, putK ((ks.map kOf).zip vs) (kOf k) v = ((dPutK ks k).map kOf).zip ws ∧ Reps G A (dPutV ks ms k m) ws := by
  have hv : ks.length = vs.length := by rw [hl]; exact r.len
  unfold putK dPutK dPutV
  rw [any_rep k hv]
  split
  · refine ⟨List.zipWith (fun k' v' => if k' = k then v else v') ks vs, ?_, ?_⟩
    · clear r hl
      induction ks generalizing vs with
      | nil => rfl
      | cons k' ks ih =>
        cases vs with
        | nil => simp at hv
        | cons v' vs =>
          rename_i hc
          rw [List.map_cons, List.zip_cons_cons, List.map_cons, List.zipWith_cons_cons, List.zip_cons_cons]
          have e : (if kOf k' = kOf k then (kOf k', v) else (kOf k', v')) = (kOf k', if k' = k then v else v') := by
            by_cases h : k' = k
            · subst h; simp
            · rw [if_neg h, if_neg fun z => h (kOf_inj z)]
          simp only [e]
          congr 1
          have gen : ∀ (ks : List MKey) (vs : List V), ks.length = vs.length → ((ks.map kOf).zip vs).map (fun kv => if kv.1 = kOf k then (kv.1, v) else kv) = (ks.map kOf).zip (List.zipWith (fun k' v' => if k' = k then v else v') ks vs) := by
            intro ks
            induction ks with
            | nil => intro vs _; rfl
            | cons k' ks ih2 =>
              intro vs h
              cases vs with
              | nil => simp at h
              | cons v' vs =>
                rw [List.map_cons, List.zip_cons_cons, List.map_cons, List.zipWith_cons_cons, List.zip_cons_cons, ih2 vs (by simpa using h)]
                congr 1
                by_cases h : k' = k
                · subst h; simp
                · simp only [if_neg h, if_neg fun z => h (kOf_inj z)]
          exact gen ks vs (by simpa using hv)
    · have gen : ∀ (ks : List MKey) (ms : List MV) (vs : List V), ks.length = ms.length → Reps G A ms vs → Reps G A (List.zipWith (fun k' m' => if k' = k then m else m') ks ms) (List.zipWith (fun k' v' => if k' = k then v else v') ks vs) := by
        intro ks
        induction ks with
        | nil => intro ms vs h r; unfold Reps; rfl
        | cons k' ks ih =>
          intro ms vs h r
          cases ms with
          | nil => simp at h
          | cons m' ms =>
            unfold Reps at r
            obtain ⟨v', t, rfl, h1, h2⟩ := r
            rw [List.zipWith_cons_cons, List.zipWith_cons_cons]
            unfold Reps
            refine ⟨_, _, rfl, ?_, ih ms t (by simpa using h) h2⟩
            split
            · exact rv
            · exact h1
      exact gen ks ms vs hl r
  · refine ⟨vs ++ [v], ?_, r.app (Reps.one rv)⟩
    rw [List.map_append, List.zip_append (by simpa using hv)]
    rfl
theorem dfold_len : ∀ (ps : List (MKey × MV)) (ks : List MKey) (ms : List MV), ks.length = ms.length → (dFold ps ks ms).1.length = (dFold ps ks ms).2.length
  | [], ks, ms, h => h
  | p :: ps, ks, ms, h => dfold_len ps _ _ (dput_len p.1 p.2 h)
theorem Reps.map_int {ns : List Int} : Reps G A (ns.map .int) (ns.map .int) := by
  induction ns with
  | nil => unfold Reps; rfl
  | cons n ns ih => rw [List.map_cons, List.map_cons]; unfold Reps; exact ⟨_, _, rfl, rep_int n, ih⟩
theorem Reps.blOf : ∀ {xs : List MV} {vs : List V} {bs : List Bool}, Reps G A xs vs → xs.mapM blOf = some bs → vs = bs.map .bl
  | [], vs, bs, h, e => by
    unfold Reps at h
    simp at e
    subst e h
    rfl
  | x :: xs, vs, bs, h, e => by
    unfold Reps at h
    obtain ⟨v, r, rfl, h1, h2⟩ := h
    simp only [List.mapM_cons, Option.bind_eq_bind, Option.bind_eq_some_iff] at e
    obtain ⟨b, e1, cs, e2, e3⟩ := e
    cases x with
    | bl b' =>
      cases e1
      cases e3
      rw [h1.bl_, Reps.blOf h2 e2]
      rfl
    | _ => exact absurd e1 (by simp [Mi.blOf])
theorem Reps.intOf : ∀ {xs : List MV} {vs : List V} {bs : List Int}, Reps G A xs vs → xs.mapM intOf = some bs → vs = bs.map .int
  | [], vs, bs, h, e => by
    unfold Reps at h
    simp at e
    subst e h
    rfl
  | x :: xs, vs, bs, h, e => by
    unfold Reps at h
    obtain ⟨v, r, rfl, h1, h2⟩ := h
    simp only [List.mapM_cons, Option.bind_eq_bind, Option.bind_eq_some_iff] at e
    obtain ⟨b, e1, cs, e2, e3⟩ := e
    cases x with
    | int i' =>
      cases e1
      cases e3
      rw [h1.int_, Reps.intOf h2 e2]
      rfl
    | _ => exact absurd e1 (by simp [Mi.intOf])
theorem str_len (s : Sx) : (⟨s.toArray⟩ : Str).length = s.length := by simp [Str.length]
theorem str_app (s t : Sx) : (⟨s.toArray⟩ : Str) ++ ⟨t.toArray⟩ = ⟨(s ++ t).toArray⟩ := by
  show (Str.mk (s.toArray ++ t.toArray) : Str) = _
  rw [List.append_toArray]
end

/-! ### data -/
section
variable {G : Gb} {A : Wd}
theorem canLay_dct {xs : List MV} : PyData.canLay0 (.dict []) = false := rfl
mutual
theorem frz_dp (S : Sim G A) : ∀ (k : Nat) (x x' : MV) (v : V), frz 0 A.mh k x = some x' → PyData.canLay0 (toD x') = true → Rep G A x v → Dp G.K A.H v (toD x')
  | k, .non, x', v, e, c, h => by
    unfold frz at e; cases e; rw [h.non_]; unfold toD; exact .non
  | k, .bl b, x', v, e, c, h => by
    unfold frz at e; cases e; rw [h.bl_]; unfold toD; exact .bl b
  | k, .int i, x', v, e, c, h => by
    unfold frz at e; cases e; rw [h.int_]; unfold toD; exact .int i
  | k, .str s, x', v, e, c, h => by
    unfold frz at e; cases e; rw [h.str_]; unfold toD; exact .str _
  | k, .fn f, x', v, e, c, h => by
    unfold frz at e; cases e; unfold toD at c; exact absurd c (by decide)
  | k, .scr ns, x', v, e, c, h => by
    unfold frz at e; cases e
    unfold Rep at h
    obtain ⟨a, rfl, h⟩ := h
    unfold toD
    have sq : SqL G.K A.H a (ns.map .int) := by
      rcases h with ⟨h, _⟩ | (h | h)
      · exact .inl h
      · rcases h with h | ⟨o, h⟩ <;> exact nomatch h
      · exact .inr h
    exact .lst sq (DpAll_ints ns)
  | k, .dct ks vs, x', v, e, c, h => by
    unfold frz at e
    cases q : frzs 0 A.mh k vs with
    | none => rw [q] at e; exact nomatch e
    | some ys => rw [q] at e; cases e; unfold toD at c; exact absurd c (by decide)
  | k, .tup xs, x', v, e, c, h => by
    unfold frz at e
    cases q : frzs 0 A.mh k xs with
    | none => rw [q] at e; exact nomatch e
    | some ys =>
      rw [q] at e; cases e
      obtain ⟨a, vs, rfl, h1, h2⟩ := h.tup_
      unfold toD at c ⊢
      exact .tup h1 (frzs_dp S k xs ys vs q c h2)
  | k, .lst xs, x', v, e, c, h => by
    unfold frz at e
    cases q : frzs 0 A.mh k xs with
    | none => rw [q] at e; exact nomatch e
    | some ys =>
      rw [q] at e; cases e
      unfold Rep at h
      obtain ⟨a, vs, rfl, h1, _, h2⟩ := h
      unfold toD at c ⊢
      exact .lst (SqL.of h1) (frzs_dp S k xs ys vs q c h2)
  | 0, .loc l, x', v, e, c, h => by
    unfold frz at e
    simp at e
  | k + 1, .loc l, x', v, e, c, h => by
    unfold frz at e
    simp only [Nat.not_lt_zero, if_false] at e
    obtain ⟨a, rfl, e2⟩ := h.loc_
    split at e
    · rename_i xs hl
      cases q : frzs 0 A.mh k xs with
      | none => rw [q] at e; exact nomatch e
      | some ys =>
        rw [q] at e; cases e
        obtain ⟨vs, e3, r⟩ := S.obj l _ hl a e2
        unfold toD at c ⊢
        exact .lst (SqL.of e3) (frzs_dp S k xs ys vs q c r)
    · rename_i ks vs hl
      cases q : frzs 0 A.mh k vs with
      | none => rw [q] at e; exact nomatch e
      | some ys => rw [q] at e; cases e; unfold toD at c; exact absurd c (by decide)
    · exact nomatch e
  termination_by k x => (k, sizeOf x)
theorem frzs_dp (S : Sim G A) : ∀ (k : Nat) (xs ys : List MV) (vs : List V), frzs 0 A.mh k xs = some ys → PyData.canLayAll0 (toDs ys) = true → Reps G A xs vs → DpAll G.K A.H vs (toDs ys)
  | k, [], ys, vs, e, c, h => by
    unfold frzs at e; cases e
    unfold Reps at h; subst h
    unfold toDs; exact .nil
  | k, x :: xs, ys, vs, e, c, h => by
    unfold frzs at e
    unfold Reps at h
    obtain ⟨v, r, rfl, h1, h2⟩ := h
    cases q : frz 0 A.mh k x with
    | none => rw [q] at e; exact nomatch e
    | some y =>
      rw [q] at e
      simp only at e
      cases q2 : frzs 0 A.mh k xs with
      | none => rw [q2] at e; exact nomatch e
      | some ys' =>
        rw [q2] at e; cases e
        unfold toDs at c ⊢
        unfold PyData.canLayAll0 at c
        rw [Bool.and_eq_true] at c
        exact .cons (frz_dp S k x y v q c.1 h1) (frzs_dp S k xs ys' r q2 c.2 h2)
  termination_by k xs => (k, sizeOf xs)
theorem DpAll_ints {K : PySem.W.Frag} {H : Hp} : ∀ ns : List Int, DpAll K H (ns.map .int) (ns.map .int)
  | [] => .nil
  | n :: ns => .cons (.int n) (DpAll_ints ns)
end
theorem okD_can {x : MV} (h : okD x = true) : PyData.canLay0 (toD x) = true := SeqAt.canLay_of_shaped h

/-! ### equal, dicts within -/
/-- x == y is True, by what stands in them -/
inductive EqU (K : PySem.W.Frag) (H : Hp) : Nat → V → V → Prop
  | leaf {n : Nat} {x y : V} {d d' : PyData} : Dp K H x d → Dp K H y d' → SeqAt.shaped d = true → SeqAt.shaped d' = true → PyData.eqv d d' = true → d.depth = 0 → EqU K H n x y
  | tup {n : Nat} {a b : Addr} {vs ws : List V} : SqT K H a vs → SqT K H b ws → vs.length = ws.length → (∀ (i : Nat) x y, vs[i]? = some x → ws[i]? = some y → EqU K H n x y) → EqU K H (n + 1) (.ref a) (.ref b)
  | lst {n : Nat} {a b : Addr} {vs ws : List V} : SqL K H a vs → SqL K H b ws → vs.length = ws.length → (∀ (i : Nat) x y, vs[i]? = some x → ws[i]? = some y → EqU K H n x y) → EqU K H (n + 1) (.ref a) (.ref b)
  | dct {n : Nat} {a b : Addr} {ks ls : List (Key × V)} : Rd H a (.dK ks) → Rd H b (.dK ls) → ks.length = ls.length → (∀ p ∈ ks, (valV ls p.1).isSome = true) → (∀ p y, p ∈ ks → valV ls p.1 = some y → EqU K H n p.2 y) → EqU K H (n + 1) (.ref a) (.ref b)
theorem hgts_mem {x : MV} {xs : List MV} (h : x ∈ xs) : hgt x ≤ hgts xs := by
  induction xs with
  | nil => simp at h
  | cons y xs ih =>
    simp only [hgts]
    rcases List.mem_cons.mp h with rfl | h
    · omega
    · have := ih h; omega
theorem EqU.mono {K : PySem.W.Frag} {H : Hp} {n : Nat} {x y : V} (h : EqU K H n x y) : ∀ m, n ≤ m → EqU K H m x y := by
  induction h with
  | leaf h1 h2 h3 h4 h5 h6 => exact fun m _ => .leaf h1 h2 h3 h4 h5 h6
  | tup h1 h2 h3 _ ih =>
    intro m hm
    obtain ⟨m', rfl⟩ : ∃ m', m = m' + 1 := ⟨m - 1, by omega⟩
    exact .tup h1 h2 h3 fun i x y e1 e2 => ih i x y e1 e2 m' (by omega)
  | lst h1 h2 h3 _ ih =>
    intro m hm
    obtain ⟨m', rfl⟩ : ∃ m', m = m' + 1 := ⟨m - 1, by omega⟩
    exact .lst h1 h2 h3 fun i x y e1 e2 => ih i x y e1 e2 m' (by omega)
  | dct h1 h2 h3 h4 _ ih =>
    intro m hm
    obtain ⟨m', rfl⟩ : ∃ m', m = m' + 1 := ⟨m - 1, by omega⟩
    exact .dct h1 h2 h3 h4 fun p y hp e => ih p y hp e m' (by omega)
/-- a value with its live objects read out stands for the same -/
theorem frz_rep0 {G : Gb} {A : Wd} (S : Sim G A) : True := trivial
section
variable {G : Gb} {A : Wd}
/-- as Rep, where nothing is asked of who may write -/
inductive Rd' (G : Gb) (A : Wd) : MV → V → Prop
  | dat {x : MV} {v : V} : (PyData.canLay0 (toD x) = true → Dp G.K A.H v (toD x)) → (∀ xs, x ≠ .tup xs) → (∀ xs, x ≠ .lst xs) → (∀ ks ms, x ≠ .dct ks ms) → Rd' G A x v
  | tup {xs : List MV} {a : Addr} {vs : List V} : SqT G.K A.H a vs → xs.length = vs.length → (∀ (i : Nat) x v, xs[i]? = some x → vs[i]? = some v → Rd' G A x v) → Rd' G A (.tup xs) (.ref a)
  | lst {xs : List MV} {a : Addr} {vs : List V} : SqL G.K A.H a vs → xs.length = vs.length → (∀ (i : Nat) x v, xs[i]? = some x → vs[i]? = some v → Rd' G A x v) → Rd' G A (.lst xs) (.ref a)
  | dct {ks : List MKey} {ms : List MV} {a : Addr} {vs : List V} : Rd A.H a (.dK ((ks.map kOf).zip vs)) → ks.length = vs.length → ms.length = vs.length → (∀ (i : Nat) x v, ms[i]? = some x → vs[i]? = some v → Rd' G A x v) → Rd' G A (.dct ks ms) (.ref a)
mutual
theorem frz_rd (S : Sim G A) : ∀ (k : Nat) (x x' : MV) (v : V), frz 0 A.mh k x = some x' → Rep G A x v → Rd' G A x' v
  | k, .non, x', v, e, h => by
    have e' := e
    unfold frz at e; cases e
    exact .dat (fun c => frz_dp S k _ _ v e' c h) (fun _ z => nomatch z) (fun _ z => nomatch z) (fun _ _ z => nomatch z)
  | k, .bl b, x', v, e, h => by
    have e' := e
    unfold frz at e; cases e
    exact .dat (fun c => frz_dp S k _ _ v e' c h) (fun _ z => nomatch z) (fun _ z => nomatch z) (fun _ _ z => nomatch z)
  | k, .int i, x', v, e, h => by
    have e' := e
    unfold frz at e; cases e
    exact .dat (fun c => frz_dp S k _ _ v e' c h) (fun _ z => nomatch z) (fun _ z => nomatch z) (fun _ _ z => nomatch z)
  | k, .str s, x', v, e, h => by
    have e' := e
    unfold frz at e; cases e
    exact .dat (fun c => frz_dp S k _ _ v e' c h) (fun _ z => nomatch z) (fun _ z => nomatch z) (fun _ _ z => nomatch z)
  | k, .fn f, x', v, e, h => by
    have e' := e
    unfold frz at e; cases e
    exact .dat (fun c => frz_dp S k _ _ v e' c h) (fun _ z => nomatch z) (fun _ z => nomatch z) (fun _ _ z => nomatch z)
  | k, .scr ns, x', v, e, h => by
    have e' := e
    unfold frz at e; cases e
    exact .dat (fun c => frz_dp S k _ _ v e' c h) (fun _ z => nomatch z) (fun _ z => nomatch z) (fun _ _ z => nomatch z)
  | k, .dct ks ms, x', v, e, h => by
    unfold frz at e
    cases q : frzs 0 A.mh k ms with
    | none => rw [q] at e; exact nomatch e
    | some ys =>
      rw [q] at e; cases e
      unfold Rep at h
      obtain ⟨a, vs, rfl, h1, _, hl, h2⟩ := h
      obtain ⟨hl2, hh⟩ := frzs_rd S k ms ys vs q h2
      exact .dct h1 (by rw [hl, h2.len]) hl2 hh
  | k, .tup xs, x', v, e, h => by
    unfold frz at e
    cases q : frzs 0 A.mh k xs with
    | none => rw [q] at e; exact nomatch e
    | some ys =>
      rw [q] at e; cases e
      obtain ⟨a, vs, rfl, h1, h2⟩ := h.tup_
      obtain ⟨hl2, hh⟩ := frzs_rd S k xs ys vs q h2
      exact .tup h1 hl2 hh
  | k, .lst xs, x', v, e, h => by
    unfold frz at e
    cases q : frzs 0 A.mh k xs with
    | none => rw [q] at e; exact nomatch e
    | some ys =>
      rw [q] at e; cases e
      unfold Rep at h
      obtain ⟨a, vs, rfl, h1, _, h2⟩ := h
      obtain ⟨hl2, hh⟩ := frzs_rd S k xs ys vs q h2
      exact .lst (SqL.of h1) hl2 hh
  | 0, .loc l, x', v, e, h => by
    unfold frz at e
    simp at e
  | k + 1, .loc l, x', v, e, h => by
    unfold frz at e
    simp only [Nat.not_lt_zero, if_false] at e
    obtain ⟨a, rfl, e2⟩ := h.loc_
    split at e
    · rename_i xs hl
      cases q : frzs 0 A.mh k xs with
      | none => rw [q] at e; exact nomatch e
      | some ys =>
        rw [q] at e; cases e
        obtain ⟨vs, e3, r⟩ := S.obj l _ hl a e2
        obtain ⟨hl2, hh⟩ := frzs_rd S k xs ys vs q r
        exact .lst (SqL.of e3) hl2 hh
    · rename_i ks ms hl
      cases q : frzs 0 A.mh k ms with
      | none => rw [q] at e; exact nomatch e
      | some ys =>
        rw [q] at e; cases e
        obtain ⟨vs, e3, l1, r⟩ := S.obj l _ hl a e2
        obtain ⟨hl2, hh⟩ := frzs_rd S k ms ys vs q r
        exact .dct (.inl e3) (by rw [l1, r.len]) hl2 hh
    · exact nomatch e
  termination_by k x => (k, sizeOf x)
theorem frzs_rd (S : Sim G A) : ∀ (k : Nat) (xs ys : List MV) (vs : List V), frzs 0 A.mh k xs = some ys → Reps G A xs vs → ys.length = vs.length ∧ ∀ (i : Nat) y v, ys[i]? = some y → vs[i]? = some v → Rd' G A y v
  | k, [], ys, vs, e, h => by
    unfold frzs at e; cases e
    unfold Reps at h; subst h
    exact ⟨rfl, fun i y v e => by simp at e⟩
  | k, x :: xs, ys, vs, e, h => by
    unfold frzs at e
    unfold Reps at h
    obtain ⟨v, r, rfl, h1, h2⟩ := h
    cases q : frz 0 A.mh k x with
    | none => rw [q] at e; exact nomatch e
    | some y =>
      rw [q] at e
      simp only at e
      cases q2 : frzs 0 A.mh k xs with
      | none => rw [q2] at e; exact nomatch e
      | some ys' =>
        rw [q2] at e; cases e
        obtain ⟨hl, hh⟩ := frzs_rd S k xs ys' r q2 h2
        have h0 := frz_rd S k x y v q h1
        refine ⟨by simp [hl], fun i z w e1 e2 => ?_⟩
        cases i with
        | zero => simp at e1 e2; subst e1 e2; exact h0
        | succ i => exact hh i z w (by simpa using e1) (by simpa using e2)
  termination_by k xs => (k, sizeOf xs)
end
theorem Rd'.dp {x : MV} {v : V} (h : Rd' G A x v) : PyData.canLay0 (toD x) = true → Dp G.K A.H v (toD x) := by
  induction h with
  | dat h _ _ _ => exact h
  | @tup xs a vs h1 h2 _ ih =>
    intro c
    unfold toD at c ⊢
    refine .tup h1 ?_
    unfold PyData.canLay0 at c
    clear h1
    induction xs generalizing vs with
    | nil =>
      cases vs with
      | nil => unfold toDs; exact .nil
      | cons => simp at h2
    | cons x xs ihx =>
      cases vs with
      | nil => simp at h2
      | cons v vs =>
        unfold toDs at c ⊢
        unfold PyData.canLayAll0 at c
        rw [Bool.and_eq_true] at c
        exact .cons (ih 0 x v rfl rfl c.1) (ihx (vs := vs) (by simpa using h2) (fun i x' v' e1 e2 => by rename_i hh; exact hh (i + 1) x' v' (by simpa using e1) (by simpa using e2)) (fun i x' v' e1 e2 => ih (i + 1) x' v' (by simpa using e1) (by simpa using e2)) c.2)
  | @lst xs a vs h1 h2 _ ih =>
    intro c
    unfold toD at c ⊢
    refine .lst h1 ?_
    unfold PyData.canLay0 at c
    clear h1
    induction xs generalizing vs with
    | nil =>
      cases vs with
      | nil => unfold toDs; exact .nil
      | cons => simp at h2
    | cons x xs ihx =>
      cases vs with
      | nil => simp at h2
      | cons v vs =>
        unfold toDs at c ⊢
        unfold PyData.canLayAll0 at c
        rw [Bool.and_eq_true] at c
        exact .cons (ih 0 x v rfl rfl c.1) (ihx (vs := vs) (by simpa using h2) (fun i x' v' e1 e2 => by rename_i hh; exact hh (i + 1) x' v' (by simpa using e1) (by simpa using e2)) (fun i x' v' e1 e2 => ih (i + 1) x' v' (by simpa using e1) (by simpa using e2)) c.2)
  | dct _ _ _ _ _ =>
    intro c
    unfold toD at c
    exact absurd c (by decide)
end
section
variable {G : Gb} {A : Wd}
theorem look_idx : ∀ {ls : List MKey} {ns : List MV} {k : MKey} {m : MV} (ws : List V), ls.length = ws.length → dLook ls ns k = some m → ∃ (j : Nat) (w : V), ns[j]? = some m ∧ ws[j]? = some w ∧ valV ((ls.map kOf).zip ws) (kOf k) = some w
  | [], ns, k, m, ws, hl, e => by unfold dLook at e; cases e
  | k' :: ls, [], k, m, ws, hl, e => by unfold dLook at e; cases e
  | k' :: ls, n :: ns, k, m, [], hl, e => by simp at hl
  | k' :: ls, n :: ns, k, m, w :: ws, hl, e => by
    unfold dLook at e
    by_cases h : k' = k
    · subst h
      rw [if_pos rfl] at e
      cases e
      exact ⟨0, w, rfl, rfl, valV_pos (p := (kOf k', w)) rfl⟩
    · rw [if_neg h] at e
      obtain ⟨j, w', h1, h2, h3⟩ := look_idx ws (by simpa using hl) e
      refine ⟨j + 1, w', by simpa using h1, by simpa using h2, ?_⟩
      have e2 : valV (((k' :: ls).map kOf).zip (w :: ws)) (kOf k) = valV ((ls.map kOf).zip ws) (kOf k) := valV_neg (p := (kOf k', w)) fun z => h (kOf_inj z)
      rw [e2]
      exact h3
mutual
theorem eqT_rep : ∀ (x y : MV) (vx vy : V), eqT x y = true → Rd' G A x vx → Rd' G A y vy → EqU G.K A.H (hgt x) vx vy
  | x, y, vx, vy, e, rx, ry => by
    unfold eqT at e
    split at e
    · rename_i ks ms ls ns
      rw [Bool.and_eq_true] at e
      cases rx with
      | dat _ _ _ h => exact absurd rfl (h _ _)
      | dct a1 a2 a3 a4 =>
        rename_i a vs
        cases ry with
        | dat _ _ _ h => exact absurd rfl (h _ _)
        | dct b1 b2 b3 b4 =>
          rename_i b ws
          have hk := eqKs_rep ms ks ls ns e.2
          have hl : ks.length = ls.length := of_decide_eq_true e.1
          have find : ∀ p ∈ (ks.map kOf).zip vs, ∃ (i : Nat) (k : MKey) (m : MV), ks[i]? = some k ∧ ms[i]? = some m ∧ vs[i]? = some p.2 ∧ p.1 = kOf k := fun p hp => by
            obtain ⟨i, hi, e1⟩ := List.mem_iff_getElem.mp hp
            rw [List.length_zip, List.length_map] at hi
            have i1 : i < ks.length := by omega
            have i2 : i < vs.length := by omega
            have i3 : i < ms.length := by omega
            rw [List.getElem_zip] at e1
            refine ⟨i, ks[i], ms[i], List.getElem?_eq_getElem i1, List.getElem?_eq_getElem i3, ?_, ?_⟩
            · rw [← e1]; exact List.getElem?_eq_getElem i2
            · rw [← e1]; simp
          unfold hgt
          refine .dct a1 b1 ?_ (fun p hp => ?_) fun p y hp ey => ?_
          · rw [List.length_zip, List.length_zip, List.length_map, List.length_map]; omega
          · obtain ⟨i, k, m, h1, h2, h3, h4⟩ := find p hp
            obtain ⟨n', q1, q2⟩ := hk i m k h2 h1
            obtain ⟨j, w', _, _, q3⟩ := look_idx ws (by omega) q1
            rw [h4, q3]; rfl
          · obtain ⟨i, k, m, h1, h2, h3, h4⟩ := find p hp
            obtain ⟨n', q1, q2⟩ := hk i m k h2 h1
            obtain ⟨j, w', q3, q4, q5⟩ := look_idx ws (by omega) q1
            rw [h4, q5] at ey
            cases ey
            exact q2 _ _ (a4 i m _ h2 h3) (b4 j n' _ q3 q4)
    · rename_i xs ys
      obtain ⟨hl, hi⟩ := eqTs_rep xs ys e
      cases rx with
      | dat _ h _ _ => exact absurd rfl (h _)
      | tup a1 a2 a3 =>
        cases ry with
        | dat _ h _ _ => exact absurd rfl (h _)
        | tup b1 b2 b3 =>
          unfold hgt
          refine .tup a1 b1 (by omega) fun i u v e1 e2 => ?_
          have i1 : i < xs.length := by rw [a2]; exact (List.getElem?_eq_some_iff.mp e1).1
          have i2 : i < ys.length := by omega
          exact hi i _ _ _ _ (List.getElem?_eq_getElem i1) (List.getElem?_eq_getElem i2) (a3 i _ _ (List.getElem?_eq_getElem i1) e1) (b3 i _ _ (List.getElem?_eq_getElem i2) e2)
    · rename_i xs ys
      obtain ⟨hl, hi⟩ := eqTs_rep xs ys e
      cases rx with
      | dat _ _ h _ => exact absurd rfl (h _)
      | lst a1 a2 a3 =>
        cases ry with
        | dat _ _ h _ => exact absurd rfl (h _)
        | lst b1 b2 b3 =>
          unfold hgt
          refine .lst a1 b1 (by omega) fun i u v e1 e2 => ?_
          have i1 : i < xs.length := by rw [a2]; exact (List.getElem?_eq_some_iff.mp e1).1
          have i2 : i < ys.length := by omega
          exact hi i _ _ _ _ (List.getElem?_eq_getElem i1) (List.getElem?_eq_getElem i2) (a3 i _ _ (List.getElem?_eq_getElem i1) e1) (b3 i _ _ (List.getElem?_eq_getElem i2) e2)
    · simp only [Bool.and_eq_true, decide_eq_true_eq] at e
      obtain ⟨⟨⟨e1, e2⟩, e3⟩, e4⟩ := e
      exact .leaf (rx.dp (okD_can e1)) (ry.dp (okD_can e2)) e1 e2 e3 e4
  termination_by x => sizeOf x
theorem eqTs_rep : ∀ (xs ys : List MV), eqTs xs ys = true → xs.length = ys.length ∧ ∀ (i : Nat) x y vx vy, xs[i]? = some x → ys[i]? = some y → Rd' G A x vx → Rd' G A y vy → EqU G.K A.H (hgts xs) vx vy
  | [], [], _ => ⟨rfl, fun i x y vx vy e => by simp at e⟩
  | [], _ :: _, e => by unfold eqTs at e; cases e
  | _ :: _, [], e => by unfold eqTs at e; cases e
  | x :: xs, y :: ys, e => by
    unfold eqTs at e
    rw [Bool.and_eq_true] at e
    obtain ⟨hl, hi⟩ := eqTs_rep xs ys e.2
    refine ⟨by simp [hl], fun i x' y' vx vy e1 e2 rx ry => ?_⟩
    unfold hgts
    cases i with
    | zero =>
      simp at e1 e2
      subst e1 e2
      exact (eqT_rep x y vx vy e.1 rx ry).mono _ (Nat.le_max_left _ _)
    | succ i => exact (hi i x' y' vx vy (by simpa using e1) (by simpa using e2) rx ry).mono _ (Nat.le_max_right _ _)
  termination_by xs => sizeOf xs
theorem eqKs_rep : ∀ (ms : List MV) (ks ls : List MKey) (ns : List MV), eqKs ms ks ls ns = true → ∀ (i : Nat) m k, ms[i]? = some m → ks[i]? = some k → ∃ n', dLook ls ns k = some n' ∧ ∀ vx vy, Rd' G A m vx → Rd' G A n' vy → EqU G.K A.H (hgts ms) vx vy
  | [], _, _, _, _ => fun i m k e1 _ => by simp at e1
  | _ :: _, [], _, _, _ => fun i m k _ e2 => by simp at e2
  | m :: ms, k :: ks, ls, ns, e => by
    unfold eqKs at e
    rw [Bool.and_eq_true] at e
    intro i m' k' e1 e2
    unfold hgts
    cases i with
    | zero =>
      simp at e1 e2
      subst e1 e2
      cases q : dLook ls ns k with
      | none => rw [q] at e; cases e.1
      | some n' =>
        rw [q] at e
        exact ⟨n', rfl, fun vx vy rx ry => (eqT_rep m n' vx vy e.1 rx ry).mono _ (Nat.le_max_left _ _)⟩
    | succ i =>
      obtain ⟨n', q1, q2⟩ := eqKs_rep ms ks ls ns e.2 i m' k' (by simpa using e1) (by simpa using e2)
      exact ⟨n', q1, fun vx vy rx ry => (q2 vx vy rx ry).mono _ (Nat.le_max_right _ _)⟩
  termination_by ms => sizeOf ms
end
/-- equal lists, equal dicts -/
def EqTop (K : PySem.W.Frag) (H : Hp) (x y : V) : Prop :=
  (∃ n a b vs ws, n ≤ 60 ∧ x = .ref a ∧ y = .ref b ∧ SqL K H a vs ∧ SqL K H b ws ∧ vs.length = ws.length ∧ ∀ (i : Nat) u w, vs[i]? = some u → ws[i]? = some w → EqU K H n u w) ∨
  ∃ n a b ks ls, n ≤ 60 ∧ x = .ref a ∧ y = .ref b ∧ Rd H a (.dK ks) ∧ Rd H b (.dK ls) ∧ ks.length = ls.length ∧ (∀ p ∈ ks, (valV ls p.1).isSome = true) ∧ ∀ p u, p ∈ ks → valV ls p.1 = some u → EqU K H n p.2 u
theorem eqTop_rep {x y : MV} {vx vy : V} (e : eqT x y = true) (nd : ¬ (okD x = true ∧ okD y = true)) (hg : hgt x ≤ 60) (nt : notTup x = true) (rx : Rd' G A x vx) (ry : Rd' G A y vy) : EqTop G.K A.H vx vy := by
  unfold eqT at e
  split at e
  · rename_i ks ms ls ns
    rw [Bool.and_eq_true] at e
    cases rx with
    | dat _ _ _ h => exact absurd rfl (h _ _)
    | dct a1 a2 a3 a4 =>
      rename_i a vs
      cases ry with
      | dat _ _ _ h => exact absurd rfl (h _ _)
      | dct b1 b2 b3 b4 =>
        rename_i b ws
        have hk := eqKs_rep (G := G) (A := A) ms ks ls ns e.2
        have hl : ks.length = ls.length := of_decide_eq_true e.1
        have find : ∀ p ∈ (ks.map kOf).zip vs, ∃ (i : Nat) (k : MKey) (m : MV), ks[i]? = some k ∧ ms[i]? = some m ∧ vs[i]? = some p.2 ∧ p.1 = kOf k := fun p hp => by
          obtain ⟨i, hi, e1⟩ := List.mem_iff_getElem.mp hp
          rw [List.length_zip, List.length_map] at hi
          have i1 : i < ks.length := by omega
          have i2 : i < vs.length := by omega
          have i3 : i < ms.length := by omega
          rw [List.getElem_zip] at e1
          refine ⟨i, ks[i], ms[i], List.getElem?_eq_getElem i1, List.getElem?_eq_getElem i3, ?_, ?_⟩
          · rw [← e1]; exact List.getElem?_eq_getElem i2
          · rw [← e1]; simp
        unfold hgt at hg
        refine .inr ⟨hgts ms, a, b, _, _, by omega, rfl, rfl, a1, b1, ?_, fun p hp => ?_, fun p y hp ey => ?_⟩
        · rw [List.length_zip, List.length_zip, List.length_map, List.length_map]; omega
        · obtain ⟨i, k, m, h1, h2, h3, h4⟩ := find p hp
          obtain ⟨n', q1, q2⟩ := hk i m k h2 h1
          obtain ⟨j, w', _, _, q3⟩ := look_idx ws (by omega) q1
          rw [h4, q3]; rfl
        · obtain ⟨i, k, m, h1, h2, h3, h4⟩ := find p hp
          obtain ⟨n', q1, q2⟩ := hk i m k h2 h1
          obtain ⟨j, w', q3, q4, q5⟩ := look_idx ws (by omega) q1
          rw [h4, q5] at ey
          cases ey
          exact q2 _ _ (a4 i m _ h2 h3) (b4 j n' _ q3 q4)
  · cases nt
  · rename_i xs ys
    obtain ⟨hl, hi⟩ := eqTs_rep (G := G) (A := A) xs ys e
    cases rx with
    | dat _ _ h _ => exact absurd rfl (h _)
    | lst a1 a2 a3 =>
      cases ry with
      | dat _ _ h _ => exact absurd rfl (h _)
      | lst b1 b2 b3 =>
        unfold hgt at hg
        refine .inl ⟨hgts xs, _, _, _, _, by omega, rfl, rfl, a1, b1, by omega, fun i u v e1 e2 => ?_⟩
        have i1 : i < xs.length := by rw [a2]; exact (List.getElem?_eq_some_iff.mp e1).1
        have i2 : i < ys.length := by omega
        exact hi i _ _ _ _ (List.getElem?_eq_getElem i1) (List.getElem?_eq_getElem i2) (a3 i _ _ (List.getElem?_eq_getElem i1) e1) (b3 i _ _ (List.getElem?_eq_getElem i2) e2)
  · simp only [Bool.and_eq_true, decide_eq_true_eq] at e
    exact absurd ⟨e.1.1.1, e.1.1.2⟩ nd
end
/-! ### readings of the operations -/
theorem eqV_dp {G : Gb} {A : Wd} (S : Sim G A) {x y : MV} {vx vy : V} {c : Bool} (e : eqV A.mh x y = some c) (rx : Rep G A x vx) (ry : Rep G A y vy) :
    (∃ d d', Dp G.K A.H vx d ∧ Dp G.K A.H vy d' ∧ SeqAt.shaped d = true ∧ SeqAt.shaped d' = true ∧ PyData.eqv d d' = c) ∨ (c = true ∧ EqTop G.K A.H vx vy) := by
  unfold eqV at e
  cases q : frz 0 A.mh 8 x with
  | none => rw [q] at e; exact nomatch e
  | some x' =>
    rw [q] at e
    simp only at e
    cases q2 : frz 0 A.mh 8 y with
    | none => rw [q2] at e; exact nomatch e
    | some y' =>
      rw [q2] at e
      simp only at e
      split at e
      · rename_i hk
        cases e
        exact .inl ⟨_, _, frz_dp S 8 x x' vx q (okD_can hk.1) rx, frz_dp S 8 y y' vy q2 (okD_can hk.2) ry, hk.1, hk.2, rfl⟩
      · rename_i nd
        split at e
        · rename_i hk
          cases e
          exact .inr ⟨rfl, eqTop_rep hk.1 nd hk.2.1 hk.2.2 (frz_rd S 8 x x' vx q rx) (frz_rd S 8 y y' vy q2 ry)⟩
        · exact nomatch e
end
end L2.Mi

set_option Elab.async false
set_option linter.all false
set_option maxRecDepth 100000
set_option maxHeartbeats 4000000
/-! Mini4: operators and comparisons. -/
namespace PySem.SeqAt
open AutoSeq1 (wpAny_loadPart')
open MeetsSeq MeetsSeq2 MeetsSeq3
section
variable {prog : Program} {w : World}
abbrev miL (us : Array Value) (n : Nat) (d : Option Addr) (sl : Array (Option Value)) : Obj := { cls := .type "list", dict := d, data := .seq us n, slots := sl }
/-- the loop of != over two lists whose items are equal -/
theorem mi_ne_loop (p q : Addr) (us ws : Array Value) (n m : Nat) (d1 d2 : Option Addr) (s1 s2 : Array (Option Value)) (hz : us.size = ws.size) (r : Nat) :
    ∀ i : Nat, us.size - i = r → MeetsIn prog w (Builtin.«list.__eq__.loop» ⟨[.ref p, .ref q, rawInt i, rawInt 3], []⟩)
      (fun A R st => st.heap.get? p = some (miL us n d1 s1) ∧ st.heap.get? q = some (miL ws m d2 s2) ∧ (∀ j (a : j < us.size) (b : j < ws.size), EqIn prog w A.in1 st us[j] ws[j] true) ∧ R (.ok (.ret (.bool false))) st) := by
  induction r with
  | zero =>
    intro i hr A R st hy
    obtain ⟨hp, g, d, tk, os⟩ := st
    obtain ⟨e1, e2, e3, fin⟩ := hy
    wp_walk using wpAny_loadPart' e1, wpAny_loadPart' e2
    have o1 : us[((i : Nat) : Int).toNat]? = none := by simp; omega
    have o2 : ws[((i : Nat) : Int).toNat]? = none := by simp; omega
    rw [o1, o2]
    wp_walk using wpAny_loadPart' e1, wpAny_loadPart' e2
    show R (.ok (.ret (.bool (us.size != ws.size)))) _
    rw [hz]
    simpa using fin
  | succ r ih =>
    intro i hr A R st hy
    obtain ⟨hp, g, d, tk, os⟩ := st
    obtain ⟨e1, e2, e3, fin⟩ := hy
    wp_walk using wpAny_loadPart' e1, wpAny_loadPart' e2
    have l1 : i < us.size := by omega
    have l2 : i < ws.size := by omega
    have o1 : us[((i : Nat) : Int).toNat]? = some us[i] := by simp [l1]
    have o2 : ws[((i : Nat) : Int).toNat]? = some ws[i] := by simp [l2]
    have next : ((i : Int) + 1) = ((i + 1 : Nat) : Int) := by push_cast; rfl
    rw [o1, o2]
    refine wpAny_bind (e3 i l1 l2 _ _ ?_)
    wp_walk
    rw [next]
    refine ⟨plainId_quiet plain_eq_loop _, codeAny_builtin entry_eq_loop ?_⟩
    rw [Around.under_plainId plain_eq_loop _]
    exact ih (i + 1) (by omega) A R _ ⟨e1, e2, e3, fin⟩
theorem mi_ne_list (p q : Addr) (us ws : Array Value) (n m : Nat) (d1 d2 : Option Addr) (s1 s2 : Array (Option Value)) (hz : us.size = ws.size) :
    MeetsIn prog w (Builtin.«list.__ne__» ⟨[.ref p, .ref q], []⟩)
      (fun A R st => st.heap.get? p = some (miL us n d1 s1) ∧ st.heap.get? q = some (miL ws m d2 s2) ∧ (∀ j (a : j < us.size) (b : j < ws.size), EqIn prog w A.in1 st us[j] ws[j] true) ∧ R (.ok (.ret (.bool false))) st) := by
  intro A R st hy
  obtain ⟨hp, g, d, tk, os⟩ := st
  obtain ⟨e1, e2, e3, fin⟩ := hy
  have f3 := AutoSeq1.sub_list_list
  have same : ¬ (us.size != ws.size) = true := by simp [hz]
  wp_walk using wpAny_loadPart' e1, wpAny_loadPart' e2
  refine ⟨plainId_quiet plain_eq_loop _, codeAny_builtin entry_eq_loop ?_⟩
  rw [Around.under_plainId plain_eq_loop _]
  exact mi_ne_loop p q us ws n m d1 d2 s1 s2 hz _ 0 rfl A R _ ⟨e1, e2, e3, fin⟩
theorem mi_ne_lists {A : Around} {st : Shared} {E Q : Value → Shared → Prop} {p q : Addr} {us ws : Array Value} (hp : st.heap.IsList p us) (hq : st.heap.IsList q ws) (hz : us.size = ws.size) (hu : A.units < cLine)
    (he : ∀ j (a : j < us.size) (b : j < ws.size), EqIn prog w A.in1 st us[j] ws[j] true) (fin : Q (.bool false) st) : wpAny (model prog w) A (richCompare .NotEq (.ref p) (.ref q)) Q E st := by
  obtain ⟨⟨c1, d1, da1, s1⟩, o1, k1, n, z1⟩ := id hp
  obtain ⟨⟨c2, d2, da2, s2⟩, o2, k2, m, z2⟩ := id hq
  simp only at k1 z1 k2 z2
  subst k1 z1 k2 z2
  have t1 : st.TypeIs (.ref p) "list" := ⟨_, o1, rfl⟩
  have t2 : st.TypeIs (.ref q) "list" := ⟨_, o2, rfl⟩
  refine wpAny_richCompare_same_room (op := .NotEq) t1 t2 F.slot_list_ne (call_meetsIn F.slot_list_ne t1 F.entry_list_ne (F.args_list_ne_2 _ _) (mi_ne_list p q us ws n m d1 d2 s1 s2 hz) ⟨o1, o2, he, ?_⟩) hu
  exact show Value.bool false ≠ Value.notImplemented ∧ Q (.bool false) st from ⟨(fun x => nomatch x), fin⟩
end
end PySem.SeqAt
namespace PySem.W
open PySem PySem.Calls PyProof.Rows PyProof.V PySem.Spec
open PySem.SeqAt (EqIn)
theorem mi_ne_dicts {prog : Program} {w : World} {K : Type} [DecidableEq K] {knd : KeyKind prog w K} {A : Around} {E Q : Value → Shared → Prop} {st : Shared} {p q : Addr} {kp kq : List (K × Value)} (hp : (p == sysModules) = false) (hq : (q == sysModules) = false)
    (dp : st.heap.DictOf knd p kp) (dq : st.heap.DictOf knd q kq) (hu : A.units < cLine) (hl : kp.length = kq.length) (hits : KeqHitsIn prog w A.in1 st kq kp true) (fin : Q (.bool false) st) :
    wpAny (model prog w) A (compareOp .NotEq (.ref p) (.ref q)) Q E st := by
  refine wpAny_richCompare_same_room (op := .NotEq) dp.typeIs dq.typeIs PySem.F.slot_dict_ne ?_ hu
  refine wpAny_call_entry PySem.F.slot_dict_ne dp.typeIs PySem.F.entry_dict_ne ?_ (PySem.F.args_dict_ne_2 _ _)
  show wpAny _ _ (Builtin.Dict.dictSlotArgs "__ne__" ⟨[.ref p, .ref q], []⟩ >>= _) _ _ st
  refine wpAny_bind ?_
  unfold Builtin.Dict.dictSlotArgs
  refine wpAny_bind (wpAny_notOrdered_dict dp.typeIs ?_)
  show wpAny _ _ (pure (Value.ref p, Value.ref q)) _ _ st
  refine wpAny_pure (wpAny_bind (wpAny_isInstance (T := "dict") dq.typeIs PySem.F.sub_dict_dict ?_))
  simp only [Bool.not_true, Bool.false_eq_true, if_false]
  refine wpAny_bind (wpAny_pure (wpAny_bind (wpAny_pure ?_)))
  refine wpAny_bind (keq_samePairsIn hp hq dp dq (fun _ => hits) (wpAny_pure ⟨_, rfl, ?_, ?_⟩))
  · exact fun x => nomatch x
  · simpa [hl] using fin
end PySem.W
namespace L2.Mi
open PySem PySem.Spec PyProof.Rows

/-! ### a text so many times -/
theorem foldl_app (x : Array Nat) : ∀ (n : Nat) (a : Array Nat), ((List.replicate n x).foldl (· ++ ·) a).toList = a.toList ++ (List.replicate n x.toList).flatten
  | 0, a => by simp
  | n + 1, a => by
    rw [List.replicate_succ, List.foldl_cons, foldl_app x n, List.replicate_succ, List.flatten_cons]
    simp
theorem str_toList_eq {x y : Str} (h : x.cps.toList = y.cps.toList) : x = y := by
  cases x; cases y
  simp only at h
  exact congrArg Str.mk (Array.toList_inj.mp h)
def rMulS : R2 := fun x y H Q => ∃ (s : Str) (n : Int), x = .str s ∧ y = .int n ∧ 0 ≤ n ∧ n ≤ 1000000 ∧ s.length * n.toNat ≤ sizeLine ∧ Q (.str ⟨(List.replicate n.toNat s.cps.toList).flatten.toArray⟩) H
theorem op_mulS {X : Cx} : OpR X (binaryOp .Mult) rMulS := by
  intro pins s σ H x y v u Q I rx ry h
  obtain ⟨z, n, rfl, rfl, h0, h1, h2, q⟩ := h
  obtain ⟨t, rfl⟩ := rx
  obtain ⟨t', rfl⟩ := ry
  refine PySem.P.mul_str ?_ (fun h => ?_) (fun h _ => ?_) ?_
  · rw [decide_eq_false (by omega), decide_eq_false (by omega)]; rfl
  · intro hz hh
    have e1 : (z.length : Int) ≤ 16777216 := by
      have : z.length * 1 ≤ z.length * n.toNat := Nat.mul_le_mul_left _ (by omega)
      have h2' : z.length * n.toNat ≤ 16777216 := h2
      omega
    have e2 : (16777216 : Int) ≤ (2 ^ 63 - 1) / n := by
      have : 0 < n := by omega
      rw [Int.le_ediv_iff_mul_le this]
      omega
    omega
  · have h2' : z.length * n.toNat ≤ sizeLine := h2
    exact decide_eq_false (by omega)
  · split
    · rename_i hn
      have e : n.toNat = 0 := by omega
      refine ⟨by decide, .str Str.empty, H, I.tok _, ⟨_, rfl⟩, ?_⟩
      rw [e] at q
      exact q
    · split
      · rename_i hn hb
        refine ⟨.str z, H, I, ⟨_, rfl⟩, ?_⟩
        have e : (⟨(List.replicate n.toNat z.cps.toList).flatten.toArray⟩ : Str) = z := by
          apply str_toList_eq
          rw [Bool.or_eq_true] at hb
          rcases hb with hb | hb
          · have e : n.toNat = 1 := by
              have : n = 1 := by simpa using hb
              omega
            rw [e]; simp
          · have e : z.cps.toList = [] := by
              have : z.length = 0 := by simpa using hb
              have : z.cps.toList.length = 0 := by simpa [Str.length] using this
              exact List.length_eq_zero_iff.mp this
            rw [e]; simp
        rw [e] at q
        exact q
      · refine ⟨?_, .str _, H, I.tok _, ⟨_, rfl⟩, ?_⟩
        · show (⟨(List.replicate n.toNat z.cps).foldl (· ++ ·) #[]⟩ : Str).length ≤ _
          have : (⟨(List.replicate n.toNat z.cps).foldl (· ++ ·) #[]⟩ : Str).length = z.length * n.toNat := by
            show Array.size _ = _
            rw [← Array.length_toList, foldl_app]
            simp [Str.length, Nat.mul_comm]
          rw [this]
          exact h2
        · have e : (⟨(List.replicate n.toNat z.cps).foldl (· ++ ·) #[]⟩ : Str) = ⟨(List.replicate n.toNat z.cps.toList).flatten.toArray⟩ := by
            apply str_toList_eq
            rw [foldl_app]
            simp
          rw [e]
          exact q

def opOf : Op → Operator
  | .add => .Add
  | .sub => .Sub
  | .mul => .Mult
  | .fdiv => .FloorDiv
  | .mod => .Mod
def rAddS : R2 := fun x y H Q => ∃ i j, x = .str i ∧ y = .str j ∧ i.length + j.length ≤ sizeLine ∧ Q (.str (i ++ j)) H
def opR (K : PySem.W.Frag) : Op → R2
  | .add => fun x y H Q => rI0 (fun i j => .int (i + j)) x y H Q ∨ rAddS x y H Q ∨ rCatA K x y H Q ∨ rCat x y H Q
  | .sub => rI0 fun i j => .int (i - j)
  | .mul => fun x y H Q => rI CMul (fun i j => .int (i * j)) x y H Q ∨ rMulS x y H Q ∨ L2.rRepT K x y H Q
  | .fdiv => rI CDivN fun i j => .int (i.fdiv j)
  | .mod => rI (fun _ j => j ≠ 0) fun i j => .int (i.fmod j)
theorem op_ok {X : Cx} : ∀ o : Op, OpR X (binaryOp (opOf o)) (opR X.K o)
  | .add => op_add.or (op_add_str.or (op_catA.or op_cat))
  | .sub => op_sub
  | .mul => op_mul.or (op_mulS.or L2.op_repT)
  | .fdiv => op_fdivN
  | .mod => op_modN
section
variable {G : Gb} {A : Wd}
theorem opR_of (S : Sim G A) {o : Op} {x y v : MV} {vx vy : V} {Q : VK} (e : binV A.mh o x y = some v) (rx : Rep G A x vx) (ry : Rep G A y vy) (h : Post G A A.mh v Q) : opR G.K o vx vy A.H Q := by
  have lists : ∀ {xs ys : List MV}, getL A.mh x = some xs → getL A.mh y = some ys → xs.length + ys.length ≤ line → v = .lst (xs ++ ys) → rCat vx vy A.H Q := by
    intro xs ys e1 e2 hz ev
    subst ev
    obtain ⟨a, vs, rfl, h1, r1⟩ := getL_rep S e1 rx
    obtain ⟨b, ws, rfl, h2, r2⟩ := getL_rep S e2 ry
    refine ⟨a, b, vs, ws, rfl, rfl, h1, h2, ?_, fun p hp => h.newLst S (r1.app r2) hp⟩
    rw [← r1.len, ← r2.len]
    exact hz
  cases o with
  | add =>
    simp only [binV, addV] at e
    split at e
    · rename_i i j
      cases e
      exact .inl ⟨i, j, rx.int_, ry.int_, h.here S (rep_int _)⟩
    · rename_i s t
      split at e
      · rename_i hz
        cases e
        refine .inr (.inl ⟨⟨s.toArray⟩, ⟨t.toArray⟩, rx.str_, ry.str_, by rw [str_len, str_len]; exact hz, ?_⟩)
        rw [str_app]
        exact h.here S (rep_str _)
      · cases e
    · rename_i xs ys
      split at e
      · rename_i hz
        cases e
        obtain ⟨a, vs, rfl, h1, r1⟩ := rx.tup_
        obtain ⟨b, ws, rfl, h2, r2⟩ := ry.tup_
        refine .inr (.inr (.inl ⟨a, b, vs, ws, rfl, rfl, h1, h2, by rw [← r1.len, ← r2.len]; exact hz, fun e => ?_, fun _ e => ?_, fun _ _ p hp => h.newTup S (r1.app r2) hp⟩))
        · subst e
          have : xs = [] := List.length_eq_zero_iff.mp r1.len
          subst this
          exact h.here S ry
        · subst e
          have : ys = [] := List.length_eq_zero_iff.mp r2.len
          subst this
          rw [List.append_nil] at h
          exact h.here S rx
      · cases e
    · split at e
      · cases e
      · rename_i xs e1
        split at e
        · cases e
        · rename_i ys e2
          split at e
          · rename_i hz
            cases e
            exact .inr (.inr (.inr (lists e1 e2 hz rfl)))
          · cases e
  | sub =>
    simp only [binV, intV] at e
    split at e
    · rename_i i j
      cases e
      exact ⟨i, j, rx.int_, ry.int_, h.here S (rep_int _)⟩
    · cases e
  | mul =>
    simp only [binV, mulV] at e
    split at e
    · rename_i i j
      split at e
      · rename_i hz
        cases e
        exact .inl ⟨i, j, rx.int_, ry.int_, hz, h.here S (rep_int _)⟩
      · cases e
    · rename_i s j
      split at e
      · rename_i hz
        cases e
        exact .inr (.inl ⟨⟨s.toArray⟩, j, rx.str_, ry.int_, hz.1, hz.2.1, by rw [str_len]; exact hz.2.2, h.here S (rep_str _)⟩)
      · cases e
    · rename_i xs j
      split at e
      · rename_i hz
        cases e
        obtain ⟨a, vs, rfl, h1, r1⟩ := rx.tup_
        have rr : ∀ n : Nat, Reps G A (List.replicate n xs).flatten (List.replicate n vs).flatten := by
          intro n
          induction n with
          | zero => simp only [List.replicate_zero, List.flatten_nil]; unfold Reps; rfl
          | succ n ih => rw [List.replicate_succ, List.replicate_succ, List.flatten_cons, List.flatten_cons]; exact r1.app ih
        refine .inr (.inr ⟨a, j, vs, rfl, ry.int_, h1, fun z => ?_, hz.2.1, hz.2.2.1, by rw [← r1.len]; exact hz.2.2.2, fun p hp => h.newTup S (rr j.toNat) hp⟩)
        subst z
        have : xs = [] := List.length_eq_zero_iff.mp r1.len
        subst this
        simp at hz
      · cases e
    · cases e
  | fdiv =>
    simp only [binV, intV] at e
    split at e
    · rename_i i j
      split at e
      · rename_i hz
        cases e
        exact ⟨i, j, rx.int_, ry.int_, hz, h.here S (rep_int _)⟩
      · cases e
    · cases e
  | mod =>
    simp only [binV, intV] at e
    split at e
    · rename_i i j
      split at e
      · rename_i hz
        cases e
        exact ⟨i, j, rx.int_, ry.int_, hz, h.here S (rep_int _)⟩
      · cases e
    · cases e

/-! ### comparisons -/
theorem any_toDs (d : PyData) : ∀ ys : List MV, (toDs ys).any (fun z => PyData.eqv z d) = ys.any fun z => PyData.eqv (toD z) d
  | [] => rfl
  | y :: ys => by
    unfold toDs
    rw [List.any_cons, List.any_cons, any_toDs d ys]
end
def copOf : Cop → CmpOp
  | .eq => .Eq
  | .ne => .NotEq
  | .lt => .Lt
  | .le => .LtE
  | .gt => .Gt
  | .ge => .GtE
  | .mem => .In
  | .nmem => .NotIn
  | .is => .Is
  | .isn => .IsNot
def rInS1 (f : Bool → Bool) : R2 := fun x y H Q => ∃ (c : Nat) (z : Str), x = .str ⟨#[c]⟩ ∧ y = .str z ∧ Q (.bl (f (decide (c ∈ z.cps.toList)))) H
def rStr (f : List Nat → List Nat → Bool) : R2 := fun x y H Q => ∃ i j, x = .str i ∧ y = .str j ∧ Q (.bl (f i.cps.toList j.cps.toList)) H
def rIsM (f : Bool → Bool) : R2 := fun x y H Q => (y = .non ∧ Q (.bl (f (decide (x = .non)))) H) ∨ ∃ a b, x = .bl a ∧ y = .bl b ∧ Q (.bl (f (decide (a = b)))) H
theorem look_idxN : ∀ {ls : List MKey} {ns : List MV} {k : MKey} (ws : List V), ls.length = ws.length → ls.length = ns.length → dLook ls ns k = none → valV ((ls.map kOf).zip ws) (kOf k) = none
  | [], ns, k, ws, _, _, _ => rfl
  | k' :: ls, [], k, ws, _, h, _ => by simp at h
  | k' :: ls, n :: ns, k, [], h, _, _ => by simp at h
  | k' :: ls, n :: ns, k, w :: ws, h1, h2, e => by
    unfold dLook at e
    by_cases h : k' = k
    · rw [if_pos h] at e; cases e
    · rw [if_neg h] at e
      have e2 : valV (((k' :: ls).map kOf).zip (w :: ws)) (kOf k) = valV ((ls.map kOf).zip ws) (kOf k) := valV_neg (p := (kOf k', w)) fun z => h (kOf_inj z)
      rw [e2]
      exact look_idxN ws (by simpa using h1) (by simpa using h2) e
/-! equal lists and dicts -/
theorem kv_mem {kvs : List (Key × V)} {vs : List (Key × Value)} (r : KV kvs vs) : ∀ {k : Key} {v : Value}, (k, v) ∈ vs → ∃ p ∈ kvs, p.1 = k ∧ RelV p.2 v := by
  unfold KV at r
  induction r with
  | nil => intro k v h; simp at h
  | @cons p q ps qs h t ih =>
    intro k v hm
    rcases List.mem_cons.mp hm with e | hm
    · subst e
      exact ⟨p, List.mem_cons_self, h.1, h.2⟩
    · obtain ⟨p', h1, h2⟩ := ih hm
      exact ⟨p', List.mem_cons_of_mem _ h1, h2⟩
theorem relO_some {o : Option V} {u : Value} (r : RelO o (some u)) : ∃ y, o = some y ∧ RelV y u := by
  cases o with
  | none => cases r
  | some y => exact ⟨y, rfl, r⟩
theorem eqU_tree {X : Cx} {pins : List (Addr × Obj)} {σ : L2.St} {H : Hp} {s : Shared} (I : Inv X pins σ H s) {n : Nat} {x y : V} (h : EqU X.K H n x y) : ∀ {v u : Value}, RelV x v → RelV y u → PySem.W.EqTree X.prog X.w s n v u true := by
  induction h with
  | @leaf n x y d d' h1 h2 h3 h4 h5 h6 =>
    intro v u rx ry
    obtain ⟨as, r1⟩ := Dp.reads I d x v h1 rx
    obtain ⟨bs, r2⟩ := Dp.reads I d' y u h2 ry
    refine .leaf fun A hu => ?_
    have := SeqAt.eqAt_reads d d' A s v u as bs r1 r2 (SeqAt.canLay_of_shaped h3) (SeqAt.canLay_of_shaped h4) (by rw [h6, Nat.zero_min]; omega)
    rw [h5] at this
    exact this
  | @tup n a b vs ws h1 h2 h3 _ ih =>
    intro v u rx ry
    obtain rfl : v = Value.ref a := rx
    obtain rfl : u = Value.ref b := ry
    obtain ⟨us, r1, p1, _⟩ := I.tuple h1
    obtain ⟨zs, r2, p2, _⟩ := I.tuple h2
    by_cases e : a = b
    · subst e; exact .same
    · have l1 := r1.length
      have l2 := r2.length
      have t := PySem.W.EqTree.tuples (prog := X.prog) (w := X.w) (s := s) (n := n) (e := fun _ => true) e p1 p2 fun j j1 j2 => by
        have k1 : j < vs.length := by rw [l1]; simpa using j1
        have k2 : j < ws.length := by rw [l2]; simpa using j2
        obtain ⟨v', q1, q2⟩ := r1.get (List.getElem?_eq_getElem k1)
        obtain ⟨u', q3, q4⟩ := r2.get (List.getElem?_eq_getElem k2)
        have e1 : us.toArray[j] = v' := by
          have := List.getElem?_eq_some_iff.mp q1
          obtain ⟨_, e⟩ := this
          simpa using e
        have e2 : zs.toArray[j] = u' := by
          have := List.getElem?_eq_some_iff.mp q3
          obtain ⟨_, e⟩ := this
          simpa using e
        rw [e1, e2]
        exact ih j _ _ (List.getElem?_eq_getElem k1) (List.getElem?_eq_getElem k2) q2 q4
      have e3 : ((List.range (min us.toArray.size zs.toArray.size)).all (fun _ => true) && us.toArray.size == zs.toArray.size) = true := by
        rw [List.size_toArray, List.size_toArray, ← l1, ← l2, h3]
        simp
      rw [e3] at t
      exact t
  | @lst n a b vs ws h1 h2 h3 _ ih =>
    intro v u rx ry
    obtain rfl : v = Value.ref a := rx
    obtain rfl : u = Value.ref b := ry
    obtain ⟨us, r1, p1, _⟩ := I.list h1
    obtain ⟨zs, r2, p2, _⟩ := I.list h2
    by_cases e : a = b
    · subst e; exact .same
    · have l1 := r1.length
      have l2 := r2.length
      have t := PySem.W.EqTree.lists (prog := X.prog) (w := X.w) (s := s) (n := n) (e := fun _ => true) e p1.isList p2.isList (by rw [List.size_toArray, List.size_toArray]; omega) fun j j1 j2 => by
        have k1 : j < vs.length := by rw [l1]; simpa using j1
        have k2 : j < ws.length := by rw [l2]; simpa using j2
        obtain ⟨v', q1, q2⟩ := r1.get (List.getElem?_eq_getElem k1)
        obtain ⟨u', q3, q4⟩ := r2.get (List.getElem?_eq_getElem k2)
        have e1 : us.toArray[j] = v' := by
          have := List.getElem?_eq_some_iff.mp q1
          obtain ⟨_, e⟩ := this
          simpa using e
        have e2 : zs.toArray[j] = u' := by
          have := List.getElem?_eq_some_iff.mp q3
          obtain ⟨_, e⟩ := this
          simpa using e
        rw [e1, e2]
        exact ih j _ _ (List.getElem?_eq_getElem k1) (List.getElem?_eq_getElem k2) q2 q4
      have e3 : ((List.range us.toArray.size).all fun _ => true) = true := List.all_eq_true.mpr fun _ _ => rfl
      rw [e3] at t
      exact t
  | @dct n a b ks ls h1 h2 h3 h4 _ ih =>
    intro v u rx ry
    obtain rfl : v = Value.ref a := rx
    obtain rfl : u = Value.ref b := ry
    obtain ⟨_, ya, va, ra, da⟩ := dk_rd I.hok h1
    obtain ⟨_, yb, vb, rb, db⟩ := dk_rd I.hok h2
    by_cases e : a = b
    · subst e; exact .same
    · have t := PySem.W.EqTree.dicts (prog := X.prog) (w := X.w) (s := s) (n := n) (e := fun _ => true) e ya yb da db fun k v' y' hm hv => by
        obtain ⟨p, hp, e1, e2⟩ := kv_mem ra hm
        have o := rb.val k
        rw [hv] at o
        obtain ⟨y, ey, ry'⟩ := relO_some o
        have ey' : valV ls p.1 = some y := by rw [e1]; exact ey
        exact ih p y hp ey' e2 ry'
      have e3 : (va.length == vb.length && va.all fun p => (valueAt vb p.1).isSome && true) = true := by
        rw [← ra.length, ← rb.length, h3]
        simp only [beq_self_eq_true, Bool.true_and, Bool.and_true, List.all_eq_true]
        intro p hp
        obtain ⟨q, hq, e1, _⟩ := kv_mem ra (k := p.1) (v := p.2) hp
        rw [← (rb.val p.1).isSome_eq, ← e1]
        exact h4 q hq
      rw [e3] at t
      exact t
def rEqM (K : PySem.W.Frag) : R2 := fun x y H Q => EqTop K H x y ∧ Q (.bl true) H
def rNeM (K : PySem.W.Frag) : R2 := fun x y H Q => EqTop K H x y ∧ Q (.bl false) H
theorem items_tree {X : Cx} {pins : List (Addr × Obj)} {σ : L2.St} {H : Hp} {s : Shared} (I : Inv X pins σ H s) {n : Nat} {A : Around} (hu : A.units + n < cLine) {vs ws : List V} {us zs : List Value} (r1 : Vals vs us) (r2 : Vals ws zs)
    (h : ∀ (i : Nat) u w, vs[i]? = some u → ws[i]? = some w → EqU X.K H n u w) (j : Nat) (j1 : j < us.toArray.size) (j2 : j < zs.toArray.size) : SeqAt.EqIn X.prog X.w A s us.toArray[j] zs.toArray[j] true := by
  have k1 : j < vs.length := by rw [r1.length]; simpa using j1
  have k2 : j < ws.length := by rw [r2.length]; simpa using j2
  obtain ⟨v', q1, q2⟩ := r1.get (List.getElem?_eq_getElem k1)
  obtain ⟨u', q3, q4⟩ := r2.get (List.getElem?_eq_getElem k2)
  have e1 : us.toArray[j] = v' := by
    obtain ⟨_, e⟩ := List.getElem?_eq_some_iff.mp q1
    simpa using e
  have e2 : zs.toArray[j] = u' := by
    obtain ⟨_, e⟩ := List.getElem?_eq_some_iff.mp q3
    simpa using e
  rw [e1, e2]
  exact (eqU_tree I (h j _ _ (List.getElem?_eq_getElem k1) (List.getElem?_eq_getElem k2)) q2 q4).at A hu
theorem hits_tree {X : Cx} {pins : List (Addr × Obj)} {σ : L2.St} {H : Hp} {s : Shared} (I : Inv X pins σ H s) {n : Nat} {A : Around} (hu : A.units + n < cLine) {ks ls : List (Key × V)} {va vb : List (Key × Value)} (ra : KV ks va) (rb : KV ls vb)
    (h4 : ∀ p ∈ ks, (valV ls p.1).isSome = true) (h5 : ∀ p u, p ∈ ks → valV ls p.1 = some u → EqU X.K H n p.2 u) : PySem.W.KeqHitsIn X.prog X.w A s vb va true := by
  have t := PySem.W.KeqHitsIn.of (prog := X.prog) (w := X.w) (A := A) (s := s) (kb := vb) (e := fun _ => true) va fun k v' y' hm hv => by
    obtain ⟨p, hp, e1, e2⟩ := kv_mem ra hm
    have o := rb.val k
    rw [hv] at o
    obtain ⟨y, ey, ry'⟩ := relO_some o
    have ey' : valV ls p.1 = some y := by rw [e1]; exact ey
    exact (eqU_tree I (h5 p y hp ey') e2 ry').at A hu
  have e3 : (va.all fun p => (valueAt vb p.1).isSome && true) = true := by
    simp only [Bool.and_true, List.all_eq_true]
    intro p hp
    obtain ⟨q, hq, e1, _⟩ := kv_mem ra (k := p.1) (v := p.2) hp
    rw [← (rb.val p.1).isSome_eq, ← e1]
    exact h4 q hq
  rw [e3] at t
  exact t
theorem op_eqM {X : Cx} (hu : X.A.units + 64 < cLine) : OpR X (compareOp .Eq) (rEqM X.K) := by
  intro pins s σ H x y v u Q I rx ry h
  obtain ⟨⟨n, a, b, vs, ws, hn, rfl, rfl, h1, h2, h3, h4⟩ | ⟨n, a, b, ks, ls, hn, rfl, rfl, h1, h2, h3, h4, h5⟩, q⟩ := h
  · obtain rfl : v = Value.ref a := rx
    obtain rfl : u = Value.ref b := ry
    obtain ⟨us, r1, p1, _⟩ := I.list h1
    obtain ⟨zs, r2, p2, _⟩ := I.list h2
    have l1 := r1.length
    have l2 := r2.length
    refine SeqAt.rcIn_lists (e := fun _ => true) p1.isList p2.isList (by rw [List.size_toArray, List.size_toArray]; omega) (by omega) (fun j j1 j2 => items_tree I (A := X.A.in1) (by show X.A.units + 1 + n < cLine; omega) r1 r2 h4 j j1 j2) ?_
    have e3 : ((List.range us.toArray.size).all fun _ => true) = true := List.all_eq_true.mpr fun _ _ => rfl
    rw [e3]
    exact ⟨.bl true, H, I, rfl, q⟩
  · obtain rfl : v = Value.ref a := rx
    obtain rfl : u = Value.ref b := ry
    obtain ⟨_, ya, va, ra, da⟩ := dk_rd I.hok h1
    obtain ⟨_, yb, vb, rb, db⟩ := dk_rd I.hok h2
    refine PySem.W.keq_eqIn (r := true) ya yb da db (by omega) (fun _ => hits_tree I (A := X.A.in1) (by show X.A.units + 1 + n < cLine; omega) ra rb h4 h5) ?_
    have e3 : (va.length == vb.length && true) = true := by rw [← ra.length, ← rb.length, h3]; simp
    rw [e3]
    exact ⟨.bl true, H, I, rfl, q⟩
theorem op_neM {X : Cx} (hu : X.A.units + 64 < cLine) : OpR X (compareOp .NotEq) (rNeM X.K) := by
  intro pins s σ H x y v u Q I rx ry h
  obtain ⟨⟨n, a, b, vs, ws, hn, rfl, rfl, h1, h2, h3, h4⟩ | ⟨n, a, b, ks, ls, hn, rfl, rfl, h1, h2, h3, h4, h5⟩, q⟩ := h
  · obtain rfl : v = Value.ref a := rx
    obtain rfl : u = Value.ref b := ry
    obtain ⟨us, r1, p1, _⟩ := I.list h1
    obtain ⟨zs, r2, p2, _⟩ := I.list h2
    have l1 := r1.length
    have l2 := r2.length
    exact SeqAt.mi_ne_lists p1.isList p2.isList (by rw [List.size_toArray, List.size_toArray]; omega) (by omega) (fun j j1 j2 => items_tree I (A := X.A.in1) (by show X.A.units + 1 + n < cLine; omega) r1 r2 h4 j j1 j2) ⟨.bl false, H, I, rfl, q⟩
  · obtain rfl : v = Value.ref a := rx
    obtain rfl : u = Value.ref b := ry
    obtain ⟨_, ya, va, ra, da⟩ := dk_rd I.hok h1
    obtain ⟨_, yb, vb, rb, db⟩ := dk_rd I.hok h2
    exact PySem.W.mi_ne_dicts ya yb da db (by omega) (by rw [← ra.length, ← rb.length]; exact h3) (hits_tree I (A := X.A.in1) (by show X.A.units + 1 + n < cLine; omega) ra rb h4 h5) ⟨.bl false, H, I, rfl, q⟩
def rDIn (f : Bool → Bool) : R2 := fun x y H Q => ∃ a o, y = .ref a ∧ DGet H a x o ∧ Q (.bl (f o.isSome)) H
theorem op_din {X : Cx} (hu : X.A.units + 1 < cLine) : OpR X (compareOp .In) (rDIn id) := by
  intro pins s σ H x y v u Q I rx ry h
  obtain ⟨a, o, rfl, g, q⟩ := h
  obtain rfl : u = Value.ref a := ry
  exact d_in hu I g rx fun s' I' => ⟨.bl o.isSome, H, I', rfl, q⟩
theorem op_dnin {X : Cx} (hu : X.A.units + 1 < cLine) : OpR X (compareOp .NotIn) (rDIn (!·)) := by
  intro pins s σ H x y v u Q I rx ry h
  obtain ⟨a, o, rfl, g, q⟩ := h
  obtain rfl : u = Value.ref a := ry
  exact d_notIn hu I g rx fun s' I' => ⟨.bl (!o.isSome), H, I', rfl, q⟩
def rInDT (K : PySem.W.Frag) (f : Bool → Bool) : R2 := fun x y H Q => ∃ d ds, Dp K H x d ∧ Dp K H y (.tuple ds) ∧ SeqAt.shaped d = true ∧ SeqAt.shaped (.tuple ds) = true ∧ Q (.bl (f (ds.any fun z => PyData.eqv z d))) H
theorem shaped_depth {d : PyData} (h : SeqAt.shaped d = true) : d.depth ≤ 64 := by
  unfold SeqAt.shaped at h
  rw [Bool.and_eq_true] at h
  exact of_decide_eq_true h.2
theorem op_inDT {X : Cx} (hu : X.A.units + 65 < cLine) : OpR X (compareOp .In) (rInDT X.K id) := by
  intro pins s σ H x y v u Q I rx ry h
  obtain ⟨d, ds, hd, he, sd, se, q⟩ := h
  obtain ⟨as, r1⟩ := Dp.reads I d x v hd rx
  obtain ⟨bs, r2⟩ := Dp.reads I (.tuple ds) y u he ry
  exact SeqAt.in_tuple_reads r2 r1 (SeqAt.canLay_of_shaped se) (SeqAt.canLay_of_shaped sd) (by have := shaped_depth sd; have := Nat.min_le_right (PyData.depthAll ds) d.depth; omega) ⟨.bl _, H, I, rfl, q⟩
theorem op_notInDT {X : Cx} (hu : X.A.units + 65 < cLine) : OpR X (compareOp .NotIn) (rInDT X.K (!·)) := by
  intro pins s σ H x y v u Q I rx ry h
  obtain ⟨d, ds, hd, he, sd, se, q⟩ := h
  obtain ⟨as, r1⟩ := Dp.reads I d x v hd rx
  obtain ⟨bs, r2⟩ := Dp.reads I (.tuple ds) y u he ry
  exact SeqAt.notIn_tuple_reads r2 r1 (SeqAt.canLay_of_shaped se) (SeqAt.canLay_of_shaped sd) (by have := shaped_depth sd; have := Nat.min_le_right (PyData.depthAll ds) d.depth; omega) ⟨.bl _, H, I, rfl, q⟩
def rLtD (K : PySem.W.Frag) : R2 := fun x y H Q => ∃ d d', Dp K H x d ∧ Dp K H y d' ∧ SeqAt.shaped d = true ∧ SeqAt.shaped d' = true ∧ PySem.W.alike d d' = true ∧ d ≠ .none ∧ Q (.bl (PySem.W.dataLt d d')) H
theorem op_ltD {X : Cx} (hu : X.A.units + 65 < cLine) : OpR X (compareOp .Lt) (rLtD X.K) := by
  intro pins s σ H x y v u Q I rx ry h
  obtain ⟨d, d', hd, he, sd, se, al, hn, q⟩ := h
  obtain ⟨as, r1⟩ := Dp.reads I d x v hd rx
  obtain ⟨bs, r2⟩ := Dp.reads I d' y u he ry
  exact PySem.W.lt_data r1 r2 al hn (by have := shaped_depth sd; have := Nat.min_le_left d.depth d'.depth; omega) ⟨.bl _, H, I, rfl, q⟩
def copR (K : PySem.W.Frag) : Cop → R2
  | .eq => fun x y H Q => rEqD K x y H Q ∨ rEqM K x y H Q
  | .ne => fun x y H Q => rNeD K x y H Q ∨ rNeM K x y H Q
  | .lt => fun x y H Q => rI0 (fun i j => .bl (decide (i < j))) x y H Q ∨ rStr (fun i j => decide (i < j)) x y H Q ∨ rLtD K x y H Q
  | .le => fun x y H Q => rI0 (fun i j => .bl (decide (i ≤ j))) x y H Q ∨ rStr (fun i j => !decide (j < i)) x y H Q
  | .gt => fun x y H Q => rI0 (fun i j => .bl (decide (j < i))) x y H Q ∨ rStr (fun i j => decide (j < i)) x y H Q
  | .ge => fun x y H Q => rI0 (fun i j => .bl (decide (j ≤ i))) x y H Q ∨ rStr (fun i j => !decide (i < j)) x y H Q
  | .mem => fun x y H Q => rInS1 id x y H Q ∨ rInD K x y H Q ∨ rDIn id x y H Q ∨ rInDT K id x y H Q
  | .nmem => fun x y H Q => rInS1 (!·) x y H Q ∨ rNotInD K x y H Q ∨ rDIn (!·) x y H Q ∨ rInDT K (!·) x y H Q
  | .is => rIsM id
  | .isn => rIsM (!·)
theorem cop_ok {X : Cx} (hu : X.A.units + 65 < cLine) : ∀ o : Cop, OpR X (compareOp (copOf o)) (copR X.K o)
  | .eq => (op_eqD (by omega)).or (op_eqM (by omega))
  | .ne => (op_neD (by omega)).or (op_neM (by omega))
  | .lt => op_lt.or (op_lt_str.or (op_ltD hu))
  | .le => op_le.or op_le_str
  | .gt => op_gt.or op_gt_str
  | .ge => op_ge.or op_ge_str
  | .mem => op_in_sign.or ((op_inD hu).or ((op_din (by omega)).or (op_inDT hu)))
  | .nmem => op_notIn_sign.or ((op_notInD hu).or ((op_dnin (by omega)).or (op_notInDT hu)))
  | .is => op_isN.or op_is_bl
  | .isn => op_notN.or op_isnot_bl
section
variable {G : Gb} {A : Wd}
theorem rep_one (c : Nat) : (V.str ⟨[c].toArray⟩) = .str ⟨#[c]⟩ := rfl
theorem Rep.not_non {x : MV} {v : V} (h : Rep G A x v) (hx : x ≠ .non) : v ≠ .non := by
  intro e
  subst e
  cases x with
  | non => exact hx rfl
  | bl b => exact nomatch h.bl_
  | int i => exact nomatch h.int_
  | str s => exact nomatch h.str_
  | fn f => unfold Rep at h; obtain ⟨a, _, e⟩ := h; exact nomatch e
  | tup xs => obtain ⟨a, vs, e, _⟩ := h.tup_; exact nomatch e
  | lst xs => unfold Rep at h; obtain ⟨a, vs, e, _⟩ := h; exact nomatch e
  | loc l => obtain ⟨a, e, _⟩ := h.loc_; exact nomatch e
  | dct ks vs => unfold Rep at h; obtain ⟨a, vs, e, _⟩ := h; exact nomatch e
  | scr ns => unfold Rep at h; obtain ⟨a, e, _⟩ := h; exact nomatch e
theorem mem_of (S : Sim G A) {x y : MV} {c : Bool} {vx vy : V} {f : Bool → Bool} {Q : VK} (e : memV A.mh x y = some c) (rx : Rep G A x vx) (ry : Rep G A y vy) (h : Q (.bl (f c)) A.H) :
    rInS1 f vx vy A.H Q ∨ (∃ d ds, Dp G.K A.H vx d ∧ Dp G.K A.H vy (.list ds) ∧ SeqAt.shaped d = true ∧ SeqAt.shaped (.list ds) = true ∧ Q (.bl (f (ds.any fun z => PyData.eqv z d))) A.H) ∨ rDIn f vx vy A.H Q ∨ rInDT G.K f vx vy A.H Q := by
  unfold memV at e
  split at e
  · rename_i c' t
    cases e
    refine .inl ⟨c', ⟨t.toArray⟩, rx.str_, ry.str_, ?_⟩
    exact h
  · cases q : frz 0 A.mh 8 x with
    | none => rw [q] at e; exact nomatch e
    | some x' =>
      rw [q] at e
      simp only at e
      split at e
      · rename_i ys q2
        split at e
        · rename_i hk
          cases e
          refine .inr (.inl ⟨toD x', toDs ys, frz_dp S 8 x x' vx q (okD_can hk.1) rx, ?_, hk.1, ?_, ?_⟩)
          · have := frz_dp S 8 y _ vy q2 (okD_can hk.2) ry
            unfold toD at this
            exact this
          · have := hk.2
            unfold okD toD at this
            exact this
          · rw [any_toDs]
            exact h
        · exact nomatch e
      · rename_i ys q2
        split at e
        · rename_i hk
          cases e
          refine .inr (.inr (.inr ⟨toD x', toDs ys, frz_dp S 8 x x' vx q (okD_can hk.1) rx, ?_, hk.1, ?_, ?_⟩))
          · have := frz_dp S 8 y _ vy q2 (okD_can hk.2) ry
            unfold toD at this
            exact this
          · have := hk.2
            unfold okD toD at this
            exact this
          · rw [any_toDs]
            exact h
        · exact nomatch e
      · rename_i ks ms q2
        simp only [Option.map_eq_some_iff] at e
        obtain ⟨k, e1, rfl⟩ := e
        have rd := frz_rd S 8 y _ vy q2 ry
        cases rd with
        | dat _ _ _ h => exact absurd rfl (h _ _)
        | @dct _ _ a vs a1 a2 a3 a4 =>
          refine .inr (.inr (.inl ⟨a, _, rfl, .inl ⟨_, kOf k, a1, kyV_rep e1 rx, rfl⟩, ?_⟩))
          have e2 : (valV ((ks.map kOf).zip vs) (kOf k)).isSome = (dLook ks ms k).isSome := by
            cases q : dLook ks ms k with
            | some m =>
              obtain ⟨j, w, _, _, e3⟩ := look_idx vs a2 q
              rw [e3]; rfl
            | none => rw [look_idxN vs a2 (by omega) q]; rfl
          rw [e2]
          exact h
      · exact nomatch e
theorem dec_le {i j : Int} : decide (i ≤ j) = !decide (j < i) := by
  rw [Bool.eq_iff_iff]; simp
theorem toD_notNon {x : MV} (h : notNon x = true) : toD x ≠ .none := by
  cases x <;> first | exact absurd h (by decide) | (intro e; unfold toD at e; cases e)
theorem lt_of (S : Sim G A) {x y : MV} {c : Bool} {vx vy : V} {Q : VK} (e : cmpV A.mh .lt x y = some c) (rx : Rep G A x vx) (ry : Rep G A y vy) (h : Q (.bl c) A.H)
    (ord : ∀ {p : Bool × Bool}, ordV x y = some p → (∃ i j : Int, vx = .int i ∧ vy = .int j ∧ p = (decide (i < j), decide (j < i))) ∨ ∃ s t : Str, vx = .str s ∧ vy = .str t ∧ p = (decide (s.cps.toList < t.cps.toList), decide (t.cps.toList < s.cps.toList))) : copR G.K .lt vx vy A.H Q := by
  have hT : ∀ {c : Bool}, ltD A.mh x y = some c → Q (.bl c) A.H → copR G.K .lt vx vy A.H Q := by
    intro c e h
    unfold ltD at e
    split at e
    · exact nomatch e
    · rename_i x' q1
      split at e
      · exact nomatch e
      · rename_i y' q2
        split at e
        · rename_i hk
          cases e
          exact .inr (.inr ⟨toD x', toD y', frz_dp S 8 x x' vx q1 (okD_can hk.1) rx, frz_dp S 8 y y' vy q2 (okD_can hk.2.1) ry, hk.1, hk.2.1, hk.2.2.1, toD_notNon hk.2.2.2, h⟩)
        · exact nomatch e
  have hO : ((ordV x y).map fun p => p.1) = some c → copR G.K .lt vx vy A.H Q := by
    intro e
    simp only [Option.map_eq_some_iff] at e
    obtain ⟨p, e', rfl⟩ := e
    rcases ord e' with ⟨i, j, h1, h2, rfl⟩ | ⟨i, j, h1, h2, rfl⟩
    · exact .inl ⟨i, j, h1, h2, h⟩
    · exact .inr (.inl ⟨i, j, h1, h2, h⟩)
  by_cases hx : ∃ xs ys, x = .tup xs ∧ y = .tup ys
  · obtain ⟨xs, ys, rfl, rfl⟩ := hx
    exact hT e h
  · refine hO ?_
    unfold cmpV at e
    split at e
    all_goals first | contradiction | (exfalso; exact hx ⟨_, _, rfl, rfl⟩) | exact e
theorem copR_of (S : Sim G A) {o : Cop} {x y : MV} {c : Bool} {vx vy : V} {Q : VK} (e : cmpV A.mh o x y = some c) (rx : Rep G A x vx) (ry : Rep G A y vy) (h : Q (.bl c) A.H) : copR G.K o vx vy A.H Q := by
  have ord : ∀ {p : Bool × Bool}, ordV x y = some p → (∃ i j : Int, vx = .int i ∧ vy = .int j ∧ p = (decide (i < j), decide (j < i))) ∨ ∃ s t : Str, vx = .str s ∧ vy = .str t ∧ p = (decide (s.cps.toList < t.cps.toList), decide (t.cps.toList < s.cps.toList)) := by
    intro p e
    unfold ordV at e
    split at e
    · cases e
      exact .inl ⟨_, _, rx.int_, ry.int_, rfl⟩
    · cases e
      exact .inr ⟨_, _, rx.str_, ry.str_, rfl⟩
    · exact nomatch e
  have is : ∀ {c : Bool} {f : Bool → Bool}, isV x y = some c → Q (.bl (f c)) A.H → rIsM f vx vy A.H Q := by
    intro c f e h
    unfold isV at e
    split at e
    · cases e
      refine .inl ⟨ry.non_, ?_⟩
      rw [rx.non_, decide_eq_true rfl]
      exact h
    · cases e
      refine .inl ⟨ry.non_, ?_⟩
      rw [decide_eq_false (rx.not_non (by assumption))]
      exact h
    · cases e
      exact .inr ⟨_, _, rx.bl_, ry.bl_, h⟩
    · exact nomatch e
  cases o with
  | eq =>
    rcases eqV_dp S e rx ry with ⟨d, d', h1, h2, h3, h4, h5⟩ | ⟨rfl, h1⟩
    · exact .inl ⟨d, d', h1, h2, h3, h4, by rw [h5]; exact h⟩
    · exact .inr ⟨h1, h⟩
  | ne =>
    simp only [cmpV, Option.map_eq_some_iff] at e
    obtain ⟨c', e, rfl⟩ := e
    rcases eqV_dp S e rx ry with ⟨d, d', h1, h2, h3, h4, h5⟩ | ⟨rfl, h1⟩
    · exact .inl ⟨d, d', h1, h2, h3, h4, by rw [h5]; exact h⟩
    · exact .inr ⟨h1, h⟩
  | mem => exact mem_of (f := id) S e rx ry h
  | nmem =>
    simp only [cmpV, Option.map_eq_some_iff] at e
    obtain ⟨c', e, rfl⟩ := e
    exact mem_of (f := (!·)) S e rx ry h
  | lt =>
    exact lt_of S e rx ry h ord
  | gt =>
    simp only [cmpV, Option.map_eq_some_iff] at e
    obtain ⟨p, e, rfl⟩ := e
    rcases ord e with ⟨i, j, h1, h2, rfl⟩ | ⟨i, j, h1, h2, rfl⟩
    · exact .inl ⟨i, j, h1, h2, h⟩
    · exact .inr ⟨i, j, h1, h2, h⟩
  | le =>
    simp only [cmpV, Option.map_eq_some_iff] at e
    obtain ⟨p, e, rfl⟩ := e
    rcases ord e with ⟨i, j, h1, h2, rfl⟩ | ⟨i, j, h1, h2, rfl⟩
    · exact .inl ⟨i, j, h1, h2, by dsimp only; rw [dec_le]; exact h⟩
    · exact .inr ⟨i, j, h1, h2, h⟩
  | ge =>
    simp only [cmpV, Option.map_eq_some_iff] at e
    obtain ⟨p, e, rfl⟩ := e
    rcases ord e with ⟨i, j, h1, h2, rfl⟩ | ⟨i, j, h1, h2, rfl⟩
    · exact .inl ⟨i, j, h1, h2, by dsimp only; rw [dec_le]; exact h⟩
    · exact .inr ⟨i, j, h1, h2, h⟩
  | is => exact is (f := id) e h
  | isn =>
    simp only [cmpV, Option.map_eq_some_iff] at e
    obtain ⟨c', e, rfl⟩ := e
    exact is (f := (!·)) e h
end
end L2.Mi

set_option Elab.async false
set_option linter.all false
set_option maxRecDepth 100000
set_option maxHeartbeats 4000000
/-! Mini5: list.extend of a tuple, list of a text; subscripts, slices, built-ins, methods. -/
namespace PySem.AutoSeq1
open PySem PySem.Spec PyProof.Rows
theorem list_extend_tupAny (l : Addr) (items : Array Value) (n : Nat) (b : Addr) (dd : Option Addr) (sl : Array (Option Value)) (items2 : Array Value) (n2 : Nat) (hs0 : ¬(!items.isEmpty && Builtin.List.listTooLong (items.size + items2.size)) = true) (hs1 : items.size ≤ sizeLine) (hs2 : items.size + items2.size ≤ sizeLine + 1 := by seq_fits) :
    Meets (Builtin.«list.extend» ⟨[.ref l, .ref b], []⟩) (fun _ R s => s.heap.get? l = some { cls := .type "list", dict := none, data := .seq items n, slots := #[] } ∧ s.heap.get? b = some { cls := .type "tuple", dict := dd, data := .seq items2 n2, slots := sl } ∧ R (.ok (.ret Value.none)) { s with heap := s.heap.update l (Obj.mapSeq fun x => x ++ items2), toks := s.toks }) :=
  .of_wp fun prog w A R s h => by
    obtain ⟨hp, g, d, tk, os⟩ := s; obtain ⟨hl, hb, h⟩ := h; have f1 := idx_int; have f2 := sub_tuple_tuple; have f3 := sub_list_list; have f4 := sub_tuple_list; have f5 := sub_list_tuple;
    have hz' : (items ++ items2).size ≤ sizeLine + 1 := by rw [Array.size_append]; exact hs2
    wp_walk using (wpAny_updateSeq hl rfl (hz := hs1) (_hz' := hz')), wpAny_loadPart' hl, wpAny_loadPart' hb; exact ⟨_, rfl, h⟩
end PySem.AutoSeq1
namespace L2.Mi
open PySem PySem.Spec PyProof.Rows
def rExtT (K : PySem.W.Frag) : V → List V → Hp → VK → Prop := fun x vs H Q => ∃ l b xs zs, x = .ref l ∧ vs = [.ref b] ∧ H l = some (.lst xs) ∧ SqT K H b zs ∧ xs.length + zs.length ≤ sizeLine ∧ Q .non (upd H l (.lst (xs ++ zs)))
theorem mt_extT {X : Cx} : MtM X "list.extend" (rExtT X.K) := by
  intro pins s σ H x vs v us Q I rx rv h
  obtain ⟨l, b, xs, zs, rfl, rfl, hH, hB, hz, q⟩ := h
  cases rx
  obtain ⟨u, rfl, ru⟩ := rv.one
  cases ru
  obtain ⟨z, its, n, r, hl, e⟩ := I.lstM hH
  obtain ⟨its2, r2, pt, hz2⟩ := I.tuple hB
  obtain ⟨⟨cls, dd, data, sl⟩, e2, hc, n2, hd⟩ := id pt
  simp only at hc hd
  subst hc hd
  have hl2 := r2.length
  have hsz : its.toArray.size + its2.toArray.size ≤ sizeLine := by rw [List.size_toArray, List.size_toArray]; omega
  have hlong : ¬ (!its.toArray.isEmpty && Builtin.List.listTooLong (its.toArray.size + its2.toArray.size)) = true := by
    rw [notLongL hsz, Bool.and_false]
    exact Bool.false_ne_true
  refine call_meets F.slot_list_extend ⟨_, e, rfl⟩ F.entry_list_extend (F.args_list_extend_2 _ _)
    (AutoSeq1.list_extend_tupAny l its.toArray n b dd sl its2.toArray n2 hlong (by rw [List.size_toArray]; omega) (by omega)) ⟨e, e2, ?_⟩
  refine ⟨.non, _, I.lset (its' := its ++ its2) hH e (by simp) (r.append r2) ?_, rfl, q⟩
  rw [List.length_append]
  omega

theorem call_listS {X : Cx} (hc : X.calm = true) : CallR X (.type "list") (fun xs H Q => ∃ z : Str, xs = [.str z] ∧ z.length ≤ sizeLine ∧ ∀ p, H p = none → Q (.ref p) (upd H p (.lst (z.cps.toList.map fun c => .str ⟨#[c]⟩)))) := by
  intro pins s σ H xs us Q I r h
  obtain ⟨z, rfl, hz, q⟩ := h
  obtain ⟨u, rfl, rx⟩ := vals1 r
  obtain ⟨t, rfl⟩ := rx
  refine PySem.call_list_str (I.ok.hd hc) z t (hn := hz) fun h' tk acc' c' hk hS' hacc => ?_
  have hl : acc'.toList.length = z.cps.toList.length := by simp [hacc.1]
  have rv : Vals (z.cps.toList.map fun c => V.str ⟨#[c]⟩) acc'.toList := by
    have gen : ∀ (cs : List Nat) (us : List Value), us.length = cs.length → (∀ (j : Nat) v, us[j]? = some v → ∃ c u, cs[j]? = some c ∧ v = Value.str ⟨#[c]⟩ u) → Vals (cs.map fun c => V.str ⟨#[c]⟩) us := by
      intro cs
      induction cs with
      | nil => intro us h1 _; cases us with | nil => exact .nil | cons => simp at h1
      | cons c cs ih =>
        intro us h1 h2
        cases us with
        | nil => simp at h1
        | cons u us =>
          obtain ⟨c', t', e1, e2⟩ := h2 0 u rfl
          have : c = c' := by simpa using e1
          subst this
          exact .cons ⟨t', e2⟩ (ih us (by simpa using h1) fun j v hj => by simpa using h2 (j + 1) v (by simpa using hj))
    refine gen _ _ hl fun j v hj => ?_
    obtain ⟨c, u, e1, e2⟩ := hacc.2 j v (by simpa using hj)
    exact ⟨c, u, by simpa using e1, e2⟩
  have hf : H s.heap.objs.size = none := I.hok.fresh (Nat.le_refl _)
  refine ⟨.ref s.heap.objs.size, _, I.laid (t' := tk) hk (Nat.le_refl _) (show ObjOk X.prog X.w _ h' _ (.lst _) from ⟨?_, acc'.toList, c', rv, by simpa using hS'⟩), rfl, q _ hf⟩
  rw [List.length_map, Array.length_toList]
  exact hz

section
variable {G : Gb} {A : Wd}
theorem idx_rep {xs : List MV} {vs : List V} (r : Reps G A xs vs) {i : Int} {x : MV} (e : idx xs i = some x) : ∃ v, atI vs i = some v ∧ Rep G A x v := by
  unfold idx atI at e
  cases q : ixN xs.length i with
  | none => rw [q] at e; exact nomatch e
  | some j =>
    rw [q] at e
    obtain ⟨v, h1, h2⟩ := r.get (show xs[j]? = some x from e)
    refine ⟨v, ?_, h2⟩
    unfold atI
    rw [← r.len, q]
    exact h1
/-! ### subscripts -/
def rDSub : R2 := fun x y H Q => ∃ a v, x = .ref a ∧ DGet H a y (some v) ∧ Q v H
theorem subD_of' (S : Sim G A) {x y v : MV} {vx vy : V} {Q : VK} (e : subD A.mh x y = some v) (rx : Rep G A x vx) (ry : Rep G A y vy) (h : Post G A A.mh v Q) : rDSub vx vy A.H Q := by
  unfold subD at e
  split at e
  · rename_i ks ms e1
    rw [Option.bind_eq_some_iff] at e
    obtain ⟨k, e2, e3⟩ := e
    obtain ⟨a, vs, rfl, hH, hl, r⟩ := getD_rep S e1 rx
    obtain ⟨w, q1, q2⟩ := look_some hl r e3
    exact ⟨a, w, rfl, .inl ⟨_, kOf k, hH, kyV_rep e2 ry, q1.symm⟩, h.here S q2⟩
  · cases e
/-- subscripts of all but dicts -/
def subN (mh : MHp) : MV → MV → Option MV
  | .tup xs, .int i => idx xs i
  | .str s, .int i => if s.length ≤ line then (idx s i).map fun c => .str [c] else none
  | x, .int i => match getL mh x with
    | some xs => idx xs i
    | none => none
  | _, _ => none
theorem subV_cases {mh : MHp} {x y v : MV} (e : subV mh x y = some v) : subN mh x y = some v ∨ subD mh x y = some v := by
  unfold subV at e
  split at e
  · exact .inl e
  · exact .inl e
  · rename_i i h1 h2
    cases q : getL mh x with
    | none => rw [q] at e; exact .inr e
    | some xs =>
      rw [q] at e
      refine .inl ?_
      cases x with
      | tup xs => simp [getL] at q
      | str s => simp [getL] at q
      | lst xs => simp only [subN, q]; exact e
      | loc l => simp only [subN, q]; exact e
      | _ => simp [getL] at q
  · exact .inr e
theorem sub_of (S : Sim G A) {x y v : MV} {vx vy : V} {Q : VK} (e : subN A.mh x y = some v) (rx : Rep G A x vx) (ry : Rep G A y vy) (h : Post G A A.mh v Q) : rIx G.K vx vy A.H Q := by
  unfold subN at e
  split at e
  · rename_i xs i
    obtain ⟨a, vs, rfl, h1, r⟩ := rx.tup_
    obtain ⟨w, h2, h3⟩ := idx_rep r e
    exact .inr (.inl ⟨a, vs, i, w, rfl, ry.int_, h1, h2, h.here S h3⟩)
  · rename_i s i
    split at e
    · rename_i hz
      simp only [Option.map_eq_some_iff] at e
      obtain ⟨c, e, rfl⟩ := e
      refine .inr (.inr ⟨⟨s.toArray⟩, i, c, rx.str_, ry.int_, by rw [str_len]; exact hz, e, ?_⟩)
      exact h.here S (rep_str [c])
    · cases e
  · split at e
    · rename_i xs e1
      obtain ⟨a, vs, rfl, h1, r⟩ := getL_rep S e1 rx
      obtain ⟨w, h2, h3⟩ := idx_rep r e
      exact .inl ⟨a, vs, _, w, rfl, ry.int_, SqL.of h1, h2, h.here S h3⟩
    · cases e
  · cases e
/-! ### slices -/
theorem cut_rep {xs : List MV} {vs : List V} (r : Reps G A xs vs) (lo hi : Option Int) : Reps G A (cut xs lo hi) (cutV vs lo hi) := by
  unfold cut cutV
  rw [r.len]
  exact (r.drop _).take _
theorem cut_whole {α : Type} {xs : List α} {lo hi : Option Int} (h : HT.sIx xs.length 0 lo = 0 ∧ HT.sIx xs.length xs.length hi = xs.length) : cut xs lo hi = xs := by
  unfold cut
  rw [h.1, h.2]
  simp
def slR (K : PySem.W.Frag) : V → Option Int → Option Int → Hp → VK → Prop := fun x lo hi H Q => rSlL K x lo hi H Q ∨ rSlA K x lo hi H Q ∨ rSlS x lo hi H Q
theorem sl_ok {X : Cx} : SlR X (slR X.K) := sl_list.or (sl_tupA.or sl_str)
theorem slc_of (S : Sim G A) {x v : MV} {lo hi : Option Int} {vx : V} {Q : VK} (e : slcV A.mh x lo hi = some v) (rx : Rep G A x vx) (h : Post G A A.mh v Q) : slR G.K vx lo hi A.H Q := by
  unfold slcV at e
  split at e
  · rename_i xs
    cases e
    obtain ⟨a, vs, rfl, h1, r⟩ := rx.tup_
    refine .inr (.inl ⟨a, vs, rfl, h1, fun w => ?_, fun _ p hp => h.newTup S (cut_rep r lo hi) hp⟩)
    rw [← r.len] at w
    rw [cut_whole w] at h
    exact h.here S rx
  · rename_i s
    split at e
    · rename_i hz
      cases e
      refine .inr (.inr ⟨⟨s.toArray⟩, rx.str_, by rw [str_len]; exact hz, ?_⟩)
      have q := h.here S (rep_str (cut s lo hi))
      unfold cut at q
      unfold L2.cutS
      rw [str_len]
      exact q
    · cases e
  · rename_i ns
    cases e
    unfold Rep at rx
    obtain ⟨a, rfl, hq⟩ := rx
    have sq : SqL G.K A.H a (ns.map .int) := by
      rcases hq with ⟨h, _⟩ | (h | h)
      · exact .inl h
      · rcases h with h | ⟨o, h⟩ <;> exact nomatch h
      · exact .inr h
    exact .inl ⟨a, _, rfl, sq, fun p hp => h.newLst S (cut_rep Reps.map_int lo hi) hp⟩
  · simp only [Option.map_eq_some_iff] at e
    obtain ⟨xs, e, rfl⟩ := e
    obtain ⟨a, vs, rfl, h1, r⟩ := getL_rep S e rx
    exact .inl ⟨a, vs, rfl, SqL.of h1, fun p hp => h.newLst S (cut_rep r lo hi) hp⟩
/-! ### built-ins -/
theorem Reps.one_ {x : MV} {vs : List V} (h : Reps G A [x] vs) : ∃ v, vs = [v] ∧ Rep G A x v := by
  unfold Reps at h
  obtain ⟨v, r, rfl, h1, h2⟩ := h
  unfold Reps at h2
  subst h2
  exact ⟨v, rfl, h1⟩
theorem Reps.nil_ {vs : List V} (h : Reps G A [] vs) : vs = [] := by
  unfold Reps at h; exact h
/-- the arguments of a call of a built-in, by its reading -/
def BiS (f : Bi) (r : PySem.W.Frag → List V → Hp → VK → Prop) : Prop :=
  ∀ (G : Gb) (A : Wd) (xs : List MV) (v : MV) (vs : List V) (Q : VK), Sim G A → biV A.mh f xs = some v → Reps G A xs vs → Post G A A.mh v Q → r G.K vs A.H Q
theorem one1_some {f : MV → Option MV} {xs : List MV} {v : MV} (h : one1 f xs = some v) : ∃ x, xs = [x] ∧ f x = some v := by
  unfold one1 at h
  split at h
  · exact ⟨_, rfl, h⟩
  · cases h
theorem bls_rep (S : Sim G A) {x : MV} {bs : List Bool} {w : V} (e : bls A.mh x = some bs) (r : Rep G A x w) : ∃ a, w = .ref a ∧ SqL G.K A.H a (bs.map .bl) := by
  unfold bls at e
  rw [Option.bind_eq_some_iff] at e
  obtain ⟨xs, e1, e2⟩ := e
  obtain ⟨a, vs, rfl, h1, r1⟩ := getL_rep S e1 r
  rw [r1.blOf e2] at h1
  exact ⟨a, rfl, SqL.of h1⟩
theorem ints_rep (S : Sim G A) {x : MV} {bs : List Int} {w : V} (e : intsM A.mh x = some bs) (r : Rep G A x w) : ∃ a, w = .ref a ∧ SqL G.K A.H a (bs.map .int) := by
  unfold intsM at e
  rw [Option.bind_eq_some_iff] at e
  obtain ⟨xs, e1, e2⟩ := e
  obtain ⟨a, vs, rfl, h1, r1⟩ := getL_rep S e1 r
  rw [r1.intOf e2] at h1
  exact ⟨a, rfl, SqL.of h1⟩
end
def rLen (K : PySem.W.Frag) : List V → Hp → VK → Prop := fun xs H Q => (∃ x n, xs = [x] ∧ LenV K x H n ∧ Q (.int n) H) ∨ ∃ a kvs, xs = [V.ref a] ∧ Rd H a (.dK kvs) ∧ Q (.int kvs.length) H
theorem call_lenR {X : Cx} : CallR X (.builtin "len") (fun xs H Q => ∃ a kvs, xs = [V.ref a] ∧ Rd H a (.dK kvs) ∧ Q (.int kvs.length) H) := by
  intro pins s σ H xs us Q I r h
  obtain ⟨a, kvs, rfl, hH, q⟩ := h
  obtain ⟨u, rfl, ru⟩ := vals1 r
  obtain rfl : u = Value.ref a := ru
  exact d_len I hH fun t s' I' => ⟨.int kvs.length, H, I', ⟨t, rfl⟩, q⟩
theorem bi_len : BiS .len rLen := by
  intro G A xs v vs Q S e r h
  obtain ⟨x, hx, e'⟩ := one1_some e
  subst hx
  replace e := e'
  clear e'
  obtain ⟨w, rfl, rx⟩ := r.one_
  unfold lenV at e
  split at e
  · split at e
    · rename_i hz
      cases e
      exact .inl ⟨_, _, rfl, by rw [rx.str_]; exact ⟨by rw [str_len]; exact hz, rfl⟩, by rw [str_len]; exact h.here S (rep_int _)⟩
    · cases e
  · cases e
    obtain ⟨a, ws, rfl, h1, r1⟩ := rx.tup_
    exact .inl ⟨_, _, rfl, .inr ⟨ws, h1, rfl⟩, by rw [← r1.len]; exact h.here S (rep_int _)⟩
  · split at e
    · rename_i ys e1
      cases e
      obtain ⟨a, ws, rfl, h1, r1⟩ := getL_rep S e1 rx
      exact .inl ⟨_, _, rfl, .inl ⟨ws, SqL.of h1, rfl⟩, by rw [← r1.len]; exact h.here S (rep_int _)⟩
    · simp only [Option.map_eq_some_iff] at e
      obtain ⟨⟨ks, ms⟩, e1, rfl⟩ := e
      obtain ⟨a, ws, rfl, h1, hl, r1⟩ := getD_rep S e1 rx
      refine .inr ⟨a, _, rfl, h1, ?_⟩
      have : ((ks.map kOf).zip ws).length = ks.length := by rw [List.length_zip, List.length_map, ← r1.len, hl, Nat.min_self]
      rw [this]
      exact h.here S (rep_int _)
def rAbs (_ : PySem.W.Frag) : List V → Hp → VK → Prop := fun xs H Q => ∃ i, xs = [.int i] ∧ Q (.int (if i < 0 then -i else i)) H
theorem bi_abs : BiS .abs rAbs := by
  intro G A xs v vs Q S e r h
  obtain ⟨x, hx, e'⟩ := one1_some e
  subst hx
  replace e := e'
  clear e'
  obtain ⟨w, rfl, rx⟩ := r.one_
  unfold Mi.absV at e
  split at e
  · cases e
    exact ⟨_, by rw [rx.int_], h.here S (rep_int _)⟩
  · cases e
def rInt1 (_ : PySem.W.Frag) : List V → Hp → VK → Prop := fun xs H Q => (∃ i, xs = [.int i] ∧ Q (.int i) H) ∨ ∃ k, xs = [.bl k] ∧ Q (.int (if k then 1 else 0)) H
theorem bi_int : BiS .int rInt1 := by
  intro G A xs v vs Q S e r h
  obtain ⟨x, hx, e'⟩ := one1_some e
  subst hx
  replace e := e'
  clear e'
  obtain ⟨w, rfl, rx⟩ := r.one_
  unfold intV1 at e
  split at e
  · cases e
    exact .inl ⟨_, by rw [rx.int_], h.here S (rep_int _)⟩
  · cases e
    exact .inr ⟨_, by rw [rx.bl_], h.here S (rep_int _)⟩
  · cases e
def rStrI (_ : PySem.W.Frag) : List V → Hp → VK → Prop := fun xs H Q => ∃ i, xs = [.int i] ∧ i.natAbs.log2 < 1920 ∧ Q (.str (toString i)) H
theorem bi_strI : BiS .strI rStrI := by
  intro G A xs v vs Q S e r h
  obtain ⟨x, hx, e'⟩ := one1_some e
  subst hx
  replace e := e'
  clear e'
  obtain ⟨w, rfl, rx⟩ := r.one_
  unfold strV at e
  split at e
  · split at e
    · rename_i hz
      cases e
      refine ⟨_, by rw [rx.int_], hz, ?_⟩
      have q := h.here S (rep_str _)
      have e2 : ∀ z : Str, (⟨z.cps.toList.toArray⟩ : Str) = z := fun z => str_toList_eq (by simp)
      rw [e2] at q
      exact q
    · cases e
  · cases e
def rTupC (K : PySem.W.Frag) : List V → Hp → VK → Prop := fun xs H Q => ∃ p ys, xs = [.ref p] ∧ ((SqL K H p ys ∧ ∀ l, H l = none → Q (.ref l) (upd H l (.tup ys))) ∨ (SqT K H p ys ∧ Q (.ref p) H))
theorem bi_tuple : BiS .tuple rTupC := by
  intro G A xs v vs Q S e r h
  obtain ⟨x, hx, e'⟩ := one1_some e
  subst hx
  replace e := e'
  clear e'
  obtain ⟨w, rfl, rx⟩ := r.one_
  unfold tupV at e
  split at e
  · cases e
    obtain ⟨a, ws, rfl, h1, r1⟩ := rx.tup_
    exact ⟨a, ws, rfl, .inr ⟨h1, h.here S rx⟩⟩
  · simp only [Option.map_eq_some_iff] at e
    obtain ⟨ys, e, rfl⟩ := e
    obtain ⟨a, ws, rfl, h1, r1⟩ := getL_rep S e rx
    exact ⟨a, ws, rfl, .inl ⟨SqL.of h1, fun l hl => h.newTup S r1 hl⟩⟩
/-- list(d) of a dict, locked or not -/
def rListR : List V → Hp → VK → Prop := fun us H Q => ∃ d ks, us = [V.ref d] ∧ Rd H d (.dK ks) ∧ ∀ q, H q = none → Q (.ref q) (upd H q (.lst (ks.map fun p => kV p.1)))
theorem call_listR {X : Cx} (calm : X.calm = true) : CallR X (.type "list") rListR := by
  intro pins s σ H vs us Q I rv hy
  obtain ⟨d, ks, rfl, hd, fin⟩ := hy
  obtain ⟨u, rfl, ru⟩ := vals1 rv
  obtain rfl : u = Value.ref d := ru
  obtain ⟨small, nomod, ws, kv, D⟩ := dk_rd I.hok hd
  obtain ⟨ep, at'⟩ := D.dictAt
  have len : ks.length = ws.length := Paired.length kv
  have go := PySem.W.kdl_dict (knd := mixKind X.prog X.w) (kvs := ws) (ep := ep) nomod
  refine PySem.W.kdl_call go (I.ok.hd calm) at' (by omega) fun h1 tk acc c keep hS hacc => ?_
  have alen : acc.toList.length = ks.length := by rw [Array.length_toList, hacc.1, len]
  have vals : Vals (ks.map fun p => kV p.1) acc.toList := vals_of_at (by rw [List.length_map, alen]) fun j x z e1 e2 => by
    obtain ⟨k, y, ek, is⟩ := hacc.2 j z (by rw [← Array.getElem?_toList]; exact e2)
    rw [List.getElem?_map, Option.map_eq_some_iff] at e1
    obtain ⟨p, ep, rfl⟩ := e1
    have same : (ks.map Prod.fst)[j]? = (ws.map Prod.fst)[j]? := congrArg (·[j]?) (KV.keys kv)
    rw [List.getElem?_map, List.getElem?_map, ep, ek] at same
    have same' : p.1 = k := Option.some.inj same
    rw [same']
    exact keyIs_rel is
  have new : ObjOk X.prog X.w (upd H s.heap.objs.size (.lst (ks.map fun p => kV p.1))) h1 s.heap.objs.size (.lst (ks.map fun p => kV p.1)) := ⟨by rw [List.length_map]; exact small, acc.toList, c, vals, by rw [Array.toArray_toList]; exact hS⟩
  exact ⟨.ref s.heap.objs.size, _, I.laid keep (Nat.le_refl _) new, rfl, fin _ (I.hok.fresh (Nat.le_refl _))⟩
def rLstC (K : PySem.W.Frag) : List V → Hp → VK → Prop := fun xs H Q => (∃ p ys, xs = [.ref p] ∧ (SqL K H p ys ∨ SqT K H p ys) ∧ ∀ l, H l = none → Q (.ref l) (upd H l (.lst ys))) ∨
  (∃ z : Str, xs = [.str z] ∧ z.length ≤ sizeLine ∧ ∀ p, H p = none → Q (.ref p) (upd H p (.lst (z.cps.toList.map fun c => .str ⟨#[c]⟩)))) ∨ rListR xs H Q
theorem call_lstC {X : Cx} (hc : X.calm = true) : CallR X (.type "list") (rLstC X.K) := call_list_of.or ((call_listS hc).or (call_listR hc))
theorem Reps.signs {G : Gb} {A : Wd} : ∀ s : Sx, Reps G A (s.map fun c => .str [c]) (s.map fun c => V.str ⟨#[c]⟩)
  | [] => by unfold Reps; rfl
  | c :: s => by rw [List.map_cons, List.map_cons]; unfold Reps; exact ⟨_, _, rfl, rep_str [c], Reps.signs s⟩
theorem bi_list : BiS .list rLstC := by
  intro G A xs v vs Q S e r h
  obtain ⟨x, hx, e'⟩ := one1_some e
  subst hx
  replace e := e'
  clear e'
  obtain ⟨w, rfl, rx⟩ := r.one_
  unfold lstV at e
  split at e
  · cases e
    obtain ⟨a, ws, rfl, h1, r1⟩ := rx.tup_
    exact .inl ⟨a, ws, rfl, .inr h1, fun l hl => h.newLst S r1 hl⟩
  · split at e
    · rename_i hz
      cases e
      exact .inr (.inl ⟨_, by rw [rx.str_], by rw [str_len]; exact hz, fun l hl => h.newLst S (Reps.signs _) hl⟩)
    · cases e
  · split at e
    · rename_i ys e1
      cases e
      obtain ⟨a, ws, rfl, h1, r1⟩ := getL_rep S e1 rx
      exact .inl ⟨a, ws, rfl, .inl (SqL.of h1), fun l hl => h.newLst S r1 hl⟩
    · simp only [Option.map_eq_some_iff] at e
      obtain ⟨⟨ks, ms⟩, e1, rfl⟩ := e
      obtain ⟨a, ws, rfl, h1, hl, r1⟩ := getD_rep S e1 rx
      refine .inr (.inr ⟨a, _, rfl, h1, fun q hq => ?_⟩)
      have e2 : ((ks.map kOf).zip ws).map (fun kv => kV kv.1) = ks.map fun k => kV (kOf k) := by
        have hz : ks.length = ws.length := by rw [hl]; exact r1.len
        have : ((ks.map kOf).zip ws).map Prod.fst = ks.map kOf := List.map_fst_zip (by rw [List.length_map]; omega)
        have e3 : ((ks.map kOf).zip ws).map (fun kv => kV kv.1) = (((ks.map kOf).zip ws).map Prod.fst).map kV := by rw [List.map_map]; rfl
        rw [e3, this, List.map_map]
        rfl
      rw [e2]
      exact h.newLst S (kMs_rep ks) hq
theorem bi_all : BiS .all rAll := by
  intro G A xs v vs Q S e r h
  obtain ⟨x, hx, e'⟩ := one1_some e
  subst hx
  replace e := e'
  clear e'
  obtain ⟨w, rfl, rx⟩ := r.one_
  simp only [Option.map_eq_some_iff] at e
  obtain ⟨bs, e, rfl⟩ := e
  obtain ⟨a, rfl, h1⟩ := bls_rep S e rx
  exact ⟨a, bs, rfl, h1, h.here S (rep_bl _)⟩
theorem bi_any : BiS .any rAny := by
  intro G A xs v vs Q S e r h
  obtain ⟨x, hx, e'⟩ := one1_some e
  subst hx
  replace e := e'
  clear e'
  obtain ⟨w, rfl, rx⟩ := r.one_
  simp only [Option.map_eq_some_iff] at e
  obtain ⟨bs, e, rfl⟩ := e
  obtain ⟨a, rfl, h1⟩ := bls_rep S e rx
  exact ⟨a, bs, rfl, h1, h.here S (rep_bl _)⟩
theorem bi_sum : BiS .sum rSum := by
  intro G A xs v vs Q S e r h
  obtain ⟨x, hx, e'⟩ := one1_some e
  subst hx
  replace e := e'
  clear e'
  obtain ⟨w, rfl, rx⟩ := r.one_
  simp only [Option.map_eq_some_iff] at e
  obtain ⟨bs, e, rfl⟩ := e
  obtain ⟨a, rfl, h1⟩ := ints_rep S e rx
  exact ⟨a, bs, rfl, h1, h.here S (rep_int _)⟩
theorem bi_max : BiS .max rMax := by
  intro G A xs v vs Q S e r h
  obtain ⟨x, hx, e'⟩ := one1_some e
  subst hx
  replace e := e'
  clear e'
  obtain ⟨w, rfl, rx⟩ := r.one_
  rw [Option.bind_eq_some_iff] at e
  obtain ⟨ns, e, e2⟩ := e
  simp only [Option.map_eq_some_iff] at e2
  obtain ⟨m, e2, rfl⟩ := e2
  obtain ⟨a, rfl, h1⟩ := ints_rep S e rx
  have hm := List.max?_eq_some_iff.mp e2
  refine ⟨a, ns, rfl, h1, List.length_pos_of_mem hm.1, fun m' h2 h3 => ?_⟩
  have : m' = m := Int.le_antisymm (hm.2 m' h2) (h3 m hm.1)
  rw [this]
  exact h.here S (rep_int _)
def rMinB (K : PySem.W.Frag) : List V → Hp → VK → Prop := fun vs H Q => rMin K vs H Q ∨ ∃ i j, vs = [.int i, .int j] ∧ Q (.int (if j < i then j else i)) H
theorem bi_min : BiS .min rMinB := by
  intro G A xs v vs Q S e r h
  replace e : minV A.mh xs = some v := e
  unfold minV at e
  split at e
  · split at e
    · rename_i i j
      cases e
      unfold Reps at r
      obtain ⟨w, r', rfl, r1, r2⟩ := r
      obtain ⟨w', rfl, r3⟩ := Reps.one_ r2
      exact .inr ⟨i, j, by rw [r1.int_, r3.int_], h.here S (rep_int _)⟩
    · cases e
  · refine .inl ?_
    obtain ⟨x, hx, e'⟩ := one1_some e
    subst hx
    replace e := e'
    clear e'
    obtain ⟨w, rfl, rx⟩ := r.one_
    rw [Option.bind_eq_some_iff] at e
    obtain ⟨ns, e, e2⟩ := e
    simp only [Option.map_eq_some_iff] at e2
    obtain ⟨m, e2, rfl⟩ := e2
    obtain ⟨a, rfl, h1⟩ := ints_rep S e rx
    have hm := List.min?_eq_some_iff.mp e2
    refine ⟨a, ns, rfl, h1, List.length_pos_of_mem hm.1, fun m' h2 h3 => ?_⟩
    have : m' = m := Int.le_antisymm (h3 m hm.1) (hm.2 m' h2)
    rw [this]
    exact h.here S (rep_int _)

/-! ### methods -/
section
variable {G : Gb} {A : Wd}
theorem bd_of : (n : Nat) → (S : Sim G A) → (A.mh.length ≤ n) → True := fun _ _ _ => trivial
theorem liveL_rep (S : Sim G A) {o : MV} {l : Nat} {xs : List MV} {w : V} (e : liveL A.mh o = some (l, xs)) (r : Rep G A o w) :
    A.mh[l]? = some (some (.lst xs)) ∧ ∃ a vs, A.β[l]? = some a ∧ w = .ref a ∧ A.H a = some (.lst vs) ∧ Reps G A xs vs := by
  unfold liveL at e
  split at e
  · split at e
    · rename_i l' ys hl
      cases e
      obtain ⟨a, rfl, e2⟩ := r.loc_
      obtain ⟨vs, e3, r3⟩ := S.obj _ _ hl a e2
      exact ⟨hl, a, vs, e2, rfl, e3, r3⟩
    · cases e
  · cases e
theorem bds_app (n : Nat) : ∀ xs ys : List MV, bds n (xs ++ ys) = (bds n xs && bds n ys)
  | [], ys => by simp [bds]
  | x :: xs, ys => by
    show (bd n x && bds n (xs ++ ys)) = ((bd n x && bds n xs) && bds n ys)
    rw [bds_app n xs ys, Bool.and_assoc]
mutual
theorem bd_mono {n m : Nat} (h : n ≤ m) : ∀ x : MV, bd n x = true → bd m x = true
  | .tup xs, e => by unfold bd at e ⊢; exact bds_mono h xs e
  | .lst xs, e => by unfold bd at e ⊢; exact bds_mono h xs e
  | .dct _ vs, e => by unfold bd at e ⊢; exact bds_mono h vs e
  | .loc l, e => by
    unfold bd at e ⊢
    have : l < n := of_decide_eq_true e
    exact decide_eq_true (by omega)
  | .non, e => e
  | .bl _, e => e
  | .int _, e => e
  | .str _, e => e
  | .fn _, e => e
  | .scr _, e => e
theorem bds_mono {n m : Nat} (h : n ≤ m) : ∀ xs : List MV, bds n xs = true → bds m xs = true
  | [], e => by unfold bds; rfl
  | x :: xs, e => by
    unfold bds at e ⊢
    rw [Bool.and_eq_true] at e ⊢
    exact ⟨bd_mono h x e.1, bds_mono h xs e.2⟩
end
/-- what may be written keeps the bounds of all frames -/
theorem wr_bd (S : Sim G A) {l : Nat} {x : MV} (h : wr A.base l x = true) {b : Nat} (hb : b ∈ A.bs) (hl : l < b) : bd b x = true := by
  unfold wr at h
  rw [Bool.or_eq_true] at h
  rcases h with h | h
  · have h1 : A.base ≤ l := of_decide_eq_true h
    have := S.top b hb
    omega
  · exact bd_mono (by omega) x h
theorem wrs_bd (S : Sim G A) {l : Nat} : ∀ {xs : List MV}, xs.all (wr A.base l) = true → ∀ {b : Nat}, b ∈ A.bs → l < b → bds b xs = true
  | [], _, b, _, _ => by unfold bds; rfl
  | x :: xs, h, b, hb, hl => by
    rw [List.all_cons, Bool.and_eq_true] at h
    unfold bds
    rw [wr_bd S h.1 hb hl, wrs_bd S h.2 hb hl]
    rfl
theorem bds_sub {n : Nat} : ∀ {xs : List MV}, bds n xs = true → ∀ {ys : List MV}, (∀ y ∈ ys, y ∈ xs) → bds n ys = true := by
  intro xs h ys
  have all : ∀ {xs : List MV}, bds n xs = true → ∀ x ∈ xs, bd n x = true := by
    intro xs
    induction xs with
    | nil => intro _ x hx; exact absurd hx (by simp)
    | cons y ys ih =>
      intro h x hx
      unfold bds at h
      rw [Bool.and_eq_true] at h
      rcases List.mem_cons.mp hx with rfl | hx
      · exact h.1
      · exact ih h.2 x hx
  induction ys with
  | nil => intro _; unfold bds; rfl
  | cons y ys ih =>
    intro hs
    unfold bds
    rw [all h y (hs y (by simp)), ih fun z hz => hs z (List.mem_cons_of_mem _ hz)]
    rfl
theorem lst_wr (S : Sim G A) {l : Nat} {a : Addr} {xs ys : List MV} {ws : List V} (hl : A.mh[l]? = some (some (.lst xs))) (hb : A.β[l]? = some a) (r : Reps G A ys ws) (hbd : ∀ b ∈ A.bs, l < b → bds b ys = true) :
    Keep A (A.wr l a (.lst ws) (.lst ys)) ∧ Sim G (A.wr l a (.lst ws) (.lst ys)) := by
  have k : Keep A (A.wr l a (.lst ws) (.lst ys)) := keep_wr S hl hb
  exact ⟨k, S.wr hl hb ⟨ws, upd_same, Reps.keep S k _ _ r⟩ ⟨(fun _ z => nomatch z), (fun _ _ z => nomatch z)⟩ hbd⟩
/-- the reading of a method, where what is wanted behind it is told by a post of the new heap -/
def MeS (m : Me) (r : PySem.W.Frag → V → List V → Hp → VK → Prop) : Prop :=
  ∀ (G : Gb) (A : Wd) (o : MV) (xs : List MV) (v : MV) (mh' : MHp) (w : V) (vs : List V) (Q : VK), Sim G A → methV A.base A.mh m o xs = some (v, mh') → Rep G A o w → Reps G A xs vs → Post G A mh' v Q → r G.K w vs A.H Q
end
theorem me_append : MeS .append (fun _ => rAppend) := by
  intro G A o xs v mh' w vs Q S e ro r h
  simp only [methV, appV] at e
  split at e
  · rename_i l ys x e1
    split at e
    · rename_i hc
      cases e
      obtain ⟨hl, a, ws, hb, rfl, hH, rr⟩ := liveL_rep S e1 ro
      obtain ⟨y, rfl, ry⟩ := r.one_
      obtain ⟨k, S'⟩ := lst_wr S hl hb (rr.app (Reps.one ry)) fun b hbs hlb => by
        rw [bds_app]
        have h1 : bds b ys = true := S.bnd b hbs l _ hlb hl
        rw [h1]
        show (true && (bd b x && true)) = true
        rw [wr_bd S hc.1 hbs hlb]
        rfl
      exact ⟨a, ws, y, rfl, rfl, hH, by rw [← rr.len]; exact hc.2, h _ .non k rfl S' rep_non⟩
    · cases e
  · cases e
def rExtB (K : PySem.W.Frag) : V → List V → Hp → VK → Prop := fun x vs H Q => rExtend x vs H Q ∨ rExtT K x vs H Q
theorem mt_extB {X : Cx} : MtR X "list.extend" (rExtB X.K) := MtR.or mt_extend mt_extT
theorem me_extend : MeS .extend rExtB := by
  intro G A o xs v mh' w vs Q S e ro r h
  simp only [methV, extV] at e
  split at e
  · rename_i l ys x e1
    split at e
    · rename_i zs e2
      split at e
      · rename_i hc
        cases e
        obtain ⟨hl, a, ws, hb, rfl, hH, rr⟩ := liveL_rep S e1 ro
        obtain ⟨y, rfl, ry⟩ := r.one_
        have bdd : ∀ b ∈ A.bs, l < b → bds b (ys ++ zs) = true := fun b hbs hlb => by
          rw [bds_app]
          have h1 : bds b ys = true := S.bnd b hbs l _ hlb hl
          rw [h1, wrs_bd S hc.1 hbs hlb]
          rfl
        unfold seqOf at e2
        split at e2
        · cases e2
          obtain ⟨b, us, rfl, h1, r1⟩ := ry.tup_
          obtain ⟨k, S'⟩ := lst_wr S hl hb (rr.app r1) bdd
          exact .inr ⟨a, b, ws, us, rfl, rfl, hH, h1, by rw [← rr.len, ← r1.len]; exact hc.2, h _ .non k rfl S' rep_non⟩
        · obtain ⟨b, us, rfl, h1, r1⟩ := getL_rep S e2 ry
          obtain ⟨k, S'⟩ := lst_wr S hl hb (rr.app r1) bdd
          exact .inl ⟨a, b, ws, us, rfl, rfl, hH, h1, by rw [← rr.len, ← r1.len]; exact hc.2, h _ .non k rfl S' rep_non⟩
      · cases e
    · cases e
  · cases e
theorem me_pop : MeS .pop (fun _ => rPop) := by
  intro G A o xs v mh' w vs Q S e ro r h
  simp only [methV, popV] at e
  split at e
  · rename_i l ys e1
    simp only [Option.map_eq_some_iff] at e
    obtain ⟨y, e2, e3⟩ := e
    cases e3
    obtain ⟨hl, a, ws, hb, rfl, hH, rr⟩ := liveL_rep S e1 ro
    obtain ⟨u, hu, ru⟩ := rr.get e2
    obtain ⟨k, S'⟩ := lst_wr S hl hb rr.dropLast fun b hbs hlb => bds_sub (S.bnd b hbs l _ hlb hl) fun z hz => List.dropLast_subset _ hz
    exact ⟨a, ws, u, rfl, r.nil_, hH, by rw [← rr.len]; exact hu, h _ u k rfl S' (Rep.keep S k _ _ ru)⟩
  · cases e
theorem me_popAt : MeS .popAt (fun _ => rPopAt) := by
  intro G A o xs v mh' w vs Q S e ro r h
  simp only [methV, popAtV] at e
  split at e
  · rename_i l ys i e1
    split at e
    · rename_i hi
      split at e
      · cases e
      · rename_i j e4
        simp only [Option.map_eq_some_iff] at e
        obtain ⟨y, e2, e3⟩ := e
        cases e3
        obtain ⟨hl, a, ws, hb, rfl, hH, rr⟩ := liveL_rep S e1 ro
        obtain ⟨u, hu, ru⟩ := rr.get e2
        obtain ⟨z, rfl, rz⟩ := r.one_
        obtain ⟨k, S'⟩ := lst_wr S hl hb (rr.eraseIdx j) fun b hbs hlb => bds_sub (S.bnd b hbs l _ hlb hl) fun z hz => List.mem_of_mem_eraseIdx hz
        exact ⟨a, ws, i, j, u, rfl, by rw [rz.int_], hH, hi.1, hi.2, by rw [← rr.len]; exact e4, hu, h _ u k rfl S' (Rep.keep S k _ _ ru)⟩
    · cases e
  · cases e
def rUpp (_ : PySem.W.Frag) : V → List V → Hp → VK → Prop := fun x xs H Q => ∃ a, x = .str a ∧ xs = [] ∧ a.length ≤ 5592405 ∧ Q (.str (Txt.upper a)) H
theorem me_upper : MeS .upper rUpp := by
  intro G A o xs v mh' w vs Q S e ro r h
  simp only [methV, uppV] at e
  split at e
  · split at e
    · rename_i s hz
      cases e
      refine ⟨_, ro.str_, r.nil_, by rw [str_len]; exact hz, ?_⟩
      have q := h.here S (rep_str _)
      unfold upperC at q
      have e2 : (⟨(Txt.upper ⟨s.toArray⟩).cps.toList.toArray⟩ : Str) = Txt.upper ⟨s.toArray⟩ := str_toList_eq (by simp)
      rw [e2] at q
      exact q
    · cases e
  · cases e
/-! ### dict(pairs) -/
def rDictP (K : PySem.W.Frag) : List V → Hp → VK → Prop := fun xs H Q => ∃ (a : Addr) (ps : List Addr) (kvs : List (Key × V)), xs = [.ref a] ∧ SqL K H a (ps.map V.ref) ∧ Paired (fun p kv => SqT K H p [kV kv.1, kv.2]) ps kvs ∧ ∀ p, H p = none → Q (.ref p) (upd H p (.dK (mergeK [] kvs)))
section
variable {G : Gb} {A : Wd}
theorem dfold_rep : ∀ (ps : List (MKey × MV)) (us : List V), Reps G A (ps.map Prod.snd) us → ∀ (ks : List MKey) (ms : List MV) (vs : List V), ks.length = ms.length → Reps G A ms vs →
    ∃ ws, mergeK ((ks.map kOf).zip vs) ((ps.map fun p => kOf p.1).zip us) = ((dFold ps ks ms).1.map kOf).zip ws ∧ Reps G A (dFold ps ks ms).2 ws
  | [], us, r, ks, ms, vs, hl, rm => by
    have : us = [] := by unfold Reps at r; exact r
    subst this
    exact ⟨vs, rfl, rm⟩
  | p :: ps, us, r, ks, ms, vs, hl, rm => by
    rw [List.map_cons] at r
    unfold Reps at r
    obtain ⟨v, t, rfl, h1, h2⟩ := r
    obtain ⟨ws, e1, r1⟩ := dput_rep (k := p.1) hl rm h1
    obtain ⟨xs, e2, r2⟩ := dfold_rep ps t h2 (dPutK ks p.1) (dPutV ks ms p.1 p.2) ws (dput_len p.1 p.2 hl) r1
    refine ⟨xs, ?_, r2⟩
    have e3 : mergeK ((ks.map kOf).zip vs) (((p :: ps).map fun p => kOf p.1).zip (v :: t)) = mergeK (putK ((ks.map kOf).zip vs) (kOf p.1) v) ((ps.map fun p => kOf p.1).zip t) := rfl
    rw [e3, e1, e2]
    rfl
theorem Post.newDct {ks : List MKey} {ms : List MV} {vs : List V} {Q : VK} {p : Addr} (h : Post G A A.mh (.dct ks ms) Q) (S : Sim G A) (hl : ks.length = ms.length) (r : Reps G A ms vs) (hp : A.H p = none) : Q (.ref p) (upd A.H p (.dK ((ks.map kOf).zip vs))) :=
  h (A.up p (.dK ((ks.map kOf).zip vs))) (.ref p) (keep_new hp) rfl (S.new hp) (rep_dct S hp hl r)
theorem pairs_rep : ∀ {xs : List MV} {vs : List V} {ps : List (MKey × MV)}, Reps G A xs vs → xs.mapM pairK = some ps → ∃ (as : List Addr) (us : List V), vs = as.map V.ref ∧ Reps G A (ps.map Prod.snd) us ∧ Paired (fun p kv => SqT G.K A.H p [kV kv.1, kv.2]) as ((ps.map fun p => kOf p.1).zip us)
  | [], vs, ps, r, e => by
    have : vs = [] := by unfold Reps at r; exact r
    subst this
    simp at e
    subst e
    exact ⟨[], [], rfl, (by unfold Reps; rfl), .nil⟩
  | x :: xs, vs, ps, r, e => by
    unfold Reps at r
    obtain ⟨v, t, rfl, h1, h2⟩ := r
    simp only [List.mapM_cons, Option.bind_eq_bind, Option.bind_eq_some_iff] at e
    obtain ⟨p, e1, qs, e2, e3⟩ := e
    cases e3
    obtain ⟨as, us, rfl, r2, pr⟩ := pairs_rep h2 e2
    unfold pairK at e1
    split at e1
    · rename_i k m
      simp only [Option.map_eq_some_iff] at e1
      obtain ⟨k', e4, rfl⟩ := e1
      obtain ⟨a, ws, rfl, hT, rr⟩ := h1.tup_
      unfold Reps at rr
      obtain ⟨w1, ws1, rfl, g1, g2⟩ := rr
      obtain ⟨w2, rfl, g3⟩ := g2.one_
      have := kyV_rep e4 g1
      subst this
      refine ⟨a :: as, w2 :: us, rfl, ?_, .cons hT pr⟩
      rw [List.map_cons]
      unfold Reps
      exact ⟨w2, us, rfl, g3, r2⟩
    · cases e1
end
theorem bi_dict : BiS .dict rDictP := by
  intro G A xs v vs Q S e r h
  obtain ⟨x, hx, e'⟩ := one1_some e
  subst hx
  replace e := e'
  clear e'
  obtain ⟨w, rfl, rx⟩ := r.one_
  unfold dictV at e
  split at e
  · cases e
  rename_i ys e1
  split at e
  · rename_i ps e2
    cases e
    obtain ⟨a, ws, rfl, hH, rr⟩ := getL_rep S e1 rx
    obtain ⟨as, us, rfl, r2, pr⟩ := pairs_rep rr e2
    obtain ⟨zs, q1, q2⟩ := dfold_rep ps us r2 [] [] [] rfl (by unfold Reps; rfl)
    refine ⟨a, as, _, rfl, SqL.of hH, pr, fun p hp => ?_⟩
    have q1' : mergeK [] ((ps.map fun p => kOf p.1).zip us) = _ := q1
    rw [q1']
    exact h.newDct S (dfold_len ps [] [] rfl) q2 hp
  · cases e
end L2.Mi

set_option Elab.async false
set_option linter.all false
set_option maxRecDepth 100000
set_option maxHeartbeats 4000000
/-! Mini6: expressions. -/
namespace L2.Mi
open PySem PySem.Spec PyProof.Rows

section
variable (G : Gb) (C : CallF)
/-- an expression by the evaluator -/
def tE (m : ME) : TE := fun σ H Q => ∃ (A : Wd) (ρ : Env) (v : MV) (mh' : MHp), A.H = H ∧ Sim G A ∧ Envs G A ρ σ ∧ ev C A.base m ρ A.mh = some (v, mh') ∧ Post G A mh' v Q
def tT (m : ME) : TT := fun σ H Q => ∃ (A : Wd) (ρ : Env) (c : Bool) (mh' : MHp), A.H = H ∧ Sim G A ∧ Envs G A ρ σ ∧ ev C A.base m ρ A.mh = some (.bl c, mh') ∧ ∀ B, Keep A B → B.mh = mh' → Sim G B → Q c B.H
def tEs (ms : List ME) : TA := fun σ H Q => ∃ (A : Wd) (ρ : Env) (vs : List MV) (mh' : MHp), A.H = H ∧ Sim G A ∧ Envs G A ρ σ ∧ evs C A.base ms ρ A.mh = some (vs, mh') ∧ ∀ B xs, Keep A B → B.mh = mh' → Sim G B → Reps G B vs xs → Q xs B.H
end
theorem Keep.base {A B : Wd} (k : Keep A B) : B.base = A.base := by unfold Wd.base; rw [k.bs]

theorem _root_.L2.PE.mono {X : Cx} {e : Expr} {t t' : TE} (h : PE X e t) (k : ∀ σ H Q, t' σ H Q → t σ H Q) : PE X e t' := ⟨fun pins s σ H Q I q => h.run pins s σ H Q I (k σ H Q q)⟩
theorem _root_.L2.PT.mono {X : Cx} {e : Expr} {t t' : TT} (h : PT X e t) (k : ∀ σ H Q, t' σ H Q → t σ H Q) : PT X e t' := ⟨fun pins s σ H Q I q => h.run pins s σ H Q I (k σ H Q q)⟩
theorem _root_.L2.PW.mono {X : Cx} {e : Expr} {t t' : TT} (h : PW X e t) (k : ∀ σ H Q, t' σ H Q → t σ H Q) : PW X e t' := ⟨fun wh pins s σ H Q I q => h.run wh pins s σ H Q I (k σ H Q q)⟩
theorem _root_.L2.PA.mono {X : Cx} {es : List Expr} {t t' : TA} (h : PA X es t) (k : ∀ σ H Q, t' σ H Q → t σ H Q) : PA X es t' := ⟨fun pos pins s σ H Q I q => h.run pos pins s σ H Q I (k σ H Q q)⟩

section
variable {G : Gb} {C : CallF} {A : Wd} {ρ : Env} {σ : L2.St}
theorem tE.go {m : ME} {v : MV} {mh1 : MHp} {Q : VK} (S : Sim G A) (N : Envs G A ρ σ) (e : ev C A.base m ρ A.mh = some (v, mh1))
    (h : ∀ B x, Keep A B → B.mh = mh1 → Sim G B → Envs G B ρ σ → Rep G B v x → Q x B.H) : tE G C m σ A.H Q :=
  ⟨A, ρ, v, mh1, rfl, S, N, e, fun B x k em SB r => h B x k em SB (N.keep S k) r⟩
theorem tT.go {m : ME} {c : Bool} {mh1 : MHp} {Q : Bool → Hp → Prop} (S : Sim G A) (N : Envs G A ρ σ) (e : ev C A.base m ρ A.mh = some (.bl c, mh1))
    (h : ∀ B, Keep A B → B.mh = mh1 → Sim G B → Envs G B ρ σ → Q c B.H) : tT G C m σ A.H Q :=
  ⟨A, ρ, c, mh1, rfl, S, N, e, fun B k em SB => h B k em SB (N.keep S k)⟩
theorem tEs.go {ms : List ME} {vs : List MV} {mh1 : MHp} {Q : List V → Hp → Prop} (S : Sim G A) (N : Envs G A ρ σ) (e : evs C A.base ms ρ A.mh = some (vs, mh1))
    (h : ∀ B xs, Keep A B → B.mh = mh1 → Sim G B → Envs G B ρ σ → Reps G B vs xs → Q xs B.H) : tEs G C ms σ A.H Q :=
  ⟨A, ρ, vs, mh1, rfl, S, N, e, fun B xs k em SB r => h B xs k em SB (N.keep S k) r⟩
/-- the evaluation goes on in B -/
theorem ev.at {A B : Wd} {m : ME} {mh1 : MHp} {r : Option (MV × MHp)} (k : Keep A B) (em : B.mh = mh1) (e : ev C A.base m ρ mh1 = r) : ev C B.base m ρ B.mh = r := by rw [k.base, em]; exact e
theorem evs.at {A B : Wd} {m : List ME} {mh1 : MHp} {r : Option (List MV × MHp)} (k : Keep A B) (em : B.mh = mh1) (e : evs C A.base m ρ mh1 = r) : evs C B.base m ρ B.mh = r := by rw [k.base, em]; exact e
end

section
variable {G : Gb} {C : CallF} {X : Cx} {pos p : Pos} {e a b c : Expr} {ma mb mc m : ME}
/-! ### names, constants -/
theorem se_var {i : Nat} {x : Str} (hN : X.N[i]? = some x) (hv : Vis X.env.scope x) (hd : (x == ("__debug__" : Str)) = false := by decide) (hcd : (x == ("__classdict__" : Str)) = false := by decide) : PE X (.Name x pos) (tE G C (.var i)) := by
  refine (pe_var hN hv hd hcd).mono fun σ H Q h => ?_
  obtain ⟨A, ρ, v, mh', rfl, S, N, e, q⟩ := h
  simp only [ev] at e
  split at e
  · rename_i w hw
    cases e
    obtain ⟨x, h1, h2⟩ := N.2 i _ hw
    exact ⟨x, h1, Post.here q S h2⟩
  · cases e
theorem se_c {v : V} {mv : MV} (h : PE X e (tC v)) (hr : ∀ A, Rep G A mv v) : PE X e (tE G C (.c mv)) := by
  refine h.mono fun σ H Q h => ?_
  obtain ⟨A, ρ, w, mh', rfl, S, N, e, q⟩ := h
  simp only [ev] at e
  cases e
  exact Post.here q S (hr A)
theorem se_int {i j} : PE X (.Constant (.int i) j pos) (tE G C (.c (.int i))) := se_c pe_int fun _ => rep_int i
theorem se_bl {b j} : PE X (.Constant (.bool b) j pos) (tE G C (.c (.bl b))) := se_c pe_bl fun _ => rep_bl b
theorem se_non {j} : PE X (.Constant .none j pos) (tE G C (.c .non)) := se_c pe_non fun _ => rep_non
theorem se_str {x : Str} {j} {s : Sx} (h : x = ⟨s.toArray⟩) : PE X (.Constant (.str x) j pos) (tE G C (.c (.str s))) := by
  subst h
  exact se_c pe_str fun _ => rep_str s
/-- a module's number -/
theorem se_glob {x : Str} {i : Int} {t : Tok} (hg : Gl X x) (hm : X.mg x = some (.int i t)) (hd : (x == ("__debug__" : Str)) = false := by decide) : PE X (.Name x pos) (tE G C (.c (.int i))) :=
  se_c (pe_glob (v := .int i) hg hm ⟨t, rfl⟩ hd) fun _ => rep_int i
/-- a def as a value -/
theorem se_fn {x : Str} {f : Nat} {a : Addr} (hg : Gl X x) (hm : X.mg x = some (.ref a)) (hf : G.fa f = some a) (hd : (x == ("__debug__" : Str)) = false := by decide) : PE X (.Name x pos) (tE G C (.c (.fn f))) :=
  se_c (pe_glob (v := .ref a) hg hm rfl hd) fun _ => by unfold Rep; exact ⟨a, hf, rfl⟩
/-! ### operators -/
theorem se_bin {o : Op} (hK : X.K = G.K) (ha : PE X a (tE G C ma)) (hb : PE X b (tE G C mb)) : PE X (.BinOp a (opOf o) b pos) (tE G C (.bin o ma mb)) := by
  refine (pe_op (op_ok (X := X) o) ha hb).mono fun σ H Q h => ?_
  obtain ⟨A, ρ, v, mh', rfl, S, N, e, q⟩ := h
  simp only [ev] at e
  split at e
  · cases e
  rename_i x mh1 e1
  split at e
  · cases e
  rename_i y mh2 e2
  simp only [Option.map_eq_some_iff] at e
  obtain ⟨w, e3, e4⟩ := e
  cases e4
  refine tE.go S N e1 fun B vx kB em SB NB rx => tE.go SB NB (ev.at kB em e2) fun B2 vy k2 em2 S2 N2 ry => ?_
  rw [hK]
  refine opR_of S2 (by rw [em2]; exact e3) (Rep.keep SB k2 _ _ rx) ry ?_
  rw [em2]
  exact Post.step q (kB.trans k2)
theorem se_neg (ha : PE X a (tE G C ma)) : PE X (.UnaryOp .USub a pos) (tE G C (.neg ma)) := by
  refine (pe_un un_neg ha).mono fun σ H Q h => ?_
  obtain ⟨A, ρ, v, mh', rfl, S, N, e, q⟩ := h
  simp only [ev] at e
  split at e
  · rename_i i mh1 e1
    cases e
    exact tE.go S N e1 fun B vx kB em SB NB rx => ⟨i, rx.int_, q B _ kB em SB (rep_int _)⟩
  · cases e
theorem ev_cmp {o : Cop} {base : Nat} {ρ : Env} {mh mh' : MHp} {v : MV} (e : ev C base (.cmp o ma mb) ρ mh = some (v, mh')) :
    ∃ x mh1 y c, ev C base ma ρ mh = some (x, mh1) ∧ ev C base mb ρ mh1 = some (y, mh') ∧ cmpV mh' o x y = some c ∧ v = .bl c := by
  simp only [ev] at e
  split at e
  · cases e
  rename_i x mh1 e1
  split at e
  · cases e
  rename_i y mh2 e2
  simp only [Option.map_eq_some_iff] at e
  obtain ⟨w, e3, e4⟩ := e
  cases e4
  exact ⟨x, mh1, y, w, e1, e2, e3, rfl⟩
theorem se_cmp {o : Cop} (hK : X.K = G.K) (hu : X.A.units + 65 < cLine) (hm : behindInMarks (copOf o) b = false) (ha : PE X a (tE G C ma)) (hb : PE X b (tE G C mb)) : PE X (.Compare a [copOf o] [b] pos) (tE G C (.cmp o ma mb)) := by
  refine (pe_cmpR (cop_ok (X := X) hu o) ha hb hm).mono fun σ H Q h => ?_
  obtain ⟨A, ρ, v, mh', rfl, S, N, e, q⟩ := h
  obtain ⟨x, mh1, y, c, e1, e2, e3, rfl⟩ := ev_cmp e
  refine tE.go S N e1 fun B vx kB em SB NB rx => tE.go SB NB (ev.at kB em e2) fun B2 vy k2 em2 S2 N2 ry => ?_
  rw [hK]
  exact copR_of S2 (by rw [em2]; exact e3) (Rep.keep SB k2 _ _ rx) ry (q B2 _ (kB.trans k2) em2 S2 (rep_bl c))
theorem st_cmp {o : Cop} (hK : X.K = G.K) (hu : X.A.units + 65 < cLine) (hm : behindInMarks (copOf o) b = false) (ha : PE X a (tE G C ma)) (hb : PE X b (tE G C mb)) : PT X (.Compare a [copOf o] [b] pos) (tT G C (.cmp o ma mb)) := by
  refine (pt_cmpR (cop_ok (X := X) hu o) ha hb hm).mono fun σ H Q h => ?_
  obtain ⟨A, ρ, c', mh', rfl, S, N, e, q⟩ := h
  obtain ⟨x, mh1, y, c, e1, e2, e3, e4⟩ := ev_cmp e
  cases e4
  refine tE.go S N e1 fun B vx kB em SB NB rx => tE.go SB NB (ev.at kB em e2) fun B2 vy k2 em2 S2 N2 ry => ?_
  rw [hK]
  exact copR_of S2 (by rw [em2]; exact e3) (Rep.keep SB k2 _ _ rx) ry ⟨c', rfl, q B2 (kB.trans k2) em2 S2⟩
theorem ev_chn {o o' : Cop} {base : Nat} {ρ : Env} {mh mh' : MHp} {v : MV} (e : ev C base (.chn o o' ma mb mc) ρ mh = some (v, mh')) :
    ∃ x mh1 y mh2, ev C base ma ρ mh = some (x, mh1) ∧ ev C base mb ρ mh1 = some (y, mh2) ∧ ((cmpV mh2 o x y = some false ∧ v = .bl false ∧ mh' = mh2) ∨ (cmpV mh2 o x y = some true ∧ ∃ z c, ev C base mc ρ mh2 = some (z, mh') ∧ cmpV mh' o' y z = some c ∧ v = .bl c)) := by
  simp only [ev] at e
  split at e
  · cases e
  rename_i x mh1 e1
  split at e
  · cases e
  rename_i y mh2 e2
  refine ⟨x, mh1, y, mh2, e1, e2, ?_⟩
  split at e
  · cases e
  · rename_i e3
    cases e
    exact .inl ⟨e3, rfl, rfl⟩
  · rename_i e3
    split at e
    · cases e
    rename_i z mh3 e4
    simp only [Option.map_eq_some_iff] at e
    obtain ⟨w, e5, e6⟩ := e
    cases e6
    exact .inr ⟨e3, z, w, e4, e5, rfl⟩
theorem chn_go {o o' : Cop} {A : Wd} {ρ : Env} {σ : L2.St} {v : MV} {mh' : MHp} {Q : VK} (hK : X.K = G.K) (S : Sim G A) (N : Envs G A ρ σ) (e : ev C A.base (.chn o o' ma mb mc) ρ A.mh = some (v, mh')) (q : Post G A mh' v Q) :
    tChain (copR X.K o) (copR X.K o') (tE G C ma) (tE G C mb) (tE G C mc) σ A.H Q := by
  obtain ⟨x, mh1, y, mh2, e1, e2, h⟩ := ev_chn e
  refine tE.go S N e1 fun B vx kB em SB NB rx => tE.go SB NB (ev.at kB em e2) fun B2 vy k2 em2 S2 N2 ry => ?_
  rw [hK]
  rcases h with ⟨e3, rfl, rfl⟩ | ⟨e3, z, c, e4, e5, rfl⟩
  · refine copR_of S2 (by rw [em2]; exact e3) (Rep.keep SB k2 _ _ rx) ry ⟨false, rfl, ?_⟩
    rw [if_neg Bool.false_ne_true]
    exact q B2 _ (kB.trans k2) em2 S2 (rep_bl false)
  · refine copR_of S2 (by rw [em2]; exact e3) (Rep.keep SB k2 _ _ rx) ry ⟨true, rfl, ?_⟩
    rw [if_pos rfl]
    refine tE.go S2 N2 (ev.at (kB.trans k2) em2 e4) fun B3 vz k3 em3 S3 N3 rz => ?_
    exact copR_of S3 (by rw [em3]; exact e5) (Rep.keep S2 k3 _ _ ry) rz (q B3 _ ((kB.trans k2).trans k3) em3 S3 (rep_bl c))
theorem se_chn {o o' : Cop} (hK : X.K = G.K) (hu : X.A.units + 65 < cLine) (ha : PE X a (tE G C ma)) (hb : PE X b (tE G C mb)) (hc : PE X c (tE G C mc))
    (hm : lastMarks [copOf o, copOf o'] [b, c] = false := by with_unfolding_all rfl) : PE X (.Compare a [copOf o, copOf o'] [b, c] pos) (tE G C (.chn o o' ma mb mc)) := by
  refine (pe_chain (cop_ok (X := X) hu o) (cop_ok (X := X) hu o') ha hb hc hm).mono fun σ H Q h => ?_
  obtain ⟨A, ρ, v, mh', rfl, S, N, e, q⟩ := h
  exact chn_go hK S N e q
theorem st_chn {o o' : Cop} (hK : X.K = G.K) (hu : X.A.units + 65 < cLine) (ha : PE X a (tE G C ma)) (hb : PE X b (tE G C mb)) (hc : PE X c (tE G C mc))
    (hm : lastMarks [copOf o, copOf o'] [b, c] = false := by with_unfolding_all rfl) : PT X (.Compare a [copOf o, copOf o'] [b, c] pos) (tT G C (.chn o o' ma mb mc)) := by
  refine (pt_chain (cop_ok (X := X) hu o) (cop_ok (X := X) hu o') ha hb hc hm).mono fun σ H Q h => ?_
  obtain ⟨A, ρ, v, mh', rfl, S, N, e, q⟩ := h
  refine chn_go hK S N e fun B x k em SB r => ⟨v, r.bl_, q B k em SB⟩
/-! ### tests, and, or, not -/
theorem st_val (h : PE X e (tE G C m)) (he : ∀ whole, isTrue e X.env whole = (do let v ← whole; standAt e.pos; holding [v] (truthy v)) := by intro _; rfl) : PT X e (tT G C m) := by
  refine (pt_val h he).mono fun σ H Q h => ?_
  obtain ⟨A, ρ, c, mh', rfl, S, N, e, q⟩ := h
  exact tE.go S N e fun B x k em SB _ r => ⟨c, r.bl_, q B k em SB⟩
theorem ev_and {base : Nat} {ρ : Env} {mh mh' : MHp} {v : MV} (e : ev C base (.and ma mb) ρ mh = some (v, mh')) : (∃ mh1, ev C base ma ρ mh = some (.bl true, mh1) ∧ ev C base mb ρ mh1 = some (v, mh')) ∨ (ev C base ma ρ mh = some (.bl false, mh') ∧ v = .bl false) := by
  simp only [ev] at e
  split at e
  · rename_i mh1 e1; exact .inl ⟨mh1, e1, e⟩
  · rename_i mh1 e1; cases e; exact .inr ⟨e1, rfl⟩
  · cases e
theorem ev_or {base : Nat} {ρ : Env} {mh mh' : MHp} {v : MV} (e : ev C base (.or ma mb) ρ mh = some (v, mh')) : (∃ mh1, ev C base ma ρ mh = some (.bl false, mh1) ∧ ev C base mb ρ mh1 = some (v, mh')) ∨ (ev C base ma ρ mh = some (.bl true, mh') ∧ v = .bl true) := by
  simp only [ev] at e
  split at e
  · rename_i mh1 e1; exact .inl ⟨mh1, e1, e⟩
  · rename_i mh1 e1; cases e; exact .inr ⟨e1, rfl⟩
  · cases e
theorem sw_and1 (ha : PT X a (tT G C ma)) : PW X (.BoolOp .And [a] pos) (tT G C ma) := pw_and1 ha
theorem sw_or1 (ha : PT X a (tT G C ma)) : PW X (.BoolOp .Or [a] pos) (tT G C ma) := pw_or1 ha
theorem sw_and {rest : List Expr} (ha : PT X a (tT G C ma)) (hb : PW X (.BoolOp .And (b :: rest) pos) (tT G C mb)) : PW X (.BoolOp .And (a :: b :: rest) pos) (tT G C (.and ma mb)) := by
  refine (pw_and ha hb).mono fun σ H Q h => ?_
  obtain ⟨A, ρ, c, mh', rfl, S, N, e, q⟩ := h
  rcases ev_and e with ⟨mh1, e1, e2⟩ | ⟨e1, e2⟩
  · refine tT.go S N e1 fun B k em SB NB => ?_
    rw [if_pos rfl]
    exact tT.go SB NB (ev.at k em e2) fun B2 k2 em2 S2 _ => q B2 (k.trans k2) em2 S2
  · cases e2
    refine tT.go S N e1 fun B k em SB NB => ?_
    rw [if_neg Bool.false_ne_true]
    exact q B k em SB
theorem sw_or {rest : List Expr} (ha : PT X a (tT G C ma)) (hb : PW X (.BoolOp .Or (b :: rest) pos) (tT G C mb)) : PW X (.BoolOp .Or (a :: b :: rest) pos) (tT G C (.or ma mb)) := by
  refine (pw_or ha hb).mono fun σ H Q h => ?_
  obtain ⟨A, ρ, c, mh', rfl, S, N, e, q⟩ := h
  rcases ev_or e with ⟨mh1, e1, e2⟩ | ⟨e1, e2⟩
  · refine tT.go S N e1 fun B k em SB NB => ?_
    rw [if_neg Bool.false_ne_true]
    exact tT.go SB NB (ev.at k em e2) fun B2 k2 em2 S2 _ => q B2 (k.trans k2) em2 S2
  · cases e2
    refine tT.go S N e1 fun B k em SB NB => ?_
    rw [if_pos rfl]
    exact q B k em SB
theorem ev_not {base : Nat} {ρ : Env} {mh mh' : MHp} {v : MV} (e : ev C base (.not ma) ρ mh = some (v, mh')) : ∃ b, ev C base ma ρ mh = some (.bl b, mh') ∧ v = .bl (!b) := by
  simp only [ev] at e
  split at e
  · cases e; exact ⟨_, by assumption, rfl⟩
  · cases e
theorem st_not (ha : PT X a (tT G C ma)) : PT X (.UnaryOp .Not a pos) (tT G C (.not ma)) := by
  refine (pt_not ha).mono fun σ H Q h => ?_
  obtain ⟨A, ρ, c, mh', rfl, S, N, e, q⟩ := h
  obtain ⟨b, e1, e2⟩ := ev_not e
  cases e2
  exact tT.go S N e1 fun B k em SB _ => q B k em SB
theorem se_one {op} (h : PE X a (tE G C ma)) : PE X (.BoolOp op [a] pos) (tE G C ma) := pe_one h
theorem se_and {rest : List Expr} (ha : PE X a (tE G C ma)) (hb : PE X (.BoolOp .And (b :: rest) pos) (tE G C mb)) : PE X (.BoolOp .And (a :: b :: rest) pos) (tE G C (.and ma mb)) := by
  refine (pe_and ha hb).mono fun σ H Q h => ?_
  obtain ⟨A, ρ, v, mh', rfl, S, N, e, q⟩ := h
  rcases ev_and e with ⟨mh1, e1, e2⟩ | ⟨e1, rfl⟩
  · refine tE.go S N e1 fun B x k em SB NB r => ⟨true, r.bl_, ?_⟩
    rw [if_pos rfl]
    exact tE.go SB NB (ev.at k em e2) fun B2 x2 k2 em2 S2 _ r2 => q B2 x2 (k.trans k2) em2 S2 r2
  · refine tE.go S N e1 fun B x k em SB NB r => ⟨false, r.bl_, ?_⟩
    rw [if_neg Bool.false_ne_true]
    exact q B _ k em SB (rep_bl false)
theorem se_or {rest : List Expr} (ha : PE X a (tE G C ma)) (hb : PE X (.BoolOp .Or (b :: rest) pos) (tE G C mb)) : PE X (.BoolOp .Or (a :: b :: rest) pos) (tE G C (.or ma mb)) := by
  refine (pe_or ha hb).mono fun σ H Q h => ?_
  obtain ⟨A, ρ, v, mh', rfl, S, N, e, q⟩ := h
  rcases ev_or e with ⟨mh1, e1, e2⟩ | ⟨e1, rfl⟩
  · refine tE.go S N e1 fun B x k em SB NB r => ⟨false, r.bl_, ?_⟩
    rw [if_neg Bool.false_ne_true]
    exact tE.go SB NB (ev.at k em e2) fun B2 x2 k2 em2 S2 _ r2 => q B2 x2 (k.trans k2) em2 S2 r2
  · refine tE.go S N e1 fun B x k em SB NB r => ⟨true, r.bl_, ?_⟩
    rw [if_pos rfl]
    exact q B _ k em SB (rep_bl true)
theorem se_not (ha : PE X a (tE G C ma)) : PE X (.UnaryOp .Not a pos) (tE G C (.not ma)) := by
  refine (pe_not ha).mono fun σ H Q h => ?_
  obtain ⟨A, ρ, v, mh', rfl, S, N, e, q⟩ := h
  obtain ⟨b, e1, rfl⟩ := ev_not e
  exact tE.go S N e1 fun B x k em SB _ r => ⟨b, r.bl_, q B _ k em SB (rep_bl _)⟩
theorem ev_ite {base : Nat} {ρ : Env} {mh mh' : MHp} {v : MV} (e : ev C base (.ite mc ma mb) ρ mh = some (v, mh')) : ∃ b mh1, ev C base mc ρ mh = some (.bl b, mh1) ∧ ev C base (if b = true then ma else mb) ρ mh1 = some (v, mh') := by
  simp only [ev] at e
  split at e
  · rename_i mh1 e1; exact ⟨true, mh1, e1, by rw [if_pos rfl]; exact e⟩
  · rename_i mh1 e1; exact ⟨false, mh1, e1, by rw [if_neg Bool.false_ne_true]; exact e⟩
  · cases e
theorem se_ite (hc : PT X c (tT G C mc)) (ha : PE X a (tE G C ma)) (hb : PE X b (tE G C mb)) : PE X (.IfExp c a b pos) (tE G C (.ite mc ma mb)) := by
  refine (pe_ifExp hc ha hb).mono fun σ H Q h => ?_
  obtain ⟨A, ρ, v, mh', rfl, S, N, e, q⟩ := h
  obtain ⟨b, mh1, e1, e2⟩ := ev_ite e
  refine tT.go S N e1 fun B k em SB NB => ?_
  cases b with
  | true =>
    rw [if_pos rfl] at e2 ⊢
    exact tE.go SB NB (ev.at k em e2) fun B2 x2 k2 em2 S2 _ r2 => q B2 x2 (k.trans k2) em2 S2 r2
  | false =>
    rw [if_neg Bool.false_ne_true] at e2 ⊢
    exact tE.go SB NB (ev.at k em e2) fun B2 x2 k2 em2 S2 _ r2 => q B2 x2 (k.trans k2) em2 S2 r2
/-! ### arguments, displays -/
theorem sa_nil : PA X [] (tEs G C []) := by
  refine pa_nil.mono fun σ H Q h => ?_
  obtain ⟨A, ρ, vs, mh', rfl, S, N, e, q⟩ := h
  simp only [evs] at e
  cases e
  exact q A [] (Keep.refl A) rfl S (by unfold Reps; rfl)
theorem evs_cons {ms : List ME} {base : Nat} {ρ : Env} {mh mh' : MHp} {vs : List MV} (e : evs C base (m :: ms) ρ mh = some (vs, mh')) : ∃ x mh1 xs, ev C base m ρ mh = some (x, mh1) ∧ evs C base ms ρ mh1 = some (xs, mh') ∧ vs = x :: xs := by
  simp only [evs] at e
  split at e
  · cases e
  rename_i x mh1 e1
  split at e
  · cases e
  rename_i xs mh2 e2
  cases e
  exact ⟨x, mh1, xs, e1, e2, rfl⟩
theorem sa_cons {es : List Expr} {ms : List ME} (ha : PE X e (tE G C m)) (hr : PA X es (tEs G C ms)) (hs : starEach (e :: es) X.env = (false, eval e X.env) :: starEach es X.env := by rfl) : PA X (e :: es) (tEs G C (m :: ms)) := by
  refine (pa_cons ha hr hs).mono fun σ H Q h => ?_
  obtain ⟨A, ρ, vs, mh', rfl, S, N, e, q⟩ := h
  obtain ⟨x, mh1, xs, e1, e2, rfl⟩ := evs_cons e
  refine tE.go S N e1 fun B vx k em SB NB rx => tEs.go SB NB (evs.at k em e2) fun B2 ys k2 em2 S2 _ r2 => ?_
  refine q B2 _ (k.trans k2) em2 S2 ?_
  unfold Reps
  exact ⟨vx, ys, rfl, Rep.keep SB k2 _ _ rx, r2⟩
theorem se_tup {es : List Expr} {ms : List ME} {x1} (h : PA X es (tEs G C ms)) : PE X (.Tuple es x1 pos) (tE G C (.tup ms)) := by
  refine (pe_tup h).mono fun σ H Q h => ?_
  obtain ⟨A, ρ, v, mh', rfl, S, N, e, q⟩ := h
  simp only [ev] at e
  split at e
  · cases e
  rename_i xs mh1 e1
  split at e
  · rename_i hz
    cases e
    refine tEs.go S N e1 fun B ys k em SB _ r => ⟨by rw [← r.len]; exact hz, fun p hp => ?_⟩
    have q' := Post.step q k
    rw [← em] at q'
    exact q'.newTup SB r hp
  · cases e
theorem ev_lst {ms : List ME} {base : Nat} {ρ : Env} {mh mh' : MHp} {v : MV} (e : ev C base (.lst ms) ρ mh = some (v, mh')) : ∃ xs, evs C base ms ρ mh = some (xs, mh') ∧ xs.length ≤ line ∧ v = .lst xs := by
  simp only [ev] at e
  split at e
  · cases e
  rename_i xs mh1 e1
  split at e
  · rename_i hz
    cases e
    exact ⟨xs, e1, hz, rfl⟩
  · cases e
theorem se_lst {es : List Expr} {ms : List ME} (h : PA X es (tEs G C ms)) : PE X (.List es pos) (tE G C (.lst ms)) := by
  refine (pe_lst h).mono fun σ H Q h => ?_
  obtain ⟨A, ρ, v, mh', rfl, S, N, e, q⟩ := h
  obtain ⟨xs, e1, hz, rfl⟩ := ev_lst e
  refine tEs.go S N e1 fun B ys k em SB _ r => ⟨by rw [← r.len]; exact hz, fun p hp => ?_⟩
  have q' := Post.step q k
  rw [← em] at q'
  exact q'.newLst SB r hp
theorem ev_al {base : Nat} {ρ : Env} {mh mh' : MHp} {v : MV} (e : ev C base (.al m) ρ mh = some (v, mh')) : (∃ xs mh1, ev C base m ρ mh = some (.lst xs, mh1) ∧ v = .loc mh1.length ∧ mh' = mh1 ++ [some (.lst xs)]) ∨ (∃ ks vs mh1, ev C base m ρ mh = some (.dct ks vs, mh1) ∧ v = .loc mh1.length ∧ mh' = mh1 ++ [some (.dct ks vs)]) := by
  simp only [ev] at e
  split at e
  · rename_i xs mh1 e1; cases e; exact .inl ⟨xs, mh1, e1, rfl, rfl⟩
  · rename_i ks vs mh1 e1; cases e; exact .inr ⟨ks, vs, mh1, e1, rfl, rfl⟩
  · cases e
/-- a new list is laid as a live object -/
theorem Post.alLst {A : Wd} {xs : List MV} {vs : List V} {Q : VK} {p : Addr} (h : Post G A (A.mh ++ [some (.lst xs)]) (.loc A.mh.length) Q) (S : Sim G A) (r : Reps G A xs vs) (hp : A.H p = none) : Q (.ref p) (upd A.H p (.lst vs)) := by
  have k : Keep A (A.al p (.lst vs) (.lst xs)) := keep_al S hp
  refine h (A.al p (.lst vs) (.lst xs)) (.ref p) k rfl (S.al hp ⟨vs, upd_same, Reps.keep S k _ _ r⟩ ⟨(fun _ z => nomatch z), (fun _ _ z => nomatch z)⟩) ?_
  unfold Rep
  refine ⟨p, rfl, ?_⟩
  show (A.β ++ [p])[A.mh.length]? = some p
  rw [← S.len, List.getElem?_append_right (Nat.le_refl _)]
  simp
theorem sal_lst {es : List Expr} {ms : List ME} (h : PA X es (tEs G C ms)) : PE X (.List es pos) (tE G C (.al (.lst ms))) := by
  refine (pe_lst h).mono fun σ H Q h => ?_
  obtain ⟨A, ρ, v, mh', rfl, S, N, e, q⟩ := h
  rcases ev_al e with ⟨xs, mh1, e9, rfl, rfl⟩ | ⟨ks, vs, mh1, e9, rfl, rfl⟩
  · obtain ⟨ys, e1, hz, e2⟩ := ev_lst e9
    cases e2
    refine tEs.go S N e1 fun B ys k em SB _ r => ⟨by rw [← r.len]; exact hz, fun p hp => ?_⟩
    have q' := Post.step q k
    rw [← em] at q'
    exact q'.alLst SB r hp
  · obtain ⟨ys, e1, hz, e2⟩ := ev_lst e9
    cases e2
/-! ### built-ins -/
theorem ev_bi {f : Bi} {ms : List ME} {base : Nat} {ρ : Env} {mh mh' : MHp} {v : MV} (e : ev C base (.bi f ms) ρ mh = some (v, mh')) : ∃ xs, evs C base ms ρ mh = some (xs, mh') ∧ biV mh' f xs = some v := by
  simp only [ev] at e
  split at e
  · cases e
  rename_i xs mh1 e1
  simp only [Option.map_eq_some_iff] at e
  obtain ⟨w, e3, e4⟩ := e
  cases e4
  exact ⟨xs, e1, e3⟩
theorem bi_go {f : Bi} {ms : List ME} {r : PySem.W.Frag → List V → Hp → VK → Prop} (hr : BiS f r) (hK : X.K = G.K) {σ : L2.St} {H : Hp} {Q : VK} (h : tE G C (.bi f ms) σ H Q) : tCB (r X.K) (tEs G C ms) σ H Q := by
  obtain ⟨A, ρ, v, mh', rfl, S, N, e, q⟩ := h
  obtain ⟨xs, e1, e2⟩ := ev_bi e
  refine tEs.go S N e1 fun B ys k em SB _ rr => ?_
  rw [hK]
  have q' := Post.step q k
  rw [← em] at q'
  exact hr G B xs v ys Q SB (by rw [em]; exact e2) rr q'
theorem se_biB {f : Bi} {id : String} {es : List Expr} {ms : List ME} {r : PySem.W.Frag → List V → Hp → VK → Prop} {x : Str} (hr : BiS f r) (hc : CallR X (.builtin id) (r X.K)) (hK : X.K = G.K) (hg : Gl X x) (hm : X.mg x = none) (hv : bootBuiltins x = some (.builtin id)) (ha : PA X (e :: es) (tEs G C ms)) (hn : x ≠ "__name__" := by decide) (hdb : (x == ("__debug__" : Str)) = false := by decide)
    (he : starEach (e :: es) X.env = (false, eval e X.env) :: starEach es X.env := by rfl) (hpl : (backTo pos (starEach es X.env)).any (·.1) = false := by rfl) : PE X (.Call (.Name x p) (e :: es) [] pos) (tE G C (.bi f ms)) :=
  (pe_callB hc hg hm hv ha hn hdb he hpl).mono fun _ _ _ h => bi_go hr hK h
theorem se_biT {f : Bi} {id : String} {es : List Expr} {ms : List ME} {r : PySem.W.Frag → List V → Hp → VK → Prop} {x : Str} (hr : BiS f r) (hc : CallR X (.type id) (r X.K)) (hK : X.K = G.K) (hg : Gl X x) (hm : X.mg x = none) (hv : bootBuiltins x = some (.type id)) (ha : PA X (e :: es) (tEs G C ms)) (hn : x ≠ "__name__" := by decide) (hdb : (x == ("__debug__" : Str)) = false := by decide)
    (he : starEach (e :: es) X.env = (false, eval e X.env) :: starEach es X.env := by rfl) (hpl : (backTo pos (starEach es X.env)).any (·.1) = false := by rfl) : PE X (.Call (.Name x p) (e :: es) [] pos) (tE G C (.bi f ms)) :=
  (pe_callTy hc hg hm hv ha hn hdb he hpl).mono fun _ _ _ h => bi_go hr hK h
end
end L2.Mi

set_option Elab.async false
set_option linter.all false
set_option maxRecDepth 100000
set_option maxHeartbeats 4000000
/-! Mini7: calls, isinstance, methods, subscripts, slices. -/
namespace L2.Mi
open PySem PySem.Spec PyProof.Rows

/-! ### calls of defs -/
/-- a def's promise: what the calls' function C tells -/
def spC (G : Gb) (C : CallF) (f n : Nat) : Sp := fun vs H Q _ => vs.length = n ∧ ∃ (A : Wd) (args : List MV) (r : MV) (mh' : MHp), A.H = H ∧ Sim G A ∧ Reps G A args vs ∧ C f args A.mh = some (r, mh') ∧ Post G A mh' r Q
structure FnC (P : Program) (w : World) (K : PySem.W.Frag) (mg : Str → Option Value) (base : Heap) (G : Gb) (C : CallF) (k f : Nat) (a : Addr) : Prop where
  ex : ∃ (fd : FuncData) (ps : List Str), FnOk P w K mg base CX0 k a fd ps (spC G C f ps.length) ∧ PySem.W.keepIn K (.ref a) = true ∧ Binds K fd ps [] ∧ ∀ args mh r, C f args mh = some r → args.length = ps.length
section
variable {G : Gb} {C : CallF} {X : Cx} {pos p : Pos} {e a b c : Expr} {ma mb mc m : ME} {k : Nat}
theorem call_go {f : Nat} {fa : Addr} {ms : List ME} {σ : L2.St} {H : Hp} {Q : VK} {n : Nat} (hl : ∀ args mh r, C f args mh = some r → args.length = n) (h : tE G C (.call f ms) σ H Q) : tCall (spC G C f n) [] E0 (tEs G C ms) σ H Q := by
  obtain ⟨A, ρ, v, mh', rfl, S, N, e, q⟩ := h
  simp only [ev] at e
  split at e
  · cases e
  rename_i xs mh1 e1
  refine tEs.go S N e1 fun B ys kB em SB _ r => ?_
  rw [List.append_nil]
  refine ⟨?_, B, xs, v, mh', rfl, SB, r, by rw [em]; exact e, Post.step q kB⟩
  rw [← r.len]
  exact hl _ _ _ e
theorem se_call {f : Nat} {fa : Addr} {x : Str} {es : List Expr} {ms : List ME} (F : FnC X.prog X.w X.K X.mg X.base G C k f fa) (hr : Room k X.A) (hg : Gl X x) (hm : X.mg x = some (.ref fa)) (ha : PA X (e :: es) (tEs G C ms))
    (hdb : (x == ("__debug__" : Str)) = false := by decide) (he : starEach (e :: es) X.env = (false, eval e X.env) :: starEach es X.env := by rfl) (hpl : (backTo pos (starEach es X.env)).any (·.1) = false := by rfl) :
    PE X (.Call (.Name x p) (e :: es) [] pos) (tE G C (.call f ms)) := by
  obtain ⟨fd, ps, F, hk, hb, hl⟩ := F.ex
  exact (pe_call F hr hg hm hk hb .nil pass0 ha hdb he hpl).mono fun σ H Q h => call_go (fa := fa) hl h
theorem se_call0 {f : Nat} {fa : Addr} {x : Str} (F : FnC X.prog X.w X.K X.mg X.base G C k f fa) (hr : Room k X.A) (hg : Gl X x) (hm : X.mg x = some (.ref fa))
    (hdb : (x == ("__debug__" : Str)) = false := by decide) : PE X (.Call (.Name x p) [] [] pos) (tE G C (.call f [])) := by
  obtain ⟨fd, ps, F, hk, hb, hl⟩ := F.ex
  refine (pe_call0 F hr hg hm hk hb .nil pass0 hdb).mono fun σ H Q h => ?_
  obtain ⟨A, ρ, v, mh', rfl, S, N, e, q⟩ := h
  simp only [ev, evs] at e
  exact ⟨(hl _ _ _ e : [].length = ps.length), A, [], v, mh', rfl, S, by unfold Reps; rfl, e, q⟩
/-- a call of what a name holds -/
theorem se_callv {i : Nat} {x : Str} {es : List Expr} {ms : List ME} (F : ∀ f fa, G.fa f = some fa → FnC X.prog X.w X.K X.mg X.base G C k f fa) (hr : Room k X.A) (hN : X.N[i]? = some x) (hv : Vis X.env.scope x) (ha : PA X (e :: es) (tEs G C ms))
    (hdb : (x == ("__debug__" : Str)) = false := by decide) (hcd : (x == ("__classdict__" : Str)) = false := by decide) (he : starEach (e :: es) X.env = (false, eval e X.env) :: starEach es X.env := by rfl) (hpl : (backTo pos (starEach es X.env)).any (·.1) = false := by rfl) :
    PE X (.Call (.Name x p) (e :: es) [] pos) (tE G C (.callv i ms)) := by
  refine ⟨fun pins s σ H Q I h => ?_⟩
  obtain ⟨A, ρ, v, mh', rfl, S, N, e, q⟩ := h
  simp only [ev] at e
  split at e
  · rename_i f hi
    split at e
    · cases e
    rename_i xs mh1 e1
    obtain ⟨y, hs, ry⟩ := N.2 i _ hi
    unfold Rep at ry
    obtain ⟨fa, hf, rfl⟩ := ry
    obtain ⟨fd, ps, F, hk, hb, hl⟩ := (F f fa hf).ex
    refine (pe_callL (E := E0) F hr hN hv hk hb .nil pass0 ha hdb hcd he hpl).run pins s σ A.H Q I ⟨hs, ?_⟩
    refine tEs.go S N e1 fun B ys kB em SB _ r => ?_
    rw [List.append_nil]
    refine ⟨?_, B, xs, v, mh', rfl, SB, r, by rw [em]; exact e, Post.step q kB⟩
    rw [← r.len]
    exact hl _ _ _ e
  · cases e
/-! ### isinstance -/
def tyN : Ty → String
  | .int => "int"
  | .bool => "bool"
  | .str => "str"
  | .tuple => "tuple"
  | .list => "list"
  | .dict => "dict"
def kindN : String → Ty → Bool
  | "bool", .bool => true
  | "bool", .int => true
  | "int", .int => true
  | "str", .str => true
  | "tuple", .tuple => true
  | "list", .list => true
  | "dict", .dict => true
  | _, _ => false
theorem kit_all {K : PySem.W.Frag} : ∀ n ∈ ["NoneType", "bool", "int", "str", "tuple", "list", "dict"], ∀ t : Ty, PySem.W.kitOne K (.type n) (.type (tyN t)) = some (kindN n t) := by
  intro n hn t
  simp only [List.mem_cons, List.not_mem_nil, or_false] at hn
  rcases hn with rfl | rfl | rfl | rfl | rfl | rfl | rfl <;> cases t <;> exact kit_ty (by decide +kernel)
theorem isTy_of {A : Wd} (S : Sim G A) {x : MV} {t : Ty} {b : Bool} {v : V} (e : isTy x t A.mh = some b) (r : Rep G A x v) : ∃ n, n ∈ ["NoneType", "bool", "int", "str", "tuple", "list", "dict"] ∧ TyX G.K A.H v (.type n) ∧ kindN n t = b := by
  have tupX : ∀ {xs : List MV}, Rep G A (.tup xs) v → TyX G.K A.H v (.type "tuple") := fun {xs} r => by
    obtain ⟨a, vs, rfl, h1, _⟩ := r.tup_
    rcases h1 with (h1 | ⟨o, h1⟩) | ⟨o, its, n, h1, h2, _⟩
    · exact .base (.tup h1)
    · exact .fTuple h1
    · exact .kTuple h1 h2
  cases x with
  | non => cases t <;> cases e <;> exact ⟨"NoneType", by decide, by rw [r.non_]; exact .base .non, rfl⟩
  | bl c => cases t <;> cases e <;> exact ⟨"bool", by decide, by rw [r.bl_]; exact .base (.bl _), rfl⟩
  | int i => cases t <;> cases e <;> exact ⟨"int", by decide, by rw [r.int_]; exact .base (.int _), rfl⟩
  | str s => cases t <;> cases e <;> exact ⟨"str", by decide, by rw [r.str_]; exact .base (.str _), rfl⟩
  | tup xs => cases t <;> cases e <;> exact ⟨"tuple", by decide, tupX r, rfl⟩
  | lst xs =>
    have hL : TyX G.K A.H v (.type "list") := by
      unfold Rep at r
      obtain ⟨a, vs, rfl, h1, _⟩ := r
      exact .base (.lst h1)
    cases t <;> cases e <;> exact ⟨"list", by decide, hL, rfl⟩
  | loc l =>
    simp only [isTy] at e
    split at e
    · rename_i ys hl
      obtain ⟨a, rfl, e2⟩ := r.loc_
      obtain ⟨vs, e3, r3⟩ := S.obj _ _ hl a e2
      cases t <;> cases e <;> exact ⟨"list", by decide, .base (.lst e3), rfl⟩
    · rename_i ys ks hl
      obtain ⟨a, rfl, e2⟩ := r.loc_
      obtain ⟨vs, e3, r3⟩ := S.obj _ _ hl a e2
      cases t <;> cases e <;> exact ⟨"dict", by decide, .base (.dK e3), rfl⟩
    · cases e
  | dct ks vs =>
    have hD : TyX G.K A.H v (.type "dict") := by
      unfold Rep at r
      obtain ⟨a, vs, rfl, h1 | ⟨o, h1⟩, _⟩ := r
      · exact .base (.dK h1)
      · exact .fDict h1
    cases t <;> cases e <;> exact ⟨"dict", by decide, hD, rfl⟩
  | fn f => cases t <;> cases e
  | scr ns => cases t <;> cases e
theorem se_isi {x y : Str} {p2 : Pos} {t : Ty} (hK : X.K = G.K) (hg : Gl X x) (hm : X.mg x = none) (hv : bootBuiltins x = some (.builtin "isinstance")) (hg2 : Gl X y) (hm2 : X.mg y = none) (hv2 : bootBuiltins y = some (.type (tyN t))) (ha : PE X e (tE G C m))
    (hn : x ≠ "__name__" := by decide) (hdb : (x == ("__debug__" : Str)) = false := by decide) (hn2 : y ≠ "__name__" := by decide) (hdb2 : (y == ("__debug__" : Str)) = false := by decide)
    (he : starEach [e, .Name y p2] X.env = (false, eval e X.env) :: starEach [.Name y p2] X.env := by rfl) (hpl : (backTo pos (starEach [.Name y p2] X.env)).any (·.1) = false := by rfl) :
    PE X (.Call (.Name x p) [e, .Name y p2] [] pos) (tE G C (.isi m t)) := by
  refine (pe_callB call_isi hg hm hv (pa_cons ha (pa_cons (pe_bltn (v := .ty (tyN t)) hg2 hm2 hv2 rfl hn2 hdb2) pa_nil) he) hn hdb he hpl).mono fun σ H Q h => ?_
  obtain ⟨A, ρ, v, mh', rfl, S, N, e, q⟩ := h
  simp only [ev] at e
  split at e
  · cases e
  rename_i z mh1 e1
  simp only [Option.map_eq_some_iff] at e
  obtain ⟨w, e3, e4⟩ := e
  cases e4
  refine tE.go S N e1 fun B vx kB em SB _ r => ?_
  obtain ⟨n, h1, h2, h3⟩ := isTy_of SB (by rw [em]; exact e3) r
  refine ⟨vx, .ty (tyN t), .type n, .type (tyN t), w, rfl, .ty _, by rw [hK]; exact h2, ?_, q B _ kB em SB (rep_bl w)⟩
  rw [← h3]
  exact kit_all n h1 t
/-! ### methods -/
/-- the receiver's kind -/
def meT : Me → String
  | .upper => "str"
  | .get2 => "dict"
  | .start2 => "str"
  | .join => "str"
  | _ => "list"
theorem tyM_of {A : Wd} (S : Sim G A) {x : MV} {mm : Me} {v : V} (e : tyM A.mh mm x = true) (r : Rep G A x v) (hg : mm ≠ .get2) : tyV G.K (meT mm) v A.H := by
  have lists : (liveL A.mh x).isSome = true → tyV G.K "list" v A.H := fun e => by
    obtain ⟨⟨l, xs⟩, e⟩ := Option.isSome_iff_exists.mp e
    obtain ⟨_, a, vs, _, rfl, h1, _⟩ := liveL_rep S e r
    exact .inl ⟨rfl, vs, SqL.of h1⟩
  cases mm with
  | append => exact lists e
  | extend => exact lists e
  | pop => exact lists e
  | popAt => exact lists e
  | upper =>
    cases x with
    | str s => rw [r.str_]; rfl
    | _ => cases e
  | get2 => exact absurd rfl hg
  | start2 =>
    cases x with
    | str s => rw [r.str_]; rfl
    | _ => cases e
  | join =>
    cases x with
    | str s => rw [r.str_]; rfl
    | _ => cases e
  | index =>
    obtain ⟨xs, e⟩ := Option.isSome_iff_exists.mp e
    obtain ⟨a, vs, rfl, h1, _⟩ := getL_rep S e r
    exact .inl ⟨rfl, vs, SqL.of h1⟩
theorem ev_meth {mm : Me} {ms : List ME} {base : Nat} {ρ : Env} {mh mh' : MHp} {v : MV} (e : ev C base (.meth mm m ms) ρ mh = some (v, mh')) : ∃ x mh1 xs mh2, ev C base m ρ mh = some (x, mh1) ∧ tyM mh1 mm x = true ∧ evs C base ms ρ mh1 = some (xs, mh2) ∧ methV base mh2 mm x xs = some (v, mh') := by
  simp only [ev] at e
  split at e
  · cases e
  rename_i x mh1 e1
  split at e
  · rename_i ht
    split at e
    · cases e
    rename_i xs mh2 e2
    exact ⟨x, mh1, xs, mh2, e1, ht, e2, e⟩
  · cases e
theorem se_meth {mm : Me} {name : Str} {id : String} {apos cpos : Pos} {es : List Expr} {ms : List ME} {r : PySem.W.Frag → V → List V → Hp → VK → Prop} (hr : MeS mm r) (hK : X.K = G.K)
    (pa : PlainAttrs (meT mm)) (slot : Slot (meT mm) name id) (hty : typeOf (.builtin id) = pure (.type "method_descriptor")) (hm : MtR X id (r X.K)) (ho : PE X a (tE G C m)) (ha : PA X (e :: es) (tEs G C ms))
    (hbase : attributeBase a name X.env (eval a X.env) = eval a X.env := by rfl)
    (hfew : ((backTo cpos (starEach (e :: es) X.env)).all (fun x => !x.1) && (backToKw cpos (keywordEach [] X.env)).all (fun x => x.1.isSome)
      && decide ((e :: es).length + ([] : List Keyword).length + (if ([] : List Keyword).isEmpty then 0 else 1) < 30)) = true := by rfl)
    (hline : (apos.endLine == cpos.line) = true := by rfl) (hs : starEach (e :: es) X.env = (false, eval e X.env) :: starEach es X.env := by rfl) (hplain : (backTo cpos (starEach es X.env)).any (·.1) = false := by rfl)
    (hg : mm ≠ .get2 := by exact fun h => nomatch h) : PE X (.Call (.Attribute a name apos) (e :: es) [] cpos) (tE G C (.meth mm m ms)) := by
  refine (pe_bm pa slot hty hm ho ha hbase hfew hline hs hplain).mono fun σ H Q h => ?_
  obtain ⟨A, ρ, v, mh', rfl, S, N, e, q⟩ := h
  obtain ⟨x, mh1, xs, mh2, e1, ht, e2, e3⟩ := ev_meth e
  refine tE.go S N e1 fun B vx kB em SB NB rx => ⟨by rw [hK]; exact tyM_of SB (by rw [em]; exact ht) rx hg, ?_⟩
  refine tEs.go SB NB (evs.at kB em e2) fun B2 ys k2 em2 S2 _ r2 => ?_
  rw [hK]
  exact hr G B2 x xs v mh' vx ys Q S2 (by rw [(kB.trans k2).base, em2]; exact e3) (Rep.keep SB k2 _ _ rx) r2 (Post.step q (kB.trans k2))
theorem se_meth0 {mm : Me} {name : Str} {id : String} {apos cpos : Pos} {r : PySem.W.Frag → V → List V → Hp → VK → Prop} (hr : MeS mm r) (hK : X.K = G.K)
    (pa : PlainAttrs (meT mm)) (slot : Slot (meT mm) name id) (hty : typeOf (.builtin id) = pure (.type "method_descriptor")) (hm : MtR X id (r X.K)) (ho : PE X a (tE G C m))
    (hbase : attributeBase a name X.env (eval a X.env) = eval a X.env := by rfl) (hline : (apos.endLine == cpos.line) = true := by rfl)
    (hg : mm ≠ .get2 := by exact fun h => nomatch h) : PE X (.Call (.Attribute a name apos) [] [] cpos) (tE G C (.meth mm m [])) := by
  refine (pe_bm0 pa slot hty hm ho hbase hline).mono fun σ H Q h => ?_
  obtain ⟨A, ρ, v, mh', rfl, S, N, e, q⟩ := h
  obtain ⟨x, mh1, xs, mh2, e1, ht, e2, e3⟩ := ev_meth e
  simp only [evs] at e2
  cases e2
  refine tE.go S N e1 fun B vx kB em SB NB rx => ⟨by rw [hK]; exact tyM_of SB (by rw [em]; exact ht) rx hg, ?_⟩
  rw [hK]
  exact hr G B x [] v mh' vx [] Q SB (by rw [kB.base, em]; exact e3) rx (by unfold Reps; rfl) (Post.step q kB)
/-! ### subscripts, slices -/
theorem PE.or' {X : Cx} {e : Expr} {t t' : TE} (h : PE X e t) (h' : PE X e t') : PE X e (fun σ H Q => t σ H Q ∨ t' σ H Q) := ⟨fun pins s σ H Q I q => q.elim (h.run pins s σ H Q I) (h'.run pins s σ H Q I)⟩
theorem se_sub (hK : X.K = G.K) (hu : X.A.units + 65 < cLine) (ha : PE X a (tE G C ma)) (hb : PE X b (tE G C mb)) (hs : PlainIx b := by intro _ _; rfl) (hs2 : NoSl b := by intro _ _; rfl) : PE X (.Subscript a b pos) (tE G C (.sub ma mb)) := by
  refine (PE.or' (pe_ix ix_seq ha hb hs) (pe_dget (by omega) ha hb hs2)).mono fun σ H Q h => ?_
  obtain ⟨A, ρ, v, mh', rfl, S, N, e, q⟩ := h
  simp only [ev] at e
  split at e
  · cases e
  rename_i x mh1 e1
  split at e
  · cases e
  rename_i y mh2 e2
  simp only [Option.map_eq_some_iff] at e
  obtain ⟨w, e3, e4⟩ := e
  cases e4
  rcases subV_cases e3 with e3 | e3
  · refine .inl (tE.go S N e1 fun B vx kB em SB NB rx => tE.go SB NB (ev.at kB em e2) fun B2 vy k2 em2 S2 N2 ry => ?_)
    rw [hK]
    refine sub_of S2 (by rw [em2]; exact e3) (Rep.keep SB k2 _ _ rx) ry ?_
    rw [em2]
    exact Post.step q (kB.trans k2)
  · refine .inr (tE.go S N e1 fun B vx kB em SB NB rx => tE.go SB NB (ev.at kB em e2) fun B2 vy k2 em2 S2 N2 ry => ?_)
    refine subD_of' S2 (by rw [em2]; exact e3) (Rep.keep SB k2 _ _ rx) ry ?_
    rw [em2]
    exact Post.step q (kB.trans k2)
/-! d.get(k, x) -/
theorem se_get2 {apos cpos : Pos} {f : Expr} {mf : ME} (hu : X.A.units + 65 < cLine) (ho : PE X a (tE G C ma)) (he : PE X b (tE G C mb)) (hf : PE X f (tE G C mf))
    (h1 : attributeBase a "get" X.env (eval a X.env) = eval a X.env := by rfl)
    (h2 : ((backTo cpos (starEach [b, f] X.env)).all (fun x => !x.1) && (backToKw cpos (keywordEach [] X.env)).all (fun x => x.1.isSome) && decide (([b, f] : List Expr).length + ([] : List Keyword).length + (if ([] : List Keyword).isEmpty then 0 else 1) < 30)) = true := by rfl)
    (h3 : (apos.endLine == cpos.line) = true := by rfl) (h4 : backTo cpos (starEach [b, f] X.env) = [(false, eval b X.env), (false, eval f X.env)] := by rfl) :
    PE X (.Call (.Attribute a "get" apos) [b, f] [] cpos) (tE G C (.meth .get2 ma [mb, mf])) := by
  refine (pe_dget2 (by omega) ho he hf ⟨h1, h2, h3, h4⟩).mono fun σ H Q h => ?_
  obtain ⟨A, ρ, v, mh', rfl, S, N, e, q⟩ := h
  obtain ⟨x, mh1, xs, mh2, e1, ht, e2, e3⟩ := ev_meth e
  simp only [evs] at e2
  split at e2
  · cases e2
  rename_i y mh3 e4
  split at e2
  · cases e2
  rename_i zs mh4 e5
  split at e5
  · cases e5
  rename_i z mh5 e6
  cases e5
  cases e2
  obtain ⟨⟨ks, ms⟩, hd⟩ := Option.isSome_iff_exists.mp (show (getD mh1 x).isSome = true from ht)
  simp only [methV, getV] at e3
  split at e3
  · rename_i ls ns y' d' q1 q2
    cases q2
    simp only [Option.map_eq_some_iff] at e3
    obtain ⟨k, e7, e8⟩ := e3
    cases e8
    refine tE.go S N e1 fun B vx kB em SB NB rx => ?_
    obtain ⟨a', vs, rfl, hH, hl, r⟩ := getD_rep SB (by rw [em]; exact hd) rx
    refine ⟨a', rfl, .inl ⟨_, hH⟩, tE.go SB NB (ev.at kB em e4) fun B2 vy k2 em2 S2 N2 ry => tE.go S2 N2 (ev.at (kB.trans k2) em2 e6) fun B3 vz k3 em3 S3 N3 rz => ?_⟩
    have rx3 := Rep.keep S2 k3 _ _ (Rep.keep SB k2 _ _ rx)
    obtain ⟨a2, vs2, ea, hH2, hl2, r2⟩ := getD_rep S3 (by rw [em3]; exact q1) rx3
    cases ea
    have ry3 := Rep.keep S2 k3 _ _ ry
    refine ⟨_, .inl ⟨_, kOf k, hH2, kyV_rep e7 ry3, rfl⟩, ?_⟩
    cases q5 : dLook ls ns k with
    | some m =>
      obtain ⟨w, q6, q7⟩ := look_some hl2 r2 q5
      rw [q6]
      rw [q5] at q
      exact q B3 w ((kB.trans k2).trans k3) em3 S3 q7
    | none =>
      rw [look_none hl2 r2 q5]
      rw [q5] at q
      exact q B3 vz ((kB.trans k2).trans k3) em3 S3 rz
  · cases e3
theorem se_slcL {p2 : Pos} (hK : X.K = G.K) (ha : PE X a (tE G C ma)) (hb : PE X b (tE G C mb)) : PE X (.Subscript a (.Slice (some b) none none p2) pos) (tE G C (.slcL ma mb)) := by
  refine (pe_slice sl_ok ha (po_some hb) po_none).mono fun σ H Q h => ?_
  obtain ⟨A, ρ, v, mh', rfl, S, N, e, q⟩ := h
  simp only [ev] at e
  split at e
  · cases e
  rename_i x mh1 e1
  split at e
  · rename_i l mh2 e2
    simp only [Option.map_eq_some_iff] at e
    obtain ⟨w, e3, e4⟩ := e
    cases e4
    refine tE.go S N e1 fun B vx kB em SB NB rx => tE.go SB NB (ev.at kB em e2) fun B2 vy k2 em2 S2 N2 ry => ⟨l, ry.int_, ?_⟩
    show slR X.K vx (some l) none B2.H Q
    rw [hK]
    refine slc_of S2 (by rw [em2]; exact e3) (Rep.keep SB k2 _ _ rx) ?_
    rw [em2]
    exact Post.step q (kB.trans k2)
  · cases e
theorem se_slcH {p2 : Pos} (hK : X.K = G.K) (ha : PE X a (tE G C ma)) (hb : PE X b (tE G C mb)) : PE X (.Subscript a (.Slice none (some b) none p2) pos) (tE G C (.slcH ma mb)) := by
  refine (pe_slice sl_ok ha po_none (po_some hb)).mono fun σ H Q h => ?_
  obtain ⟨A, ρ, v, mh', rfl, S, N, e, q⟩ := h
  simp only [ev] at e
  split at e
  · cases e
  rename_i x mh1 e1
  split at e
  · rename_i l mh2 e2
    simp only [Option.map_eq_some_iff] at e
    obtain ⟨w, e3, e4⟩ := e
    cases e4
    refine tE.go S N e1 fun B vx kB em SB NB rx => ?_
    show tE G C mb σ B.H _
    refine tE.go SB NB (ev.at kB em e2) fun B2 vy k2 em2 S2 N2 ry => ⟨l, ry.int_, ?_⟩
    show slR X.K vx none (some l) B2.H Q
    rw [hK]
    refine slc_of S2 (by rw [em2]; exact e3) (Rep.keep SB k2 _ _ rx) ?_
    rw [em2]
    exact Post.step q (kB.trans k2)
  · cases e
theorem se_slcB {p2 : Pos} (hK : X.K = G.K) (ha : PE X a (tE G C ma)) (hb : PE X b (tE G C mb)) (hc : PE X c (tE G C mc)) : PE X (.Subscript a (.Slice (some b) (some c) none p2) pos) (tE G C (.slcB ma mb mc)) := by
  refine (pe_slice sl_ok ha (po_some hb) (po_some hc)).mono fun σ H Q h => ?_
  obtain ⟨A, ρ, v, mh', rfl, S, N, e, q⟩ := h
  simp only [ev] at e
  split at e
  · cases e
  rename_i x mh1 e1
  split at e
  · rename_i l mh2 e2
    split at e
    · rename_i l' mh3 e3'
      simp only [Option.map_eq_some_iff] at e
      obtain ⟨w, e3, e4⟩ := e
      cases e4
      refine tE.go S N e1 fun B vx kB em SB NB rx => tE.go SB NB (ev.at kB em e2) fun B2 vy k2 em2 S2 N2 ry => ⟨l, ry.int_, ?_⟩
      show tE G C mc σ B2.H _
      refine tE.go S2 N2 (ev.at (kB.trans k2) em2 e3') fun B3 vz k3 em3 S3 _ rz => ⟨l', rz.int_, ?_⟩
      show slR X.K vx (some l) (some l') B3.H Q
      rw [hK]
      refine slc_of S3 (by rw [em3]; exact e3) (Rep.keep S2 k3 _ _ (Rep.keep SB k2 _ _ rx)) ?_
      rw [em3]
      exact Post.step q ((kB.trans k2).trans k3)
    · cases e
  · cases e
end
end L2.Mi

set_option Elab.async false
set_option linter.all false
set_option maxRecDepth 100000
set_option maxHeartbeats 4000000
/-! Mini8: targets; what is walked. -/
namespace L2.Mi
open PySem PySem.Spec PyProof.Rows

/-! ### targets -/
mutual
def tgN : Tg → List Nat
  | .nm i => [i]
  | .tp ts => tgNs ts
def tgNs : List Tg → List Nat
  | [] => []
  | t :: ts => tgN t ++ tgNs ts
end
/-- only the names ns are set -/
def Off (ns : List Nat) (σ σ' : L2.St) : Prop := σ'.length = σ.length ∧ ∀ i, i ∉ ns → σ'[i]? = σ[i]?
theorem Off.refl {ns : List Nat} {σ : L2.St} : Off ns σ σ := ⟨rfl, fun _ _ => rfl⟩
theorem Off.trans {ns ms : List Nat} {σ σ' σ'' : L2.St} (h : Off ns σ σ') (h' : Off ms σ' σ'') : Off (ns ++ ms) σ σ'' :=
  ⟨h'.1.trans h.1, fun i hi => (h'.2 i fun z => hi (List.mem_append_right _ z)).trans (h.2 i fun z => hi (List.mem_append_left _ z))⟩
theorem wipe_get {σ : L2.St} : ∀ {vs : List Nat} {i : Nat}, i < σ.length → (L2.wipe σ vs)[i]? = if i ∈ vs then some none else σ[i]?
  | [], i, hi => by simp [L2.wipe]
  | v :: vs, i, hi => by
    unfold L2.wipe
    by_cases e : v = i
    · subst e
      rw [List.getElem?_set_self (by rw [L2.wipe_length]; exact hi)]
      simp
    · rw [List.getElem?_set_ne e, wipe_get hi]
      have e' : ¬ i = v := fun z => e z.symm
      simp [e']
theorem Off.wipe {ns own : List Nat} {σ σ' : L2.St} (h : Off ns σ σ') (hs : ∀ i ∈ ns, i ∈ own) : L2.wipe σ' own = L2.wipe σ own := by
  apply List.ext_getElem?
  intro i
  by_cases hi : i < σ.length
  · rw [wipe_get hi, wipe_get (by rw [h.1]; exact hi)]
    by_cases hm : i ∈ own
    · rw [if_pos hm, if_pos hm]
    · rw [if_neg hm, if_neg hm]
      exact h.2 i fun z => hm (hs i z)
  · rw [List.getElem?_eq_none (by rw [L2.wipe_length, h.1]; omega), List.getElem?_eq_none (by rw [L2.wipe_length]; omega)]
theorem wipe_wipe {σ : L2.St} {vs : List Nat} : L2.wipe (L2.wipe σ vs) vs = L2.wipe σ vs := by
  apply List.ext_getElem?
  intro i
  by_cases hi : i < σ.length
  · rw [wipe_get (by rw [L2.wipe_length]; exact hi), wipe_get hi]
    by_cases hm : i ∈ vs
    · rw [if_pos hm, if_pos hm]
    · rw [if_neg hm, if_neg hm]
  · rw [List.getElem?_eq_none (by rw [L2.wipe_length, L2.wipe_length]; omega), List.getElem?_eq_none (by rw [L2.wipe_length]; omega)]
def tG (G : Gb) (t : Tg) : TG := fun x σ H Q => ∃ (A : Wd) (ρ ρ' : Env) (v : MV), A.H = H ∧ Sim G A ∧ Envs G A ρ σ ∧ Rep G A v x ∧ asg A.mh t v ρ = some ρ' ∧ ∀ σ', Envs G A ρ' σ' → Off (tgN t) σ σ' → Q σ' H
def tGs (G : Gb) (ts : List Tg) : TGs := fun xs σ H Q => ∃ (A : Wd) (ρ ρ' : Env) (vs : List MV), A.H = H ∧ Sim G A ∧ Envs G A ρ σ ∧ Reps G A vs xs ∧ asgs A.mh ts vs ρ = some ρ' ∧ ∀ σ', Envs G A ρ' σ' → Off (tgNs ts) σ σ' → Q σ' H
theorem _root_.L2.PG.mono {X : Cx} {e : Expr} {t t' : TG} (h : PG X e t) (k : ∀ x σ H Q, t' x σ H Q → t x σ H Q) : PG X e t' := ⟨fun pins s σ H v u Q I r q => h.run pins s σ H v u Q I r (k _ _ _ _ q)⟩
theorem _root_.L2.PGs.mono {X : Cx} {e : List Expr} {t t' : TGs} (h : PGs X e t) (k : ∀ x σ H Q, t' x σ H Q → t x σ H Q) : PGs X e t' := ⟨fun pins s σ H v u Q I r q => h.run pins s σ H v u Q I r (k _ _ _ _ q)⟩
theorem _root_.L2.PI.mono {X : Cx} {tg e : Expr} {t t' : TI} (h : PI X tg e t) (k : ∀ σ H Q, t' σ H Q → t σ H Q) : PI X tg e t' := ⟨fun pins s σ H R I q => h.run pins s σ H R I (k _ _ _ q)⟩
section
variable {G : Gb} {C : CallF} {X : Cx} {pos p : Pos} {e a b c : Expr} {ma mb mc m : ME}
theorem sg_name {i : Nat} {x : Str} (hN : X.N.Nodup) (hi : X.N[i]? = some x) (hx : Loc X.env.scope x) (hf : X.fn x = true ∨ X.env.scope.names.lookup x = some .local := by first | exact .inl rfl | exact .inr rfl | assumption) : PG X (.Name x pos) (tG G (.nm i)) := by
  refine (pg_name hN hi hx hf).mono fun y σ H Q h => ?_
  obtain ⟨A, ρ, ρ', v, rfl, S, N, r, e, q⟩ := h
  simp only [asg] at e
  split at e
  · rename_i hl
    cases e
    refine q _ (N.set r i) ⟨by rw [List.length_set], fun j hj => ?_⟩
    have : i ≠ j := fun z => hj (by rw [z]; simp [tgN])
    rw [List.getElem?_set_ne this]
  · cases e
theorem sgs_nil : PGs X [] (tGs G []) := by
  refine pgs_nil.mono fun y σ H Q h => ?_
  obtain ⟨A, ρ, ρ', vs, rfl, S, N, r, e, q⟩ := h
  cases vs with
  | nil =>
    simp only [asgs] at e
    cases e
    unfold Reps at r
    exact ⟨r, q _ N Off.refl⟩
  | cons => simp only [asgs] at e; cases e
theorem sgs_cons {t : Tg} {ts : List Tg} {es : List Expr} (h1 : PG X e (tG G t)) (h2 : PGs X es (tGs G ts))
    (hs : (assignEach (e :: es) X.env).map (·.2) = assign e X.env :: (assignEach es X.env).map (·.2) := by rfl) : PGs X (e :: es) (tGs G (t :: ts)) := by
  refine (pgs_cons h1 h2 hs).mono fun y σ H Q h => ?_
  obtain ⟨A, ρ, ρ', vs, rfl, S, N, r, e, q⟩ := h
  cases vs with
  | nil => simp only [asgs] at e; cases e
  | cons v vs =>
    simp only [asgs] at e
    split at e
    · cases e
    rename_i ρ1 e1
    unfold Reps at r
    obtain ⟨x, xs, rfl, r1, r2⟩ := r
    refine ⟨x, xs, rfl, A, ρ, ρ1, v, rfl, S, N, r1, e1, fun σ1 N1 o1 => ⟨A, ρ1, ρ', vs, rfl, S, N1, r2, e, fun σ2 N2 o2 => q σ2 N2 ?_⟩⟩
    exact o1.trans o2
theorem asgs_len {mh : MHp} : ∀ {ts : List Tg} {vs : List MV} {ρ ρ' : Env}, asgs mh ts vs ρ = some ρ' → ts.length = vs.length
  | [], [], ρ, ρ', e => rfl
  | [], v :: vs, ρ, ρ', e => by simp only [asgs] at e; cases e
  | t :: ts, [], ρ, ρ', e => by simp only [asgs] at e; cases e
  | t :: ts, v :: vs, ρ, ρ', e => by
    simp only [asgs] at e
    split at e
    · cases e
    rw [List.length_cons, List.length_cons, asgs_len e]
theorem sg_tup {ts : List Tg} {es : List Expr} {k : Nat} (hK : X.K = G.K) (hc : X.calm = true) (h : PGs X es (tGs G ts)) (hl : ts.length = es.length := by rfl)
    (hn : (assignEach es X.env).length = es.length := by rfl) (hst : (assignEach es X.env).findIdx? (·.1) = none := by rfl) : PG X (.Tuple es k pos) (tG G (.tp ts)) := by
  refine (pg_tup hc h hn hst).mono fun y σ H Q h => ?_
  obtain ⟨A, ρ, ρ', v, rfl, S, N, r, e, q⟩ := h
  cases v with
  | tup vs =>
    simp only [asg] at e
    obtain ⟨a, xs, rfl, h1, h2⟩ := r.tup_
    refine ⟨a, xs, rfl, by rw [hK]; exact h1, by rw [← h2.len, ← asgs_len e, hl], A, ρ, ρ', vs, rfl, S, N, h2, e, q⟩
  | _ => simp only [asg] at e; cases e
end

/-! ### what is walked -/
structure Wk (G : Gb) (B : Wd) (J : Its) (I : L2.It) : Prop where
  go : ∀ D, KeepW B D → Sim G D → J.ok D.mh → ∀ i, i < J.items.length → I.go i D.H
  stop : ∀ D, KeepW B D → Sim G D → J.ok D.mh → I.stop J.items.length D.H
  yld : ∀ D, KeepW B D → Sim G D → J.ok D.mh → ∀ i x H', i < J.items.length → I.yld i D.H x H' → ∃ E y, Keep D E ∧ E.mh = D.mh ∧ E.H = H' ∧ Sim G E ∧ J.items[i]? = some y ∧ Rep G E y x
def tI (G : Gb) (C : CallF) (m : ME) : TI := fun σ H R => ∃ (A : Wd) (ρ : Env) (J : Its) (mh' : MHp), A.H = H ∧ Sim G A ∧ Envs G A ρ σ ∧ evI C A.base m ρ A.mh = some (J, mh') ∧ ∀ B I, Keep A B → B.mh = mh' → Sim G B → Wk G B J I → R I B.H
section
variable {G : Gb} {C : CallF} {X : Cx} {tg : Expr} {pos p : Pos} {e a b c : Expr} {ma mb mc m : ME}
def iAny (K : PySem.W.Frag) (tl : TE) : TI := fun σ H R => tl σ H fun x H1 => (∃ a, x = .ref a ∧ (∃ xs, SqL K H1 a xs) ∧ R (Itl K a) H1) ∨ (∃ a, x = .ref a ∧ (∃ xs, SqT K H1 a xs) ∧ R (Itt K a) H1) ∨ (∃ z, x = .str z ∧ R (L2.Its z) H1) ∨ ∃ d kvs, x = .ref d ∧ ((∃ o, H1 d = some (.frz o (.dK kvs)) ∧ R (Itk d o kvs) H1) ∨ (H1 d = some (.dK kvs) ∧ ∀ o, R (Itk d o kvs) (upd H1 d (.frz o (.dK kvs)))))
theorem pi_any {l : Expr} {tl : TE} (hl : PE X l tl) : PI X tg l (iAny X.K tl) := by
  refine ⟨fun pins s σ H R I h => ?_⟩
  refine thn (hl.run pins s σ H _ I h) fun v s1 ⟨x, H1, I1, r1, q1⟩ => ?_
  rcases q1 with ⟨a, rfl, ⟨xs, hq⟩, q⟩ | ⟨a, rfl, ⟨xs, hq⟩, q⟩ | ⟨z, rfl, q⟩ | ⟨d, kvs, rfl, ⟨o, hd, q⟩ | ⟨hd, q⟩⟩
  · cases r1
    obtain ⟨its, _, p, _⟩ := I1.list hq
    exact wpAny_pyIter_list p.isList (pi_one (tk := s1.toks) I1 _ (turn_list a _) ⟨_, Heap.get?_push_size _ rfl, rfl, rfl⟩ q)
  · cases r1
    obtain ⟨its, _, p, _⟩ := I1.tuple hq
    exact wpAny_pyIter_tuple (show s1.heap.IsTuple a its.toArray from p) (pi_one (tk := s1.toks) I1 _ (turn_tuple a _) ⟨_, Heap.get?_push_size _ rfl, rfl, rfl⟩ q)
  · obtain ⟨t, rfl⟩ := r1
    cases ha : z.cps.all (· < 128)
    · exact wpAny_pyIter_wide ha (pi_one (tk := s1.toks) I1 _ (turn_str _ z t "str_iterator" (.inr rfl)) ⟨_, Heap.get?_push_size _ rfl, rfl, rfl⟩ q)
    · exact wpAny_pyIter_ascii ha (pi_one (tk := s1.toks) I1 _ (turn_str _ z t "str_ascii_iterator" (.inl rfl)) ⟨_, Heap.get?_push_size _ rfl, rfl, rfl⟩ q)
  · obtain rfl : v = Value.ref d := r1
    obtain ⟨a1, a2, a3, es, ep, vs, a4, a5, _, _⟩ := I1.frzK hd
    refine iter_keys a1 a2 a3 a4 (pi_one (tk := s1.toks) I1 _ (turn_keys _ a4) ⟨_, Heap.get?_push_size _ rfl, rfl, ?_⟩ q)
    rw [a5] <;> rfl
  · obtain rfl : v = Value.ref d := r1
    obtain ⟨o, I2⟩ := I1.lock hd trivial
    have hl : upd H1 d (.frz o (.dK kvs)) d = some (.frz o (.dK kvs)) := upd_same
    obtain ⟨a1, a2, a3, es, ep, vs, a4, a5, _, _⟩ := I2.frzK hl
    refine iter_keys a1 a2 a3 a4 (pi_one (tk := s1.toks) I2 _ (turn_keys _ a4) ⟨_, Heap.get?_push_size _ rfl, rfl, ?_⟩ (q o))
    rw [a5] <;> rfl
/-- what it walks, by the values at every later world -/
theorem wk_of {B : Wd} {J : Its} {I : L2.It} (W : ∀ D, KeepW B D → Sim G D → J.ok D.mh → (∀ i, i < J.items.length → I.go i D.H) ∧ I.stop J.items.length D.H ∧ ∀ i x H', i < J.items.length → I.yld i D.H x H' → H' = D.H ∧ ∃ y, J.items[i]? = some y ∧ Rep G D y x) : Wk G B J I where
  go := fun D k S o => (W D k S o).1
  stop := fun D k S o => (W D k S o).2.1
  yld := fun D k S o i x H' hi y => by
    obtain ⟨e, z, h1, h2⟩ := (W D k S o).2.2 i x H' hi y
    exact ⟨D, z, Keep.refl D, rfl, e.symm, S, h1, h2⟩
theorem wk_list {B : Wd} {J : Its} {a : Addr} (h : ∀ D, KeepW B D → Sim G D → J.ok D.mh → ∃ vs, D.H a = some (.lst vs) ∧ Reps G D J.items vs) : Wk G B J (Itl G.K a) := wk_of fun D k S o => by
  obtain ⟨vs, h1, h2⟩ := h D k S o
  have w := walk_list (K := G.K) (a := a) (xs := vs)
  refine ⟨fun i hi => w.goes i D.H (by rw [← h2.len]; exact hi) (SqL.of h1), by rw [h2.len]; exact w.stops D.H (SqL.of h1), fun i x H' hi y => ?_⟩
  obtain ⟨e1, e2⟩ := w.yields i D.H x H' (by rw [← h2.len]; exact hi) (SqL.of h1) y
  exact ⟨e1, _, List.getElem?_eq_getElem hi, h2.at (List.getElem?_eq_getElem hi) e2⟩
theorem wk_tup {B : Wd} {J : Its} {a : Addr} (h : ∀ D, KeepW B D → Sim G D → J.ok D.mh → ∃ vs, SqT G.K D.H a vs ∧ Reps G D J.items vs) : Wk G B J (Itt G.K a) := wk_of fun D k S o => by
  obtain ⟨vs, h1, h2⟩ := h D k S o
  have w := walk_tup (K := G.K) (a := a) (xs := vs)
  refine ⟨fun i hi => w.goes i D.H (by rw [← h2.len]; exact hi) h1, by rw [h2.len]; exact w.stops D.H h1, fun i x H' hi y => ?_⟩
  obtain ⟨e1, e2⟩ := w.yields i D.H x H' (by rw [← h2.len]; exact hi) h1 y
  exact ⟨e1, _, List.getElem?_eq_getElem hi, h2.at (List.getElem?_eq_getElem hi) e2⟩
theorem wk_str {B : Wd} {s : Sx} : Wk G B ⟨s.map fun c => .str [c], none⟩ (L2.Its ⟨s.toArray⟩) := wk_of fun D k S o => by
  have w := walk_str (z := ⟨s.toArray⟩)
  have hl : (⟨s.map fun c => .str [c], none⟩ : Its).items.length = (⟨s.toArray⟩ : Str).cps.size := by simp
  refine ⟨fun i hi => w.goes i D.H (by rw [← hl]; exact hi) trivial, by rw [hl]; exact w.stops D.H trivial, fun i x H' hi y => ?_⟩
  obtain ⟨e1, c, e2, rfl⟩ := w.yields i D.H x H' (by rw [← hl]; exact hi) trivial y
  have e2' : s[i]? = some c := by simpa using e2
  exact ⟨e1, .str [c], by simp [e2'], rep_str [c]⟩
theorem wk_range {B : Wd} {lo : Int} {n : Nat} : Wk G B ⟨(List.range n).map fun (k : Nat) => .int (lo + (k : Int)), none⟩ (Itr lo n) := wk_of fun D k S o => by
  have w := walk_range (lo := lo) (n := n)
  have hl : (⟨(List.range n).map fun (k : Nat) => .int (lo + (k : Int)), none⟩ : Its).items.length = n := by simp
  refine ⟨fun i hi => w.goes i D.H (by rw [← hl]; exact hi) trivial, by rw [hl]; exact w.stops D.H trivial, fun i x H' hi y => ?_⟩
  obtain ⟨e1, rfl⟩ := w.yields i D.H x H' (by rw [← hl]; exact hi) trivial y
  have hi' : i < n := by rw [← hl]; exact hi
  exact ⟨e1, .int (lo + (i : Int)), by simp [hi'], rep_int _⟩
/-! a dict that is locked -/
theorem keep_lock {W : Wd} {d : Addr} {o : Obj} {kvs : List (Key × V)} (h : W.H d = some (.dK kvs)) (nx : d ∉ W.ex) : Keep W (W.up d (.frz o (.dK kvs))) := by
  refine ⟨fun _ h => h, fun _ h => .inl h, upd_dom, rfl, ⟨[], by simp⟩, fun a u e _ => ?_, fun a z => .inl z, fun a ha u e _ => by show upd W.H d _ a = _; rw [upd_ne fun z => nx (by rw [← z]; exact ha)]; exact e⟩
  by_cases ha : a = d
  · subst ha
    rw [h] at e
    cases e
    exact ⟨_, upd_same, .inr ⟨o, kvs, rfl, rfl⟩⟩
  · exact ⟨u, by show upd W.H d _ a = _; rw [upd_ne ha]; exact e, .inl rfl⟩
theorem Sim.lock {W : Wd} (S : Sim G W) {d : Addr} {o : Obj} {kvs : List (Key × V)} (h : W.H d = some (.dK kvs)) (n : ¬ W.live d ∧ d ∉ W.ex) : Sim G (W.up d (.frz o (.dK kvs))) where
  len := S.len
  ble := S.ble
  top := S.top
  obj := fun l u e a q => by
    refine (S.obj l u e a q).keep S (keep_lock h n.2) ?_
    exact upd_ne fun z => n.1 (by rw [← z]; exact ⟨l, u, e, q⟩)
  inj := S.inj
  exo := fun a ha => by
    obtain ⟨u, e, nt⟩ := S.exo a ha
    exact ⟨u, by show upd W.H d _ a = _; rw [upd_ne fun z => n.2 (by rw [← z]; exact ha)]; exact e, nt⟩
  exl := S.exl
  bnd := S.bnd
theorem wk_keys {B : Wd} {d : Addr} {o : Obj} {ks : List MKey} {vs : List V} (hl : ks.length = vs.length) (n : ¬ B.live d) (nx : d ∉ B.ex) (h : B.H d = some (.frz o (.dK ((ks.map kOf).zip vs)))) : Wk G B ⟨ks.map kM, none⟩ (Itk d o ((ks.map kOf).zip vs)) := wk_of fun D k S _ => by
  have hD := k.obj' h n nx (fun _ z => nomatch z)
  have hz : ((ks.map kOf).zip vs).length = ks.length := by rw [List.length_zip, List.length_map]; omega
  have hi : (⟨ks.map kM, none⟩ : Its).items.length = ks.length := by simp
  refine ⟨fun i hi' => ⟨hD, by rw [hz, ← hi]; exact hi'⟩, ⟨hD, by rw [hz, hi]; exact Nat.le_refl _⟩, fun i x H' hi' y => ?_⟩
  obtain ⟨e, k', v, e1, rfl⟩ := y
  refine ⟨e, ?_⟩
  rw [hi] at hi'
  have e2 : ks[i]? = some ks[i] := List.getElem?_eq_getElem hi'
  have e3 : ((ks.map kOf).zip vs)[i]? = some (kOf ks[i], vs[i]) := by
    rw [List.getElem?_zip_eq_some]
    exact ⟨by rw [List.getElem?_map, e2]; rfl, List.getElem?_eq_getElem (by omega)⟩
  rw [e3] at e1
  cases e1
  exact ⟨kM ks[i], by rw [List.getElem?_map, e2]; rfl, kM_rep _⟩
theorem wk_its {B : Wd} {v : MV} {x : V} {J : Its} {R : It → Hp → Prop} (S : Sim G B) (e : itsOf B.mh v = some J) (r : Rep G B v x) (q : ∀ B' I, Keep B B' → B'.mh = B.mh → Sim G B' → Wk G B' J I → R I B'.H) :
    (∃ a, x = .ref a ∧ (∃ xs, SqL G.K B.H a xs) ∧ R (Itl G.K a) B.H) ∨ (∃ a, x = .ref a ∧ (∃ xs, SqT G.K B.H a xs) ∧ R (Itt G.K a) B.H) ∨ (∃ z, x = .str z ∧ R (L2.Its z) B.H) ∨ ∃ d kvs, x = .ref d ∧ ((∃ o, B.H d = some (.frz o (.dK kvs)) ∧ R (Itk d o kvs) B.H) ∨ (B.H d = some (.dK kvs) ∧ ∀ o, R (Itk d o kvs) (upd B.H d (.frz o (.dK kvs))))) := by
  have q0 : ∀ I, Wk G B J I → R I B.H := fun I w => q B I (Keep.refl B) rfl S w
  cases v with
  | tup xs =>
    cases e
    obtain ⟨a, vs, rfl, h1, h2⟩ := r.tup_
    exact .inr (.inl ⟨a, rfl, ⟨vs, h1⟩, q0 _ (wk_tup fun D k SD o => ⟨vs, k.tup S h1, Reps.keepW S k _ _ h2⟩)⟩)
  | lst xs =>
    cases e
    unfold Rep at r
    obtain ⟨a, vs, rfl, h1, h2, h3⟩ := r
    exact .inl ⟨a, rfl, ⟨vs, SqL.of h1⟩, q0 _ (wk_list fun D k SD o => ⟨vs, (k.off h1 h2 (fun _ z => nomatch z)).1, Reps.keepW S k _ _ h3⟩)⟩
  | str s =>
    cases e
    rw [r.str_]
    exact .inr (.inr (.inl ⟨_, rfl, q0 _ wk_str⟩))
  | dct ks ms =>
    cases e
    unfold Rep at r
    obtain ⟨a, vs, rfl, h1, h2, h3, h4⟩ := r
    have hl : ks.length = vs.length := by rw [h3]; exact h4.len
    rcases h1 with h1 | ⟨o, h1⟩
    · exact .inr (.inr (.inr ⟨a, _, rfl, .inr ⟨h1, fun o => q (B.up a (.frz o _)) _ (keep_lock h1 h2.2) rfl (S.lock h1 h2) (wk_keys hl h2.1 h2.2 upd_same)⟩⟩))
    · exact .inr (.inr (.inr ⟨a, _, rfl, .inl ⟨o, h1, q0 _ (wk_keys hl h2.1 h2.2 h1)⟩⟩))
  | loc l =>
    simp only [itsOf] at e
    split at e
    · rename_i xs hl
      cases e
      obtain ⟨a, rfl, h1⟩ := r.loc_
      obtain ⟨vs, h2, _⟩ := S.obj l _ hl a h1
      refine .inl ⟨a, rfl, ⟨vs, SqL.of h2⟩, q0 _ (wk_list fun D k SD o => ?_)⟩
      have o' : D.mh[l]? = some (some (.lst xs)) := o
      obtain ⟨t, ht⟩ := k.pre
      exact SD.obj l _ o' a (by rw [ht]; exact pre_get h1)
    · cases e
  | _ => cases e
theorem si_any (hK : X.K = G.K) (h : PE X e (tE G C m)) (hm : ∀ base ρ mh, evI C base m ρ mh = match ev C base m ρ mh with
    | none => none
    | some (v, mh1) => (itsOf mh1 v).map (·, mh1) := by intros; simp only [evI] <;> rfl) : PI X tg e (tI G C m) := by
  refine (pi_any h).mono fun σ H R h => ?_
  obtain ⟨A, ρ, J, mh', rfl, S, N, e, q⟩ := h
  rw [hm] at e
  split at e
  · cases e
  rename_i v mh1 e1
  simp only [Option.map_eq_some_iff] at e
  obtain ⟨J', e2, e3⟩ := e
  cases e3
  refine tE.go S N e1 fun B x k em SB NB r => ?_
  rw [hK]
  exact wk_its SB (by rw [em]; exact e2) r fun B' I k' em' SB' w => q B' I (k.trans k') (em'.trans em) SB' w
theorem si_range1 (hg : Gl X "range") (hm : X.mg "range" = none) (ha : PE X a (tE G C ma)) (hs : starEach [a] X.env = [(false, eval a X.env)] := by rfl) : PI X tg (.Call (.Name "range" p) [a] [] pos) (tI G C (.rng1 ma)) := by
  refine (pi_range1 hg hm (sa_cons ha sa_nil hs) hs).mono fun σ H R h => ?_
  obtain ⟨A, ρ, J, mh', rfl, S, N, e, q⟩ := h
  simp only [evI] at e
  split at e
  · rename_i n mh1 e1
    split at e
    · rename_i hn
      cases e
      refine tEs.go (vs := [.int n]) (mh1 := mh') S N (by simp only [evs, e1]) fun B xs k em SB NB r => ?_
      unfold Reps at r
      obtain ⟨v, r', rfl, r1, r2⟩ := r
      unfold Reps at r2
      subst r2
      refine ⟨n, by rw [r1.int_], hn.1, hn.2, q B _ k em SB ?_⟩
      have w := wk_range (G := G) (B := B) (lo := 0) (n := n.toNat)
      simpa using w
    · cases e
  · cases e
theorem si_range2 (hg : Gl X "range") (hm : X.mg "range" = none) (ha : PE X a (tE G C ma)) (hb : PE X b (tE G C mb)) (hs : starEach [a, b] X.env = [(false, eval a X.env), (false, eval b X.env)] := by rfl) (hs2 : starEach [b] X.env = [(false, eval b X.env)] := by rfl) : PI X tg (.Call (.Name "range" p) [a, b] [] pos) (tI G C (.rng2 ma mb)) := by
  refine (pi_range2 hg hm (sa_cons ha (sa_cons hb sa_nil hs2) (by rw [hs, hs2])) hs hs2).mono fun σ H R h => ?_
  obtain ⟨A, ρ, J, mh', rfl, S, N, e, q⟩ := h
  simp only [evI] at e
  split at e
  · rename_i i mh1 e1
    split at e
    · rename_i j mh2 e2
      split at e
      · rename_i hn
        cases e
        refine tEs.go (vs := [.int i, .int j]) (mh1 := mh') S N (by simp only [evs, e1, e2]) fun B xs k em SB NB r => ?_
        unfold Reps at r
        obtain ⟨v, r', rfl, r1, r2⟩ := r
        unfold Reps at r2
        obtain ⟨w, r'', rfl, r3, r4⟩ := r2
        unfold Reps at r4
        subst r4
        exact ⟨i, j, by rw [r1.int_, r3.int_], hn, q B _ k em SB wk_range⟩
      · cases e
    · cases e
  · cases e
end
end L2.Mi

set_option Elab.async false
set_option linter.all false
set_option maxRecDepth 100000
set_option maxHeartbeats 4000000
/-! Mini9: comprehensions. -/
namespace L2.Mi
open PySem PySem.Spec PyProof.Rows

/-! ### a hidden new list -/
theorem put_live {W : Wd} {p : Addr} {o : HO} {a : Addr} : (W.up p o).live a ↔ W.live a := Iff.rfl
mutual
theorem Rep.put {G : Gb} {W : Wd} (S : Sim G W) {p : Addr} (hp : p ∈ W.ex) {o : HO} : ∀ (x : MV) (v : V), Rep G W x v → Rep G (W.up p o) x v
  | .non, v, h => h
  | .bl b, v, h => h
  | .int i, v, h => h
  | .str s, v, h => h
  | .fn f, v, h => h
  | .tup xs, v, h => by
    unfold Rep at h ⊢
    obtain ⟨a, vs, e, h1, h2⟩ := h
    refine ⟨a, vs, e, SqT_cases h1 fun u e' n => ?_, Reps.put S hp xs vs h2⟩
    obtain ⟨w, e9, n9⟩ := S.exo p hp
    have : a ≠ p := fun z => by subst z; rw [e'] at e9; cases e9; exact n n9
    show upd W.H p o a = _
    rw [upd_ne this]; exact e'
  | .lst xs, v, h => by
    unfold Rep at h ⊢
    obtain ⟨a, vs, e, h1, h2, h3⟩ := h
    have : a ≠ p := fun z => h2.2 (by rw [z]; exact hp)
    exact ⟨a, vs, e, by show upd W.H p o a = _; rw [upd_ne this]; exact h1, h2, Reps.put S hp xs vs h3⟩
  | .dct ks ms, v, h => by
    unfold Rep at h ⊢
    obtain ⟨a, vs, e, h1, h2, h3, h4⟩ := h
    have : a ≠ p := fun z => h2.2 (by rw [z]; exact hp)
    exact ⟨a, vs, e, by show Rd (upd W.H p o) a _; unfold Rd; rw [upd_ne this]; exact h1, h2, h3, Reps.put S hp ms vs h4⟩
  | .loc l, v, h => h
  | .scr ns, v, h => by
    unfold Rep at h ⊢
    obtain ⟨a, e, h1⟩ := h
    refine ⟨a, e, ?_⟩
    rcases h1 with ⟨h1, h2⟩ | h1
    · have : a ≠ p := fun z => h2.2 (by rw [z]; exact hp)
      refine .inl ⟨?_, h2⟩
      rcases h1 with h1 | ⟨o', h1⟩
      · exact .inl (by show upd W.H p o a = _; rw [upd_ne this]; exact h1)
      · exact .inr ⟨o', by show upd W.H p o a = _; rw [upd_ne this]; exact h1⟩
    · exact .inr h1
theorem Reps.put {G : Gb} {W : Wd} (S : Sim G W) {p : Addr} (hp : p ∈ W.ex) {o : HO} : ∀ (xs : List MV) (vs : List V), Reps G W xs vs → Reps G (W.up p o) xs vs
  | [], vs, h => h
  | x :: xs, vs, h => by
    unfold Reps at h ⊢
    obtain ⟨v, r, e, h1, h2⟩ := h
    exact ⟨v, r, e, Rep.put S hp x v h1, Reps.put S hp xs r h2⟩
end
theorem ORep.put {G : Gb} {W : Wd} (S : Sim G W) {p : Addr} (hp : p ∈ W.ex) {o : HO} {u : MO} {a : Addr} (h : ORep G W u a) (hn : a ≠ p) : ORep G (W.up p o) u a := by
  cases u with
  | lst xs =>
    obtain ⟨vs, q, r⟩ := h
    exact ⟨vs, by show upd W.H p o a = _; rw [upd_ne hn]; exact q, Reps.put S hp _ _ r⟩
  | dct ks ms =>
    obtain ⟨vs, q, l, r⟩ := h
    exact ⟨vs, by show upd W.H p o a = _; rw [upd_ne hn]; exact q, l, Reps.put S hp _ _ r⟩
  | ins c fs =>
    obtain ⟨Ca, dx, vs, hc, q, r⟩ := h
    exact ⟨Ca, dx, vs, hc, by show upd W.H p o a = _; rw [upd_ne hn]; exact q, Reps.put S hp _ _ r⟩
theorem Sim.put {G : Gb} {W : Wd} (S : Sim G W) {p : Addr} (hp : p ∈ W.ex) {o : HO} (nt : NoTup o) : Sim G (W.up p o) where
  len := S.len
  ble := S.ble
  top := S.top
  obj := fun l u e a q => (S.obj l u e a q).put S hp fun z => S.exl p hp ⟨l, u, e, by rw [← z]; exact q⟩
  inj := S.inj
  exo := fun a ha => by
    by_cases e : a = p
    · subst e; exact ⟨o, upd_same, nt⟩
    · obtain ⟨u, e1, n⟩ := S.exo a ha
      exact ⟨u, by show upd W.H p o a = _; rw [upd_ne e]; exact e1, n⟩
  exl := S.exl
  bnd := S.bnd
theorem keep_put {B D : Wd} (k : Keep B D) {p : Addr} (hp : B.H p = none) {o : HO} : Keep B (D.up p o) where
  ex := k.ex
  exn := k.exn
  dom := fun a h => upd_dom a (k.dom a h)
  bs := k.bs
  pre := k.pre
  obj := fun a u e n => by
    show ∃ u', upd D.H p o a = some u' ∧ _
    rw [upd_ne (ne_of_none e hp)]
    exact k.obj a u e n
  liv := k.liv
  exk := fun a ha u e n => by
    show upd D.H p o a = _
    rw [upd_ne (ne_of_none e hp)]
    exact k.exk a ha u e n
/-- a new list is hidden -/
abbrev Wd.hid (W : Wd) (p : Addr) (o : HO) : Wd := { W with H := upd W.H p o, ex := p :: W.ex }
theorem keep_hid {W : Wd} {p : Addr} {o : HO} (h : W.H p = none) : Keep W (W.hid p o) where
  ex := fun a h => List.mem_cons_of_mem _ h
  exn := fun a ha => by
    rcases List.mem_cons.mp ha with rfl | ha
    · exact .inr h
    · exact .inl ha
  dom := upd_dom
  bs := rfl
  pre := ⟨[], by simp⟩
  obj := fun a u e _ => ⟨u, by show upd W.H p o a = _; rw [upd_ne (ne_of_none e h)]; exact e, .inl rfl⟩
  liv := fun a z => .inl z
  exk := fun a _ u e _ => by show upd W.H p o a = _; rw [upd_ne (ne_of_none e h)]; exact e
theorem Sim.hid {G : Gb} {W : Wd} (S : Sim G W) {p : Addr} {o : HO} (h : W.H p = none) (nt : NoTup o) : Sim G (W.hid p o) where
  len := S.len
  ble := S.ble
  top := S.top
  obj := fun l u e a q => by
    have r := S.obj l u e a q
    refine r.keep S (keep_hid h) ?_
    obtain ⟨v, e', _⟩ := r.at
    exact upd_ne (ne_of_none e' h)
  inj := S.inj
  exo := fun a ha => by
    rcases List.mem_cons.mp ha with rfl | ha
    · exact ⟨o, upd_same, nt⟩
    · obtain ⟨u, e, n⟩ := S.exo a ha
      exact ⟨u, by show upd W.H p o a = _; rw [upd_ne (ne_of_none e h)]; exact e, n⟩
  exl := fun a ha => by
    rcases List.mem_cons.mp ha with rfl | ha
    · exact (off_new S h).1
    · exact S.exl a ha
  bnd := S.bnd
/-- the hidden ones come out -/
abbrev Wd.out (W : Wd) (ex : List Addr) : Wd := { W with ex := ex }
mutual
theorem Rep.out {G : Gb} {W : Wd} {ex : List Addr} (hx : ∀ a ∈ ex, a ∈ W.ex) : ∀ (x : MV) (v : V), Rep G W x v → Rep G (W.out ex) x v
  | .non, v, h => h
  | .bl b, v, h => h
  | .int i, v, h => h
  | .str s, v, h => h
  | .fn f, v, h => h
  | .tup xs, v, h => by
    unfold Rep at h ⊢
    obtain ⟨a, vs, e, h1, h2⟩ := h
    exact ⟨a, vs, e, h1, Reps.out hx xs vs h2⟩
  | .lst xs, v, h => by
    unfold Rep at h ⊢
    obtain ⟨a, vs, e, h1, h2, h3⟩ := h
    exact ⟨a, vs, e, h1, ⟨h2.1, fun z => h2.2 (hx a z)⟩, Reps.out hx xs vs h3⟩
  | .dct ks ms, v, h => by
    unfold Rep at h ⊢
    obtain ⟨a, vs, e, h1, h2, h3, h4⟩ := h
    exact ⟨a, vs, e, h1, ⟨h2.1, fun z => h2.2 (hx a z)⟩, h3, Reps.out hx ms vs h4⟩
  | .loc l, v, h => h
  | .scr ns, v, h => by
    unfold Rep at h ⊢
    obtain ⟨a, e, h1⟩ := h
    refine ⟨a, e, ?_⟩
    rcases h1 with ⟨h1, h2⟩ | h1
    · exact .inl ⟨h1, h2.1, fun z => h2.2 (hx a z)⟩
    · exact .inr h1
theorem Reps.out {G : Gb} {W : Wd} {ex : List Addr} (hx : ∀ a ∈ ex, a ∈ W.ex) : ∀ (xs : List MV) (vs : List V), Reps G W xs vs → Reps G (W.out ex) xs vs
  | [], vs, h => h
  | x :: xs, vs, h => by
    unfold Reps at h ⊢
    obtain ⟨v, r, e, h1, h2⟩ := h
    exact ⟨v, r, e, Rep.out hx x v h1, Reps.out hx xs r h2⟩
end
theorem Sim.out {G : Gb} {W : Wd} (S : Sim G W) {ex : List Addr} (hx : ∀ a ∈ ex, a ∈ W.ex) : Sim G (W.out ex) where
  len := S.len
  ble := S.ble
  top := S.top
  obj := fun l u e a q => by
    have r := S.obj l u e a q
    cases u with
    | lst xs => obtain ⟨vs, q, r⟩ := r; exact ⟨vs, q, Reps.out hx _ _ r⟩
    | dct ks ms => obtain ⟨vs, q, l, r⟩ := r; exact ⟨vs, q, l, Reps.out hx _ _ r⟩
    | ins c fs => obtain ⟨Ca, dx, vs, hc, q, r⟩ := r; exact ⟨Ca, dx, vs, hc, q, Reps.out hx _ _ r⟩
  inj := S.inj
  exo := fun a ha => S.exo a (hx a ha)
  exl := fun a ha => S.exl a (hx a ha)
  bnd := S.bnd
theorem keep_out {B D : Wd} (k : Keep B D) : Keep B (D.out B.ex) where
  ex := fun a h => h
  exn := fun a h => .inl h
  dom := k.dom
  bs := k.bs
  pre := k.pre
  obj := k.obj
  liv := k.liv
  exk := k.exk
/-- a hidden list comes out as a live one -/
abbrev Wd.fix (W : Wd) (p : Addr) (xs : List MV) (ex : List Addr) : Wd := { W with ex := ex, β := W.β ++ [p], mh := W.mh ++ [some (.lst xs)] }
theorem fix_live {G : Gb} {W : Wd} (S : Sim G W) {p : Addr} {xs : List MV} {ex : List Addr} {a : Addr} (h : (W.fix p xs ex).live a) : W.live a ∨ a = p := by
  obtain ⟨l, o, e1, e2⟩ := h
  have e2' : (W.β ++ [p])[l]? = some a := e2
  rcases app_get e1 with e1 | ⟨rfl, _⟩
  · have hl : l < W.β.length := by rw [S.len]; exact (List.getElem?_eq_some_iff.mp e1).1
    rw [List.getElem?_append_left hl] at e2'
    exact .inl ⟨l, o, e1, e2'⟩
  · rw [← S.len, List.getElem?_append_right (Nat.le_refl _)] at e2'
    simp at e2'
    exact .inr e2'.symm
mutual
theorem Rep.fix {G : Gb} {W : Wd} (S : Sim G W) {p : Addr} (hp : p ∈ W.ex) {ys : List MV} {ex : List Addr} (hx : ∀ a ∈ ex, a ∈ W.ex) : ∀ (x : MV) (v : V), Rep G W x v → Rep G (W.fix p ys ex) x v
  | .non, v, h => h
  | .bl b, v, h => h
  | .int i, v, h => h
  | .str s, v, h => h
  | .fn f, v, h => h
  | .tup xs, v, h => by
    unfold Rep at h ⊢
    obtain ⟨a, vs, e, h1, h2⟩ := h
    exact ⟨a, vs, e, h1, Reps.fix S hp hx xs vs h2⟩
  | .lst xs, v, h => by
    unfold Rep at h ⊢
    obtain ⟨a, vs, e, h1, h2, h3⟩ := h
    exact ⟨a, vs, e, h1, ⟨fun z => (fix_live S z).elim h2.1 fun z => h2.2 (by rw [z]; exact hp), fun z => h2.2 (hx a z)⟩, Reps.fix S hp hx xs vs h3⟩
  | .dct ks ms, v, h => by
    unfold Rep at h ⊢
    obtain ⟨a, vs, e, h1, h2, h3, h4⟩ := h
    exact ⟨a, vs, e, h1, ⟨fun z => (fix_live S z).elim h2.1 fun z => h2.2 (by rw [z]; exact hp), fun z => h2.2 (hx a z)⟩, h3, Reps.fix S hp hx ms vs h4⟩
  | .loc l, v, h => by
    unfold Rep at h ⊢
    obtain ⟨a, e, h1⟩ := h
    exact ⟨a, e, pre_get h1⟩
  | .scr ns, v, h => by
    unfold Rep at h ⊢
    obtain ⟨a, e, h1⟩ := h
    refine ⟨a, e, ?_⟩
    rcases h1 with ⟨h1, h2⟩ | h1
    · exact .inl ⟨h1, fun z => (fix_live S z).elim h2.1 fun z => h2.2 (by rw [z]; exact hp), fun z => h2.2 (hx a z)⟩
    · exact .inr h1
theorem Reps.fix {G : Gb} {W : Wd} (S : Sim G W) {p : Addr} (hp : p ∈ W.ex) {ys : List MV} {ex : List Addr} (hx : ∀ a ∈ ex, a ∈ W.ex) : ∀ (xs : List MV) (vs : List V), Reps G W xs vs → Reps G (W.fix p ys ex) xs vs
  | [], vs, h => h
  | x :: xs, vs, h => by
    unfold Reps at h ⊢
    obtain ⟨v, r, e, h1, h2⟩ := h
    exact ⟨v, r, e, Rep.fix S hp hx x v h1, Reps.fix S hp hx xs r h2⟩
end
theorem fix_get {G : Gb} {W : Wd} (S : Sim G W) {p : Addr} {ys : List MV} {l : Nat} {o : MO} {a : Addr} (e : (W.mh ++ [some (.lst ys)])[l]? = some (some o)) (q : (W.β ++ [p])[l]? = some a) :
    (W.mh[l]? = some (some o) ∧ W.β[l]? = some a) ∨ (l = W.mh.length ∧ o = .lst ys ∧ a = p) := by
  rcases app_get e with e | ⟨rfl, e9⟩
  · have hl : l < W.β.length := by rw [S.len]; exact (List.getElem?_eq_some_iff.mp e).1
    rw [List.getElem?_append_left hl] at q
    exact .inl ⟨e, q⟩
  · rw [← S.len, List.getElem?_append_right (Nat.le_refl _)] at q
    simp at q
    exact .inr ⟨rfl, Option.some.inj e9, q.symm⟩
theorem Sim.fix {G : Gb} {W : Wd} (S : Sim G W) {p : Addr} (hp : p ∈ W.ex) {ys : List MV} {vs : List V} {ex : List Addr} (hx : ∀ a ∈ ex, a ∈ W.ex) (hpx : p ∉ ex) (e : W.H p = some (HO.lst vs)) (r : Reps G W ys vs) : Sim G (W.fix p ys ex) where
  len := by show (W.β ++ [p]).length = (W.mh ++ [some (MO.lst ys)]).length; rw [List.length_append, List.length_append, S.len]; rfl
  ble := fun b hb => by show b ≤ (W.mh ++ [some (MO.lst ys)]).length; rw [List.length_append]; exact Nat.le_trans (S.ble b hb) (Nat.le_add_right _ _)
  top := S.top
  obj := fun l u e' a q => by
    rcases fix_get S e' q with ⟨e1, q1⟩ | ⟨_, rfl, rfl⟩
    · have r := S.obj l u e1 a q1
      cases u with
      | lst xs => obtain ⟨ws, q, r⟩ := r; exact ⟨ws, q, Reps.fix S hp hx _ _ r⟩
      | dct ks ms => obtain ⟨ws, q, l, r⟩ := r; exact ⟨ws, q, l, Reps.fix S hp hx _ _ r⟩
      | ins c fs => obtain ⟨Ca, dx, ws, hc, q, r⟩ := r; exact ⟨Ca, dx, ws, hc, q, Reps.fix S hp hx _ _ r⟩
    · exact ⟨vs, e, Reps.fix S hp hx _ _ r⟩
  inj := fun l1 l2 c o1 o2 e1 e2 q1 q2 => by
    rcases fix_get S e1 q1 with ⟨a1, a2⟩ | ⟨a1, _, a2⟩
    · rcases fix_get S e2 q2 with ⟨b1, b2⟩ | ⟨b1, _, b2⟩
      · exact S.inj l1 l2 c _ _ a1 b1 a2 b2
      · exact absurd ⟨l1, o1, a1, by rw [← b2]; exact a2⟩ (S.exl p hp)
    · rcases fix_get S e2 q2 with ⟨b1, b2⟩ | ⟨b1, _, b2⟩
      · exact absurd ⟨l2, o2, b1, by rw [← a2]; exact b2⟩ (S.exl p hp)
      · rw [a1, b1]
  exo := fun a ha => S.exo a (hx a ha)
  exl := fun a ha z => (fix_live S z).elim (S.exl a (hx a ha)) fun z => hpx (by rw [← z]; exact ha)
  bnd := fun b hb l w hl e' => by
    rcases app_get e' with e' | ⟨rfl, _⟩
    · exact S.bnd b hb l w hl e'
    · exact absurd (Nat.lt_of_lt_of_le hl (S.ble b hb)) (Nat.lt_irrefl _)
theorem keep_fix {G : Gb} {B D : Wd} (S : Sim G D) (k : Keep B D) {p : Addr} {ys : List MV} (hp : B.H p = none) : Keep B (D.fix p ys B.ex) where
  ex := fun a h => h
  exn := fun a h => .inl h
  dom := k.dom
  bs := k.bs
  pre := by
    obtain ⟨t, e⟩ := k.pre
    exact ⟨t ++ [p], by show D.β ++ [p] = _; rw [e, List.append_assoc]⟩
  obj := k.obj
  liv := fun a z => (fix_live S z).elim (k.liv a) fun z => .inr (by rw [z]; exact hp)
  exk := k.exk

/-! ### the comprehension -/
noncomputable def compF (C : CallF) (base : Nat) (t : Tg) (own : List Nat) (mc me : ME) (ρ : Env) : MV → MHp → Option (Option MV × MHp) := fun x mh2 => match asg mh2 t x (wipeE ρ own) with
  | none => none
  | some ρ' => match ev C base mc ρ' mh2 with
    | some (.bl true, mh3) => match ev C base me ρ' mh3 with
      | none => none
      | some (y, mh4) => some (some y, mh4)
    | some (.bl false, mh3) => some (none, mh3)
    | _ => none
section
variable {G : Gb} {C : CallF} {X : Cx} {pos p : Pos} {mc me mi m : ME} {t : Tg} {own : List Nat}
theorem ev_comp {base : Nat} {ρ : Env} {mh mh' : MHp} {v : MV} (e : ev C base (.comp t own mi mc me) ρ mh = some (v, mh')) : ∃ J mh1 ys, evI C base mi ρ mh = some (J, mh1) ∧ J.items.length ≤ line ∧ compGo J (compF C base t own mc me ρ) J.items mh1 = some (ys, mh') ∧ v = .lst ys := by
  simp only [ev] at e
  split at e
  · cases e
  rename_i J mh1 e1
  split at e
  · rename_i hl
    split at e
    · cases e
    rename_i ys mh5 e2
    cases e
    exact ⟨J, mh1, ys, e1, hl, e2, rfl⟩
  · cases e
theorem compF_of {base : Nat} {ρ : Env} {mh mh' : MHp} {x : MV} {r : Option MV} (e : compF C base t own mc me ρ x mh = some (r, mh')) : ∃ ρ' c mh3, asg mh t x (wipeE ρ own) = some ρ' ∧ ev C base mc ρ' mh = some (.bl c, mh3) ∧
    ((c = true ∧ ∃ y, ev C base me ρ' mh3 = some (y, mh') ∧ r = some y) ∨ (c = false ∧ mh' = mh3 ∧ r = none)) := by
  unfold compF at e
  split at e
  · cases e
  rename_i ρ' e1
  split at e
  · rename_i mh3 e2
    split at e
    · cases e
    rename_i y mh4 e3
    cases e
    exact ⟨ρ', true, mh3, e1, e2, .inl ⟨rfl, y, e3, rfl⟩⟩
  · rename_i mh3 e2
    cases e
    exact ⟨ρ', false, _, e1, e2, .inr ⟨rfl, rfl, rfl⟩⟩
  · cases e
theorem compGo_nil {J : Its} {f : MV → MHp → Option (Option MV × MHp)} {mh mh' : MHp} {ys : List MV} (e : compGo J f [] mh = some (ys, mh')) : J.ok mh ∧ ys = [] ∧ mh' = mh := by
  unfold compGo at e
  split at e
  · cases e; exact ⟨by assumption, rfl, rfl⟩
  · cases e
theorem compGo_cons {J : Its} {f : MV → MHp → Option (Option MV × MHp)} {x : MV} {xs : List MV} {mh mh' : MHp} {ys : List MV} (e : compGo J f (x :: xs) mh = some (ys, mh')) : J.ok mh ∧ ∃ r mh1 rs, f x mh = some (r, mh1) ∧ compGo J f xs mh1 = some (rs, mh') ∧ ys = r.toList ++ rs := by
  unfold compGo at e
  split at e
  · rename_i ho
    split at e
    · cases e
    rename_i r mh1 e1
    split at e
    · cases e
    rename_i rs mh2 e2
    cases e
    exact ⟨ho, r, mh1, rs, e1, e2, rfl⟩
  · cases e
theorem lc_loop {B : Wd} {ρ : Env} {σ : L2.St} {J : Its} {I : L2.It} {ys : List MV} {mh5 : MHp} {Q : Hp → Prop} (hown : ∀ i ∈ tgN t, i ∈ own) (SB : Sim G B) (NB : Envs G B ρ σ) (wk : Wk G B J I) (hl : J.items.length ≤ line)
    (hc : compGo J (compF C B.base t own mc me ρ) J.items B.mh = some (ys, mh5)) {p : Addr} (hp : B.H p = none)
    (fin : ∀ D vs, Keep B D → Sim G D → p ∈ D.ex → D.mh = mh5 → D.H p = some (.lst vs) → Reps G D ys vs → Q D.H) :
    ∃ W : Nat → Nat → Hp → Prop, (∃ m, W 0 m (upd B.H p (.lst []))) ∧ ∀ i m H, W i m H →
  (I.stop i H ∧ Q H) ∨ (I.go i H ∧ ∃ Nx : Hp → Prop, (∀ H', Nx H' → ∃ m', m' < m ∧ W (i + 1) m' H') ∧ ∀ x H', I.yld i H x H' → tG G t x (L2.wipe σ own) H' fun σ2 H2 => L2.wipe σ2 own = L2.wipe σ own ∧ tT G C mc σ2 H2 fun b H3 =>
    if b = true then tE G C me σ2 H3 fun y H4 => ∃ acc, H4 p = some (.lst acc) ∧ acc.length < sizeLine ∧ Nx (upd H4 p (.lst (acc ++ [y]))) else Nx H3) := by
  let W : Nat → Nat → Hp → Prop := fun i m H => m = J.items.length - i ∧ i ≤ J.items.length ∧ ∃ (D : Wd) (as rs : List MV) (vs : List V), Keep B D ∧ Sim G D ∧ p ∈ D.ex ∧ D.H = H ∧ H p = some (.lst vs) ∧ Reps G D as vs ∧ as.length ≤ i ∧ compGo J (compF C B.base t own mc me ρ) (J.items.drop i) D.mh = some (rs, mh5) ∧ ys = as ++ rs
  have nt : NoTup (.lst ([] : List V)) := ⟨(fun _ z => nomatch z), (fun _ _ z => nomatch z)⟩
  refine ⟨W, ⟨J.items.length, by simp, Nat.zero_le _, B.hid p (.lst []), [], ys, [], keep_hid hp, SB.hid hp nt, by simp, rfl, upd_same, by unfold Reps; rfl, Nat.le_refl _, hc, rfl⟩, ?_⟩
  rintro i m H ⟨rfl, hi, D, as, rs, vs, kD, SD, pD, rfl, eD, rD, lD, cD, yD⟩
  by_cases hlt : i < J.items.length
  · have hd : J.items.drop i = J.items[i] :: J.items.drop (i + 1) := List.drop_eq_getElem_cons hlt
    rw [hd] at cD
    obtain ⟨oD, r, mh1, rs', f1, c1, rfl⟩ := compGo_cons cD
    refine .inr ⟨wk.go D kD.w SD oD i hlt, fun H' => W (i + 1) (J.items.length - (i + 1)) H', fun H' w => ⟨_, by omega, w⟩, fun x H' y => ?_⟩
    obtain ⟨E, z, kE, mE, rfl, SE, hz, rz⟩ := wk.yld D kD.w SD oD i x H' hlt y
    have hz' : J.items[i] = z := by
      rw [List.getElem?_eq_getElem hlt] at hz
      exact Option.some.inj hz
    rw [hz', ← mE] at f1
    obtain ⟨ρ', c, mh3, g1, g2, g3⟩ := compF_of f1
    have kBE := kD.trans kE
    refine ⟨E, wipeE ρ own, ρ', z, rfl, SE, (NB.keep SB kBE).wipe own, rz, g1, fun σ' N' off => ⟨?_, ?_⟩⟩
    · rw [off.wipe hown, wipe_wipe]
    have pE : p ∈ E.ex := kE.ex p pD
    have eE : E.H p = some (.lst vs) := kE.exk p pD _ eD (SD.exl p pD)
    have rE : Reps G E as vs := Reps.keep SD kE _ _ rD
    refine tT.go SE N' (by rw [kBE.base]; exact g2) fun F kF mF SF NF => ?_
    have pF : p ∈ F.ex := kF.ex p pE
    have eF : F.H p = some (.lst vs) := kF.exk p pE _ eE (SE.exl p pE)
    have rF : Reps G F as vs := Reps.keep SE kF _ _ rE
    rcases g3 with ⟨rfl, y', g4, rfl⟩ | ⟨rfl, g5, rfl⟩
    · rw [if_pos rfl]
      refine tE.go SF NF (by rw [(kBE.trans kF).base, mF]; exact g4) fun K vx kK mK SK NK rx => ?_
      have pK : p ∈ K.ex := kK.ex p pF
      have eK : K.H p = some (.lst vs) := kK.exk p pF _ eF (SF.exl p pF)
      have rK : Reps G K as vs := Reps.keep SF kK _ _ rF
      refine ⟨vs, eK, ?_, rfl, hlt, K.up p (.lst (vs ++ [vx])), as ++ [y'], rs', vs ++ [vx], keep_put ((kBE.trans kF).trans kK) hp, SK.put pK ⟨(fun _ z => nomatch z), (fun _ _ z => nomatch z)⟩, pK, rfl, upd_same, ?_, ?_, ?_, ?_⟩
      · rw [← rD.len]
        exact Nat.lt_of_le_of_lt lD (Nat.lt_of_lt_of_le hlt hl)
      · exact Reps.put SK pK _ _ (rK.app (Reps.one rx))
      · simp; exact lD
      · show compGo J _ _ K.mh = _
        rw [mK]; exact c1
      · rw [yD]; simp
    · rw [if_neg Bool.false_ne_true]
      refine ⟨rfl, hlt, F, as, rs', vs, kBE.trans kF, SF, pF, rfl, eF, rF, Nat.le_succ_of_le lD, ?_, ?_⟩
      · rw [mF, ← g5]; exact c1
      · rw [yD]; rfl
  · have e : i = J.items.length := by omega
    subst e
    rw [List.drop_length] at cD
    obtain ⟨oD, rfl, e5⟩ := compGo_nil cD
    refine .inl ⟨wk.stop D kD.w SD oD, fin D vs kD SD pD e5.symm eD ?_⟩
    rw [yD, List.append_nil]
    exact rD
theorem _root_.L2.PTs.mono {X : Cx} {ifs : List Expr} {t t' : TT} (h : PTs X ifs t) (k : ∀ σ H Q, t' σ H Q → t σ H Q) : PTs X ifs t' := ⟨fun pins s σ H Q I q => h.run pins s σ H Q I (k _ _ _ q)⟩
theorem sts_nil : PTs X [] (tT G C (.c (.bl true))) := pts_nil.mono fun σ H Q h => by
  obtain ⟨A, ρ, c, mh', rfl, S, N, e, q⟩ := h
  simp only [ev] at e
  cases e
  exact q A (Keep.refl A) rfl S
theorem lc_frozen {A : Wd} {ρ : Env} {σ : L2.St} {v : MV} {mh' : MHp} {Q : VK} (hown : ∀ i ∈ tgN t, i ∈ own) (S : Sim G A) (N : Envs G A ρ σ) (e : ev C A.base (.comp t own mi mc me) ρ A.mh = some (v, mh')) (q : Post G A mh' v Q) :
    tLc (tI G C mi) (tG G t) (tT G C mc) (tE G C me) own σ A.H Q := by
  obtain ⟨J, mh1, ys, e1, hl, e2, rfl⟩ := ev_comp e
  refine ⟨A, ρ, J, mh1, rfl, S, N, e1, fun B I k em SB wk p hp => ?_⟩
  refine lc_loop hown SB (N.keep S k) wk hl (by rw [k.base, em]; exact e2) hp fun D vs kD SD pD mD eD rD => ?_
  have hx : ∀ a ∈ B.ex, a ∈ D.ex := kD.ex
  refine q (D.out B.ex) (.ref p) (k.trans (keep_out kD)) mD (SD.out hx) ?_
  unfold Rep
  refine ⟨p, vs, rfl, eD, ⟨SD.exl p pD, fun z => ?_⟩, Reps.out hx _ _ rD⟩
  obtain ⟨u, e9, _⟩ := SB.exo p z
  rw [hp] at e9; cases e9
theorem lc_live {A : Wd} {ρ : Env} {σ : L2.St} {v : MV} {mh' : MHp} {Q : VK} (hown : ∀ i ∈ tgN t, i ∈ own) (S : Sim G A) (N : Envs G A ρ σ) (e : ev C A.base (.al (.comp t own mi mc me)) ρ A.mh = some (v, mh')) (q : Post G A mh' v Q) :
    tLc (tI G C mi) (tG G t) (tT G C mc) (tE G C me) own σ A.H Q := by
  rcases ev_al e with ⟨xs, mh5, e9, rfl, rfl⟩ | ⟨ks, vs, mh1, e9, rfl, rfl⟩
  · obtain ⟨J, mh1, ys, e1, hl, e2, e3⟩ := ev_comp e9
    cases e3
    refine ⟨A, ρ, J, mh1, rfl, S, N, e1, fun B I k em SB wk p hp => ?_⟩
    refine lc_loop hown SB (N.keep S k) wk hl (by rw [k.base, em]; exact e2) hp fun D vs kD SD pD mD eD rD => ?_
    have hx : ∀ a ∈ B.ex, a ∈ D.ex := kD.ex
    have hpx : p ∉ B.ex := fun z => by
      obtain ⟨u, e9, _⟩ := SB.exo p z
      rw [hp] at e9; cases e9
    refine q (D.fix p xs B.ex) (.ref p) (k.trans (keep_fix SD kD hp)) (by show D.mh ++ _ = _; rw [mD]) (SD.fix pD hx hpx eD rD) ?_
    unfold Rep
    refine ⟨p, rfl, ?_⟩
    show (D.β ++ [p])[mh5.length]? = some p
    rw [← mD, ← SD.len, List.getElem?_append_right (Nat.le_refl _)]
    simp
  · obtain ⟨J, mh1, ys, e1, hl, e2, e3⟩ := ev_comp e9
    cases e3
end
section
variable {G : Gb} {C : CallF} {X : Cx} {mc me mi : ME} {t : Tg} {elt tg iter : Expr} {ifs : List Expr} {scope : Scope} {own : List (Str × Nat)} {pos : Pos}
theorem se_comp (hown : ∀ i ∈ tgN t, i ∈ own.map (·.2)) (hc : X.calm = true) (hN : X.N.Nodup) (hi : PI X tg iter (tI G C mi)) (ok : BlkOk X.N X.env.scope scope own)
    (hg : ∀ (s : Shared) (H : Hp) (D : Addr) (cl : List (Str × Addr)) (fp : List Addr), PG (X.blk s H scope (compEnvC scope cl D X.env) fp) tg (tG G t)) (ht : ∀ (s : Shared) (H : Hp) (D : Addr) (cl : List (Str × Addr)) (fp : List Addr), PTs (X.blk s H scope (compEnvC scope cl D X.env) fp) ifs (tT G C mc))
    (he : ∀ (s : Shared) (H : Hp) (D : Addr) (cl : List (Str × Addr)) (fp : List Addr), PE (X.blk s H scope (compEnvC scope cl D X.env) fp) elt (tE G C me)) (hs : ∀ x, foldedSetIterable iter X.env x = pure x := by intro _; rfl) :
    PE X (.ListComp elt [⟨tg, iter, ifs, 0⟩] scope pos) (tE G C (.comp t (own.map (·.2)) mi mc me)) := by
  refine (pe_lc hc hN hi ok hg ht he hs).mono fun σ H Q h => ?_
  obtain ⟨A, ρ, v, mh', rfl, S, N, e, q⟩ := h
  exact lc_frozen hown S N e q
theorem sal_comp (hown : ∀ i ∈ tgN t, i ∈ own.map (·.2)) (hc : X.calm = true) (hN : X.N.Nodup) (hi : PI X tg iter (tI G C mi)) (ok : BlkOk X.N X.env.scope scope own)
    (hg : ∀ (s : Shared) (H : Hp) (D : Addr) (cl : List (Str × Addr)) (fp : List Addr), PG (X.blk s H scope (compEnvC scope cl D X.env) fp) tg (tG G t)) (ht : ∀ (s : Shared) (H : Hp) (D : Addr) (cl : List (Str × Addr)) (fp : List Addr), PTs (X.blk s H scope (compEnvC scope cl D X.env) fp) ifs (tT G C mc))
    (he : ∀ (s : Shared) (H : Hp) (D : Addr) (cl : List (Str × Addr)) (fp : List Addr), PE (X.blk s H scope (compEnvC scope cl D X.env) fp) elt (tE G C me)) (hs : ∀ x, foldedSetIterable iter X.env x = pure x := by intro _; rfl) :
    PE X (.ListComp elt [⟨tg, iter, ifs, 0⟩] scope pos) (tE G C (.al (.comp t (own.map (·.2)) mi mc me))) := by
  refine (pe_lc hc hN hi ok hg ht he hs).mono fun σ H Q h => ?_
  obtain ⟨A, ρ, v, mh', rfl, S, N, e, q⟩ := h
  exact lc_live hown S N e q
end
end L2.Mi

set_option Elab.async false
set_option linter.all false
set_option maxRecDepth 100000
set_option maxHeartbeats 4000000
/-! Mini10: statements. -/
namespace L2.Mi
open PySem PySem.Spec PyProof.Rows

def FlOk (G : Gb) (B : Wd) (ρ : Env) (D : Ends) : Fl → Prop
  | .nx => ∀ σ, Envs G B ρ σ → D.nx σ B.H
  | .bk => ∀ σ, Envs G B ρ σ → D.bk σ B.H
  | .ct => ∀ σ, Envs G B ρ σ → D.ct σ B.H
  | .rt v => ∀ x, Rep G B v x → D.rt x B.H
def EndP (G : Gb) (A : Wd) (mh' : MHp) (ρ : Env) (fl : Fl) (D : Ends) : Prop := ∀ B, Keep A B → B.mh = mh' → Sim G B → FlOk G B ρ D fl
def tS (G : Gb) (C : CallF) (s : MS) : TS := fun D σ H => ∃ (A : Wd) (ρ : Env) (fl : Fl) (ρ' : Env) (mh' : MHp), A.H = H ∧ Sim G A ∧ Envs G A ρ σ ∧ ex C A.base s ρ A.mh = some (fl, ρ', mh') ∧ EndP G A mh' ρ' fl D
def tSs (G : Gb) (C : CallF) (ss : List MS) : TS := fun D σ H => ∃ (A : Wd) (ρ : Env) (fl : Fl) (ρ' : Env) (mh' : MHp), A.H = H ∧ Sim G A ∧ Envs G A ρ σ ∧ exs C A.base ss ρ A.mh = some (fl, ρ', mh') ∧ EndP G A mh' ρ' fl D
theorem EndP.step {G : Gb} {A B : Wd} {mh' : MHp} {ρ : Env} {fl : Fl} {D : Ends} (h : EndP G A mh' ρ fl D) (k : Keep A B) : EndP G B mh' ρ fl D := fun K k' e S => h K (k.trans k') e S
theorem _root_.L2.PS.mono {X : Cx} {e : Stmt} {t t' : TS} (h : PS X e t) (k : ∀ D σ H, t' D σ H → t D σ H) : PS X e t' := ⟨fun pins s σ H D I q => h.run pins s σ H D I (k _ _ _ q)⟩
theorem _root_.L2.PSs.mono {X : Cx} {e : List Stmt} {t t' : TS} (h : PSs X e t) (k : ∀ D σ H, t' D σ H → t D σ H) : PSs X e t' := ⟨fun pins s σ H D I q => h.run pins s σ H D I (k _ _ _ q)⟩
section
variable {G : Gb} {C : CallF} {X : Cx} {pos p : Pos} {e a b c : Expr} {ma mb mc m : ME} {st : Stmt} {rest body : List Stmt} {s : MS} {ss ms : List MS}
theorem sss_nil : PSs X [] (tSs G C []) := pss_nil.mono fun D σ H h => by
  obtain ⟨A, ρ, fl, ρ', mh', rfl, S, N, e, q⟩ := h
  simp only [exs] at e
  cases e
  exact q A (Keep.refl A) rfl S σ N
theorem exs_cons {base : Nat} {ρ ρ' : Env} {mh mh' : MHp} {fl : Fl} (e : exs C base (s :: ss) ρ mh = some (fl, ρ', mh')) : (∃ ρ1 mh1, ex C base s ρ mh = some (.nx, ρ1, mh1) ∧ exs C base ss ρ1 mh1 = some (fl, ρ', mh')) ∨ (ex C base s ρ mh = some (fl, ρ', mh') ∧ fl ≠ .nx) := by
  simp only [exs] at e
  split at e
  · rename_i ρ1 mh1 e1
    exact .inl ⟨ρ1, mh1, e1, e⟩
  · rename_i hn
    exact .inr ⟨e, fun z => hn ρ' mh' (by rw [e, z])⟩
theorem sss_cons (h1 : PS X st (tS G C s)) (h2 : PSs X rest (tSs G C ss)) : PSs X (st :: rest) (tSs G C (s :: ss)) := (pss_cons h1 h2).mono fun D σ H h => by
  obtain ⟨A, ρ, fl, ρ', mh', rfl, S, N, e, q⟩ := h
  rcases exs_cons e with ⟨ρ1, mh1, e1, e2⟩ | ⟨e1, hn⟩
  · exact ⟨A, ρ, .nx, ρ1, mh1, rfl, S, N, e1, fun B k em SB σ' N' => ⟨B, ρ1, fl, ρ', mh', rfl, SB, N', by rw [k.base, em]; exact e2, q.step k⟩⟩
  · refine ⟨A, ρ, fl, ρ', mh', rfl, S, N, e1, fun B k em SB => ?_⟩
    have z := q B k em SB
    cases fl with
    | nx => exact absurd rfl hn
    | _ => exact z
theorem ss_pass : PS X (.Pass pos) (tS G C .pass) := ps_pass.mono fun D σ H h => by
  obtain ⟨A, ρ, fl, ρ', mh', rfl, S, N, e, q⟩ := h
  simp only [ex] at e
  cases e
  exact q A (Keep.refl A) rfl S σ N
theorem ss_brk : PS X (.Break pos) (tS G C .brk) := ps_break.mono fun D σ H h => by
  obtain ⟨A, ρ, fl, ρ', mh', rfl, S, N, e, q⟩ := h
  simp only [ex] at e
  cases e
  exact q A (Keep.refl A) rfl S σ N
theorem ss_cnt : PS X (.Continue pos) (tS G C .cnt) := ps_continue.mono fun D σ H h => by
  obtain ⟨A, ρ, fl, ρ', mh', rfl, S, N, e, q⟩ := h
  simp only [ex] at e
  cases e
  exact q A (Keep.refl A) rfl S σ N
theorem ss_doc {x j pos'} : PS X (.Expr (.Constant (.str x) j pos) pos') (tS G C .pass) := ps_doc.mono fun D σ H h => by
  obtain ⟨A, ρ, fl, ρ', mh', rfl, S, N, e, q⟩ := h
  simp only [ex] at e
  cases e
  exact q A (Keep.refl A) rfl S σ N
theorem ss_expr (he : PE X e (tE G C m)) (hs : swapsWith e none pos.line X.env = pure false := by rfl) : PS X (.Expr e pos) (tS G C (.ex m)) := (ps_expr he hs).mono fun D σ H h => by
  obtain ⟨A, ρ, fl, ρ', mh', rfl, S, N, e, q⟩ := h
  simp only [ex] at e
  split at e
  · cases e
  rename_i v mh1 e1
  cases e
  exact tE.go S N e1 fun B x k em SB NB _ => q B k em SB σ NB
theorem ex_set {t : Tg} {base : Nat} {ρ ρ' : Env} {mh mh' : MHp} {fl : Fl} (e : ex C base (.set t m) ρ mh = some (fl, ρ', mh')) : ∃ v, ev C base m ρ mh = some (v, mh') ∧ asg mh' t v ρ = some ρ' ∧ fl = .nx := by
  simp only [ex] at e
  split at e
  · cases e
  rename_i v mh1 e1
  split at e
  · cases e
  rename_i ρ1 e2
  cases e
  exact ⟨v, e1, e2, rfl⟩
theorem ss_set {i : Nat} {x : Str} {pos' : Pos} (hN : X.N.Nodup) (hi : X.N[i]? = some x) (hx : Loc X.env.scope x) (he : PE X e (tE G C m)) (hs : swapsWith e (some (.Name x pos')) pos.line X.env = pure false := by rfl) (hf : X.fn x = true ∨ X.env.scope.names.lookup x = some .local := by first | exact .inl rfl | exact .inr rfl | assumption) :
    PS X (.Assign [.Name x pos'] e pos) (tS G C (.set (.nm i) m)) := (ps_set hN hi hx he hs hf).mono fun D σ H h => by
  obtain ⟨A, ρ, fl, ρ', mh', rfl, S, N, e, q⟩ := h
  obtain ⟨v, e1, e2, rfl⟩ := ex_set e
  simp only [asg] at e2
  split at e2
  · cases e2
    exact tE.go S N e1 fun B x k em SB NB r => q B k em SB _ (NB.set r i)
  · cases e2
theorem ss_asg {t : Tg} {tg : Expr} (he : PE X e (tE G C m)) (hg : PG X tg (tG G t)) (hs : swapsWithSole [tg] e pos.line X.env = pure false := by rfl) (hw : swappedStores [tg] e X.env = pure none := by rfl)
    (h1 : (assignEach [tg] X.env).map (·.2) = [assign tg X.env] := by rfl) : PS X (.Assign [tg] e pos) (tS G C (.set t m)) := (ps_asg he hg hs hw h1).mono fun D σ H h => by
  obtain ⟨A, ρ, fl, ρ', mh', rfl, S, N, e, q⟩ := h
  obtain ⟨v, e1, e2, rfl⟩ := ex_set e
  exact tE.go S N e1 fun B x k em SB NB r => ⟨B, ρ, ρ', v, rfl, SB, NB, r, by rw [em]; exact e2, fun σ' N' _ => q B k em SB σ' N'⟩
theorem ss_setLc {t : Tg} {mi me : ME} {i : Nat} {y : Str} {py : Pos} {elt tg iter : Expr} {ifs : List Expr} {scope : Scope} {own : List (Str × Nat)} {pos spos : Pos} (hown : ∀ i ∈ tgN t, i ∈ own.map (·.2)) (hc : X.calm = true) (hN : X.N.Nodup) (hy : X.N[i]? = some y) (hyl : X.env.scope.names.lookup y = some .local)
    (hsw : swapsWith (.ListComp elt [⟨tg, iter, ifs, 0⟩] scope pos) (some (.Name y py)) spos.line X.env = pure true) (hi : PI X tg iter (tI G C mi)) (ok : BlkOk X.N X.env.scope scope own)
    (hg : ∀ (s : Shared) (H : Hp) (D : Addr) (cl : List (Str × Addr)) (fp : List Addr), PG (X.blk s H scope (compEnvC scope cl D X.env) fp) tg (tG G t)) (ht : ∀ (s : Shared) (H : Hp) (D : Addr) (cl : List (Str × Addr)) (fp : List Addr), PTs (X.blk s H scope (compEnvC scope cl D X.env) fp) ifs (tT G C mc))
    (he : ∀ (s : Shared) (H : Hp) (D : Addr) (cl : List (Str × Addr)) (fp : List Addr), PE (X.blk s H scope (compEnvC scope cl D X.env) fp) elt (tE G C me)) (hs : ∀ x, foldedSetIterable iter X.env x = pure x := by intro _; rfl) :
    PS X (.Assign [.Name y py] (.ListComp elt [⟨tg, iter, ifs, 0⟩] scope pos) spos) (tS G C (.set (.nm i) (.comp t (own.map (·.2)) mi mc me))) := (ps_setLc hc hN hy hyl hsw hi ok hg ht he hs).mono fun D σ H h => by
  obtain ⟨A, ρ, fl, ρ', mh', rfl, S, N, e, q⟩ := h
  obtain ⟨v, e1, e2, rfl⟩ := ex_set e
  simp only [asg] at e2
  split at e2
  · cases e2
    exact lc_frozen hown S N e1 fun B x k em SB r => q B k em SB _ ((N.keep S k).set r i)
  · cases e2
theorem ss_setLcA {t : Tg} {mi me : ME} {i : Nat} {y : Str} {py : Pos} {elt tg iter : Expr} {ifs : List Expr} {scope : Scope} {own : List (Str × Nat)} {pos spos : Pos} (hown : ∀ i ∈ tgN t, i ∈ own.map (·.2)) (hc : X.calm = true) (hN : X.N.Nodup) (hy : X.N[i]? = some y) (hyl : X.env.scope.names.lookup y = some .local)
    (hsw : swapsWith (.ListComp elt [⟨tg, iter, ifs, 0⟩] scope pos) (some (.Name y py)) spos.line X.env = pure true) (hi : PI X tg iter (tI G C mi)) (ok : BlkOk X.N X.env.scope scope own)
    (hg : ∀ (s : Shared) (H : Hp) (D : Addr) (cl : List (Str × Addr)) (fp : List Addr), PG (X.blk s H scope (compEnvC scope cl D X.env) fp) tg (tG G t)) (ht : ∀ (s : Shared) (H : Hp) (D : Addr) (cl : List (Str × Addr)) (fp : List Addr), PTs (X.blk s H scope (compEnvC scope cl D X.env) fp) ifs (tT G C mc))
    (he : ∀ (s : Shared) (H : Hp) (D : Addr) (cl : List (Str × Addr)) (fp : List Addr), PE (X.blk s H scope (compEnvC scope cl D X.env) fp) elt (tE G C me)) (hs : ∀ x, foldedSetIterable iter X.env x = pure x := by intro _; rfl) :
    PS X (.Assign [.Name y py] (.ListComp elt [⟨tg, iter, ifs, 0⟩] scope pos) spos) (tS G C (.set (.nm i) (.al (.comp t (own.map (·.2)) mi mc me)))) := (ps_setLc hc hN hy hyl hsw hi ok hg ht he hs).mono fun D σ H h => by
  obtain ⟨A, ρ, fl, ρ', mh', rfl, S, N, e, q⟩ := h
  obtain ⟨v, e1, e2, rfl⟩ := ex_set e
  simp only [asg] at e2
  split at e2
  · cases e2
    exact lc_live hown S N e1 fun B x k em SB r => q B k em SB _ ((N.keep S k).set r i)
  · cases e2
theorem ss_par {i j : Nat} {x y : Str} {px py pt : Pos} {kt k2 pt2} (hc : X.calm = true) (hN : X.N.Nodup) (hi : X.N[i]? = some x) (hj : X.N[j]? = some y) (hij : i ≠ j)
    (hx : X.env.scope.names.lookup x = some .local) (hy : X.env.scope.names.lookup y = some .local) (ha : PE X a (tE G C ma)) (hb : PE X b (tE G C mb))
    (hw : swappedStores [.Tuple [.Name x px, .Name y py] kt pt] (.Tuple [a, b] k2 pt2) X.env = pure (some [x, y]))
    (hs : swapsWithSole [.Tuple [.Name x px, .Name y py] kt pt] (.Tuple [a, b] k2 pt2) pos.line X.env = pure false := by rfl)
    (hs1 : starEach [a, b] X.env = (false, eval a X.env) :: starEach [b] X.env := by rfl) (hs2 : starEach [b] X.env = (false, eval b X.env) :: starEach [] X.env := by rfl) :
    PS X (.Assign [.Tuple [.Name x px, .Name y py] kt pt] (.Tuple [a, b] k2 pt2) pos) (tS G C (.par i j ma mb)) := (ps_par hc hN hi hj hij hx hy (sa_cons ha (sa_cons hb sa_nil hs2) hs1) hw hs).mono fun D σ H h => by
  obtain ⟨A, ρ, fl, ρ', mh', rfl, S, N, e, q⟩ := h
  simp only [ex] at e
  split at e
  · cases e
  rename_i v mh1 e1
  split at e
  · cases e
  rename_i w mh2 e2
  split at e
  · cases e
    refine tEs.go (vs := [v, w]) (mh1 := mh') S N (by simp only [evs, e1, e2]) fun B xs k em SB NB r => ?_
    unfold Reps at r
    obtain ⟨v', r', rfl, r1, r2⟩ := r
    unfold Reps at r2
    obtain ⟨w', r'', rfl, r3, r4⟩ := r2
    unfold Reps at r4
    subst r4
    exact ⟨v', w', rfl, q B k em SB _ ((NB.set r1 i).set r3 j)⟩
  · cases e
theorem ss_ret (he : PE X e (tE G C m)) : PS X (.Return (some e) pos) (tS G C (.ret m)) := (ps_ret he).mono fun D σ H h => by
  obtain ⟨A, ρ, fl, ρ', mh', rfl, S, N, e, q⟩ := h
  simp only [ex] at e
  split at e
  · cases e
  rename_i v mh1 e1
  cases e
  exact tE.go S N e1 fun B x k em SB NB r => q B k em SB x r
theorem ss_retN : PS X (.Return none pos) (tS G C (.ret (.c .non))) := ps_retN.mono fun D σ H h => by
  obtain ⟨A, ρ, fl, ρ', mh', rfl, S, N, e, q⟩ := h
  simp only [ex, ev] at e
  cases e
  exact q A (Keep.refl A) rfl S _ rep_non
theorem ss_if {sa sb : List Stmt} {na nb : List MS} (hc : PT X c (tT G C mc)) (ha : PSs X sa (tSs G C na)) (hb : PSs X sb (tSs G C nb)) : PS X (.If c sa sb pos) (tS G C (.ite mc na nb)) := (ps_if hc ha hb).mono fun D σ H h => by
  obtain ⟨A, ρ, fl, ρ', mh', rfl, S, N, e, q⟩ := h
  simp only [ex] at e
  split at e
  · rename_i mh1 e1
    refine tT.go S N e1 fun B k em SB NB => ?_
    rw [if_pos rfl]
    exact ⟨B, ρ, fl, ρ', mh', rfl, SB, NB, by rw [k.base, em]; exact e, q.step k⟩
  · rename_i mh1 e1
    refine tT.go S N e1 fun B k em SB NB => ?_
    rw [if_neg Bool.false_ne_true]
    exact ⟨B, ρ, fl, ρ', mh', rfl, SB, NB, by rw [k.base, em]; exact e, q.step k⟩
  · cases e
/-! ### for -/
theorem forGo_nil {J : Its} {f : MV → Env → MHp → Option (Fl × Env × MHp)} {ρ ρ' : Env} {mh mh' : MHp} {fl : Fl} (e : forGo J f [] ρ mh = some (fl, ρ', mh')) : J.ok mh ∧ fl = .nx ∧ ρ' = ρ ∧ mh' = mh := by
  unfold forGo at e
  split at e
  · cases e; exact ⟨by assumption, rfl, rfl, rfl⟩
  · cases e
theorem forGo_cons {J : Its} {f : MV → Env → MHp → Option (Fl × Env × MHp)} {x : MV} {xs : List MV} {ρ ρ' : Env} {mh mh' : MHp} {fl : Fl} (e : forGo J f (x :: xs) ρ mh = some (fl, ρ', mh')) :
    J.ok mh ∧ ∃ g ρ1 mh1, f x ρ mh = some (g, ρ1, mh1) ∧ (((g = .nx ∨ g = .ct) ∧ forGo J f xs ρ1 mh1 = some (fl, ρ', mh')) ∨ (g = .bk ∧ fl = .nx ∧ ρ' = ρ1 ∧ mh' = mh1) ∨ (∃ v, g = .rt v ∧ fl = .rt v ∧ ρ' = ρ1 ∧ mh' = mh1)) := by
  unfold forGo at e
  split at e
  · rename_i ho
    refine ⟨ho, ?_⟩
    split at e
    · cases e
    · rename_i ρ1 mh1 e1; exact ⟨_, _, _, e1, .inl ⟨.inl rfl, e⟩⟩
    · rename_i ρ1 mh1 e1; exact ⟨_, _, _, e1, .inl ⟨.inr rfl, e⟩⟩
    · rename_i ρ1 mh1 e1; cases e; exact ⟨_, _, _, e1, .inr (.inl ⟨rfl, rfl, rfl, rfl⟩)⟩
    · rename_i v ρ1 mh1 e1; cases e; exact ⟨_, _, _, e1, .inr (.inr ⟨v, rfl, rfl, rfl, rfl⟩)⟩
  · cases e
theorem ss_for {t : Tg} {tg iter : Expr} {mi : ME} (hp : PassesOwn (model X.prog X.w) X.A X.env X.xe) (hc : X.calm = true) (hi : PI X tg iter (tI G C mi)) (hg : PG X tg (tG G t)) (hb : PSs X body (tSs G C ms))
    (hs : ∀ x, foldedSetIterable iter X.env x = pure x := by intro _; rfl) : PS X (.For tg iter body [] pos) (tS G C (.for t mi ms)) := (ps_for hp hc hi hg hb hs).mono fun D σ H h => by
  obtain ⟨A, ρ, fl, ρ', mh', rfl, S, N, e, q⟩ := h
  simp only [ex] at e
  split at e
  · cases e
  rename_i J mh1 e1
  refine ⟨A, ρ, J, mh1, rfl, S, N, e1, fun B I k em SB wk => ?_⟩
  let f : MV → Env → MHp → Option (Fl × Env × MHp) := fun x ρ1 mh2 => match asg mh2 t x ρ1 with
      | none => none
      | some ρ2 => exs C A.base ms ρ2 mh2
  let W : Nat → Nat → L2.St → Hp → Prop := fun i m σ H => m = J.items.length - i ∧ i ≤ J.items.length ∧ ∃ (E : Wd) (ρ1 : Env), Keep B E ∧ Sim G E ∧ E.H = H ∧ Envs G E ρ1 σ ∧ forGo J f (J.items.drop i) ρ1 E.mh = some (fl, ρ', mh')
  refine ⟨W, ⟨J.items.length, by simp, Nat.zero_le _, B, ρ, Keep.refl B, SB, rfl, N.keep S k, by rw [em]; exact e⟩, ?_⟩
  rintro i m σ1 H ⟨rfl, hi, E, ρ1, kE, SE, rfl, NE, cE⟩
  by_cases hlt : i < J.items.length
  · have hd : J.items.drop i = J.items[i] :: J.items.drop (i + 1) := List.drop_eq_getElem_cons hlt
    rw [hd] at cE
    obtain ⟨oE, g, ρ2, mh2, f1, c1⟩ := forGo_cons cE
    refine .inr ⟨wk.go E kE.w SE oE i hlt, fun σ' H' => W (i + 1) (J.items.length - (i + 1)) σ' H', fun σ' H' w => ⟨_, by omega, w⟩, fun x H' y => ?_⟩
    obtain ⟨F, z, kF, mF, rfl, SF, hz, rz⟩ := wk.yld E kE.w SE oE i x H' hlt y
    have hz' : J.items[i] = z := by
      rw [List.getElem?_eq_getElem hlt] at hz
      exact Option.some.inj hz
    rw [hz', ← mF] at f1
    have f1' : (match asg F.mh t z ρ1 with
      | none => none
      | some ρ2 => exs C A.base ms ρ2 F.mh) = some (g, ρ2, mh2) := f1
    split at f1'
    · cases f1'
    rename_i ρ3 g1
    refine ⟨F, ρ1, ρ3, z, rfl, SF, NE.keep SE kF, rz, g1, fun σ2 N2 off => ?_⟩
    have kAF := k.trans (kE.trans kF)
    refine ⟨F, ρ3, g, ρ2, mh2, rfl, SF, N2, by rw [kAF.base]; exact f1', fun L kL mL SL => ?_⟩
    have kBL := (kE.trans kF).trans kL
    rcases c1 with ⟨hg, c1⟩ | ⟨rfl, rfl, rfl, rfl⟩ | ⟨v, rfl, rfl, rfl, rfl⟩
    · have fin : ∀ σ', Envs G L ρ2 σ' → W (i + 1) (J.items.length - (i + 1)) σ' L.H := fun σ' N' => ⟨rfl, hlt, L, ρ2, kBL, SL, rfl, N', by rw [mL]; exact c1⟩
      rcases hg with rfl | rfl
      · exact fin
      · exact fin
    · exact q L (k.trans kBL) mL SL
    · exact q L (k.trans kBL) mL SL
  · have hi' : i = J.items.length := by omega
    subst hi'
    rw [List.drop_length] at cE
    obtain ⟨oE, rfl, rfl, e5⟩ := forGo_nil cE
    exact .inl ⟨wk.stop E kE.w SE oE, q E (k.trans kE) e5.symm SE σ1 NE⟩
/-! ### while -/
theorem whileM_of {cf : Env → MHp → Option (Bool × MHp)} {f : Env → MHp → Option (Fl × Env × MHp)} {ρ : Env} {mh : MHp} {r : Fl × Env × MHp} (e : whileM cf f ρ mh = some r) : ∃ n, whileN cf f n ρ mh = some r := by
  unfold whileM at e
  split at e
  · exact ⟨_, e⟩
  · cases e
theorem ss_while (hp : PassesOwn (model X.prog X.w) X.A X.env X.xe) (hc : PT X c (tT G C mc)) (hb : PSs X body (tSs G C ms)) : PS X (.While c body [] pos) (tS G C (.while mc ms)) := (ps_while hp hc hb).mono fun D σ H h => by
  obtain ⟨A, ρ, fl, ρ', mh', rfl, S, N, e, q⟩ := h
  simp only [ex] at e
  obtain ⟨n, e⟩ := whileM_of e
  let cf : Env → MHp → Option (Bool × MHp) := fun ρ1 mh1 => match ev C A.base mc ρ1 mh1 with
      | some (.bl b, mh2) => some (b, mh2)
      | _ => none
  let f : Env → MHp → Option (Fl × Env × MHp) := fun ρ1 mh1 => exs C A.base ms ρ1 mh1
  let W : Nat → L2.St → Hp → Prop := fun n σ H => ∃ (E : Wd) (ρ1 : Env), Keep A E ∧ Sim G E ∧ E.H = H ∧ Envs G E ρ1 σ ∧ whileN cf f n ρ1 E.mh = some (fl, ρ', mh')
  refine ⟨W, ⟨n, A, ρ, Keep.refl A, S, rfl, N, e⟩, ?_⟩
  rintro m σ1 H ⟨E, ρ1, kE, SE, rfl, NE, cE⟩
  cases m with
  | zero => unfold whileN at cE; cases cE
  | succ m =>
    unfold whileN at cE
    have hcf : ∀ {b mh1}, cf ρ1 E.mh = some (b, mh1) → ev C A.base mc ρ1 E.mh = some (.bl b, mh1) := fun {b mh1} z => by
      have z' : (match ev C A.base mc ρ1 E.mh with
        | some (.bl b, mh2) => some (b, mh2)
        | _ => none) = some (b, mh1) := z
      split at z'
      · rename_i b' mh2 e9
        cases z'; exact e9
      · cases z'
    split at cE
    · cases cE
    · rename_i mh1 e1
      cases cE
      refine tT.go SE NE (by rw [kE.base]; exact hcf e1) fun F kF mF SF NF => ?_
      rw [if_neg Bool.false_ne_true]
      exact q F (kE.trans kF) mF SF σ1 NF
    · rename_i mh1 e1
      refine tT.go SE NE (by rw [kE.base]; exact hcf e1) fun F kF mF SF NF => ?_
      rw [if_pos rfl]
      refine ⟨W m, fun σ' H' w => ⟨m, Nat.lt_succ_self m, w⟩, ?_⟩
      have kAF := kE.trans kF
      have go : ∀ {g ρ2 mh2}, f ρ1 mh1 = some (g, ρ2, mh2) → (∀ L, Keep F L → L.mh = mh2 → Sim G L → FlOk G L ρ2 { D with nx := W m, ct := W m, bk := D.nx } g) → tSs G C ms { D with nx := W m, ct := W m, bk := D.nx } σ1 F.H := fun {g ρ2 mh2} z l =>
        ⟨F, ρ1, g, ρ2, mh2, rfl, SF, NF, by rw [kAF.base, mF]; exact z, l⟩
      split at cE
      · cases cE
      · rename_i ρ2 mh2 e2
        exact go e2 fun L kL mL SL σ' N' => ⟨L, ρ2, kAF.trans kL, SL, rfl, N', by rw [mL]; exact cE⟩
      · rename_i ρ2 mh2 e2
        exact go e2 fun L kL mL SL σ' N' => ⟨L, ρ2, kAF.trans kL, SL, rfl, N', by rw [mL]; exact cE⟩
      · rename_i ρ2 mh2 e2
        cases cE
        exact go e2 fun L kL mL SL => q L (kAF.trans kL) mL SL
      · rename_i v ρ2 mh2 e2
        cases cE
        exact go e2 fun L kL mL SL => q L (kAF.trans kL) mL SL
/-! ### o[i] = e, name op= e -/
theorem dPutV_mem {ks : List MKey} {ms : List MV} {k : MKey} {m x : MV} (h : x ∈ dPutV ks ms k m) : x ∈ ms ++ [m] := by
  unfold dPutV at h
  split at h
  · have gen : ∀ (ks : List MKey) (ms : List MV), x ∈ List.zipWith (fun k' m' => if k' = k then m else m') ks ms → x ∈ ms ++ [m] := by
      intro ks
      induction ks with
      | nil => intro ms h; simp at h
      | cons k' ks ih =>
        intro ms h
        cases ms with
        | nil => simp at h
        | cons m' ms =>
          rw [List.zipWith_cons_cons] at h
          rcases List.mem_cons.mp h with h | h
          · split at h
            · subst h; simp
            · subst h; simp
          · exact List.mem_cons_of_mem _ (ih ms h)
    exact gen ks ms h
  · exact h
theorem dct_wr {A : Wd} (S : Sim G A) {l : Nat} {a : Addr} {ks ls : List MKey} {ms ns : List MV} {ws : List V} (hl : A.mh[l]? = some (some (.dct ks ms))) (hb : A.β[l]? = some a) (hz : ls.length = ns.length) (r : Reps G A ns ws) (hbd : ∀ b ∈ A.bs, l < b → bds b ns = true) :
    Keep A (A.wr l a (.dK ((ls.map kOf).zip ws)) (.dct ls ns)) ∧ Sim G (A.wr l a (.dK ((ls.map kOf).zip ws)) (.dct ls ns)) := by
  have k : Keep A (A.wr l a (.dK ((ls.map kOf).zip ws)) (.dct ls ns)) := keep_wr S hl hb
  exact ⟨k, S.wr hl hb ⟨ws, upd_same, hz, Reps.keep S k _ _ r⟩ ⟨(fun _ z => nomatch z), (fun _ _ z => nomatch z)⟩ hbd⟩
/-- d[k] = v, from what was reckoned -/
theorem dput_go {A B3 : Wd} {l : Nat} {ks : List MKey} {ms : List MV} {k : MKey} {v : MV} {vx y : V} {w : V} (S3 : Sim G B3) (hl : B3.mh[l]? = some (some (.dct ks ms))) (ry : Rep G B3 (.loc l) w) (hy : y = kV (kOf k)) (rx : Rep G B3 v vx) (hw : wr B3.base l v = true) (hz : ks.length < line) :
    ∃ a H4, w = .ref a ∧ DPut B3.H a y vx H4 ∧ ∃ W : Wd, W.H = H4 ∧ Keep B3 W ∧ Sim G W ∧ W.mh = B3.mh.set l (some (.dct (dPutK ks k) (dPutV ks ms k v))) := by
  obtain ⟨a, rfl, hb⟩ := ry.loc_
  obtain ⟨vs, eH, h3, rr⟩ := S3.obj l _ hl a hb
  obtain ⟨ws, e1, r1⟩ := dput_rep (k := k) h3 rr rx
  obtain ⟨kW, SW⟩ := dct_wr S3 hl hb (dput_len k v h3) r1 fun b hbs hlb => by
    have h1 : bds b ms = true := S3.bnd b hbs l _ hlb hl
    have h2 : bds b (ms ++ [v]) = true := by
      rw [bds_app, h1]
      show (true && (bd b v && true)) = true
      rw [wr_bd S3 hw hbs hlb]
      rfl
    exact bds_sub h2 fun z hz => dPutV_mem hz
  refine ⟨a, _, rfl, .inl ⟨_, kOf k, eH, hy, ?_, rfl⟩, _, ?_, kW, SW, rfl⟩
  · have : ((ks.map kOf).zip vs).length = ks.length := by rw [List.length_zip, List.length_map, ← rr.len, ← h3, Nat.min_self]
    rw [this]; exact hz
  · rw [e1]
theorem PS.or' {X : Cx} {s : Stmt} {t t' : TS} (h : PS X s t) (h' : PS X s t') : PS X s (fun D σ H => t D σ H ∨ t' D σ H) := ⟨fun pins s σ H D I q => q.elim (h.run pins s σ H D I) (h'.run pins s σ H D I)⟩
theorem ss_sti {o i : Expr} {mo mi : ME} {pos' : Pos} (hu : X.A.units + 65 < cLine) (he : PE X e (tE G C m)) (ho : PE X o (tE G C mo)) (hi : PE X i (tE G C mi))
    (ha : ∀ v, assign (.Subscript o i pos') X.env v = (do
      let ov ← holding [v] (eval o X.env)
      let iv ← holding [v, ov] (eval i X.env)
      standAt pos'
      holding [v, ov, iv] (setItem ov iv v)
      release [v, ov, iv] []) := by intro _; rfl)
    (hs : swapsWithSole [.Subscript o i pos'] e pos.line X.env = pure false := by rfl) (hw : swappedStores [.Subscript o i pos'] e X.env = pure none := by rfl)
    (h1 : (assignEach [.Subscript o i pos'] X.env).map (·.2) = [assign (.Subscript o i pos') X.env] := by rfl) (hs2 : swapsWith e (some (.Subscript o i pos')) pos.line X.env = pure false := by rfl) : PS X (.Assign [.Subscript o i pos'] e pos) (tS G C (.sti mo mi m)) := (PS.or' (ps_asg he (pg_sub ho hi set_list ha) hs hw h1) (ps_dput (by omega) ho hi he hs2)).mono fun D σ H h => by
  obtain ⟨A, ρ, fl, ρ', mh', rfl, S, N, e, q⟩ := h
  simp only [ex] at e
  split at e
  · cases e
  rename_i v mh1 e1
  split at e
  · rename_i l mh2 e2
    split at e
    · rename_i j mh3 e3
      split at e
      · rename_i xs hl
        split at e
        · cases e
        rename_i jj hj
        split at e
        · rename_i hw
          cases e
          refine .inl ?_
          refine tE.go S N e1 fun B x k em SB NB r => tE.go SB NB (ev.at k em e2) fun B2 y k2 em2 S2 N2 r2 => tE.go S2 N2 (ev.at (k.trans k2) em2 e3) fun B3 z k3 em3 S3 N3 r3 => ?_
          rw [← em3] at hl
          obtain ⟨a, rfl, hb⟩ := (Rep.keep S2 k3 _ _ r2).loc_
          obtain ⟨vs, eH, rr⟩ := S3.obj l _ hl a hb
          have rx := Rep.keep S2 k3 _ _ (Rep.keep SB k2 _ _ r)
          have kk := (k.trans k2).trans k3
          obtain ⟨kW, SW⟩ := lst_wr S3 hl hb (rr.set rx jj) fun b hbs hlb => by
            have h1 : bds b xs = true := S3.bnd b hbs l _ hlb hl
            have h2 : bds b (xs ++ [v]) = true := by
              rw [bds_app, h1]
              show (true && (bd b v && true)) = true
              rw [wr_bd S3 (by rw [kk.base]; exact hw) hbs hlb]
              rfl
            exact bds_sub h2 fun z hz => by
              rcases List.mem_or_eq_of_mem_set hz with hz | rfl
              · exact List.mem_append_left _ hz
              · simp
          exact ⟨a, vs, j, jj, rfl, r3.int_, eH, by rw [← rr.len]; exact hj, q _ (kk.trans kW) (by show B3.mh.set l _ = _; rw [em3]) SW _ ((N3.keep S3 kW))⟩
        · cases e
      · rename_i ks ms hl
        split at e
        · rename_i hc
          cases e
          refine .inr ?_
          refine tE.go S N e1 fun B x k em SB NB r => tE.go SB NB (ev.at k em e2) fun B2 y k2 em2 S2 N2 r2 => tE.go S2 N2 (ev.at (k.trans k2) em2 e3) fun B3 z k3 em3 S3 N3 r3 => ?_
          have kk := (k.trans k2).trans k3
          obtain ⟨a, H4, h1, h2, W, rfl, kW, SW, mW⟩ := dput_go (A := A) (k := .inl j) S3 (by rw [em3]; exact hl) (Rep.keep S2 k3 _ _ r2) r3.int_ (Rep.keep S2 k3 _ _ (Rep.keep SB k2 _ _ r)) (by rw [kk.base]; exact hc.1) hc.2
          exact ⟨a, _, h1, h2, q _ (kk.trans kW) (by rw [mW, em3]) SW _ (N3.keep S3 kW)⟩
        · cases e
      · cases e
    · rename_i s mh3 e3
      split at e
      · rename_i ks ms hl
        split at e
        · rename_i hc
          cases e
          refine .inr ?_
          refine tE.go S N e1 fun B x k em SB NB r => tE.go SB NB (ev.at k em e2) fun B2 y k2 em2 S2 N2 r2 => tE.go S2 N2 (ev.at (k.trans k2) em2 e3) fun B3 z k3 em3 S3 N3 r3 => ?_
          have kk := (k.trans k2).trans k3
          obtain ⟨a, H4, h1, h2, W, rfl, kW, SW, mW⟩ := dput_go (A := A) (k := .inr s) S3 (by rw [em3]; exact hl) (Rep.keep S2 k3 _ _ r2) r3.str_ (Rep.keep S2 k3 _ _ (Rep.keep SB k2 _ _ r)) (by rw [kk.base]; exact hc.1) hc.2
          exact ⟨a, _, h1, h2, q _ (kk.trans kW) (by rw [mW, em3]) SW _ (N3.keep S3 kW)⟩
        · cases e
      · cases e
    · cases e
  · cases e
theorem ss_aug {i : Nat} {x : Str} {o : Op} {pos' : Pos} (ho : o = .add ∨ o = .sub) (hN : X.N.Nodup) (hi : X.N[i]? = some x) (hx : Loc X.env.scope x) (he : PE X e (tE G C m)) (hf : X.fn x = true ∨ X.env.scope.names.lookup x = some .local := by first | exact .inl rfl | exact .inr rfl | assumption) :
    PS X (.AugAssign (.Name x pos') (opOf o) e pos) (tS G C (.aug i o m)) := by
  have main : ∀ (f : Int → Int → Int), PIp X (opOf o) (ipI f) → (∀ base ρ mh ρ' mh' fl, ex C base (.aug i o m) ρ mh = some (fl, ρ', mh') → ∃ a b, ρ[i]? = some (some (.int a)) ∧ ev C base m ρ mh = some (.int b, mh') ∧ fl = .nx ∧ ρ' = ρ.set i (some (.int (f a b)))) → PS X (.AugAssign (.Name x pos') (opOf o) e pos) (tS G C (.aug i o m)) := fun f hip hex =>
    (ps_aug hN hi hx he hip hf).mono fun D σ H h => by
      obtain ⟨A, ρ, fl, ρ', mh', rfl, S, N, e, q⟩ := h
      obtain ⟨a, b, e1, e2, rfl, rfl⟩ := hex _ _ _ _ _ _ e
      obtain ⟨y, h1, h2⟩ := N.2 i _ e1
      refine ⟨y, h1, tE.go S N e2 fun B z k em SB NB r => ⟨a, b, h2.int_, r.int_, q B k em SB _ (NB.set (rep_int _) i)⟩⟩
  rcases ho with rfl | rfl
  · refine main (fun a b => a + b) ip_add fun base ρ mh ρ' mh' fl e => ?_
    simp only [ex] at e
    split at e
    · rename_i a ha
      split at e
      · rename_i b mh1 hb
        cases e
        exact ⟨a, b, ha, hb, rfl, rfl⟩
      · cases e
    · cases e
  · refine main (fun a b => a - b) ip_sub fun base ρ mh ρ' mh' fl e => ?_
    simp only [ex] at e
    split at e
    · rename_i a ha
      split at e
      · rename_i b mh1 hb
        cases e
        exact ⟨a, b, ha, hb, rfl, rfl⟩
      · cases e
    · cases e
end
end L2.Mi

set_option Elab.async false
set_option linter.all false
set_option maxRecDepth 100000
set_option maxHeartbeats 4000000
/-! Mini11: a call's entry and exit; all defs of a table. -/
namespace L2.Mi
open PySem PySem.Spec PyProof.Rows

/-! ### worlds that hold less -/
structure Les (A B : Wd) (n : Nat) : Prop where
  H : B.H = A.H
  β : ∀ (l : Nat) (a : Addr), l < n → A.β[l]? = some a → B.β[l]? = some a
  liv : ∀ a, B.live a → A.live a
  ex : ∀ a ∈ B.ex, a ∈ A.ex
mutual
theorem Rep.les {G : Gb} {A B : Wd} {n : Nat} (h : Les A B n) : ∀ (x : MV) (v : V), bd n x = true → Rep G A x v → Rep G B x v
  | .non, v, _, r => r
  | .bl b, v, _, r => r
  | .int i, v, _, r => r
  | .str s, v, _, r => r
  | .fn f, v, _, r => r
  | .tup xs, v, d, r => by
    unfold Rep at r ⊢
    unfold bd at d
    obtain ⟨a, vs, e, h1, h2⟩ := r
    exact ⟨a, vs, e, by rw [h.H]; exact h1, Reps.les h xs vs d h2⟩
  | .lst xs, v, d, r => by
    unfold Rep at r ⊢
    unfold bd at d
    obtain ⟨a, vs, e, h1, h2, h3⟩ := r
    exact ⟨a, vs, e, by rw [h.H]; exact h1, ⟨fun z => h2.1 (h.liv a z), fun z => h2.2 (h.ex a z)⟩, Reps.les h xs vs d h3⟩
  | .dct ks ms, v, d, r => by
    unfold Rep at r ⊢
    unfold bd at d
    obtain ⟨a, vs, e, h1, h2, h3, h4⟩ := r
    exact ⟨a, vs, e, by rw [h.H]; exact h1, ⟨fun z => h2.1 (h.liv a z), fun z => h2.2 (h.ex a z)⟩, h3, Reps.les h ms vs d h4⟩
  | .loc l, v, d, r => by
    unfold Rep at r ⊢
    unfold bd at d
    obtain ⟨a, e, h1⟩ := r
    exact ⟨a, e, h.β l a (of_decide_eq_true d) h1⟩
  | .scr ns, v, _, r => by
    unfold Rep at r ⊢
    obtain ⟨a, e, h1⟩ := r
    refine ⟨a, e, ?_⟩
    rcases h1 with ⟨h1, h2⟩ | h1
    · exact .inl ⟨by rw [h.H]; exact h1, fun z => h2.1 (h.liv a z), fun z => h2.2 (h.ex a z)⟩
    · exact .inr h1
theorem Reps.les {G : Gb} {A B : Wd} {n : Nat} (h : Les A B n) : ∀ (xs : List MV) (vs : List V), bds n xs = true → Reps G A xs vs → Reps G B xs vs
  | [], vs, _, r => r
  | x :: xs, vs, d, r => by
    unfold Reps at r ⊢
    unfold bds at d
    rw [Bool.and_eq_true] at d
    obtain ⟨v, t, e, h1, h2⟩ := r
    exact ⟨v, t, e, Rep.les h x v d.1 h1, Reps.les h xs t d.2 h2⟩
end
theorem ORep.les {G : Gb} {A B : Wd} {n : Nat} (h : Les A B n) {o : MO} {a : Addr} (d : obd n o = true) (r : ORep G A o a) : ORep G B o a := by
  cases o with
  | lst xs => obtain ⟨vs, q, r⟩ := r; exact ⟨vs, by rw [h.H]; exact q, Reps.les h _ _ d r⟩
  | dct ks ms => obtain ⟨vs, q, l, r⟩ := r; exact ⟨vs, by rw [h.H]; exact q, l, Reps.les h _ _ d r⟩
  | ins c fs => obtain ⟨Ca, dx, vs, hc, q, r⟩ := r; exact ⟨Ca, dx, vs, hc, by rw [h.H]; exact q, Reps.les h _ _ d r⟩
mutual
theorem Rep.bd {G : Gb} {A : Wd} : ∀ (x : MV) (v : V), Rep G A x v → bd A.β.length x = true
  | .non, v, r => rfl
  | .bl b, v, r => rfl
  | .int i, v, r => rfl
  | .str s, v, r => rfl
  | .fn f, v, r => rfl
  | .scr ns, v, r => rfl
  | .tup xs, v, r => by
    unfold Rep at r
    unfold Mi.bd
    obtain ⟨a, vs, e, h1, h2⟩ := r
    exact Reps.bd xs vs h2
  | .lst xs, v, r => by
    unfold Rep at r
    unfold Mi.bd
    obtain ⟨a, vs, e, h1, h2, h3⟩ := r
    exact Reps.bd xs vs h3
  | .dct ks ms, v, r => by
    unfold Rep at r
    unfold Mi.bd
    obtain ⟨a, vs, e, h1, h2, h3, h4⟩ := r
    exact Reps.bd ms vs h4
  | .loc l, v, r => by
    unfold Rep at r
    unfold Mi.bd
    obtain ⟨a, e, h1⟩ := r
    exact decide_eq_true (List.getElem?_eq_some_iff.mp h1).1
theorem Reps.bd {G : Gb} {A : Wd} : ∀ (xs : List MV) (vs : List V), Reps G A xs vs → bds A.β.length xs = true
  | [], vs, r => rfl
  | x :: xs, vs, r => by
    unfold Reps at r
    unfold bds
    obtain ⟨v, t, e, h1, h2⟩ := r
    rw [Rep.bd x v h1, Reps.bd xs t h2]
    rfl
end
theorem ORep.bd {G : Gb} {A : Wd} {o : MO} {a : Addr} (r : ORep G A o a) : obd A.β.length o = true := by
  cases o with
  | lst xs => obtain ⟨vs, q, r⟩ := r; exact Reps.bd _ _ r
  | dct ks ms => obtain ⟨vs, q, l, r⟩ := r; exact Reps.bd _ _ r
  | ins c fs => obtain ⟨Ca, dx, vs, hc, q, r⟩ := r; exact Reps.bd _ _ r
/-! ### entry -/
abbrev Wd.ent (A : Wd) : Wd := { A with bs := A.mh.length :: A.bs }
theorem les_ent {A : Wd} (n : Nat) : Les A A.ent n := ⟨rfl, fun _ _ _ h => h, fun _ h => h, fun _ h => h⟩
theorem Sim.ent {G : Gb} {A : Wd} (S : Sim G A) : Sim G A.ent where
  len := S.len
  ble := fun b hb => by
    rcases List.mem_cons.mp hb with rfl | hb
    · exact Nat.le_refl _
    · exact S.ble b hb
  top := fun b hb => by
    show b ≤ A.mh.length
    rcases List.mem_cons.mp hb with rfl | hb
    · exact Nat.le_refl _
    · exact S.ble b hb
  obj := fun l o e a q => (S.obj l o e a q).les (les_ent A.β.length) (S.obj l o e a q).bd
  inj := S.inj
  exo := S.exo
  exl := S.exl
  bnd := fun b hb l o hl e => by
    rcases List.mem_cons.mp hb with rfl | hb
    · have hl' : l < A.β.length := by rw [S.len]; exact hl
      have := (S.obj l o e A.β[l] (List.getElem?_eq_getElem hl')).bd
      rw [S.len] at this
      exact this
    · exact S.bnd b hb l o hl e
theorem envs_start {G : Gb} {A : Wd} {args : List MV} {vs : List V} {N : List Str} {ns : Nat} (hN : N.length = ns) (r : Reps G A args vs) : Envs G A (args.map some ++ List.replicate (ns - args.length) none) (L2.start N vs) := by
  have hl := r.len
  refine ⟨by unfold L2.start; simp [hl, hN], fun i v e => ?_⟩
  by_cases hi : i < args.length
  · rw [List.getElem?_append_left (by simpa using hi)] at e
    rw [List.getElem?_map] at e
    cases q : args[i]? with
    | none => rw [q] at e; cases e
    | some x =>
      rw [q] at e
      cases e
      obtain ⟨w, h1, h2⟩ := r.get q
      refine ⟨w, ?_, h2⟩
      unfold L2.start
      rw [List.getElem?_append_left (by rw [List.length_map, ← hl]; exact hi), List.getElem?_map, h1]
      rfl
  · rw [List.getElem?_append_right (by simpa using hi)] at e
    rw [List.getElem?_replicate] at e
    split at e
    · cases e
    · cases e
/-! ### exit -/
abbrev Wd.exi (A B : Wd) : Wd := { B with bs := A.bs }
theorem les_exi {A B : Wd} (n : Nat) : Les B (A.exi B) n := ⟨rfl, fun _ _ _ h => h, fun _ h => h, fun _ h => h⟩
theorem keep_exi {A B : Wd} (k : Keep A.ent B) : Keep A (A.exi B) := ⟨k.ex, k.exn, k.dom, rfl, k.pre, k.obj, k.liv, k.exk⟩
theorem Sim.exi {G : Gb} {A B : Wd} (SA : Sim G A) (S : Sim G B) (k : Keep A.ent B) : Sim G (A.exi B) where
  len := S.len
  ble := fun b hb => S.ble b (by rw [k.bs]; exact List.mem_cons_of_mem _ hb)
  top := fun b hb => SA.top b hb
  obj := fun l o e a q => (S.obj l o e a q).les (les_exi B.β.length) (S.obj l o e a q).bd
  inj := S.inj
  exo := S.exo
  exl := S.exl
  bnd := fun b hb => S.bnd b (by rw [k.bs]; exact List.mem_cons_of_mem _ hb)
abbrev Wd.cutd (A B : Wd) : Wd := { B with bs := A.bs, mh := B.mh.take A.mh.length, β := B.β.take A.mh.length }
theorem take_lt {α : Type} {xs : List α} {n l : Nat} {x : α} (h : (xs.take n)[l]? = some x) : l < n ∧ xs[l]? = some x := by
  rw [List.getElem?_take] at h
  split at h
  · exact ⟨by assumption, h⟩
  · cases h
theorem cutd_live {A B : Wd} {a : Addr} (h : (A.cutd B).live a) : ∃ (l : Nat) (o : MO), l < A.mh.length ∧ B.mh[l]? = some (some o) ∧ B.β[l]? = some a := by
  obtain ⟨l, o, e1, e2⟩ := h
  obtain ⟨h1, h2⟩ := take_lt e1
  obtain ⟨_, h3⟩ := take_lt e2
  exact ⟨l, o, h1, h2, h3⟩
theorem les_cutd {A B : Wd} : Les B (A.cutd B) A.mh.length := ⟨rfl, fun l a hl h => by
    show (B.β.take A.mh.length)[l]? = some a
    rw [List.getElem?_take, if_pos hl]; exact h, fun a z => let ⟨l, o, _, h2, h3⟩ := cutd_live z; ⟨l, o, h2, h3⟩, fun _ h => h⟩
theorem keep_cutd {G : Gb} {A B : Wd} (SA : Sim G A) (S : Sim G B) (k : Keep A.ent B) : Keep A (A.cutd B) := by
  refine ⟨k.ex, k.exn, k.dom, rfl, ⟨[], ?_⟩, k.obj, fun a z => ?_, k.exk⟩
  · obtain ⟨t, e⟩ := k.pre
    show B.β.take A.mh.length = A.β ++ []
    have e' : B.β = A.β ++ t := e
    rw [e', ← SA.len, List.take_left', List.append_nil]
    rfl
  · obtain ⟨l, o, _, h2, h3⟩ := cutd_live z
    exact k.liv a ⟨l, o, h2, h3⟩
theorem ent_len {G : Gb} {A B : Wd} (S : Sim G B) (k : Keep A.ent B) : A.mh.length ≤ B.mh.length := S.ble _ (by rw [k.bs]; simp)
theorem Sim.cutd {G : Gb} {A B : Wd} (SA : Sim G A) (S : Sim G B) (k : Keep A.ent B) : Sim G (A.cutd B) where
  len := by
    show (B.β.take A.mh.length).length = (B.mh.take A.mh.length).length
    rw [List.length_take, List.length_take, S.len]
  ble := fun b hb => by
    show b ≤ (B.mh.take A.mh.length).length
    rw [List.length_take]
    have h1 := ent_len S k
    have h2 := SA.ble b hb
    omega
  top := fun b hb => SA.top b hb
  obj := fun l o e a q => by
    obtain ⟨h1, h2⟩ := take_lt e
    obtain ⟨_, h3⟩ := take_lt q
    exact (S.obj l o h2 a h3).les les_cutd (S.bnd _ (by rw [k.bs]; simp) l o h1 h2)
  inj := fun l l' a o o' e1 e2 q1 q2 => S.inj l l' a o o' (take_lt e1).2 (take_lt e2).2 (take_lt q1).2 (take_lt q2).2
  exo := S.exo
  exl := fun a ha z => S.exl a ha (by obtain ⟨l, o, _, h2, h3⟩ := cutd_live z; exact ⟨l, o, h2, h3⟩)
  bnd := fun b hb l o hl e => S.bnd b (by rw [k.bs]; exact List.mem_cons_of_mem _ hb) l o hl (take_lt e).2
section
variable {G : Gb} {A B : Wd}
mutual
theorem frz_rep (SA : Sim G A) (S : Sim G B) : ∀ (k : Nat) (x x' : MV) (v : V), frz A.mh.length B.mh k x = some x' → Rep G B x v → Rep G (A.cutd B) x' v
  | k, .non, x', v, e, r => by unfold frz at e; cases e; exact r
  | k, .bl b, x', v, e, r => by unfold frz at e; cases e; exact r
  | k, .int i, x', v, e, r => by unfold frz at e; cases e; exact r
  | k, .str s, x', v, e, r => by unfold frz at e; cases e; exact r
  | k, .fn f, x', v, e, r => by unfold frz at e; cases e; exact r
  | k, .scr ns, x', v, e, r => by unfold frz at e; cases e; exact Rep.les les_cutd _ _ rfl r
  | k, .tup xs, x', v, e, r => by
    unfold frz at e
    cases q : frzs A.mh.length B.mh k xs with
    | none => rw [q] at e; exact nomatch e
    | some ys =>
      rw [q] at e; cases e
      unfold Rep at r ⊢
      obtain ⟨a, vs, e1, h1, h2⟩ := r
      exact ⟨a, vs, e1, h1, frzs_rep SA S k xs ys vs q h2⟩
  | k, .lst xs, x', v, e, r => by
    unfold frz at e
    cases q : frzs A.mh.length B.mh k xs with
    | none => rw [q] at e; exact nomatch e
    | some ys =>
      rw [q] at e; cases e
      unfold Rep at r ⊢
      obtain ⟨a, vs, e1, h1, h2, h3⟩ := r
      exact ⟨a, vs, e1, h1, ⟨fun z => h2.1 (les_cutd.liv a z), h2.2⟩, frzs_rep SA S k xs ys vs q h3⟩
  | k, .dct ks ms, x', v, e, r => by
    unfold frz at e
    cases q : frzs A.mh.length B.mh k ms with
    | none => rw [q] at e; exact nomatch e
    | some ys =>
      rw [q] at e; cases e
      unfold Rep at r ⊢
      obtain ⟨a, vs, e1, h1, h2, h3, h4⟩ := r
      have r' := frzs_rep SA S k ms ys vs q h4
      exact ⟨a, vs, e1, h1, ⟨fun z => h2.1 (les_cutd.liv a z), h2.2⟩, by rw [h3, h4.len, r'.len], r'⟩
  | 0, .loc l, x', v, e, r => by
    unfold frz at e
    split at e
    · rename_i hl
      cases e
      exact Rep.les les_cutd _ _ (by unfold Mi.bd; exact decide_eq_true hl) r
    · simp at e
  | k + 1, .loc l, x', v, e, r => by
    unfold frz at e
    split at e
    · rename_i hl
      cases e
      exact Rep.les les_cutd _ _ (by unfold Mi.bd; exact decide_eq_true hl) r
    · rename_i hl
      obtain ⟨a, rfl, e2⟩ := r.loc_
      have off : ∀ {o}, B.mh[l]? = some (some o) → ¬ (A.cutd B).live a ∧ a ∉ (A.cutd B).ex := fun {o} ho => by
        refine ⟨fun z => ?_, fun z => S.exl a z ⟨l, o, ho, e2⟩⟩
        obtain ⟨l', o', h1, h2, h3⟩ := cutd_live z
        have := S.inj l' l a o' o h2 ho h3 e2
        omega
      simp only at e
      split at e
      · rename_i xs ho
        cases q : frzs A.mh.length B.mh k xs with
        | none => rw [q] at e; exact nomatch e
        | some ys =>
          rw [q] at e; cases e
          obtain ⟨vs, e3, r3⟩ := S.obj l _ ho a e2
          unfold Rep
          exact ⟨a, vs, rfl, e3, off ho, frzs_rep SA S k xs ys vs q r3⟩
      · rename_i ks ms ho
        cases q : frzs A.mh.length B.mh k ms with
        | none => rw [q] at e; exact nomatch e
        | some ys =>
          rw [q] at e; cases e
          obtain ⟨vs, e3, hl', r3⟩ := S.obj l _ ho a e2
          have r' := frzs_rep SA S k ms ys vs q r3
          unfold Rep
          exact ⟨a, vs, rfl, .inl e3, off ho, by rw [hl', r3.len, r'.len], r'⟩
      · exact nomatch e
  termination_by k x => (k, sizeOf x)
theorem frzs_rep (SA : Sim G A) (S : Sim G B) : ∀ (k : Nat) (xs ys : List MV) (vs : List V), frzs A.mh.length B.mh k xs = some ys → Reps G B xs vs → Reps G (A.cutd B) ys vs
  | k, [], ys, vs, e, r => by unfold frzs at e; cases e; exact r
  | k, x :: xs, ys, vs, e, r => by
    unfold frzs at e
    unfold Reps at r
    obtain ⟨v, t, rfl, h1, h2⟩ := r
    cases q : frz A.mh.length B.mh k x with
    | none => rw [q] at e; exact nomatch e
    | some y =>
      rw [q] at e
      simp only at e
      cases q2 : frzs A.mh.length B.mh k xs with
      | none => rw [q2] at e; exact nomatch e
      | some ys' =>
        rw [q2] at e; cases e
        unfold Reps
        exact ⟨v, t, rfl, frz_rep SA S k x y v q h1, frzs_rep SA S k xs ys' t q2 h2⟩
  termination_by k xs => (k, sizeOf xs)
end
end
/-- the body of a def keeps the word of runD -/
theorem run_ok {G : Gb} {C : CallF} {d : Df} {N : List Str} {vs : List V} {Q : VK} {A : Wd} {args : List MV} {r : MV} {mh' : MHp} (hN : N.length = d.ns) (S : Sim G A) (ra : Reps G A args vs) (e : runD C d args A.mh = some (r, mh')) (q : Post G A mh' r Q) :
    args.length = d.np ∧ tSs G C d.body { nx := fun _ H' => Q .non H', rt := Q } (L2.start N vs) A.H := by
  unfold runD at e
  split at e
  · rename_i hl
    refine ⟨hl, ?_⟩
    split at e
    · cases e
    rename_i fl ρ' mh1 e1
    split at e
    · cases e
    rename_i v e2
    have SE := S.ent
    refine ⟨A.ent, _, fl, ρ', mh1, rfl, SE, (envs_start hN (Reps.les (les_ent A.β.length) _ _ ra.bd ra) : Envs G A.ent (args.map some ++ List.replicate (d.ns - args.length) none) _), ?_, fun B k em SB => ?_⟩
    · rw [hl]; exact e1
    have fin : ∀ x, Rep G B v x → Q x B.H := fun x rx => by
      split at e
      · cases e
        exact q (A.exi B) x (keep_exi k) em (S.exi SB k) (Rep.les (les_exi B.β.length) _ _ rx.bd rx)
      · simp only [Option.map_eq_some_iff] at e
        obtain ⟨w, e3, e4⟩ := e
        cases e4
        refine q (A.cutd B) x (keep_cutd S SB k) ?_ (S.cutd SB k) ?_
        · show B.mh.take _ = _; rw [em]
        · exact frz_rep S SB 8 v _ x (by rw [em]; exact e3) rx
    cases fl with
    | nx =>
      cases e2
      exact fun σ _ => fin .non rep_non
    | rt w =>
      cases e2
      exact fin
    | bk => cases e2
    | ct => cases e2
  · cases e
theorem _root_.L2.PSs.noxM {X : Cx} {sts : List Stmt} {t : TS} (h : PSs X.nox sts t) : PSs X.nox sts t := h
/-! ### the table -/
structure DefOk (P : Program) (w : World) (K : PySem.W.Frag) (mg : Str → Option Value) (base : Heap) (G : Gb) (T : List Df) (f : Nat) (a : Addr) : Prop where
  ex : ∃ (d : Df) (x qual : Str) (st : Stmt) (fd : FuncData) (N ps : List Str), T[f]? = some d ∧ FunD K x qual (defArgs st) (defBody st) (defScope st) [] [] a fd ∧ FnScope N ps (defScope st) ∧ N.length = d.ns ∧ ps.length = d.np ∧ Binds K fd ps [] ∧
    ∀ (k : Nat) (C : CallF) (cdv : Value) (A : Around) (outer : List PySem.Env) (s : Shared) (H : Hp) (E : XK), (∀ f a, G.fa f = some a → FnC P w K mg base G C k f a) → Room k (A.deeper (envOfC qual (defScope st) s.heap.objs.size a cdv)) →
      PSs (cxOf CX0 P w K mg base N qual (defScope st) a cdv A outer s H E).nox (defBody st) (tSs G C d.body)
theorem fnC_of {P : Program} {w : World} {K : PySem.W.Frag} {mg : Str → Option Value} {base : Heap} {G : Gb} {T : List Df} (h : ∀ f a, G.fa f = some a → DefOk P w K mg base G T f a) : ∀ k f a, G.fa f = some a → FnC P w K mg base G (callM T k) k f a := by
  intro k
  induction k with
  | zero =>
    intro f a hf
    obtain ⟨d, x, qual, st, fd, N, ps, hd, F, S, hN, hp, hb, hbody⟩ := (h f a hf).ex
    refine ⟨fd, ps, ⟨fun vs H Q E q => q.1, fun A outer s H args us vs Q E _ _ _ _ q => ?_⟩, F.kp, hb, fun args mh r e => ?_⟩
    · obtain ⟨_, A, args, r, mh', _, _, _, e, _⟩ := q
      unfold callM at e
      cases e
    · unfold callM at e
      cases e
  | succ k ih =>
    intro f a hf
    obtain ⟨d, x, qual, st, fd, N, ps, hd, F, S, hN, hp, hb, hbody⟩ := (h f a hf).ex
    refine ⟨fd, ps, F.ok S (fun vs H Q E q => q.1) (fun cdv A outer s H vs Q E hr q => ⟨_, (hbody k (callM T k) cdv A outer s H E ih hr).nox, ?_⟩), F.kp, hb, fun args mh r e => ?_⟩
    · obtain ⟨hl, W, args, r, mh', rfl, SW, ra, e, q⟩ := q
      unfold callM at e
      rw [hd] at e
      exact (run_ok hN SW ra e q).2
    · unfold callM at e
      rw [hd] at e
      simp only [runD] at e
      split at e
      · rename_i hl; rw [hl, hp]
      · cases e
end L2.Mi

set_option Elab.async false
set_option linter.all false
set_option maxRecDepth 100000
set_option maxHeartbeats 4000000
/-! Mini12: short words for printed derivations. -/
namespace L2.Mi
open PySem PySem.Spec PyProof.Rows

theorem bt_len : bootBuiltins "len" = some (.builtin "len") := by decide +kernel
theorem bt_abs : bootBuiltins "abs" = some (.builtin "abs") := by decide +kernel
theorem bt_all : bootBuiltins "all" = some (.builtin "all") := by decide +kernel
theorem bt_any : bootBuiltins "any" = some (.builtin "any") := by decide +kernel
theorem bt_sum : bootBuiltins "sum" = some (.builtin "sum") := by decide +kernel
theorem bt_max : bootBuiltins "max" = some (.builtin "max") := by decide +kernel
theorem bt_min : bootBuiltins "min" = some (.builtin "min") := by decide +kernel
theorem bt_isinstance : bootBuiltins "isinstance" = some (.builtin "isinstance") := by decide +kernel
theorem bt_int : bootBuiltins "int" = some (.type "int") := by decide +kernel
theorem bt_str : bootBuiltins "str" = some (.type "str") := by decide +kernel
theorem bt_bool : bootBuiltins "bool" = some (.type "bool") := by decide +kernel
theorem bt_tuple : bootBuiltins "tuple" = some (.type "tuple") := by decide +kernel
theorem bt_list : bootBuiltins "list" = some (.type "list") := by decide +kernel
theorem bt_dict : bootBuiltins "dict" = some (.type "dict") := by decide +kernel
section
variable {G : Gb} {C : CallF} {X : Cx} {pos p : Pos} {e a b c : Expr} {ma mb mc m : ME} {k : Nat}
/-- the i-th name -/
theorem sv (i : Nat) {x : Str} (hN : X.N[i]? = some x := by rfl) (hv : Vis X.env.scope x := by first | exact Or.inl rfl | exact Or.inr (Or.inl rfl) | exact Or.inr (Or.inr rfl)) (hd : (x == ("__debug__" : Str)) = false := by decide)
    (hcd : (x == ("__classdict__" : Str)) = false := by decide) : PE X (.Name x pos) (tE G C (.var i)) := se_var hN hv hd hcd
theorem sgl {x : Str} {i : Int} (hm : ∃ t, X.mg x = some (.int i t)) (hg : Gl X x := by rfl) (hd : (x == ("__debug__" : Str)) = false := by decide) : PE X (.Name x pos) (tE G C (.c (.int i))) := by
  obtain ⟨t, h⟩ := hm
  exact se_glob hg h hd
theorem sfn {x : Str} (f : Nat) {a : Addr} (hm : X.mg x = some (.ref a)) (hf : G.fa f = some a := by rfl) (hg : Gl X x := by rfl) (hd : (x == ("__debug__" : Str)) = false := by decide) : PE X (.Name x pos) (tE G C (.c (.fn f))) := se_fn hg hm hf hd
theorem scall {x : Str} (f : Nat) {fa : Addr} {es : List Expr} {ms : List ME} (F : ∀ f a, G.fa f = some a → FnC X.prog X.w X.K X.mg X.base G C k f a) (hr : Room k X.A) (hm : X.mg x = some (.ref fa)) (ha : PA X (e :: es) (tEs G C ms)) (hf : G.fa f = some fa := by rfl) (hg : Gl X x := by rfl)
    (hdb : (x == ("__debug__" : Str)) = false := by decide) (he : starEach (e :: es) X.env = (false, eval e X.env) :: starEach es X.env := by rfl) (hpl : (backTo pos (starEach es X.env)).any (·.1) = false := by rfl) :
    PE X (.Call (.Name x p) (e :: es) [] pos) (tE G C (.call f ms)) := se_call (F f fa hf) hr hg hm ha hdb he hpl
theorem scallv {x : Str} (i : Nat) {es : List Expr} {ms : List ME} (F : ∀ f fa, G.fa f = some fa → FnC X.prog X.w X.K X.mg X.base G C k f fa) (hr : Room k X.A) (ha : PA X (e :: es) (tEs G C ms)) (hN : X.N[i]? = some x := by rfl) (hv : Vis X.env.scope x := by first | exact Or.inl rfl | exact Or.inr (Or.inl rfl) | exact Or.inr (Or.inr rfl))
    (hdb : (x == ("__debug__" : Str)) = false := by decide) (hcd : (x == ("__classdict__" : Str)) = false := by decide) (he : starEach (e :: es) X.env = (false, eval e X.env) :: starEach es X.env := by rfl) (hpl : (backTo pos (starEach es X.env)).any (·.1) = false := by rfl) :
    PE X (.Call (.Name x p) (e :: es) [] pos) (tE G C (.callv i ms)) := se_callv F hr hN hv ha hdb hcd he hpl
theorem sgn (i : Nat) {x : Str} (hN : X.N.Nodup) (hi : X.N[i]? = some x := by rfl) (hx : Loc X.env.scope x := by first | exact Or.inl rfl | exact Or.inr rfl) (hf : X.fn x = true ∨ X.env.scope.names.lookup x = some .local := by first | exact .inl rfl | exact .inr rfl) : PG X (.Name x pos) (tG G (.nm i)) := sg_name hN hi hx hf
theorem sset (i : Nat) {x : Str} {pos' : Pos} (hN : X.N.Nodup) (he : PE X e (tE G C m)) (hi : X.N[i]? = some x := by rfl) (hx : Loc X.env.scope x := by first | exact Or.inl rfl | exact Or.inr rfl) (hs : swapsWith e (some (.Name x pos')) pos.line X.env = pure false := by rfl) (hf : X.fn x = true ∨ X.env.scope.names.lookup x = some .local := by first | exact .inl rfl | exact .inr rfl) :
    PS X (.Assign [.Name x pos'] e pos) (tS G C (.set (.nm i) m)) := ss_set hN hi hx he hs hf
theorem spar (i j : Nat) {x y : Str} {px py pt : Pos} {kt k2 pt2} (hN : X.N.Nodup) (ha : PE X a (tE G C ma)) (hb : PE X b (tE G C mb)) (hw : swappedStores [.Tuple [.Name x px, .Name y py] kt pt] (.Tuple [a, b] k2 pt2) X.env = pure (some [x, y]))
    (hc : X.calm = true := by rfl) (hi : X.N[i]? = some x := by rfl) (hj : X.N[j]? = some y := by rfl) (hij : i ≠ j := by decide)
    (hx : X.env.scope.names.lookup x = some .local := by rfl) (hy : X.env.scope.names.lookup y = some .local := by rfl) 
    (hs : swapsWithSole [.Tuple [.Name x px, .Name y py] kt pt] (.Tuple [a, b] k2 pt2) pos.line X.env = pure false := by rfl)
    (hs1 : starEach [a, b] X.env = (false, eval a X.env) :: starEach [b] X.env := by rfl) (hs2 : starEach [b] X.env = (false, eval b X.env) :: starEach [] X.env := by rfl) :
    PS X (.Assign [.Tuple [.Name x px, .Name y py] kt pt] (.Tuple [a, b] k2 pt2) pos) (tS G C (.par i j ma mb)) := ss_par hc hN hi hj hij hx hy ha hb hw hs hs1 hs2
theorem saug (i : Nat) {x : Str} {o : Op} {pos' : Pos} (ho : o = .add ∨ o = .sub) (hN : X.N.Nodup) (he : PE X e (tE G C m)) (hi : X.N[i]? = some x := by rfl) (hx : Loc X.env.scope x := by first | exact Or.inl rfl | exact Or.inr rfl) (hf : X.fn x = true ∨ X.env.scope.names.lookup x = some .local := by first | exact .inl rfl | exact .inr rfl) :
    PS X (.AugAssign (.Name x pos') (opOf o) e pos) (tS G C (.aug i o m)) := ss_aug ho hN hi hx he hf
/-! built-ins -/
theorem sb_len (hm : X.mg "len" = none) (hK : X.K = G.K) {es : List Expr} {ms : List ME} (ha : PA X (e :: es) (tEs G C ms)) (hg : Gl X "len" := by rfl) (he : starEach (e :: es) X.env = (false, eval e X.env) :: starEach es X.env := by rfl) (hpl : (backTo pos (starEach es X.env)).any (·.1) = false := by rfl) : PE X (.Call (.Name "len" p) (e :: es) [] pos) (tE G C (.bi .len ms)) := se_biB bi_len (call_len.or call_lenR) hK hg hm bt_len ha (by decide) (by decide) he hpl
theorem sb_abs (hm : X.mg "abs" = none) (hK : X.K = G.K) {es : List Expr} {ms : List ME} (ha : PA X (e :: es) (tEs G C ms)) (hg : Gl X "abs" := by rfl) (he : starEach (e :: es) X.env = (false, eval e X.env) :: starEach es X.env := by rfl) (hpl : (backTo pos (starEach es X.env)).any (·.1) = false := by rfl) : PE X (.Call (.Name "abs" p) (e :: es) [] pos) (tE G C (.bi .abs ms)) := se_biB bi_abs call_abs hK hg hm bt_abs ha (by decide) (by decide) he hpl
theorem sb_all (hm : X.mg "all" = none) (hK : X.K = G.K) {es : List Expr} {ms : List ME} (ha : PA X (e :: es) (tEs G C ms)) (hc : X.calm = true := by rfl) (hg : Gl X "all" := by rfl) (he : starEach (e :: es) X.env = (false, eval e X.env) :: starEach es X.env := by rfl) (hpl : (backTo pos (starEach es X.env)).any (·.1) = false := by rfl) : PE X (.Call (.Name "all" p) (e :: es) [] pos) (tE G C (.bi .all ms)) := se_biB bi_all (cr_all hc) hK hg hm bt_all ha (by decide) (by decide) he hpl
theorem sb_any (hm : X.mg "any" = none) (hK : X.K = G.K) {es : List Expr} {ms : List ME} (ha : PA X (e :: es) (tEs G C ms)) (hc : X.calm = true := by rfl) (hg : Gl X "any" := by rfl) (he : starEach (e :: es) X.env = (false, eval e X.env) :: starEach es X.env := by rfl) (hpl : (backTo pos (starEach es X.env)).any (·.1) = false := by rfl) : PE X (.Call (.Name "any" p) (e :: es) [] pos) (tE G C (.bi .any ms)) := se_biB bi_any (cr_any hc) hK hg hm bt_any ha (by decide) (by decide) he hpl
theorem sb_sum (hm : X.mg "sum" = none) (hK : X.K = G.K) {es : List Expr} {ms : List ME} (ha : PA X (e :: es) (tEs G C ms)) (hc : X.calm = true := by rfl) (hg : Gl X "sum" := by rfl) (he : starEach (e :: es) X.env = (false, eval e X.env) :: starEach es X.env := by rfl) (hpl : (backTo pos (starEach es X.env)).any (·.1) = false := by rfl) : PE X (.Call (.Name "sum" p) (e :: es) [] pos) (tE G C (.bi .sum ms)) := se_biB bi_sum (cr_sum hc) hK hg hm bt_sum ha (by decide) (by decide) he hpl
theorem sb_int (hm : X.mg "int" = none) (hK : X.K = G.K) {es : List Expr} {ms : List ME} (ha : PA X (e :: es) (tEs G C ms)) (hg : Gl X "int" := by rfl) (he : starEach (e :: es) X.env = (false, eval e X.env) :: starEach es X.env := by rfl) (hpl : (backTo pos (starEach es X.env)).any (·.1) = false := by rfl) : PE X (.Call (.Name "int" p) (e :: es) [] pos) (tE G C (.bi .int ms)) := se_biT bi_int call_int1 hK hg hm bt_int ha (by decide) (by decide) he hpl
theorem sb_str (hm : X.mg "str" = none) (hK : X.K = G.K) {es : List Expr} {ms : List ME} (ha : PA X (e :: es) (tEs G C ms)) (hg : Gl X "str" := by rfl) (he : starEach (e :: es) X.env = (false, eval e X.env) :: starEach es X.env := by rfl) (hpl : (backTo pos (starEach es X.env)).any (·.1) = false := by rfl) : PE X (.Call (.Name "str" p) (e :: es) [] pos) (tE G C (.bi .strI ms)) := se_biT bi_strI call_str_int hK hg hm bt_str ha (by decide) (by decide) he hpl
theorem sb_tuple (hm : X.mg "tuple" = none) (hK : X.K = G.K) {es : List Expr} {ms : List ME} (ha : PA X (e :: es) (tEs G C ms)) (hg : Gl X "tuple" := by rfl) (he : starEach (e :: es) X.env = (false, eval e X.env) :: starEach es X.env := by rfl) (hpl : (backTo pos (starEach es X.env)).any (·.1) = false := by rfl) : PE X (.Call (.Name "tuple" p) (e :: es) [] pos) (tE G C (.bi .tuple ms)) := se_biT bi_tuple call_tuple_of hK hg hm bt_tuple ha (by decide) (by decide) he hpl
theorem sb_list (hm : X.mg "list" = none) (hK : X.K = G.K) {es : List Expr} {ms : List ME} (ha : PA X (e :: es) (tEs G C ms)) (hc : X.calm = true := by rfl) (hg : Gl X "list" := by rfl) (he : starEach (e :: es) X.env = (false, eval e X.env) :: starEach es X.env := by rfl) (hpl : (backTo pos (starEach es X.env)).any (·.1) = false := by rfl) : PE X (.Call (.Name "list" p) (e :: es) [] pos) (tE G C (.bi .list ms)) := se_biT bi_list (call_lstC hc) hK hg hm bt_list ha (by decide) (by decide) he hpl
theorem sisi (t : Ty) {y : Str} {p2 : Pos} (hm : X.mg "isinstance" = none) (hm2 : X.mg y = none) (hv2 : bootBuiltins y = some (.type (tyN t))) (hK : X.K = G.K) (ha : PE X e (tE G C m)) (hg : Gl X "isinstance" := by rfl) (hg2 : Gl X y := by rfl)
    (hn2 : y ≠ "__name__" := by decide) (hdb2 : (y == ("__debug__" : Str)) = false := by decide)
    (he : starEach [e, .Name y p2] X.env = (false, eval e X.env) :: starEach [.Name y p2] X.env := by rfl) (hpl : (backTo pos (starEach [.Name y p2] X.env)).any (·.1) = false := by rfl) :
    PE X (.Call (.Name "isinstance" p) [e, .Name y p2] [] pos) (tE G C (.isi m t)) := se_isi hK hg hm bt_isinstance hg2 hm2 hv2 ha (by decide) (by decide) hn2 hdb2 he hpl
/-! methods -/
theorem sm_append {apos cpos : Pos} {es : List Expr} {ms : List ME} (hK : X.K = G.K) (ho : PE X a (tE G C m)) (ha : PA X (e :: es) (tEs G C ms)) (hbase : attributeBase a "append" X.env (eval a X.env) = eval a X.env := by rfl)
    (hfew : ((backTo cpos (starEach (e :: es) X.env)).all (fun x => !x.1) && (backToKw cpos (keywordEach [] X.env)).all (fun x => x.1.isSome)
      && decide ((e :: es).length + ([] : List Keyword).length + (if ([] : List Keyword).isEmpty then 0 else 1) < 30)) = true := by rfl)
    (hline : (apos.endLine == cpos.line) = true := by rfl) (hs : starEach (e :: es) X.env = (false, eval e X.env) :: starEach es X.env := by rfl) (hplain : (backTo cpos (starEach es X.env)).any (·.1) = false := by rfl) :
    PE X (.Call (.Attribute a "append" apos) (e :: es) [] cpos) (tE G C (.meth .append m ms)) := se_meth me_append hK PySem.F.plainAttrs_list PySem.F.slot_list_append PySem.F.type_list_append mt_append ho ha hbase hfew hline hs hplain
theorem sm_extend {apos cpos : Pos} {es : List Expr} {ms : List ME} (hK : X.K = G.K) (ho : PE X a (tE G C m)) (ha : PA X (e :: es) (tEs G C ms)) (hbase : attributeBase a "extend" X.env (eval a X.env) = eval a X.env := by rfl)
    (hfew : ((backTo cpos (starEach (e :: es) X.env)).all (fun x => !x.1) && (backToKw cpos (keywordEach [] X.env)).all (fun x => x.1.isSome)
      && decide ((e :: es).length + ([] : List Keyword).length + (if ([] : List Keyword).isEmpty then 0 else 1) < 30)) = true := by rfl)
    (hline : (apos.endLine == cpos.line) = true := by rfl) (hs : starEach (e :: es) X.env = (false, eval e X.env) :: starEach es X.env := by rfl) (hplain : (backTo cpos (starEach es X.env)).any (·.1) = false := by rfl) :
    PE X (.Call (.Attribute a "extend" apos) (e :: es) [] cpos) (tE G C (.meth .extend m ms)) := se_meth me_extend hK PySem.F.plainAttrs_list PySem.F.slot_list_extend PySem.F.type_list_extend mt_extB ho ha hbase hfew hline hs hplain
theorem sm_pop0 {apos cpos : Pos} (hK : X.K = G.K) (ho : PE X a (tE G C m)) (hbase : attributeBase a "pop" X.env (eval a X.env) = eval a X.env := by rfl) (hline : (apos.endLine == cpos.line) = true := by rfl) :
    PE X (.Call (.Attribute a "pop" apos) [] [] cpos) (tE G C (.meth .pop m [])) := se_meth0 me_pop hK PySem.F.plainAttrs_list PySem.F.slot_list_pop PySem.F.type_list_pop mt_pop ho hbase hline
theorem sm_pop1 {apos cpos : Pos} {es : List Expr} {ms : List ME} (hK : X.K = G.K) (ho : PE X a (tE G C m)) (ha : PA X (e :: es) (tEs G C ms)) (hbase : attributeBase a "pop" X.env (eval a X.env) = eval a X.env := by rfl)
    (hfew : ((backTo cpos (starEach (e :: es) X.env)).all (fun x => !x.1) && (backToKw cpos (keywordEach [] X.env)).all (fun x => x.1.isSome)
      && decide ((e :: es).length + ([] : List Keyword).length + (if ([] : List Keyword).isEmpty then 0 else 1) < 30)) = true := by rfl)
    (hline : (apos.endLine == cpos.line) = true := by rfl) (hs : starEach (e :: es) X.env = (false, eval e X.env) :: starEach es X.env := by rfl) (hplain : (backTo cpos (starEach es X.env)).any (·.1) = false := by rfl) :
    PE X (.Call (.Attribute a "pop" apos) (e :: es) [] cpos) (tE G C (.meth .popAt m ms)) := se_meth me_popAt hK PySem.F.plainAttrs_list PySem.F.slot_list_pop PySem.F.type_list_pop mt_popAt ho ha hbase hfew hline hs hplain
theorem sm_upper {apos cpos : Pos} (hK : X.K = G.K) (ho : PE X a (tE G C m)) (hbase : attributeBase a "upper" X.env (eval a X.env) = eval a X.env := by rfl) (hline : (apos.endLine == cpos.line) = true := by rfl) :
    PE X (.Call (.Attribute a "upper" apos) [] [] cpos) (tE G C (.meth .upper m [])) := se_meth0 me_upper hK PySem.F.plainAttrs_str PySem.F.slot_str_upper PySem.F.type_str_upper mt_upper ho hbase hline
end
end L2.Mi

set_option Elab.async false
set_option linter.all false
set_option maxRecDepth 100000
set_option maxHeartbeats 4000000
/-! Mini13: t[::-1] of a tuple. -/
namespace L2.Mi
open PySem PySem.Spec PyProof.Rows
section
variable {prog : Program} {w : World} {A : Around} {E : Value → Shared → Prop} {s : Shared}
theorem adjust_back (n : Nat) : Builtin.Slice.sliceAdjust none none (-1) (n : Int) = ((n : Int) - 1, -1) := by
  unfold Builtin.Slice.sliceAdjust
  simp
theorem places_back (n : Nat) : Builtin.Slice.slicePlaces ((n : Int) - 1) (-1) (-1) = n := by
  unfold Builtin.Slice.slicePlaces
  simp
  omega
theorem applied_back {sl : Addr} {vk : Value} {n : Nat} {Q : Int × Int × Nat → Shared → Prop} (hs : s.heap.IsSliceOf sl .none .none vk) (pk : IsPart vk (some (-1))) (h : Q ((n : Int) - 1, -1, n) s) :
    wpAny (model prog w) A (Builtin.Slice.sliceApplied (.ref sl) (pure (n : Int))) Q E s := by
  obtain ⟨os, hos, hcs, hds⟩ := id hs
  unfold Builtin.Slice.sliceApplied Builtin.Slice.sliceFields
  refine wpAny_bind (wpAny_bind (wpAny_field hos hds (x := .none) rfl (wpAny_bind (wpAny_field hos hds (x := .none) rfl (wpAny_bind (wpAny_field hos hds (x := vk) rfl (wpAny_pure ?_)))))))
  refine wpAny_bind (HT.slicePart_ pk ?_)
  show wpAny _ _ (if ((-1 : Int) == 0) = true then _ else _) _ _ s
  rw [if_neg (by decide)]
  refine wpAny_bind (HT.slicePart_ .none (wpAny_bind (HT.slicePart_ .none (wpAny_bind (wpAny_pure ?_)))))
  show wpAny _ _ (match Builtin.Slice.sliceAdjust none none (-1) (n : Int) with | (lo, hi) => pure (lo, (-1 : Int), Builtin.Slice.slicePlaces lo hi (-1))) _ _ s
  rw [adjust_back n]
  show wpAny _ _ (pure ((n : Int) - 1, (-1 : Int), Builtin.Slice.slicePlaces ((n : Int) - 1) (-1) (-1))) _ _ s
  rw [places_back]
  exact wpAny_pure h
theorem pick_back (xs : Array Value) : ((List.range xs.size).filterMap fun (m : Nat) => xs[(((xs.size : Int) - 1) + (m : Int) * (-1)).toNat]?).toArray = xs.toList.reverse.toArray := by
  have cong : ∀ {l : List Nat} {f g : Nat → Option Value}, (∀ m ∈ l, f m = g m) → l.filterMap f = l.filterMap g := fun {l f g} h => by
    induction l with
    | nil => rfl
    | cons a l ih => rw [List.filterMap_cons, List.filterMap_cons, h a (by simp), ih fun m hm => h m (List.mem_cons_of_mem _ hm)]
  have e : ((List.range xs.size).filterMap fun (m : Nat) => xs[(((xs.size : Int) - 1) + (m : Int) * (-1)).toNat]?) = ((List.range xs.size).map fun k => xs.size - 1 - k).filterMap (xs[·]?) := by
    rw [List.filterMap_map]
    refine cong fun m hm => ?_
    have : (((xs.size : Int) - 1) + (m : Int) * (-1)).toNat = xs.size - 1 - m := by
      have := List.mem_range.mp hm
      omega
    rw [this]
    rfl
  rw [e, PySem.W.krv_range, List.filterMap_reverse, PySem.W.krv_all]
theorem getItem_back {t sl : Addr} {items : Array Value} {vk : Value} {Q : Value → Shared → Prop} (ht : IsTup s.heap t items) (hs : s.heap.IsSliceOf sl .none .none vk) (pk : IsPart vk (some (-1)))
    (h : Q (.ref s.heap.objs.size) { s with heap := s.heap.push { cls := .type "tuple", data := .seq items.toList.reverse.toArray } }) (hsz : items.size ≤ sizeLine) : wpAny (model prog w) A (getItem (.ref t) (.ref sl)) Q E s := by
  have hok : sizeOk (.seq items.toList.reverse.toArray) := by
    show items.toList.reverse.toArray.size ≤ sizeLine
    rw [List.size_toArray, List.length_reverse, Array.length_toList]
    exact hsz
  obtain ⟨os, hos, hcs, hds⟩ := id hs
  have hTs : s.TypeIs (.ref sl) "slice" := ⟨os, hos, hcs⟩
  unfold getItem
  try with_reducible refine wpAny_holding ?_
  first | refine wpAny_bind (wpAny_pure ?_) | skip
  refine wpAny_bind (wpAny_sequenceKey ht.typeIs (by decide) ?_)
  refine wpAny_bind (wpAny_callSpecial?_slot (name := Str.ofString "__getitem__") ht.typeIs PyProof.Rows.slot_tuple_getitem
    (wpAny_call_entry PyProof.Rows.slot_tuple_getitem ht.typeIs entry_tuple_getitem ?_ (args_tuple_getitem _ _)))
  show wpAny _ _ (Builtin.Tuple.tupleItemsOf (.ref t) >>= _) _ _ s
  refine wpAny_bind (tupleItemsOf_ ht ?_)
  refine wpAny_bind (wpAny_typeOf hTs ?_)
  rw [if_pos (by decide)]
  refine wpAny_bind (applied_back hs pk ?_)
  have hno : ¬ ((((items.size : Int) - 1) == 0 && (-1 : Int) == 1 && items.size == items.size) = true) := by
    have : ((-1 : Int) == 1) = false := by decide
    rw [this]; simp
  show wpAny _ _ (if (((items.size : Int) - 1) == 0 && (-1 : Int) == 1 && items.size == items.size) = true then _ else _) _ _ s
  rw [if_neg hno, pick_back]
  first
    | exact wpAny_bind (m := Builtin.Tuple.tupleExact _) (wpAny_newObj_type (wpAny_pure ⟨_, rfl, wpAny_pure h⟩) hok)
    | exact wpAny_bind (m := Builtin.Tuple.tupleExact _) (wpAny_newObj_type (wpAny_bind (wpAny_pure (wpAny_pure ⟨_, rfl, wpAny_pure h⟩))) hok)
    | exact wpAny_bind (wpAny_bind (m := Builtin.Tuple.tupleExact _) (wpAny_newObj_type (wpAny_pure (wpAny_pure ⟨_, rfl, wpAny_pure h⟩)) hok))
    | exact wpAny_bind (wpAny_bind (m := Builtin.Tuple.tupleExact _) (wpAny_newObj_type (wpAny_pure ⟨_, rfl, wpAny_pure h⟩) hok))
end
section
variable {G : Gb} {C : CallF} {X : Cx} {pos p2 p3 p4 : Pos} {e : Expr} {m : ME} {j}
def tRev (K : PySem.W.Frag) (te : TE) : TE := fun σ H Q => te σ H fun x H1 => ∃ a xs, x = .ref a ∧ SqT K H1 a xs ∧ ∀ p, H1 p = none → Q (.ref p) (upd H1 p (.tup xs.reverse))
theorem pe_rev {te : TE} (he : PE X e te) : PE X (.Subscript e (.Slice none none (some (.UnaryOp .USub (.Constant (.int 1) j p3) p4)) p2) pos) (tRev X.K te) := by
  refine ⟨fun pins s σ H Q I h => ?_⟩
  refine Subscript_ (thn (he.run pins s σ H _ I h) fun v s1 ⟨x, H1, I1, r1, q1⟩ => ?_)
  obtain ⟨a, xs, rfl, hx, q⟩ := q1
  cases r1
  refine wpAny_Slice ?_
  rw [evalPart_none]
  refine wpAny_pure (wpAny_pure ?_)
  refine thn ((po_some (pe_un un_neg (pe_int (i := 1)))).run pins s1 σ H1 (fun k H2 => k = some (-1) ∧ H2 = H1) I1 ⟨1, rfl, -1, rfl, rfl, rfl⟩) fun vk s3 ⟨k, H3, I3, pk, ek, eH⟩ => ?_
  subst ek eH
  have I4 : Inv X pins σ H3 { s3 with heap := s3.heap.push { cls := .type "slice", data := .fields #[.none, .none, vk] } } := I3.kept (t' := s3.toks) fun b ob q => Heap.get?_push_of_some _ q
  obtain ⟨its, r, ht, hz⟩ := I4.tuple hx
  have hlen : its.toArray.size = xs.length := by rw [List.size_toArray]; exact r.length.symm
  show wpAny (model X.prog X.w) X.A (subscriptTail e (.Slice none none _ p2) (.ref a) (.ref s3.heap.objs.size)) (EP X pins σ Q) X.xe { s3 with heap := s3.heap.push { cls := .type "slice", data := .fields #[.none, .none, vk] } }
  refine tail_any (ops := [.ref a, .ref s3.heap.objs.size]) ht.typeIs PyProof.Rows.slot_tuple_getitem.lookup ?_ (by with_unfolding_all rfl)
  refine getItem_back ht (Heap.IsSliceOf.new ..) pk ?_ (by rw [hlen]; exact hz)
  refine ⟨V.ref _, _, I4.laid (t' := s3.toks) (o := .tup xs.reverse) (fun b ob q => Heap.get?_push_of_some _ q) (Nat.le_refl _) ?_, rfl, q _ (I4.hok.fresh (Nat.le_refl _))⟩
  exact ⟨by rw [List.length_reverse]; exact hz, _, r.reverse, IsTup.new _ _⟩
theorem Reps.reverse {W : Wd} {xs : List MV} {vs : List V} (h : Reps G W xs vs) : Reps G W xs.reverse vs.reverse := by
  refine Reps.of (by rw [List.length_reverse, List.length_reverse, h.len]) fun i x v e1 e2 => ?_
  have l1 : i < xs.length := by
    have := (List.getElem?_eq_some_iff.mp e1).1
    simpa using this
  have l2 : i < vs.length := by rw [← h.len]; exact l1
  rw [List.getElem?_reverse l1] at e1
  rw [List.getElem?_reverse l2, ← h.len] at e2
  exact h.at e1 e2
theorem se_rev (hK : X.K = G.K) (he : PE X e (tE G C m)) : PE X (.Subscript e (.Slice none none (some (.UnaryOp .USub (.Constant (.int 1) j p3) p4)) p2) pos) (tE G C (.rev m)) := by
  refine (PE.or' (pe_rev he) (pe_revL he)).mono fun σ H Q h => ?_
  obtain ⟨A, ρ, v, mh', rfl, S, N, e, q⟩ := h
  simp only [ev] at e
  split at e
  · rename_i xs mh1 e1
    cases e
    refine .inl (tE.go S N e1 fun B x k em SB _ r => ?_)
    obtain ⟨a, vs, rfl, h1, h2⟩ := r.tup_
    rw [hK]
    refine ⟨a, vs, rfl, h1, fun p hp => ?_⟩
    have q' := Post.step q k
    rw [← em] at q'
    exact q'.newTup SB h2.reverse hp
  · rename_i xs mh1 e1
    cases e
    refine .inr (tE.go S N e1 fun B x k em SB _ r => ?_)
    obtain ⟨a, vs, rfl, h1, h2⟩ := getL_rep (xs := xs) SB rfl r
    rw [hK]
    refine ⟨a, vs, rfl, SqL.of h1, fun p hp => ?_⟩
    have q' := Post.step q k
    rw [← em] at q'
    exact q'.newLst SB h2.reverse hp
  · cases e
end
end L2.Mi

set_option Elab.async false
set_option linter.all false
set_option maxRecDepth 100000
set_option maxHeartbeats 4000000
/-! Mini14: the law itself. -/
namespace L2.Mi
open PySem PySem.Spec PyProof.Rows
theorem fnOk_of {P : Program} {w : World} {K : PySem.W.Frag} {mg : Str → Option Value} {base : Heap} {G : Gb} {T : List Df} {k f : Nat} {a : Addr} {d : Df} {x qual : Str} {st : Stmt} {fd : FuncData} {N ps : List Str}
    (ih : ∀ f a, G.fa f = some a → FnC P w K mg base G (callM T k) k f a) (hd : T[f]? = some d) (F : FunD K x qual (defArgs st) (defBody st) (defScope st) [] [] a fd) (S : FnScope N ps (defScope st)) (hN : N.length = d.ns)
    (hbody : ∀ (k : Nat) (C : CallF) (cdv : Value) (A : Around) (outer : List PySem.Env) (s : Shared) (H : Hp) (E : XK), (∀ f a, G.fa f = some a → FnC P w K mg base G C k f a) → Room k (A.deeper (envOfC qual (defScope st) s.heap.objs.size a cdv)) →
      PSs (cxOf CX0 P w K mg base N qual (defScope st) a cdv A outer s H E).nox (defBody st) (tSs G C d.body)) : FnOk P w K mg base CX0 (k + 1) a fd ps (spC G (callM T (k + 1)) f ps.length) := by
  refine F.ok S (fun vs H Q E q => q.1) (fun cdv A outer s H vs Q E hr q => ⟨_, (hbody k (callM T k) cdv A outer s H E ih hr).nox, ?_⟩)
  obtain ⟨hl, W, args, r, mh', rfl, SW, ra, e, q⟩ := q
  unfold callM at e
  rw [hd] at e
  exact (run_ok hN SW ra e q).2
theorem scr_noH {K : PySem.W.Frag} {H : Hp} {a : Addr} {xs : List V} (h : SqL K H a xs) : Rd H a (.lst xs) ∨ SqL K noH a xs := by
  rcases h with h | h
  · exact .inl h
  · exact .inr (.inr h)
/-- the law's promise -/
theorem sp_law {G : Gb} {C : CallF} {f : Nat} {mh' : MHp} {H : Hp} {a : Addr} {ns : List Int} (e : C f [.scr ns] [] = some (.bl true, mh')) (h : SqL G.K H a (ns.map V.int)) {E : XK} : spC G C f 1 [.ref a] H (fun v _ => v = .bl true) E := by
  refine ⟨rfl, ⟨H, [], [], [], []⟩, [.scr ns], .bl true, mh', rfl, ?_, ?_, e, fun B x _ _ _ r => r.bl_⟩
  · exact ⟨rfl, fun b hb => by simp at hb, fun b hb => by simp at hb, fun l o e => by simp at e, fun l l' a o o' e => by simp at e, fun a ha => by simp at ha, fun a ha => by simp at ha, fun b hb => by simp at hb⟩
  · refine Reps.one ?_
    unfold Rep
    refine ⟨a, rfl, ?_⟩
    rcases scr_noH h with h | h
    · refine .inl ⟨h, fun z => ?_, fun z => by simp at z⟩
      obtain ⟨l, o, e, _⟩ := z
      simp at e
    · exact .inr h
end L2.Mi

set_option Elab.async false
set_option linter.all false
set_option maxRecDepth 100000
set_option maxHeartbeats 4000000
/-! Mini15: sorted of whole numbers. -/
namespace L2.Mi
open PySem PySem.Spec PyProof.Rows
theorem sort_uniq {l m : List Int} (h1 : l.Pairwise (· ≤ ·)) (h2 : m.Pairwise (· ≤ ·)) (p : l.Perm m) : l = m := List.Perm.eq_of_pairwise (fun a b _ _ x y => Int.le_antisymm x y) h1 h2 p
theorem bt_sorted : bootBuiltins "sorted" = some (.builtin "sorted") := by decide +kernel
section
variable {G : Gb} {C : CallF} {X : Cx} {pos p : Pos} {e : Expr}
theorem sb_max (hm : X.mg "max" = none) (hK : X.K = G.K) {es : List Expr} {ms : List ME} (ha : PA X (e :: es) (tEs G C ms)) (hc : X.calm = true := by rfl) (hg : Gl X "max" := by rfl) (he : starEach (e :: es) X.env = (false, eval e X.env) :: starEach es X.env := by rfl) (hpl : (backTo pos (starEach es X.env)).any (·.1) = false := by rfl) : PE X (.Call (.Name "max" p) (e :: es) [] pos) (tE G C (.bi .max ms)) := se_biB bi_max (cr_max hc) hK hg hm bt_max ha (by decide) (by decide) he hpl
theorem sb_min (hm : X.mg "min" = none) (hK : X.K = G.K) {es : List Expr} {ms : List ME} (ha : PA X (e :: es) (tEs G C ms)) (hc : X.calm = true := by rfl) (hg : Gl X "min" := by rfl) (he : starEach (e :: es) X.env = (false, eval e X.env) :: starEach es X.env := by rfl) (hpl : (backTo pos (starEach es X.env)).any (·.1) = false := by rfl) : PE X (.Call (.Name "min" p) (e :: es) [] pos) (tE G C (.bi .min ms)) := se_biB bi_min ((cr_min hc).or (call_min2 hc)) hK hg hm bt_min ha (by decide) (by decide) he hpl
end
end L2.Mi

set_option Elab.async false
set_option linter.all false
set_option maxRecDepth 100000
set_option maxHeartbeats 4000000
/-! Mini16: sorted of tuples of whole numbers, the first of them empty. -/
namespace L2.Mi
open PySem PySem.Spec PyProof.Rows
section
variable {M : Model} {A : Around} {E : Value → Shared → Prop} {s : Shared}
theorem mapM_to {α β : Type} {f : α → Sem β} {g : α → β} : ∀ (l : List α) {Q : List β → Shared → Prop}, (∀ v ∈ l, ∀ (Q' : β → Shared → Prop), Q' (g v) s → wpAny M A (f v) Q' E s) → Q (l.map g) s → wpAny M A (l.mapM f) Q E s
  | [], _, _, h => by rw [List.mapM_nil]; exact wpAny_pure h
  | x :: l, Q, hf, h => by
    rw [List.mapM_cons]
    exact wpAny_bind (hf x (.head _) _ (wpAny_bind (mapM_to l (g := g) (Q := fun bs s' => wpAny M A (pure (g x :: bs)) Q E s') (fun v hv => hf v (.tail _ hv)) (wpAny_pure h))))
/-- the first item of the tuple at v -/
def fst0 (h : Heap) (v : Value) : Option Value := match v with
  | .ref a => match h.get? a with
    | some o => match o.data with
      | .seq its _ => its[0]?
      | _ => none
    | none => none
  | _ => none
/-- v is a tuple with these numbers -/
def IsTI (h : Heap) (v : Value) (ns : List Int) : Prop := ∃ (a : Addr) (its : Array Value), v = .ref a ∧ IsTup h a its ∧ IntsAre its.toList ns
theorem IsTI.type {h : Heap} {v : Value} {ns : List Int} (x : IsTI h v ns) : PySem.W.Looks M h (typeOf v) (.type "tuple") := by
  obtain ⟨a, its, rfl, ⟨o, ho, hc, n, hd⟩, _⟩ := x
  have z : PySem.W.Looks M h (typeOf (.ref a)) o.cls := (PySem.W.Looks.ld ho).andThen .now
  rw [hc] at z
  exact z
theorem kind_t0 {prog : Program} {w : World} {vs : List Value} {k : Value → List Int} {Q : SortKind → Shared → Prop} (h2 : 2 ≤ vs.length) (hv : ∀ v ∈ vs, IsTI s.heap v (k v)) (h0 : ∀ v, vs.head? = some v → k v = []) (h : Q oneType' s) : wpAny (model prog w) A (keyKind' vs.toArray) Q E s := by
  obtain ⟨v₁, v₂, rest, rfl⟩ : ∃ v₁ v₂ rest, vs = v₁ :: v₂ :: rest := by
    match vs, h2 with
    | [], h2 => simp at h2
    | [_], h2 => simp at h2
    | v₁ :: v₂ :: rest, _ => exact ⟨v₁, v₂, rest, rfl⟩
  have hf : fst0 s.heap v₁ = none := by
    obtain ⟨a, its, rfl, ⟨o, ho, hc, n, hd⟩, hi⟩ := hv v₁ (by simp)
    rw [h0 _ rfl] at hi
    have : its.toList = [] := by cases hq : its.toList with
      | nil => rfl
      | cons => rw [hq] at hi; cases hi
    unfold fst0
    simp only [ho, hd]
    have hz : its.size = 0 := by rw [← Array.length_toList, this]; rfl
    exact Array.getElem?_eq_none (by omega)
  rw [keyKind'_eq, List.mapM_toArray, map_eq_pure_bind]
  refine wpAny_bind (wpAny_bind (mapM_to (g := fst0 s.heap) _ (fun v hm Q' hq => ?_) (wpAny_pure ?_)))
  · have ty := (hv v hm).type (M := model prog w)
    obtain ⟨a, its, rfl, ⟨o, ho, hc, n, hd⟩, hi⟩ := hv v hm
    rw [PySem.W.kas_first_eq]
    refine wpAny_bind (ty.here ?_)
    rw [if_neg (by decide)]
    refine wpAny_bind (wpAny_listItems ho hd (wpAny_pure ?_))
    unfold fst0 at hq
    simp only [ho, hd] at hq
    exact hq
  · have e1 : (List.map (fst0 s.heap) (v₁ :: v₂ :: rest)).toArray.all (fun x => x.isSome) = false := by simp [hf]
    have e2 : ((List.map (fst0 s.heap) (v₁ :: v₂ :: rest)).toArray[0]?.bind id).isSome = false := by simp [hf]
    rw [if_neg (by rw [e1]; exact Bool.false_ne_true), if_neg (by rw [e2]; exact Bool.false_ne_true)]
    rw [oneTypeOnly'_eq, List.mapM_toArray, map_eq_pure_bind]
    refine wpAny_bind (wpAny_bind (wpAny_bind (PySem.W.kas_mapM (r := Value.type "tuple") _ (fun v hm Q' hq => ((hv v hm).type (M := model prog w)).here hq) (wpAny_pure ?_))))
    have hall : ((List.map (fun _ => Value.type "tuple") (v₁ :: v₂ :: rest)).toArray.all fun x => x == Value.type "tuple") = true := by
      simp only [List.all_toArray, List.all_map, List.all_eq_true]
      intro _ _
      rfl
    have h0' : (List.map (fun _ => Value.type "tuple") (v₁ :: v₂ :: rest)).toArray[0]? = some (Value.type "tuple") := by simp
    rw [h0']
    simp only [hall, if_true]
    exact wpAny_pure (wpAny_pure h)
end
section
variable {prog : Program} {w : World} {A : Around} {E : Value → Shared → Prop} {s : Shared}
theorem lt_ti {v u : Value} {ns ms : List Int} {Q : Bool → Shared → Prop} (hu : A.units < cLine) (hv : IsTI s.heap v ns) (hw : IsTI s.heap u ms) (h : Q (HT.lexLt ns ms) s) : wpAny (model prog w) A (keyLt' oneType' v u) Q E s := by
  have tv := hv.type (M := model prog w)
  have sp : PySem.W.Looks (model prog w) s.heap (specialOf v "__lt__") (some (.builtin "tuple.__lt__")) := tv.andThen (PySem.W.Looks.of_pure PySem.F.slot_tuple_lt.lookup)
  obtain ⟨a, its, rfl, ta, ia⟩ := hv
  obtain ⟨b, its2, rfl, tb, ib⟩ := hw
  obtain ⟨⟨cls, dd, data, sl⟩, ho, hc, n, hd⟩ := id ta
  obtain ⟨⟨cls2, dd2, data2, sl2⟩, ho2, hc2, n2, hd2⟩ := id tb
  simp only at hc hd hc2 hd2
  subst hc hd hc2 hd2
  rw [keyLt'_oneType, oneLt'_eq]
  simp only [if_true]
  refine wpAny_bind (wpAny_cRoomFor hu ?_)
  refine wpAny_bind (NtL.csib (E := E) sp (PySem.F.slot_tuple_lt.bind _) ?_)
  exact call_meets PySem.F.slot_tuple_lt ⟨_, ho, rfl⟩ PySem.F.entry_tuple_lt (PySem.F.args_tuple_lt_2 _ _) (HT.tuple_lt_ints a b its its2 n n2 dd dd2 sl sl2 ns ms ia ib) ⟨ho, ho2, wpAny_truthy_bool h⟩
end
/-- sorted(xs), tuples of ints in order already, the first of them empty: a new list of the same -/
def rSortedT0 (K : PySem.W.Frag) : List V → Hp → VK → Prop := fun vs H Q => ∃ (a : Addr) (xs : List V) (k : V → List Int), vs = [V.ref a] ∧ SqL K H a xs ∧ (∀ x ∈ xs, ∃ t, x = V.ref t ∧ SqT K H t ((k x).map V.int)) ∧
  (∀ x, xs.head? = some x → k x = []) ∧ xs.Pairwise (fun x y => HT.lexLt (k y) (k x) = false) ∧ ∀ p, H p = none → Q (.ref p) (upd H p (.lst xs))
theorem cr_sortedT0 {X : Cx} (hu : X.A.units + 64 < cLine) : CallR X (.builtin "sorted") (rSortedT0 X.K) := by
  intro pins s σ H vs us Q I r h
  obtain ⟨a, xs, k, rfl, hs, hx, h0, hp, q⟩ := h
  obtain ⟨its, rv, hl, hz⟩ := I.list hs
  obtain ⟨u, rfl, ru⟩ := vals1 r
  obtain rfl : u = Value.ref a := ru
  obtain ⟨e1, e2⟩ := refs_back rv fun x m => by
    obtain ⟨t, e, _⟩ := hx x m
    exact ⟨t, e⟩
  have hti : ∀ v ∈ its, IsTI s.heap v (k (backV v)) := fun v hv => by
    obtain ⟨t, rfl⟩ := e2 v hv
    have hm : V.ref t ∈ xs := by rw [e1]; exact List.mem_map.mpr ⟨_, hv, rfl⟩
    obtain ⟨t', e, ht⟩ := hx _ hm
    cases e
    obtain ⟨its2, r2, ht2, _⟩ := I.tuple ht
    exact ⟨t, its2.toArray, rfl, ht2, by show IntsAre its2.toArray.toList (k (V.ref t)); simpa using intsAre_of r2⟩
  have keeps : ∀ {h' : Heap} {v : Value} {ns : List Int}, (∀ b o, s.heap.get? b = some o → h'.get? b = some o) → IsTI s.heap v ns → IsTI h' v ns := fun {h' v ns} kk x => by
    obtain ⟨b, it, rfl, ⟨o, ho, hc, n, hd⟩, hi⟩ := x
    exact ⟨b, it, rfl, ⟨o, kk _ _ ho, hc, n, hd⟩, hi⟩
  refine SrtO.sorted_ord (NtL.swo_lexL fun u => k (backV u)) hl.isList (by rw [← rv.length]; exact hz) (fun h2 h₁ a' ha kk h' keep => ?_) fun out h1 h2 => ?_
  · have hti' : ∀ v ∈ its, IsTI h' v (k (backV v)) := fun v hv => keeps (fun b o e => by
      obtain ⟨hne, e'⟩ := kk b o e
      exact keep b o hne e') (hti v hv)
    refine ⟨oneType', fun Q' E' hq => kind_t0 (s := { s with heap := h' }) (k := fun v => k (backV v)) h2 hti' (fun v hv => ?_) hq, fun p q' hp' hq' => ?_⟩
    · refine h0 _ ?_
      rw [e1, List.head?_map, hv]
      rfl
    · exact lt_ti (s := { s with heap := h' }) (Q := fun r s' => s' = { s with heap := h' } ∧ r = HT.lexLt (k (backV p.1)) (k (backV q'.1))) (E := fun _ _ => False) (by show X.A.in1.in1.units < cLine; simp only [Around.in1]; omega) (hti' p.1 hp') (hti' q'.1 hq') ⟨rfl, rfl⟩
  · have hin : SrtO.Srtd (fun v u => HT.lexLt (k (backV v)) (k (backV u))) its := by
      have : (its.map backV).Pairwise (fun x y => HT.lexLt (k y) (k x) = false) := by rw [← e1]; exact hp
      exact (List.pairwise_map.mp this)
    have eo : out = its := SrtO.stb_uniq (NtL.swo_lexL fun u => k (backV u)) h1 hin h2
    subst eo
    obtain ⟨ep, he'⟩ := PyProof.Rows.sortedAll_at s.heap out out.toArray
    exact ⟨.ref _, upd H (s.heap.objs.size + 1) (.lst xs), I.laid (t' := s.toks) (fun _ _ => PyProof.Rows.sortedAll_old) (Nat.le_succ _) ⟨hz, out, ep, rv, he'⟩, rfl, q _ (I.hok.fresh (Nat.le_succ _))⟩
/-- the same, the numbers told place by place -/
def rSortedT1 (K : PySem.W.Frag) : List V → Hp → VK → Prop := fun vs H Q => ∃ (a : Addr) (xs : List V) (nss : List (List Int)), vs = [V.ref a] ∧ SqL K H a xs ∧ xs.length = nss.length ∧ (∀ (i : Nat) (x : V) (ns : List Int), xs[i]? = some x → nss[i]? = some ns → ∃ t, x = V.ref t ∧ SqT K H t (ns.map V.int)) ∧
  nss.head? = some [] ∧ nss.Pairwise (fun x y => HT.lexLt y x = false) ∧ ∀ p, H p = none → Q (.ref p) (upd H p (.lst xs))
theorem map_int_inj : ∀ {a b : List Int}, a.map V.int = b.map V.int → a = b
  | [], [], _ => rfl
  | [], _ :: _, h => by simp at h
  | _ :: _, [], h => by simp at h
  | x :: a, y :: b, h => by
    simp only [List.map_cons, List.cons.injEq] at h
    obtain ⟨h1, h2⟩ := h
    cases h1
    rw [map_int_inj h2]
open Classical in
theorem cr_sortedT1 {X : Cx} (hu : X.A.units + 64 < cLine) : CallR X (.builtin "sorted") (rSortedT1 X.K) := by
  intro pins s σ H vs us Q I r h
  obtain ⟨a, xs, nss, rfl, hs, hl, hx, h0, hp, q⟩ := h
  let k : V → List Int := fun x => if h : ∃ ns : List Int, ∃ t, x = V.ref t ∧ SqT X.K H t (ns.map V.int) then Classical.choose h else []
  have hk : ∀ (x : V) (ns : List Int), (∃ t, x = V.ref t ∧ SqT X.K H t (ns.map V.int)) → k x = ns := fun x ns hh => by
    have ex : ∃ ns : List Int, ∃ t, x = V.ref t ∧ SqT X.K H t (ns.map V.int) := ⟨ns, hh⟩
    obtain ⟨t, rfl, ht⟩ := hh
    obtain ⟨t', e, ht'⟩ := Classical.choose_spec ex
    cases e
    have : k (V.ref t) = Classical.choose ex := dif_pos ex
    rw [this]
    exact map_int_inj (I.tuple_inj ht' ht)
  have hm : xs.map k = nss := by
    apply List.ext_getElem?
    intro i
    rw [List.getElem?_map]
    by_cases hi : i < xs.length
    · have e1 : xs[i]? = some xs[i] := List.getElem?_eq_getElem hi
      have hi2 : i < nss.length := by rw [← hl]; exact hi
      have e2 : nss[i]? = some nss[i] := List.getElem?_eq_getElem hi2
      rw [e1, e2, Option.map_some, hk _ _ (hx i _ _ e1 e2)]
    · rw [List.getElem?_eq_none (by omega), List.getElem?_eq_none (by omega)]; rfl
  refine cr_sortedT0 hu pins s σ H [V.ref a] us Q I r ⟨a, xs, k, rfl, hs, fun x hxm => ?_, fun x hh => ?_, ?_, q⟩
  · obtain ⟨i, hi⟩ := List.mem_iff_getElem?.mp hxm
    have hi1 := (List.getElem?_eq_some_iff.mp hi).1
    have e2 : nss[i]? = some nss[i] := List.getElem?_eq_getElem (by rw [← hl]; exact hi1)
    obtain ⟨t, e, ht⟩ := hx i _ _ hi e2
    exact ⟨t, e, by rw [hk _ _ ⟨t, e, ht⟩]; exact ht⟩
  · rw [← hm, List.head?_map, hh] at h0
    exact Option.some.inj h0
  · rw [← hm] at hp
    exact List.pairwise_map.mp hp
def rSortedDS : List V → Hp → VK → Prop := fun xs H Q => ∃ (a : Addr) (kvs : List (Key × V)) (ks : List Str), xs = [.ref a] ∧ Rd H a (.dK kvs) ∧ kvs.map (·.1) = ks.map Sum.inr ∧ ks.length < 64 ∧
    ∀ ys p, ys.Perm ks → sortedS ys = true → H p = none → Q (.ref p) (upd H p (.lst (ys.map V.str)))
def rSortedB (K : PySem.W.Frag) : List V → Hp → VK → Prop := fun vs H Q => L2.rSortedI K vs H Q ∨ rSortedT1 K vs H Q ∨ rSortedS K vs H Q ∨ rSortedDS vs H Q
/-! the order of texts -/
theorem sx_le_trans {a b c : Sx} (h : a ≤ b) (h' : b ≤ c) : a ≤ c := List.le_trans h h'
theorem sx_le_anti {a b : Sx} (h : a ≤ b) (h' : b ≤ a) : a = b := List.le_antisymm h h'
theorem sx_le_total (a b : Sx) : a ≤ b ∨ b ≤ a := List.le_total a b
theorem sortS_pair (xs : List Sx) : (sortS xs).Pairwise (· ≤ ·) := by
  have := List.pairwise_mergeSort (le := fun a b : Sx => decide (a ≤ b)) (fun a b c x y => by simp only [decide_eq_true_eq] at x y ⊢; exact sx_le_trans x y) (fun a b => by simp only [Bool.or_eq_true, decide_eq_true_eq]; exact sx_le_total a b) xs
  exact this.imp fun {a b} z => of_decide_eq_true z
theorem risingS_pair : ∀ (p : Str) (l : List Str), risingS p l = true → (∀ x ∈ l, p.cps.toList ≤ x.cps.toList) ∧ l.Pairwise fun a b => a.cps.toList ≤ b.cps.toList
  | p, [], _ => ⟨fun x h => by simp at h, .nil⟩
  | p, x :: r, h => by
    have h' : (!ltCps x.cps.toList p.cps.toList && risingS x r) = true := h
    rw [Bool.and_eq_true, PyProof.Rows.ltCps_eq] at h'
    obtain ⟨h1, h2⟩ := risingS_pair x r h'.2
    have h3 : p.cps.toList ≤ x.cps.toList := by
      have := h'.1
      simp only [Bool.not_eq_true', decide_eq_false_iff_not] at this
      exact this
    refine ⟨fun y hy => ?_, List.pairwise_cons.mpr ⟨h1, h2⟩⟩
    rcases List.mem_cons.mp hy with rfl | hy
    · exact h3
    · exact sx_le_trans h3 (h1 y hy)
theorem sortedS_pair : ∀ (l : List Str), sortedS l = true → l.Pairwise fun a b => a.cps.toList ≤ b.cps.toList
  | [], _ => .nil
  | x :: r, h => List.pairwise_cons.mpr (risingS_pair x r h)
theorem sortS_of {ys : List Str} {ss : List Sx} (hp : ys.Perm (ss.map fun s => (⟨s.toArray⟩ : Str))) (hs : sortedS ys = true) : ys = (sortS ss).map fun s => (⟨s.toArray⟩ : Str) := by
  have h1 : (ys.map fun y => y.cps.toList).Perm ss := by
    have := hp.map fun y : Str => y.cps.toList
    rw [List.map_map] at this
    have e : (ss.map ((fun y : Str => y.cps.toList) ∘ fun s => (⟨s.toArray⟩ : Str))) = ss := by
      have : ((fun y : Str => y.cps.toList) ∘ fun s : Sx => (⟨s.toArray⟩ : Str)) = id := by funext s; simp
      rw [this, List.map_id]
    rw [e] at this
    exact this
  have h2 : (ys.map fun y => y.cps.toList) = sortS ss := by
    refine List.Perm.eq_of_pairwise (le := (· ≤ ·)) (fun a b _ _ x y => sx_le_anti x y) ?_ (sortS_pair ss) (h1.trans (List.mergeSort_perm ss _).symm)
    exact List.pairwise_map.mpr (sortedS_pair ys hs)
  rw [← h2, List.map_map]
  have : ((fun s : Sx => (⟨s.toArray⟩ : Str)) ∘ fun y : Str => y.cps.toList) = id := by
    funext y
    exact str_toList_eq (by simp)
  rw [this, List.map_id]
theorem Reps.strOf {G : Gb} {A : Wd} : ∀ {xs : List MV} {vs : List V} {ss : List Sx}, Reps G A xs vs → xs.mapM strOf = some ss → vs = ss.map fun s => V.str ⟨s.toArray⟩
  | [], vs, ss, h, e => by
    unfold Reps at h
    simp at e
    subst e h
    rfl
  | x :: xs, vs, ss, h, e => by
    unfold Reps at h
    obtain ⟨v, r, rfl, h1, h2⟩ := h
    simp only [List.mapM_cons, Option.bind_eq_bind, Option.bind_eq_some_iff] at e
    obtain ⟨b, e1, cs, e2, e3⟩ := e
    cases x with
    | str s =>
      cases e1
      cases e3
      rw [h1.str_, Reps.strOf h2 e2]
      rfl
    | _ => exact absurd e1 (by simp [Mi.strOf])
theorem Reps.strs {G : Gb} {A : Wd} : ∀ ss : List Sx, Reps G A (ss.map .str) (ss.map fun s => V.str ⟨s.toArray⟩)
  | [] => by unfold Reps; rfl
  | s :: ss => by rw [List.map_cons, List.map_cons]; unfold Reps; exact ⟨_, _, rfl, rep_str s, Reps.strs ss⟩
theorem keys_str : ∀ {ks : List MKey} {ss : List Sx}, (ks.map kM).mapM strOf = some ss → ks.map kOf = (ss.map fun s => (⟨s.toArray⟩ : Str)).map Sum.inr
  | [], ss, e => by simp at e; subst e; rfl
  | k :: ks, ss, e => by
    rw [List.map_cons] at e
    simp only [List.mapM_cons, Option.bind_eq_bind, Option.bind_eq_some_iff] at e
    obtain ⟨b, e1, cs, e2, e3⟩ := e
    cases e3
    cases k with
    | inl i => cases e1
    | inr s =>
      cases e1
      rw [List.map_cons, keys_str e2]
      rfl
theorem cr_sortedB {X : Cx} (hc : X.calm = true) (hu : X.A.units + 65 < cLine) : CallR X (.builtin "sorted") (rSortedB X.K) := CallR.or L2.cr_sortedI (CallR.or (cr_sortedT1 (by omega)) (CallR.or cr_sortedS (call_sortedD hc)))
theorem mapM_at {α β : Type} {f : α → Option β} : ∀ {xs : List α} {ys : List β}, xs.mapM f = some ys → xs.length = ys.length ∧ ∀ (i : Nat) x y, xs[i]? = some x → ys[i]? = some y → f x = some y
  | [], ys, h => by
    simp at h
    subst h
    exact ⟨rfl, fun i x y e => by simp at e⟩
  | a :: xs, ys, h => by
    simp only [List.mapM_cons, Option.bind_eq_bind, Option.bind_eq_some_iff] at h
    obtain ⟨b, e1, bs, e2, e3⟩ := h
    cases e3
    obtain ⟨l, r⟩ := mapM_at e2
    refine ⟨by simp [l], fun i x y h1 h2 => ?_⟩
    cases i with
    | zero => simp at h1 h2; subst h1 h2; exact e1
    | succ i => simp only [List.getElem?_cons_succ] at h1 h2; exact r i x y h1 h2
theorem bi_sorted : BiS .sorted rSortedB := by
  intro G A xs v vs Q S e r h
  obtain ⟨x, hx, e'⟩ := one1_some e
  subst hx
  replace e := e'
  clear e'
  obtain ⟨w, rfl, rx⟩ := r.one_
  unfold sortedV at e
  split at e
  · split at e
    · cases e
    rename_i d hd
    split at e
    · rename_i ss hss
      split at e
      · rename_i h64
        cases e
        obtain ⟨ks, ms⟩ := d
        obtain ⟨a, ws, rfl, hH, hl, rr⟩ := getD_rep S hd rx
        refine .inr (.inr (.inr ⟨a, _, ss.map fun s => (⟨s.toArray⟩ : Str), rfl, hH, ?_, by rw [List.length_map]; exact h64, fun zs p hp hs hq => ?_⟩))
        · rw [← keys_str hss]
          exact List.map_fst_zip (by rw [List.length_map, hl, rr.len]; exact Nat.le_refl _)
        · rw [sortS_of hp hs, List.map_map]
          exact h.newLst S (Reps.strs _) hq
      · cases e
    · cases e
  rename_i ys hy
  obtain ⟨a, ws, rfl, hH, rr⟩ := getL_rep S hy rx
  split at e
  · rename_i ns hn
    cases e
    have hv := rr.intOf hn
    subst hv
    refine .inl ⟨a, ns, rfl, SqL.of hH, fun ns' p perm rising hp => ?_⟩
    have e2 : ns' = ns.mergeSort fun a b => decide (a ≤ b) := by
      refine sort_uniq rising ?_ (perm.trans (List.mergeSort_perm ns _).symm)
      have := List.pairwise_mergeSort (le := fun a b : Int => decide (a ≤ b)) (fun a b c x y => by simp at x y ⊢; omega) (fun a b => by simp; omega) ns
      exact this.imp fun {a b} z => of_decide_eq_true z
    rw [e2]
    exact h.newLst S Reps.map_int hp
  · split at e
    · rename_i nss hn
      split at e
      · rename_i hc
        cases e
        obtain ⟨ml, ma⟩ := mapM_at hn
        refine .inr (.inl ⟨a, ws, nss, rfl, SqL.of hH, by rw [← rr.len]; exact ml, fun i u ns h1 h2 => ?_, hc.1, hc.2, fun p hp => h.newLst S rr hp⟩)
        have hi : i < ys.length := by rw [rr.len]; exact (List.getElem?_eq_some_iff.mp h1).1
        have h3 : ys[i]? = some ys[i] := List.getElem?_eq_getElem hi
        have ht := ma i _ _ h3 h2
        have ru := rr.at h3 h1
        cases hq : ys[i] with
        | tup zs =>
          rw [hq] at ht ru
          obtain ⟨t, us, e, h5, h6⟩ := ru.tup_
          have := h6.intOf (show zs.mapM intOf = some ns from ht)
          exact ⟨t, e, by rw [← this]; exact h5⟩
        | _ => rw [hq] at ht; cases ht
      · cases e
    · split at e
      · rename_i ss hss
        split at e
        · rename_i h64
          cases e
          have := rr.strOf hss
          subst this
          refine .inr (.inr (.inl ⟨a, ss.map fun s => (⟨s.toArray⟩ : Str), rfl, ?_, by rw [List.length_map]; exact h64, fun zs p hp hs hq => ?_⟩))
          · rw [List.map_map]; exact SqL.of hH
          · rw [sortS_of hp hs, List.map_map]
            exact h.newLst S (Reps.strs _) hq
        · cases e
      · cases e
section
variable {G : Gb} {C : CallF} {X : Cx} {pos p : Pos} {e : Expr}
theorem sb_sorted (hm : X.mg "sorted" = none) (hK : X.K = G.K) {es : List Expr} {ms : List ME} (hu : X.A.units + 65 < cLine) (ha : PA X (e :: es) (tEs G C ms)) (hc : X.calm = true := by rfl) (hg : Gl X "sorted" := by rfl) (he : starEach (e :: es) X.env = (false, eval e X.env) :: starEach es X.env := by rfl) (hpl : (backTo pos (starEach es X.env)).any (·.1) = false := by rfl) : PE X (.Call (.Name "sorted" p) (e :: es) [] pos) (tE G C (.bi .sorted ms)) := se_biB bi_sorted (cr_sortedB hc hu) hK hg hm bt_sorted ha (by decide) (by decide) he hpl
end
end L2.Mi

set_option Elab.async false
set_option linter.all false
set_option maxRecDepth 100000
set_option maxHeartbeats 4000000
/-! Mini17: dicts made: {}, {k: v}, comprehensions, dict(pairs). -/
namespace L2.Mi
open PySem PySem.Spec PyProof.Rows
section
variable {G : Gb} {C : CallF} {X : Cx} {pos p : Pos} {e a b c : Expr} {ma mb mc m mk me mi : ME}
theorem Post.alDct {A : Wd} {ks : List MKey} {ms : List MV} {vs : List V} {Q : VK} {p : Addr} (h : Post G A (A.mh ++ [some (.dct ks ms)]) (.loc A.mh.length) Q) (S : Sim G A) (hl : ks.length = ms.length) (r : Reps G A ms vs) (hp : A.H p = none) : Q (.ref p) (upd A.H p (.dK ((ks.map kOf).zip vs))) := by
  have k : Keep A (A.al p (.dK ((ks.map kOf).zip vs)) (.dct ks ms)) := keep_al S hp
  refine h (A.al p (.dK ((ks.map kOf).zip vs)) (.dct ks ms)) (.ref p) k rfl (S.al hp ⟨vs, upd_same, hl, Reps.keep S k _ _ r⟩ ⟨(fun _ z => nomatch z), (fun _ _ z => nomatch z)⟩) ?_
  unfold Rep
  refine ⟨p, rfl, ?_⟩
  show (A.β ++ [p])[A.mh.length]? = some p
  rw [← S.len, List.getElem?_append_right (Nat.le_refl _)]
  simp
theorem se_dnew : PE X (.Dict [] [] pos) (tE G C .dnew) := pe_dnewK.mono fun σ H Q h => by
  obtain ⟨A, ρ, v, mh', rfl, S, N, e, q⟩ := h
  simp only [ev] at e
  cases e
  exact fun p hp => Post.newDct (ks := []) (ms := []) (vs := []) q S rfl (by unfold Reps; rfl) hp
theorem sal_dnew : PE X (.Dict [] [] pos) (tE G C (.al .dnew)) := pe_dnewK.mono fun σ H Q h => by
  obtain ⟨A, ρ, v, mh', rfl, S, N, e, q⟩ := h
  simp only [ev] at e
  cases e
  exact fun p hp => Post.alDct (ks := []) (ms := []) (vs := []) q S rfl (by unfold Reps; rfl) hp
theorem noTup_dK {kvs : List (Key × V)} : NoTup (.dK kvs) := ⟨(fun _ z => nomatch z), (fun _ _ z => nomatch z)⟩
theorem se_disp1 {k v : Expr} {mv : ME} (hk : PE X k (tE G C mk)) (hv : PE X v (tE G C mv)) : PE X (.Dict [some k] [v] pos) (tE G C (.disp1 mk mv)) := by
  refine (pe_disp (pps_cons hk hv pps_nil) rfl rfl (by simp) (by simp)).mono fun σ H Q h => ?_
  obtain ⟨A, ρ, r, mh', rfl, S, N, e, q⟩ := h
  simp only [ev] at e
  split at e
  · cases e
  rename_i x mh1 e1
  split at e
  · cases e
  rename_i y mh2 e2
  simp only [Option.map_eq_some_iff] at e
  obtain ⟨ky, e3, e4⟩ := e
  cases e4
  intro p hp
  have SA := S.hid (o := .dK []) hp noTup_dK
  have kA : Keep A (A.hid p (.dK [])) := keep_hid hp
  refine tE.go SA (N.keep S kA) (by rw [kA.base]; exact e1) fun B vx kB em SB NB rx => tE.go SB NB (ev.at (kA.trans kB) em e2) fun D vy kD em2 SD ND ry => ?_
  have pA : p ∈ (A.hid p (.dK [])).ex := List.mem_cons_self
  have pB : p ∈ B.ex := kB.ex p pA
  have pD : p ∈ D.ex := kD.ex p pB
  have eB := kB.exk p pA _ upd_same (SA.exl p pA)
  have eD := kD.exk p pB _ eB (SB.exl p pB)
  have rx' := Rep.keep SB kD _ _ rx
  refine ⟨eD, [(kOf ky, vy)], ?_, by simp, ?_⟩
  · rw [kyV_rep e3 rx']; rfl
  · have nx : p ∉ A.ex := (off_new S hp).2
    have S1 := SD.put pD (o := .dK [(kOf ky, vy)]) noTup_dK
    have hx : ∀ a ∈ A.ex, a ∈ (D.up p (.dK [(kOf ky, vy)])).ex := fun a ha => kD.ex a (kB.ex a (List.mem_cons_of_mem _ ha))
    have kF : Keep A ((D.up p (.dK [(kOf ky, vy)])).out A.ex) := keep_out (keep_put ((kA.trans kB).trans kD) hp)
    refine q ((D.up p (.dK [(kOf ky, vy)])).out A.ex) (.ref p) kF em2 (S1.out hx) ?_
    unfold Rep
    refine ⟨p, [vy], rfl, .inl upd_same, ⟨SD.exl p pD, nx⟩, rfl, Reps.one (Rep.out hx _ _ (Rep.put SD pD _ _ ry))⟩
/-! ### {k: v for x in it if c} -/
noncomputable def dcompF (C : CallF) (base : Nat) (t : Tg) (own : List Nat) (mc mk me : ME) (ρ : Env) : MV → MHp → Option (Option MV × MHp) := fun x mh2 => match asg mh2 t x (wipeE ρ own) with
  | none => none
  | some ρ' => match ev C base mc ρ' mh2 with
    | some (.bl true, mh3) => match ev C base mk ρ' mh3 with
      | none => none
      | some (z, mh4) => match ev C base me ρ' mh4 with
        | none => none
        | some (y, mh5) => some (some (.tup [z, y]), mh5)
    | some (.bl false, mh3) => some (none, mh3)
    | _ => none
variable {t : Tg} {own : List Nat}
theorem ev_dcomp {base : Nat} {ρ : Env} {mh mh' : MHp} {v : MV} (e : ev C base (.dcomp t own mi mc mk me) ρ mh = some (v, mh')) : ∃ J mh1 ys ps, evI C base mi ρ mh = some (J, mh1) ∧ J.items.length ≤ line ∧ compGo J (dcompF C base t own mc mk me ρ) J.items mh1 = some (ys, mh') ∧ ys.mapM pairK = some ps ∧ v = .dct (dFold ps [] []).1 (dFold ps [] []).2 := by
  simp only [ev] at e
  split at e
  · cases e
  rename_i J mh1 e1
  split at e
  · rename_i hl
    split at e
    · cases e
    rename_i ys mh5 e2
    split at e
    · rename_i ps e3
      cases e
      exact ⟨J, mh1, ys, ps, e1, hl, e2, e3, rfl⟩
    · cases e
  · cases e
theorem dcompF_of {base : Nat} {ρ : Env} {mh mh' : MHp} {x : MV} {r : Option MV} (e : dcompF C base t own mc mk me ρ x mh = some (r, mh')) : ∃ ρ' c mh3, asg mh t x (wipeE ρ own) = some ρ' ∧ ev C base mc ρ' mh = some (.bl c, mh3) ∧
    ((c = true ∧ ∃ z mh4 y, ev C base mk ρ' mh3 = some (z, mh4) ∧ ev C base me ρ' mh4 = some (y, mh') ∧ r = some (.tup [z, y])) ∨ (c = false ∧ mh' = mh3 ∧ r = none)) := by
  unfold dcompF at e
  split at e
  · cases e
  rename_i ρ' e1
  split at e
  · rename_i mh3 e2
    split at e
    · cases e
    rename_i z mh4 e3
    split at e
    · cases e
    rename_i y mh5 e4
    cases e
    exact ⟨ρ', true, mh3, e1, e2, .inl ⟨rfl, z, mh4, y, e3, e4, rfl⟩⟩
  · rename_i mh3 e2
    cases e
    exact ⟨ρ', false, _, e1, e2, .inr ⟨rfl, rfl, rfl⟩⟩
  · cases e
theorem dPutK_len (ks : List MKey) (k : MKey) : (dPutK ks k).length ≤ ks.length + 1 := by
  unfold dPutK
  split <;> simp
theorem dc_loop {B : Wd} {ρ : Env} {σ : L2.St} {J : Its} {I : L2.It} {ys : List MV} {ps : List (MKey × MV)} {mh5 : MHp} {Q : Hp → Prop} (hown : ∀ i ∈ tgN t, i ∈ own) (SB : Sim G B) (NB : Envs G B ρ σ) (wk : Wk G B J I) (hl : J.items.length ≤ line)
    (hc : compGo J (dcompF C B.base t own mc mk me ρ) J.items B.mh = some (ys, mh5)) (hps : ys.mapM pairK = some ps) {p : Addr} (hp : B.H p = none)
    (fin : ∀ D vs, Keep B D → Sim G D → p ∈ D.ex → D.mh = mh5 → D.H p = some (.dK (((dFold ps [] []).1.map kOf).zip vs)) → Reps G D (dFold ps [] []).2 vs → Q D.H) :
    ∃ W : Nat → Nat → Hp → Prop, (∃ m, W 0 m (upd B.H p (.dK []))) ∧ ∀ i m H, W i m H →
  (I.stop i H ∧ Q H) ∨ (I.go i H ∧ ∃ Nx : Hp → Prop, (∀ H', Nx H' → ∃ m', m' < m ∧ W (i + 1) m' H') ∧ ∀ x H', I.yld i H x H' → tG G t x (L2.wipe σ own) H' fun σ2 H2 => L2.wipe σ2 own = L2.wipe σ own ∧ tT G C mc σ2 H2 fun b H3 =>
    if b = true then tE G C mk σ2 H3 fun y H4 => tE G C me σ2 H4 fun z H5 => ∃ kvs k, y = kV k ∧ H5 p = some (.dK kvs) ∧ kvs.length < sizeLine ∧ Nx (upd H5 p (.dK (putK kvs k z))) else Nx H3) := by
  let W : Nat → Nat → Hp → Prop := fun i m H => m = J.items.length - i ∧ i ≤ J.items.length ∧ ∃ (D : Wd) (ks : List MKey) (ms rs : List MV) (qs : List (MKey × MV)) (vs : List V), Keep B D ∧ Sim G D ∧ p ∈ D.ex ∧ D.H = H ∧ H p = some (.dK ((ks.map kOf).zip vs)) ∧ ks.length = ms.length ∧ Reps G D ms vs ∧ ks.length ≤ i ∧
    compGo J (dcompF C B.base t own mc mk me ρ) (J.items.drop i) D.mh = some (rs, mh5) ∧ rs.mapM pairK = some qs ∧ dFold ps [] [] = dFold qs ks ms
  refine ⟨W, ⟨J.items.length, by simp, Nat.zero_le _, B.hid p (.dK []), [], [], ys, ps, [], keep_hid hp, SB.hid hp noTup_dK, by simp, rfl, upd_same, rfl, by unfold Reps; rfl, Nat.le_refl _, hc, hps, rfl⟩, ?_⟩
  rintro i m H ⟨rfl, hi, D, ks, ms, rs, qs, vs, kD, SD, pD, rfl, eD, hkl, rD, lD, cD, hq, yD⟩
  by_cases hlt : i < J.items.length
  · have hd : J.items.drop i = J.items[i] :: J.items.drop (i + 1) := List.drop_eq_getElem_cons hlt
    rw [hd] at cD
    obtain ⟨oD, r, mh1, rs', f1, c1, rfl⟩ := compGo_cons cD
    refine .inr ⟨wk.go D kD.w SD oD i hlt, fun H' => W (i + 1) (J.items.length - (i + 1)) H', fun H' w => ⟨_, by omega, w⟩, fun x H' y => ?_⟩
    obtain ⟨E, z, kE, mE, rfl, SE, hz, rz⟩ := wk.yld D kD.w SD oD i x H' hlt y
    have hz' : J.items[i] = z := by
      rw [List.getElem?_eq_getElem hlt] at hz
      exact Option.some.inj hz
    rw [hz', ← mE] at f1
    obtain ⟨ρ', c, mh3, g1, g2, g3⟩ := dcompF_of f1
    have kBE := kD.trans kE
    refine ⟨E, wipeE ρ own, ρ', z, rfl, SE, (NB.keep SB kBE).wipe own, rz, g1, fun σ' N' off => ⟨?_, ?_⟩⟩
    · rw [off.wipe hown, wipe_wipe]
    have pE : p ∈ E.ex := kE.ex p pD
    have eE := kE.exk p pD _ eD (SD.exl p pD)
    have rE : Reps G E ms vs := Reps.keep SD kE _ _ rD
    refine tT.go SE N' (by rw [kBE.base]; exact g2) fun F kF mF SF NF => ?_
    have pF : p ∈ F.ex := kF.ex p pE
    have eF := kF.exk p pE _ eE (SE.exl p pE)
    have rF : Reps G F ms vs := Reps.keep SE kF _ _ rE
    have kBF := kBE.trans kF
    rcases g3 with ⟨rfl, z', mh4, y', g4, g6, rfl⟩ | ⟨rfl, g5, rfl⟩
    · rw [if_pos rfl]
      rw [Option.toList_some, List.singleton_append] at hq
      simp only [List.mapM_cons, Option.bind_eq_bind, Option.bind_eq_some_iff] at hq
      obtain ⟨q0, hq0, qs', hqs, hq1⟩ := hq
      cases hq1
      simp only [pairK, Option.map_eq_some_iff] at hq0
      obtain ⟨k, hk, rfl⟩ := hq0
      refine tE.go SF NF (by rw [kBF.base, mF]; exact g4) fun K vz kK mK SK NK rz' => ?_
      have pK : p ∈ K.ex := kK.ex p pF
      have eK := kK.exk p pF _ eF (SF.exl p pF)
      have rK : Reps G K ms vs := Reps.keep SF kK _ _ rF
      have kBK := kBF.trans kK
      refine tE.go SK NK (ev.at kBK mK g6) fun L vy kL mL SL NL ry => ?_
      have pL : p ∈ L.ex := kL.ex p pK
      have eL := kL.exk p pK _ eK (SK.exl p pK)
      have rL : Reps G L ms vs := Reps.keep SK kL _ _ rK
      have kBL := kBK.trans kL
      obtain ⟨ws, e1, r1⟩ := dput_rep (k := k) hkl rL ry
      refine ⟨_, kOf k, kyV_rep hk (Rep.keep SK kL _ _ rz'), eL, ?_, rfl, hlt, L.up p (.dK (putK ((ks.map kOf).zip vs) (kOf k) vy)), dPutK ks k, dPutV ks ms k y', rs', qs', ws, keep_put kBL hp, SL.put pL noTup_dK, pL, rfl, ?_, dput_len k y' hkl, Reps.put SL pL _ _ r1, ?_, ?_, hqs, ?_⟩
      · have : ((ks.map kOf).zip vs).length ≤ ks.length := by rw [List.length_zip, List.length_map]; omega
        exact Nat.lt_of_le_of_lt (Nat.le_trans this lD) (Nat.lt_of_lt_of_le hlt hl)
      · rw [← e1]; exact upd_same
      · have := dPutK_len ks k
        omega
      · show compGo J _ _ L.mh = _
        rw [mL]; exact c1
      · rw [yD]; rfl
    · rw [if_neg Bool.false_ne_true]
      refine ⟨rfl, hlt, F, ks, ms, rs', qs, vs, kBF, SF, pF, rfl, eF, hkl, rF, Nat.le_succ_of_le lD, ?_, ?_, yD⟩
      · rw [mF, ← g5]; exact c1
      · exact hq
  · have e : i = J.items.length := by omega
    subst e
    rw [List.drop_length] at cD
    obtain ⟨oD, rfl, e5⟩ := compGo_nil cD
    simp at hq
    subst hq
    refine .inl ⟨wk.stop D kD.w SD oD, fin D vs kD SD pD e5.symm ?_ ?_⟩
    · rw [yD]; exact eD
    · rw [yD]; exact rD
theorem dc_frozen {A : Wd} {ρ : Env} {σ : L2.St} {v : MV} {mh' : MHp} {Q : VK} (hown : ∀ i ∈ tgN t, i ∈ own) (S : Sim G A) (N : Envs G A ρ σ) (e : ev C A.base (.dcomp t own mi mc mk me) ρ A.mh = some (v, mh')) (q : Post G A mh' v Q) :
    tDc (tI G C mi) (tG G t) (tT G C mc) (tE G C mk) (tE G C me) own σ A.H Q := by
  obtain ⟨J, mh1, ys, ps, e1, hl, e2, e3, rfl⟩ := ev_dcomp e
  refine ⟨A, ρ, J, mh1, rfl, S, N, e1, fun B I k em SB wk p hp => ?_⟩
  refine dc_loop hown SB (N.keep S k) wk hl (by rw [k.base, em]; exact e2) e3 hp fun D vs kD SD pD mD eD rD => ?_
  have hx : ∀ a ∈ B.ex, a ∈ D.ex := kD.ex
  refine q (D.out B.ex) (.ref p) (k.trans (keep_out kD)) mD (SD.out hx) ?_
  unfold Rep
  refine ⟨p, vs, rfl, .inl eD, ⟨SD.exl p pD, fun z => ?_⟩, dfold_len ps [] [] rfl, Reps.out hx _ _ rD⟩
  obtain ⟨u, e9, _⟩ := SB.exo p z
  rw [hp] at e9; cases e9
end
section
variable {G : Gb} {C : CallF} {X : Cx} {mc mk me mi : ME} {t : Tg} {kx vx tg iter : Expr} {ifs : List Expr} {scope : Scope} {own : List (Str × Nat)} {pos : Pos}
theorem se_dcomp (hown : ∀ i ∈ tgN t, i ∈ own.map (·.2)) (hc : X.calm = true) (hN : X.N.Nodup) (hi : PI X tg iter (tI G C mi)) (ok : BlkOk X.N X.env.scope scope own)
    (hg : ∀ (s : Shared) (H : Hp) (D : Addr) (cl : List (Str × Addr)) (fp : List Addr), PG (X.blk s H scope (compEnvC scope cl D X.env) fp) tg (tG G t)) (ht : ∀ (s : Shared) (H : Hp) (D : Addr) (cl : List (Str × Addr)) (fp : List Addr), PTs (X.blk s H scope (compEnvC scope cl D X.env) fp) ifs (tT G C mc))
    (hk : ∀ (s : Shared) (H : Hp) (D : Addr) (cl : List (Str × Addr)) (fp : List Addr), PE (X.blk s H scope (compEnvC scope cl D X.env) fp) kx (tE G C mk))
    (he : ∀ (s : Shared) (H : Hp) (D : Addr) (cl : List (Str × Addr)) (fp : List Addr), PE (X.blk s H scope (compEnvC scope cl D X.env) fp) vx (tE G C me)) (hs : ∀ x, foldedSetIterable iter X.env x = pure x := by intro _; rfl) :
    PE X (.DictComp kx vx [⟨tg, iter, ifs, 0⟩] scope pos) (tE G C (.dcomp t (own.map (·.2)) mi mc mk me)) := by
  refine (pe_dc hc hN hi ok hg ht hk he hs).mono fun σ H Q h => ?_
  obtain ⟨A, ρ, v, mh', rfl, S, N, e, q⟩ := h
  exact dc_frozen hown S N e q
end
section
variable {G : Gb} {C : CallF} {X : Cx} {pos p : Pos} {e : Expr}
theorem sb_dict (hm : X.mg "dict" = none) (hK : X.K = G.K) {es : List Expr} {ms : List ME} (ha : PA X (e :: es) (tEs G C ms)) (hc : X.calm = true := by rfl) (hg : Gl X "dict" := by rfl) (he : starEach (e :: es) X.env = (false, eval e X.env) :: starEach es X.env := by rfl) (hpl : (backTo pos (starEach es X.env)).any (·.1) = false := by rfl) : PE X (.Call (.Name "dict" p) (e :: es) [] pos) (tE G C (.bi .dict ms)) := se_biT bi_dict (call_dictP hc) hK hg hm bt_dict ha (by decide) (by decide) he hpl
end
end L2.Mi

set_option Elab.async false
set_option linter.all false
set_option maxRecDepth 100000
set_option maxHeartbeats 4000000
/-! Mini18: list(zip(a, b)) of two tuples. -/
namespace L2.Mi.Lz
open PySem PySem.W PyProof.Rows
open PySem.Sem (wp)
section
variable {prog : Program} {w : World} {A : Around} {E : Value → Shared → Prop} {s : Shared}
/-- the zip's next pair, the last one being held elsewhere -/
theorem held_item {z TI TO T i1 i2 l1 l2 : Addr} {f : Bool} {oT : Obj} {m n : Nat} {us vs : Array Value} {x y : Value} {Q : Value → Shared → Prop} (D : ZipApart z TI TO i1 i2 l1 l2)
    (hz : IsZipHeld s.heap z TI TO T f) (hT : s.heap.get? T = some oT) (hI : IsPair s.heap TI (.ref i1) (.ref i2))
    (p1 : s.heap.IsTupleIter i1 l1 m) (p2 : s.heap.IsTupleIter i2 l2 n) (q1 : s.heap.IsTuple l1 us) (q2 : s.heap.IsTuple l2 vs) (hx : us[m]? = some x) (hy : vs[n]? = some y)
    (k : ∀ h', IsZipHeld h' z TI TO T true → h'.IsTupleIter i1 l1 (m + 1) → h'.IsTupleIter i2 l2 (n + 1) → IsPair h' s.heap.objs.size x y → h'.objs.size = s.heap.objs.size + 1 →
      (∀ c o, c ≠ z → c ≠ i1 → c ≠ i2 → s.heap.get? c = some o → h'.get? c = some o) → Q (.ref s.heap.objs.size) { s with heap := h' }) :
    wpAny (model prog w) A (Builtin.«zip.__next__» ⟨[.ref z], []⟩) (fun fin s' => ∃ v, fin = .done (.ret v) ∧ Q v s') E s := by
  show wpAny _ _ (field (.ref z) 2 >>= _) _ _ _
  refine wpAny_bind (wpAny_field hz rfl (x := .bool false) rfl ?_)
  show wpAny _ _ (field (.ref z) 3 >>= _) _ _ _
  refine wpAny_bind (wpAny_field hz rfl (x := .ref TI) rfl (wpAny_bind (wpAny_seqItems hI rfl ?_)))
  show wpAny _ _ (Builtin.SmallTypes.ownedTupleIsFree (.ref z) >>= _) _ _ _
  refine wpAny_bind (wpAny_tupleHeld_zip hz hT fun a za sa => ?_)
  simp only [Bool.false_eq_true, if_false]
  refine wpAny_bind ?_
  rw [← Array.forIn_toList]
  simp only [List.forIn_cons, List.forIn_nil]
  refine wpAny_bind (wpAny_bind (wpAny_holding ?_))
  show wpAny _ _ (Builtin.SmallTypes.nextOf (.ref i1) >>= _) _ _ _
  refine wpAny_bind (RZ.nextOf_tuple_item (s := { s with heap := a }) (p1.extBut sa.extBut D.i1z) (q1.extBut sa.extBut D.l1z) hx fun b pb sb => wpAny_pure (wpAny_pure ?_))
  refine wpAny_bind (wpAny_bind (wpAny_holding ?_))
  show wpAny _ _ (Builtin.SmallTypes.nextOf (.ref i2) >>= _) _ _ _
  refine wpAny_bind (RZ.nextOf_tuple_item (s := { s with heap := b }) ((p2.extBut sa.extBut D.i2z).extBut sb.extBut D.i12.symm) ((q2.extBut sa.extBut D.l2z).extBut sb.extBut D.l2i1) hy fun c pc sc => wpAny_pure (wpAny_pure (wpAny_pure ?_)))
  show wpAny _ _ (newTuple [x, y] >>= _) _ _ _
  refine wpAny_bind (wpAny_newTuple ?_)
  have size : c.objs.size = s.heap.objs.size := by rw [sc.1, sb.1, sa.1]
  have zc : IsZipHeld c z TI TO T true := sc.extBut _ _ D.i2z.symm (sb.extBut _ _ D.i1z.symm za)
  have keep : ∀ d o, d ≠ z → d ≠ i1 → d ≠ i2 → s.heap.get? d = some o → c.get? d = some o := fun d o d1 d2 d3 e => sc.extBut _ _ d3 (sb.extBut _ _ d2 (sa.extBut _ _ d1 e))
  have pb' : c.IsTupleIter i1 l1 (m + 1) := pb.extBut sc.extBut D.i12
  refine wpAny_pure ⟨_, rfl, ?_⟩
  show Q (.ref c.objs.size) _
  have pr : IsPair (c.push { cls := .type "tuple", data := .seq #[x, y] }) c.objs.size x y := Heap.get?_push_size _ rfl
  have big : (c.push { cls := .type "tuple", data := .seq #[x, y] }).objs.size = c.objs.size + 1 := Heap.size_push ..
  rw [size] at pr big ⊢
  have up : ∀ d o, c.get? d = some o → (c.push { cls := .type "tuple", data := .seq #[x, y] }).get? d = some o := fun d o e => Heap.get?_push_of_some _ e
  have it : ∀ {i l : Addr} {j : Nat}, c.IsTupleIter i l j → (c.push { cls := .type "tuple", data := .seq #[x, y] }).IsTupleIter i l j := fun ⟨o, e, r⟩ => ⟨o, up _ _ e, r⟩
  exact k _ (up _ _ zc) (it pb') (it pc) pr big fun d o d1 d2 d3 e => up _ _ (keep d o d1 d2 d3 e)
theorem held_end {z TI TO T i1 i2 l1 l2 : Addr} {f : Bool} {oT : Obj} {m n : Nat} {us vs : Array Value} {Q : Fin → Shared → Prop} (hh : A.handled = none) (D : ZipApart z TI TO i1 i2 l1 l2)
    (hz : IsZipHeld s.heap z TI TO T f) (hT : s.heap.get? T = some oT) (hI : IsPair s.heap TI (.ref i1) (.ref i2))
    (p1 : s.heap.IsTupleIter i1 l1 m) (p2 : s.heap.IsTupleIter i2 l2 n) (q1 : s.heap.IsTuple l1 us) (q2 : s.heap.IsTuple l2 vs) (he : us[m]? = none ∨ vs[n]? = none)
    (k : ∀ h' e, (∀ c o, c ≠ z → c ≠ i1 → c ≠ i2 → s.heap.get? c = some o → h'.get? c = some o) → (∃ o, h'.get? e = some o ∧ o.cls = .type "StopIteration") → E (.ref e) { s with heap := h' }) :
    wpAny (model prog w) A (Builtin.«zip.__next__» ⟨[.ref z], []⟩) Q E s := by
  show wpAny _ _ (field (.ref z) 2 >>= _) _ _ _
  refine wpAny_bind (wpAny_field hz rfl (x := .bool false) rfl ?_)
  show wpAny _ _ (field (.ref z) 3 >>= _) _ _ _
  refine wpAny_bind (wpAny_field hz rfl (x := .ref TI) rfl (wpAny_bind (wpAny_seqItems hI rfl ?_)))
  show wpAny _ _ (Builtin.SmallTypes.ownedTupleIsFree (.ref z) >>= _) _ _ _
  refine wpAny_bind (wpAny_tupleHeld_zip hz hT fun a za sa => ?_)
  simp only [Bool.false_eq_true, if_false]
  refine wpAny_bind ?_
  rw [← Array.forIn_toList]
  simp only [List.forIn_cons, List.forIn_nil]
  refine wpAny_bind (wpAny_bind (wpAny_holding ?_))
  show wpAny _ _ (Builtin.SmallTypes.nextOf (.ref i1) >>= _) _ _ _
  cases hx : us[m]? with
  | none =>
    refine wpAny_bind (RZ.nextOf_tuple_end (s := { s with heap := a }) hh (p1.extBut sa.extBut D.i1z) (q1.extBut sa.extBut D.l1z) hx fun b e sb be => ?_)
    exact k b e (fun c o c1 c2 _ x => sb _ _ c2 (sa.extBut _ _ c1 x)) be
  | some x =>
    have hy : vs[n]? = none := he.elim (fun h => by rw [hx] at h; cases h) id
    refine wpAny_bind (RZ.nextOf_tuple_item (s := { s with heap := a }) (p1.extBut sa.extBut D.i1z) (q1.extBut sa.extBut D.l1z) hx fun b pb sb => wpAny_pure (wpAny_pure ?_))
    refine wpAny_bind (wpAny_bind (wpAny_holding ?_))
    show wpAny _ _ (Builtin.SmallTypes.nextOf (.ref i2) >>= _) _ _ _
    refine wpAny_bind (RZ.nextOf_tuple_end (s := { s with heap := b }) hh ((p2.extBut sa.extBut D.i2z).extBut sb.extBut D.i12.symm) ((q2.extBut sa.extBut D.l2z).extBut sb.extBut D.l2i1) hy fun c e sc ce => ?_)
    exact k c e (fun d o d1 d2 d3 x => sc _ _ d3 (sb.extBut _ _ d2 (sa.extBut _ _ d1 x))) ce
/-- where the zip stands at turn i; S: the list that is being made -/
structure Zs (h : Heap) (z TI TO i1 i2 l1 l2 S : Addr) (us vs : Array Value) (i : Nat) : Prop where
  zip : (IsZip h z TI TO .none ∧ ∃ a b, IsPair h TO a b) ∨ ∃ T f oT, IsZipHeld h z TI TO T f ∧ h.get? T = some oT ∧ S < T
  ti : IsPair h TI (.ref i1) (.ref i2)
  p1 : h.IsTupleIter i1 l1 i
  p2 : h.IsTupleIter i2 l2 i
  q1 : h.IsTuple l1 us
  q2 : h.IsTuple l2 vs
structure Low (z TI TO i1 i2 l1 l2 S : Addr) : Prop where
  z : z < S
  ti : TI < S
  to : TO < S
  i1 : i1 < S
  i2 : i2 < S
  l1 : l1 < S
  l2 : l2 < S
variable {z TI TO i1 i2 l1 l2 S : Addr} {us vs : Array Value} {i : Nat}
theorem zs_next {x y : Value} {Q : Option Value → Shared → Prop} (D : ZipApart z TI TO i1 i2 l1 l2) (L : Low z TI TO i1 i2 l1 l2 S) (hS : S < s.heap.objs.size) (Z : Zs s.heap z TI TO i1 i2 l1 l2 S us vs i) (hx : us[i]? = some x) (hy : vs[i]? = some y)
    (k : ∀ h', Zs h' z TI TO i1 i2 l1 l2 S us vs (i + 1) → IsPair h' s.heap.objs.size x y → h'.objs.size = s.heap.objs.size + 1 →
      (∀ c o, c ≠ z → c ≠ TO → c ≠ i1 → c ≠ i2 → s.heap.get? c = some o → h'.get? c = some o) → Q (some (.ref s.heap.objs.size)) { s with heap := h' }) : wpAny (model prog w) A (pyNext (.ref z)) Q E s := by
  have tup : ∀ {h h' : Heap} {l : Addr} {ws : Array Value}, (∀ o, h.get? l = some o → h'.get? l = some o) → h.IsTuple l ws → h'.IsTuple l ws := fun kp ⟨o, e, r⟩ => ⟨o, kp o e, r⟩
  rcases Z.zip with ⟨z1, a, b, z2⟩ | ⟨T, f, oT, z1, z2, z3⟩
  · refine RZ.pyNext_zipT_item D z1 Z.ti z2 Z.p1 Z.p2 Z.q1 Z.q2 hx hy fun h' a1 a2 a3 a4 a5 a6 a7 => k h' ⟨.inr ⟨_, false, _, a1, a5, hS⟩, ?_, a3, a4, ?_, ?_⟩ a5 a6 a7
    · exact a7 _ _ D.TIz D.TITO D.TIi1 D.TIi2 Z.ti
    · exact tup (fun o => a7 _ o D.l1z D.l1TO D.l1i1 D.l1i2) Z.q1
    · exact tup (fun o => a7 _ o D.l2z D.l2TO D.l2i1 D.l2i2) Z.q2
  · have ty : s.TypeIs (.ref z) "zip" := ⟨_, z1, rfl⟩
    unfold pyNext
    refine wpAny_bind (wpAny_attempt (wpAny_callSpecial?_slot (name := Str.ofString "__next__") ty F.slot_zip_next ?_))
    refine wpAny_call_entry F.slot_zip_next ty F.entry_zip_next (held_item D z1 z2 Z.ti Z.p1 Z.p2 Z.q1 Z.q2 hx hy fun h' a1 a3 a4 a5 a6 a7 => wpAny_pure ?_) (F.args_zip_next_1 _)
    have ne : ∀ {c : Addr}, c < S → T ≠ c := fun hc e => by rw [e] at z3; exact absurd (Nat.lt_trans z3 hc) (Nat.lt_irrefl _)
    refine k h' ⟨.inr ⟨T, true, oT, a1, a7 _ _ (ne L.z) (ne L.i1) (ne L.i2) z2, z3⟩, a7 _ _ D.TIz D.TIi1 D.TIi2 Z.ti, a3, a4, ?_, ?_⟩ a5 a6 fun c o c1 _ c3 c4 e => a7 c o c1 c3 c4 e
    · exact tup (fun o => a7 _ o D.l1z D.l1i1 D.l1i2) Z.q1
    · exact tup (fun o => a7 _ o D.l2z D.l2i1 D.l2i2) Z.q2
theorem zs_end {Q : Option Value → Shared → Prop} (hh : A.handled = none) (D : ZipApart z TI TO i1 i2 l1 l2) (Z : Zs s.heap z TI TO i1 i2 l1 l2 S us vs i) (he : us[i]? = none ∨ vs[i]? = none)
    (k : ∀ h', (∀ c o, c ≠ z → c ≠ TO → c ≠ i1 → c ≠ i2 → s.heap.get? c = some o → h'.get? c = some o) → Q none { s with heap := h' }) : wpAny (model prog w) A (pyNext (.ref z)) Q E s := by
  rcases Z.zip with ⟨z1, a, b, z2⟩ | ⟨T, f, oT, z1, z2, z3⟩
  · exact RZ.pyNext_zipT_end hh D z1 Z.ti z2 Z.p1 Z.p2 Z.q1 Z.q2 he k
  · have ty : s.TypeIs (.ref z) "zip" := ⟨_, z1, rfl⟩
    unfold pyNext
    refine wpAny_bind (wpAny_attempt (wpAny_callSpecial?_slot (name := Str.ofString "__next__") ty F.slot_zip_next ?_))
    refine wpAny_call_entry F.slot_zip_next ty F.entry_zip_next (held_end hh D z1 z2 Z.ti Z.p1 Z.p2 Z.q1 Z.q2 he fun h' e kp ⟨o, ho, hc⟩ => ?_) (F.args_zip_next_1 _)
    refine wpAny_bind (wpAny_isInstance (T := "StopIteration") (b := true) ⟨o, ho, hc⟩ isSubtype_stop ?_)
    exact wpAny_pure (k _ fun c o c1 _ c3 c4 x => kp c o c1 c3 c4 x)
abbrev lstO (acc : Array Value) (c : Nat) : Obj := { cls := .type "list", dict := none, data := .seq acc c, slots := #[] }
/-- the pairs that were made -/
def Prs (h : Heap) (S : Addr) (us vs : Array Value) (as : List Addr) : Prop := as.Pairwise (· < ·) ∧ ∀ (j : Nat) (a : Addr), as[j]? = some a → S < a ∧ ∃ x y, us[j]? = some x ∧ vs[j]? = some y ∧ IsPair h a x y
theorem zl_loop {R : Result → Shared → Prop} {h₁ : Heap} {n : Nat} (hh : A.handled = none) (D : ZipApart z TI TO i1 i2 l1 l2) (L : Low z TI TO i1 i2 l1 l2 S) (hn : n = min us.size vs.size) (hz : n ≤ sizeLine) (res : Value)
    (hR : ∀ h' tk acc c as, (∀ b o, b < z → b ≠ TO → b ≠ i1 → b ≠ i2 → h₁.get? b = some o → h'.get? b = some o) → h'.get? S = some (lstO acc c) → as.length = n → Prs h' S us vs as → acc.toList = as.map Value.ref → R (.ok (.ret res)) { s with heap := h', toks := tk }) :
    ∀ (k i : Nat) (h : Heap) (tk c : Nat) (acc : Array Value) (as : List Addr), n - i = k → i ≤ n → Zs h z TI TO i1 i2 l1 l2 S us vs i → (∀ b o, b < z → b ≠ TO → b ≠ i1 → b ≠ i2 → h₁.get? b = some o → h.get? b = some o) →
      h.get? S = some (lstO acc c) → acc.toList = as.map Value.ref → as.length = i → Prs h S us vs as →
      codeAny (model prog w) A (.builtin "list.extend.loop" ⟨[.ref S, .ref z, res], []⟩) R { s with heap := h, toks := tk } := by
  intro k
  induction k with
  | zero =>
    intro i h tk c acc as hk hi Z keep hS hacc hal hP
    refine codeAny_builtin PySem.F.entry_extend_loop ?_
    rw [Around.under_plainId PySem.F.plain_extend_loop _]
    show wpAny _ A.in1 (pyNext (.ref z) >>= _) _ _ _
    have he : us[i]? = none ∨ vs[i]? = none := by
      rcases Nat.le_total us.size vs.size with l | l
      · exact .inl (Array.getElem?_eq_none (by omega))
      · exact .inr (Array.getElem?_eq_none (by omega))
    refine wpAny_bind (zs_end (s := { s with heap := h, toks := tk }) (A := A.in1) hh D Z he fun h' kp => wpAny_pure ?_)
    have ne : ∀ {c : Addr}, c < S → ∀ {a : Addr}, S ≤ a → a ≠ c := fun hc a ha e => by rw [e] at ha; exact absurd (Nat.lt_of_lt_of_le hc ha) (Nat.lt_irrefl _)
    have kS : ∀ a o, S ≤ a → h.get? a = some o → h'.get? a = some o := fun a o ha => kp a o (ne L.z ha) (ne L.to ha) (ne L.i1 ha) (ne L.i2 ha)
    refine hR h' tk acc c as (fun b o b1 b2 b3 b4 e => kp b o (Nat.ne_of_lt b1) b2 b3 b4 (keep b o b1 b2 b3 b4 e)) (kS S _ (Nat.le_refl _) hS) (by omega) ⟨hP.1, fun j a hj => ?_⟩ hacc
    obtain ⟨ha, x, y, e1, e2, e3⟩ := hP.2 j a hj
    exact ⟨ha, x, y, e1, e2, kS a _ (Nat.le_of_lt ha) e3⟩
  | succ k ih =>
    intro i h tk c acc as hk hi Z keep hS hacc hal hP
    have lt1 : i < us.size := by omega
    have lt2 : i < vs.size := by omega
    have hsz : acc.size = i := by rw [← Array.length_toList, hacc, List.length_map, hal]
    have hSl : S < h.objs.size := Heap.lt_size hS
    refine codeAny_builtin PySem.F.entry_extend_loop ?_
    rw [Around.under_plainId PySem.F.plain_extend_loop _]
    show wpAny _ A.in1 (pyNext (.ref z) >>= _) _ _ _
    refine wpAny_bind (zs_next (s := { s with heap := h, toks := tk }) D L hSl Z (Array.getElem?_eq_getElem lt1) (Array.getElem?_eq_getElem lt2) fun h' Z' pr big kp => ?_)
    dsimp only at pr big kp ⊢
    have ne : ∀ {c : Addr}, c < S → ∀ {a : Addr}, S ≤ a → a ≠ c := fun hc a ha e => by rw [e] at ha; exact absurd (Nat.lt_of_lt_of_le hc ha) (Nat.lt_irrefl _)
    have kS : ∀ a o, S ≤ a → h.get? a = some o → h'.get? a = some o := fun a o ha => kp a o (ne L.z ha) (ne L.to ha) (ne L.i1 ha) (ne L.i2 ha)
    have hS' := kS S _ (Nat.le_refl _) hS
    have up : ∀ b o, b ≠ S → h'.get? b = some o → (h'.update S (Obj.mapSeq (·.push (Value.ref h.objs.size)))).get? b = some o := fun b o hb e => (Heap.get?_update_other _ _ (Ne.symm hb)).trans e
    have upl : ∀ {b : Addr} {o}, b < S → h'.get? b = some o → (h'.update S (Obj.mapSeq (·.push (Value.ref h.objs.size)))).get? b = some o := fun hb e => up _ _ (Nat.ne_of_lt hb) e
    have Z2 : Zs (h'.update S (Obj.mapSeq (·.push (Value.ref h.objs.size)))) z TI TO i1 i2 l1 l2 S us vs (i + 1) := by
      refine ⟨?_, upl L.ti Z'.ti, ?_, ?_, ?_, ?_⟩
      · rcases Z'.zip with ⟨z1, a, b, z2⟩ | ⟨T, f, oT, z1, z2, z3⟩
        · exact .inl ⟨upl L.z z1, a, b, upl L.to z2⟩
        · exact .inr ⟨T, f, oT, upl L.z z1, up _ _ (Nat.ne_of_gt z3) z2, z3⟩
      · obtain ⟨o, e, r⟩ := Z'.p1; exact ⟨o, upl L.i1 e, r⟩
      · obtain ⟨o, e, r⟩ := Z'.p2; exact ⟨o, upl L.i2 e, r⟩
      · obtain ⟨o, e, r⟩ := Z'.q1; exact ⟨o, upl L.l1 e, r⟩
      · obtain ⟨o, e, r⟩ := Z'.q2; exact ⟨o, upl L.l2 e, r⟩
    show wpAny _ A.in1 (updateSeq S (·.push (Value.ref h.objs.size)) >>= _) _ _ _
    refine wpAny_bind (wpAny_updateSeq hS' rfl (wpAny_pure ⟨plainId_quiet PySem.F.plain_extend_loop _, ih (i + 1) _ tk _ (acc.push (Value.ref h.objs.size)) (as ++ [h.objs.size]) (by omega) (by omega) Z2 ?_ (Heap.get?_update_self _ hS' rfl) (by rw [Array.toList_push, hacc, List.map_append]; rfl) (by rw [List.length_append, hal]; rfl) ?_⟩) (by rw [hsz]; omega) (by rw [Array.size_push, hsz]; omega))
    · exact fun b o b1 b2 b3 b4 e => upl (Nat.lt_trans b1 L.z) (kp b o (Nat.ne_of_lt b1) b2 b3 b4 (keep b o b1 b2 b3 b4 e))
    · refine ⟨List.pairwise_append.mpr ⟨hP.1, List.pairwise_singleton _ _, fun a ha b hb => ?_⟩, fun j b hj => ?_⟩
      · rw [List.mem_singleton.mp hb]
        obtain ⟨j, hj⟩ := List.mem_iff_getElem?.mp ha
        obtain ⟨_, x, y, _, _, e3⟩ := hP.2 j a hj
        exact Heap.lt_size e3
      rcases Nat.lt_trichotomy j as.length with g | g | g
      · rw [List.getElem?_append_left g] at hj
        obtain ⟨ha, x, y, e1, e2, e3⟩ := hP.2 j b hj
        exact ⟨ha, x, y, e1, e2, up b _ (Nat.ne_of_gt ha) (kS b _ (Nat.le_of_lt ha) e3)⟩
      · subst g
        have hb : h.objs.size = b := by simpa using hj
        subst hb
        refine ⟨hSl, us[i], vs[i], ?_, ?_, up _ _ (Nat.ne_of_gt hSl) pr⟩
        · rw [hal]; exact Array.getElem?_eq_getElem lt1
        · rw [hal]; exact Array.getElem?_eq_getElem lt2
      · rw [List.getElem?_eq_none (by rw [List.length_append, List.length_singleton]; omega)] at hj
        cases hj
theorem no_len : typeLookup (.type "zip") "__len__" = pure none := am_miss_of_fast (by first | decide +kernel | rfl)
theorem no_hint : typeLookup (.type "zip") "__length_hint__" = pure none := am_miss_of_fast (by first | decide +kernel | rfl)
theorem zip_hint {Q : Bool → Shared → Prop} (ty : s.TypeIs (.ref z) "zip") (h : Q true s) : wpAny (model prog w) A (Builtin.List.listLengthHint (.ref z)) Q E s := by
  unfold Builtin.List.listLengthHint
  refine wpAny_bind (wpAny_specialOf ty no_len ?_)
  refine wpAny_ite_split (fun c => absurd c (by decide)) (fun _ => ?_)
  refine wpAny_ite_split (fun c => absurd c (by decide)) (fun _ => ?_)
  exact wpAny_bind (wpAny_specialOf ty no_hint (wpAny_pure h))
theorem Zs.other {h h' : Heap} (L : Low z TI TO i1 i2 l1 l2 S) (Z : Zs h z TI TO i1 i2 l1 l2 S us vs i) (k : ∀ b o, b ≠ S → h.get? b = some o → h'.get? b = some o) : Zs h' z TI TO i1 i2 l1 l2 S us vs i := by
  have kl : ∀ {b : Addr} {o}, b < S → h.get? b = some o → h'.get? b = some o := fun hb e => k _ _ (Nat.ne_of_lt hb) e
  refine ⟨?_, kl L.ti Z.ti, ?_, ?_, ?_, ?_⟩
  · rcases Z.zip with ⟨z1, a, b, z2⟩ | ⟨T, f, oT, z1, z2, z3⟩
    · exact .inl ⟨kl L.z z1, a, b, kl L.to z2⟩
    · exact .inr ⟨T, f, oT, kl L.z z1, k _ _ (Nat.ne_of_gt z3) z2, z3⟩
  · obtain ⟨o, e, r⟩ := Z.p1; exact ⟨o, kl L.i1 e, r⟩
  · obtain ⟨o, e, r⟩ := Z.p2; exact ⟨o, kl L.i2 e, r⟩
  · obtain ⟨o, e, r⟩ := Z.q1; exact ⟨o, kl L.l1 e, r⟩
  · obtain ⟨o, e, r⟩ := Z.q2; exact ⟨o, kl L.l2 e, r⟩
theorem zl_call {Q : Value → Shared → Prop} (hh : A.handled = none) (D : ZipApart z TI TO i1 i2 l1 l2) (L : Low z TI TO i1 i2 l1 l2 s.heap.objs.size) (hz0 : IsZip s.heap z TI TO .none) (Z : Zs s.heap z TI TO i1 i2 l1 l2 s.heap.objs.size us vs 0) (hn : min us.size vs.size ≤ sizeLine)
    (hQ : ∀ h' tk acc c as, (∀ b o, b < z → b ≠ TO → b ≠ i1 → b ≠ i2 → s.heap.get? b = some o → h'.get? b = some o) → h'.get? s.heap.objs.size = some (lstO acc c) → as.length = min us.size vs.size → Prs h' s.heap.objs.size us vs as → acc.toList = as.map Value.ref →
      Q (.ref s.heap.objs.size) { s with heap := h', toks := tk }) : wpAny (model prog w) A (call (.type "list") [.ref z]) Q E s := by
  have hS : (s.heap.push { cls := .type "list", data := .seq #[] }).get? s.heap.objs.size = some { cls := .type "list", data := .seq #[] } := Heap.get?_push_size _ rfl
  have zne : z ≠ s.heap.objs.size := Nat.ne_of_lt L.z
  refine callType_codes (Q₁ := fun obj s₁ => obj = .ref s.heap.objs.size ∧ s₁ = { s with heap := s.heap.push { cls := .type "list", data := .seq #[] } }) PySem.F.called_list (PySem.F.typeCall_list_1 _) PySem.F.entry_list_init (code_list_new _ ⟨rfl, rfl⟩) fun obj s₁ h₁ => ?_
  obtain ⟨rfl, rfl⟩ := h₁
  refine ⟨⟨_, hS, rfl⟩, PySem.F.args_list_init_2 _ _, ?_⟩
  have key : ∀ (h : Heap) (c tk : Nat), (∀ b o, b ≠ s.heap.objs.size → s.heap.get? b = some o → h.get? b = some o) → h.get? s.heap.objs.size = some { cls := .type "list", data := .seq #[] c } →
      codeAny (model prog w) A.in1 (.builtin "list.extend.loop" ⟨[.ref s.heap.objs.size, .ref z, .none], []⟩) (fun r s' => r = .ok (.ret .none) ∧ Q (.ref s.heap.objs.size) s') { s with heap := h, toks := tk } := by
    intro h c tk k hS₁
    refine zl_loop (s := s) (h₁ := s.heap) (A := A.in1) (S := s.heap.objs.size) (us := us) (vs := vs) hh D L rfl hn .none (fun h' tk' acc c' as k1 k2 k3 k4 k5 => ⟨rfl, hQ h' tk' acc c' as k1 k2 k3 k4 k5⟩) _ 0 h tk c #[] [] (Nat.sub_zero _) (Nat.zero_le _) (Z.other L k) ?_ hS₁ rfl rfl ⟨List.Pairwise.nil, fun j a hj => by simp at hj⟩
    exact fun b o b1 _ _ _ e => k b o (Nat.ne_of_lt (Nat.lt_trans b1 L.z)) e
  show wpAny _ _ (do let old ← Builtin.List.listItems (.ref s.heap.objs.size); Builtin.List.listUpdate (.ref s.heap.objs.size) (fun _ => #[]); letGo old.toList.reverse; Builtin.List.listExtendWith (.ref s.heap.objs.size) (.ref z) .none) _ _ _
  refine wpAny_bind ?_
  unfold Builtin.List.listItems
  refine wpAny_bind (wpAny_seqItems hS rfl (wpAny_pure ?_))
  show wpAny _ _ (updateSeq s.heap.objs.size (fun _ => #[]) >>= fun _ => letGo (#[] : Array Value).toList.reverse >>= fun _ => Builtin.List.listExtendWith (.ref s.heap.objs.size) (.ref z) .none) _ _ _
  refine wpAny_bind (wpAny_updateSeq hS rfl ?_)
  have hS₂ := Heap.get?_update_self (Obj.mapSeq (fun _ => (#[] : Array Value))) hS rfl
  have k2 : ∀ b o, b ≠ s.heap.objs.size → s.heap.get? b = some o → ((s.heap.push { cls := .type "list", data := .seq #[] }).update s.heap.objs.size (Obj.mapSeq (fun _ => (#[] : Array Value)))).get? b = some o := fun b o hb e => (Heap.get?_update_other _ _ (Ne.symm hb)).trans (Heap.get?_push_of_some _ e)
  refine wpAny_bind (wpAny_letGo ?_)
  have Z2 := Z.other L k2
  have ty : ∀ {hp : Heap} {tk : Nat}, Zs hp z TI TO i1 i2 l1 l2 s.heap.objs.size us vs 0 → ({ s with heap := hp, toks := tk } : Shared).TypeIs (.ref z) "zip" := fun Z => by
    rcases Z.zip with ⟨z1, _⟩ | ⟨T, f, oT, z1, _⟩
    · exact ⟨_, z1, rfl⟩
    · exact ⟨_, z1, rfl⟩
  unfold Builtin.List.listExtendWith
  refine wpAny_bind (wpAny_typeOf (T := "zip") (ty Z2) ?_)
  have h1 : Builtin.List.listSameRef (.ref s.heap.objs.size) (.ref z) = false := by simp [Builtin.List.listSameRef, Ne.symm zne]
  have h2 : (Value.type "zip" == Value.type "list") = false := by decide
  have h3 : (Value.type "zip" == Value.type "tuple") = false := by decide
  simp only [h1, h2, h3, Bool.or_false, Bool.false_eq_true, if_false]
  have hz2 := k2 z _ zne hz0
  refine wpAny_bind (wpAny_pyIter_zip hz2 ?_)
  refine wpAny_bind (wpAny_holding (zip_hint (ty Z2) ?_))
  refine wpAny_ite_split (fun _ => ?_) (fun c => absurd rfl c)
  refine wpAny_bind (wpAny_rule (wpAny_bind ?_))
  show wpAny _ _ (updateSeq s.heap.objs.size (·.push .none) >>= fun _ => updateSeq s.heap.objs.size (·.pop)) _ _ _
  refine wpAny_bind (wpAny_updateSeq hS₂ rfl ?_)
  have hS₃ := Heap.get?_update_self (Obj.mapSeq (·.push Value.none)) hS₂ rfl
  refine wpAny_updateSeq (hz := by seq_fits) hS₃ rfl ?_
  have hS₄ := Heap.get?_update_self (Obj.mapSeq (·.pop)) hS₃ rfl
  refine wpAny_pure ⟨plainId_quiet PySem.F.plain_extend_loop _, ?_⟩
  refine codeAny_mono (key _ _ _ (fun b o hb e => ?_) hS₄) fun r s' x => ?_
  · exact (Heap.get?_update_other _ _ (Ne.symm hb)).trans ((Heap.get?_update_other _ _ (Ne.symm hb)).trans (k2 b o hb e))
  · obtain ⟨rfl, q⟩ := x
    exact ⟨rfl, q⟩
end
end L2.Mi.Lz

set_option Elab.async false
set_option linter.all false
set_option maxRecDepth 100000
set_option maxHeartbeats 4000000
/-! Mini19: list(zip(a, b)) in the evaluator. -/
namespace L2.Mi
open PySem PySem.Spec PyProof.Rows
/-- list(zip(a, b)) of two tuples -/
def tLz (K : PySem.W.Frag) (ta : TA) : TE := fun σ H Q => ta σ H fun vs H1 => ∃ a b xs ys, vs = [.ref a, .ref b] ∧ SqT K H1 a xs ∧ SqT K H1 b ys ∧ min xs.length ys.length ≤ sizeLine ∧
  ∀ (H' : Hp) (p : Addr) (as : List Addr), (∀ c o, H1 c = some o → H' c = some o) → H1 p = none → (∀ c ∈ as, H1 c = none) → H' p = some (.lst (as.map V.ref)) → as.length = min xs.length ys.length →
    (∀ (j : Nat) c x y, as[j]? = some c → xs[j]? = some x → ys[j]? = some y → H' c = some (.tup [x, y])) → Q (.ref p) H'
section
variable {X : Cx} {a b : Expr} {ta : TA} {p p2 pos pos2 : Pos}
theorem pe_lzip (hc : X.calm = true) (hg : Gl X "list") (hm : X.mg "list" = none) (hg2 : Gl X "zip") (hm2 : X.mg "zip" = none) (ha : PA X [a, b] ta)
    (hs : starEach [a, b] X.env = (false, eval a X.env) :: starEach [b] X.env := by rfl) (hpl : (backTo pos2 (starEach [b] X.env)).any (·.1) = false := by rfl)
    (na : starEach [.Call (.Name "zip" p2) [a, b] [] pos2] X.env = (false, eval (.Call (.Name "zip" p2) [a, b] [] pos2) X.env) :: starEach [] X.env := by rfl) :
    PE X (.Call (.Name "list" p) [.Call (.Name "zip" p2) [a, b] [] pos2] [] pos) (tLz X.K ta) := by
  refine ⟨fun pins s σ H Q I h => ?_⟩
  refine Call_ (ld_blt I hg hm boot_list (PyProof.Rows.callWith_type1 (args_cons ?_ na) na))
  refine Call_ (ld_blt I hg2 hm2 PyProof.Rows.boot_zip (PyProof.Rows.callWith_type1 (thn (ha.run pos2 pins s σ H _ I h) fun us s1 ⟨vs, H1, I1, r1, q1⟩ => ?_) hs hpl))
  obtain ⟨l1, l2, xs, ys, rfl, hx, hy, hz, q⟩ := q1
  cases r1 with
  | cons r rr =>
    cases rr with
    | cons r' rr =>
      cases rr
      cases r
      cases r'
      obtain ⟨it1, rv1, p1, _⟩ := I1.tuple hx
      obtain ⟨it2, rv2, p2', _⟩ := I1.tuple hy
      obtain ⟨o1, ho1, _⟩ := id p1
      obtain ⟨o2, ho2, _⟩ := id p2'
      have b1 := Heap.lt_size ho1
      have b2 := Heap.lt_size ho2
      refine RZ.call_zipT (show s1.heap.IsTuple l1 it1.toArray from p1) (show s1.heap.IsTuple l2 it2.toArray from p2') fun h' z1 z2 z3 z4 z5 hsz hk => args_nil ?_
      have D := PySem.W.ktu_apart s1.heap.objs.size l1 l2 b1 b2
      have len1 := rv1.length
      have len2 := rv2.length
      have e1 : it1.toArray.size = xs.length := by rw [List.size_toArray, len1]
      have e2 : it2.toArray.size = ys.length := by rw [List.size_toArray, len2]
      have I2 : Inv X pins σ H1 { s1 with heap := h' } := I1.kept (t' := s1.toks) hk
      have tup : ∀ {l : Addr} {ws : Array Value}, s1.heap.IsTuple l ws → h'.IsTuple l ws := fun ⟨o, e, r⟩ => ⟨o, hk _ _ e, r⟩
      refine Lz.zl_call (s := { s1 with heap := h' }) (us := it1.toArray) (vs := it2.toArray) (I1.ok.hd hc) D ⟨?_, ?_, ?_, ?_, ?_, ?_, ?_⟩ z1 ⟨.inl ⟨z1, _, _, z3⟩, z2, z4, z5, tup p1, tup p2'⟩ (by rw [e1, e2]; exact hz) fun h2 tk acc c as k1 k2 k3 k4 k5 => ?_
      · show _ < h'.objs.size; omega
      · show _ < h'.objs.size; omega
      · show _ < h'.objs.size; omega
      · show _ < h'.objs.size; omega
      · show _ < h'.objs.size; omega
      · show _ < h'.objs.size
        rw [hsz]; exact Nat.lt_of_lt_of_le b1 (Nat.le_add_right _ _)
      · show _ < h'.objs.size
        rw [hsz]; exact Nat.lt_of_lt_of_le b2 (Nat.le_add_right _ _)
      have keep : ∀ d o, s1.heap.get? d = some o → h2.get? d = some o := fun d o e => by
        have hd := Heap.lt_size e
        have far : ∀ n, d < s1.heap.objs.size + n := fun n => Nat.lt_of_lt_of_le hd (Nat.le_add_right _ _)
        exact k1 d o (far 4) (Nat.ne_of_lt (far 3)) (Nat.ne_of_lt hd) (Nat.ne_of_lt (far 1)) (hk d o e)
      have I3 : Inv X pins σ H1 { s1 with heap := h2, toks := tk } := I1.kept keep
      have big : s1.heap.objs.size ≤ h'.objs.size := by omega
      have nd : as.Nodup := k4.1.imp fun h => Nat.ne_of_lt h
      have pair : ∀ (j : Nat) (d : Addr), as[j]? = some d → ∃ x y, xs[j]? = some x ∧ ys[j]? = some y ∧ ∀ H2, ObjOk X.prog X.w H2 h2 d (.tup [x, y]) := fun j d hj => by
        obtain ⟨_, u, v, g1, g2, g3⟩ := k4.2 j d hj
        rw [List.getElem?_toArray] at g1 g2
        have j1 := (List.getElem?_eq_some_iff.mp g1).1
        have j2 := (List.getElem?_eq_some_iff.mp g2).1
        obtain ⟨u', f1, f2⟩ := rv1.get (List.getElem?_eq_getElem (l := xs) (i := j) (by omega))
        obtain ⟨v', f3, f4⟩ := rv2.get (List.getElem?_eq_getElem (l := ys) (i := j) (by omega))
        rw [g1] at f1
        rw [g2] at f3
        cases f1
        cases f3
        exact ⟨_, _, List.getElem?_eq_getElem (by omega), List.getElem?_eq_getElem (by omega), fun H2 => ⟨by show 2 ≤ sizeLine; decide, [u, v], .cons f2 (.cons f4 .nil), ⟨_, g3, rfl, _, rfl⟩⟩⟩
      have fresh : ∀ d, s1.heap.objs.size ≤ d → H1 d = none := fun d hd => I1.hok.fresh hd
      have hS0 : H1 h'.objs.size = none := fresh _ big
      have vals : Vals (as.map V.ref) acc.toList := by
        rw [k5]
        clear k5 k4 k3 pair nd
        induction as with
        | nil => exact .nil
        | cons d ds ih => rw [List.map_cons, List.map_cons]; exact .cons rfl ih
      have newL : ObjOk X.prog X.w (upd H1 h'.objs.size (.lst (as.map V.ref))) h2 h'.objs.size (.lst (as.map V.ref)) := ⟨by rw [List.length_map, k3, e1, e2]; exact hz, acc.toList, c, vals, by rw [Array.toArray_toList]; exact k2⟩
      have I4 : Inv X pins σ (upd H1 h'.objs.size (.lst (as.map V.ref))) { s1 with heap := h2, toks := tk } := I3.take (h' := h2) (t' := tk) (fun _ _ _ e => e) (I1.fpOk big hS0) newL
      obtain ⟨H2, I5, g, tps⟩ := L2.DX.takeT (P := fun d vs => ∀ (j : Nat) x y, as[j]? = some d → xs[j]? = some x → ys[j]? = some y → vs = [x, y]) (s := s1) (h' := h2) (tk := tk) I1 as _ I4 nd fun d hd => by
        obtain ⟨j, hj⟩ := List.mem_iff_getElem?.mp hd
        have hgt := (k4.2 j d hj).1
        obtain ⟨x, y, f1, f2, f3⟩ := pair j d hj
        refine ⟨Nat.le_trans big (Nat.le_of_lt hgt), by rw [upd_ne (Nat.ne_of_gt hgt)]; exact fresh d (Nat.le_trans big (Nat.le_of_lt hgt)), [x, y], fun j' x' y' hj' hx' hy' => ?_, f3⟩
        have : j' = j := by
          have i1 := (List.getElem?_eq_some_iff.mp hj).1
          have i2 := (List.getElem?_eq_some_iff.mp hj').1
          have q1 : as[j] = d := (List.getElem?_eq_some_iff.mp hj).2
          have q2 : as[j'] = d := (List.getElem?_eq_some_iff.mp hj').2
          have pw := List.pairwise_iff_getElem.mp nd
          rcases Nat.lt_trichotomy j' j with g | g | g
          · exact absurd (q2.trans q1.symm) (pw j' j i2 i1 g)
          · exact g
          · exact absurd (q1.trans q2.symm) (pw j j' i1 i2 g)
        subst this
        rw [f1] at hx'
        rw [f2] at hy'
        cases hx'
        cases hy'
        rfl
      refine ⟨.ref h'.objs.size, H2, I5, rfl, q H2 h'.objs.size as (fun d o e => g d o (by rw [upd_ne fun z => by rw [z, hS0] at e; cases e]; exact e)) hS0 (fun d hd => ?_) (g _ _ upd_same) (by rw [k3, e1, e2]) fun j d x y hj hx hy => ?_⟩
      · obtain ⟨j, hj⟩ := List.mem_iff_getElem?.mp hd
        exact fresh d (Nat.le_trans big (Nat.le_of_lt (k4.2 j d hj).1))
      · obtain ⟨ws, f1, f2⟩ := tps d (List.mem_of_getElem? hj)
        rw [f1 j x y hj hx hy] at f2
        exact f2
end
section
variable {G : Gb} {C : CallF} {X : Cx} {a b : Expr} {ma mb : ME} {p p2 pos pos2 : Pos}
theorem se_lzip (hm : X.mg "list" = none) (hm2 : X.mg "zip" = none) (hK : X.K = G.K) (ha : PA X [a, b] (tEs G C [ma, mb])) (hc : X.calm = true := by rfl) (hg : Gl X "list" := by rfl) (hg2 : Gl X "zip" := by rfl)
    (hs : starEach [a, b] X.env = (false, eval a X.env) :: starEach [b] X.env := by rfl) (hpl : (backTo pos2 (starEach [b] X.env)).any (·.1) = false := by rfl)
    (na : starEach [.Call (.Name "zip" p2) [a, b] [] pos2] X.env = (false, eval (.Call (.Name "zip" p2) [a, b] [] pos2) X.env) :: starEach [] X.env := by rfl) :
    PE X (.Call (.Name "list" p) [.Call (.Name "zip" p2) [a, b] [] pos2] [] pos) (tE G C (.lzip ma mb)) := by
  refine (pe_lzip hc hg hm hg2 hm2 ha hs hpl na).mono fun σ H Q h => ?_
  obtain ⟨A, ρ, v, mh', rfl, S, N, e, q⟩ := h
  simp only [ev] at e
  split at e
  · rename_i xs mh1 e1
    split at e
    · rename_i ys mh2 e2
      split at e
      · rename_i hl
        cases e
        refine tEs.go (vs := [.tup xs, .tup ys]) (mh1 := mh') S N (by simp only [evs, e1, e2]) fun B vs k em SB NB r => ?_
        unfold Reps at r
        obtain ⟨v1, r', rfl, r1, r2⟩ := r
        obtain ⟨v2, rfl, r3⟩ := r2.one_
        obtain ⟨l1, us, rfl, h1, s1⟩ := r1.tup_
        obtain ⟨l2, ws, rfl, h2, s2⟩ := r3.tup_
        refine ⟨l1, l2, us, ws, rfl, by rw [hK]; exact h1, by rw [hK]; exact h2, ?_, fun H' p as g hp hf hL hlen htp => ?_⟩
        · rw [← s1.len, sizeLine_eq]; omega
        -- the new world
        have kB : Keep B { B with H := H' } := ⟨fun _ h => h, fun _ h => .inl h, fun c h z => h (by cases e : B.H c with | none => rfl | some o => exact absurd ((g c o e).symm.trans z) (fun z => nomatch z)), rfl, ⟨[], by simp⟩, fun c o e _ => ⟨o, g c o e, .inl rfl⟩, fun _ h => .inl h, fun c _ o e _ => g c o e⟩
        have SB' : Sim G { B with H := H' } := by
          refine ⟨SB.len, SB.ble, SB.top, fun l o e c q => ?_, SB.inj, fun c hc => ?_, SB.exl, SB.bnd⟩
          · have r := SB.obj l o e c q
            obtain ⟨u, e', _⟩ := r.at
            exact r.keep SB kB (by rw [e']; exact g c u e')
          · obtain ⟨u, e, n⟩ := SB.exo c hc
            exact ⟨u, g c u e, n⟩
        refine q _ (.ref p) (k.trans kB) em SB' ?_
        unfold Rep
        refine ⟨p, as.map V.ref, rfl, hL, off_new SB hp, ?_⟩
        have l1' := s1.len
        have l2' := s2.len
        refine Reps.of (by rw [List.length_map, List.length_zipWith, hlen]; omega) fun i m w e3 e4 => ?_
        rw [List.getElem?_map, Option.map_eq_some_iff] at e4
        obtain ⟨c, e5, rfl⟩ := e4
        have hi := (List.getElem?_eq_some_iff.mp e5).1
        have i1 : i < xs.length := by omega
        have i2 : i < ys.length := by omega
        have e6 : (List.zipWith (fun x y => MV.tup [x, y]) xs ys)[i]? = some (.tup [xs[i], ys[i]]) := by
          rw [List.getElem?_eq_getElem (by rw [List.length_zipWith]; omega)]; simp
        rw [e6] at e3
        cases e3
        have g1 := s1.at (List.getElem?_eq_getElem i1) (List.getElem?_eq_getElem (l := us) (i := i) (by omega))
        have g2 := s2.at (List.getElem?_eq_getElem i2) (List.getElem?_eq_getElem (l := ws) (i := i) (by omega))
        unfold Rep
        refine ⟨c, _, rfl, .inl (.inl (htp i c _ _ e5 (List.getElem?_eq_getElem (by omega)) (List.getElem?_eq_getElem (by omega)))), ?_⟩
        unfold Reps
        exact ⟨_, _, rfl, Rep.keep SB kB _ _ g1, Reps.one (Rep.keep SB kB _ _ g2)⟩
      · cases e
    · cases e
  · cases e
end
end L2.Mi

set_option Elab.async false
set_option linter.all false
set_option maxRecDepth 100000
set_option maxHeartbeats 4000000
/-! Mini20: startswith at a place, join of a list, x or a list, three stores at once, a module's text. -/
namespace L2.Mi
open PySem PySem.Spec PyProof.Rows
def rStart2 (_ : PySem.W.Frag) : V → List V → Hp → VK → Prop := fun x xs H Q => ∃ (a b : Str) (i : Int), x = .str a ∧ xs = [.str b, .int i] ∧ Q (.bl (Txt.startswith3 a b i)) H
theorem me_start2 : MeS .start2 rStart2 := by
  intro G A o xs v mh' w vs Q S e ro r h
  simp only [methV, startV] at e
  split at e
  · rename_i s t i
    cases e
    unfold Reps at r
    obtain ⟨u, r', rfl, r1, r2⟩ := r
    obtain ⟨u', rfl, r3⟩ := Reps.one_ r2
    exact ⟨_, _, _, ro.str_, by rw [r1.str_, r3.int_], h.here S (rep_bl _)⟩
  · cases e
def rJoin (K : PySem.W.Frag) : V → List V → Hp → VK → Prop := fun x xs H Q => ∃ a p, ∃ ys : List Str, x = .str a ∧ xs = [.ref p] ∧ (SqL K H p (ys.map V.str) ∨ SqT K H p (ys.map V.str)) ∧
    (ys.map (·.length)).sum + ys.length * a.length ≤ 16777216 ∧ Q (.str (Txt.join a ys)) H
theorem me_join : MeS .join rJoin := by
  intro G A o xs v mh' w vs Q S e ro r h
  simp only [methV, joinV] at e
  split at e
  · rename_i s x
    split at e
    · rename_i ys e1
      split at e
      · rename_i ss e2
        split at e
        · rename_i hz
          cases e
          obtain ⟨u, rfl, r1⟩ := Reps.one_ r
          obtain ⟨a, us, rfl, h1, h2⟩ := getL_rep S e1 r1
          have h1' : A.H a = some (.lst ((ss.map fun t => (⟨t.toArray⟩ : Str)).map V.str)) := by rw [h1, Reps.strOf h2 e2, List.map_map]; rfl
          refine ⟨_, a, ss.map fun t => ⟨t.toArray⟩, ro.str_, rfl, .inl (SqL.of h1'), ?_, ?_⟩
          · rw [List.map_map, List.length_map, str_len]
            have : ((fun x : Str => x.length) ∘ fun t : Sx => (⟨t.toArray⟩ : Str)) = List.length := funext fun t => by simp [Str.length]
            rw [this]
            exact hz
          · have q := h.here S (rep_str _)
            have e3 : ∀ z : Str, (⟨z.cps.toList.toArray⟩ : Str) = z := fun z => str_toList_eq (by simp)
            rw [e3] at q
            exact q
        · cases e
      · cases e
    · cases e
  · cases e
section
variable {G : Gb} {C : CallF} {X : Cx} {pos p : Pos} {e a b c : Expr} {ma mb mc m : ME} {k : Nat}
theorem sm_start2 {apos cpos : Pos} {es : List Expr} {ms : List ME} (hK : X.K = G.K) (ho : PE X a (tE G C m)) (ha : PA X (e :: es) (tEs G C ms)) (hbase : attributeBase a "startswith" X.env (eval a X.env) = eval a X.env := by rfl)
    (hfew : ((backTo cpos (starEach (e :: es) X.env)).all (fun x => !x.1) && (backToKw cpos (keywordEach [] X.env)).all (fun x => x.1.isSome)
      && decide ((e :: es).length + ([] : List Keyword).length + (if ([] : List Keyword).isEmpty then 0 else 1) < 30)) = true := by rfl)
    (hline : (apos.endLine == cpos.line) = true := by rfl) (hs : starEach (e :: es) X.env = (false, eval e X.env) :: starEach es X.env := by rfl) (hplain : (backTo cpos (starEach es X.env)).any (·.1) = false := by rfl) :
    PE X (.Call (.Attribute a "startswith" apos) (e :: es) [] cpos) (tE G C (.meth .start2 m ms)) := se_meth me_start2 hK PySem.F.plainAttrs_str PySem.F.slot_str_startswith PySem.F.type_str_startswith mt_startswith3 ho ha hbase hfew hline hs hplain
theorem sm_join {apos cpos : Pos} {es : List Expr} {ms : List ME} (hK : X.K = G.K) (ho : PE X a (tE G C m)) (ha : PA X (e :: es) (tEs G C ms)) (hbase : attributeBase a "join" X.env (eval a X.env) = eval a X.env := by rfl)
    (hfew : ((backTo cpos (starEach (e :: es) X.env)).all (fun x => !x.1) && (backToKw cpos (keywordEach [] X.env)).all (fun x => x.1.isSome)
      && decide ((e :: es).length + ([] : List Keyword).length + (if ([] : List Keyword).isEmpty then 0 else 1) < 30)) = true := by rfl)
    (hline : (apos.endLine == cpos.line) = true := by rfl) (hs : starEach (e :: es) X.env = (false, eval e X.env) :: starEach es X.env := by rfl) (hplain : (backTo cpos (starEach es X.env)).any (·.1) = false := by rfl) :
    PE X (.Call (.Attribute a "join" apos) (e :: es) [] cpos) (tE G C (.meth .join m ms)) := se_meth me_join hK PySem.F.plainAttrs_str PySem.F.slot_str_join PySem.F.type_str_join mt_join ho ha hbase hfew hline hs hplain
/-- a module's text -/
theorem sgls {x z : Str} {s : Sx} (hm : ∃ t, X.mg x = some (.str z t)) (hz : z = ⟨s.toArray⟩ := by decide +kernel) (hg : Gl X x := by rfl) (hd : (x == ("__debug__" : Str)) = false := by decide) : PE X (.Name x pos) (tE G C (.c (.str s))) := by
  obtain ⟨t, h⟩ := hm
  subst hz
  exact se_c (pe_glob (v := .str ⟨s.toArray⟩) hg h ⟨t, rfl⟩ hd) fun _ => rep_str s
theorem tru_rep {A : Wd} (S : Sim G A) {x : MV} {k : Bool} {v : V} (e : truM A.mh x = some k) (r : Rep G A x v) : TruV G.K v A.H k := by
  unfold truM at e
  split at e
  · cases e
    rw [r.non_]
    rfl
  · simp only [Option.map_eq_some_iff] at e
    obtain ⟨xs, e1, rfl⟩ := e
    obtain ⟨a, vs, rfl, h1, r1⟩ := getL_rep S e1 r
    refine .inl ⟨vs, SqL.of h1, ?_⟩
    have := r1.len
    cases xs <;> cases vs <;> first | rfl | simp at this
/-- x or y, by truth -/
theorem se_orv {rest : List Expr} (hK : X.K = G.K) (ha : PE X a (tE G C ma)) (hb : PE X (.BoolOp .Or (b :: rest) pos) (tE G C mb)) : PE X (.BoolOp .Or (a :: b :: rest) pos) (tE G C (.orv ma mb)) := by
  refine (pe_orT ha hb).mono fun σ H Q h => ?_
  obtain ⟨A, ρ, v, mh', rfl, S, N, e, q⟩ := h
  simp only [ev] at e
  split at e
  · cases e
  rename_i x mh1 e1
  split at e
  · rename_i ht
    cases e
    refine tE.go S N e1 fun B vx k em SB NB r => ⟨true, by rw [hK]; exact tru_rep SB (by rw [em]; exact ht) r, ?_⟩
    rw [if_pos rfl]
    exact q B _ k em SB r
  · rename_i ht
    refine tE.go S N e1 fun B vx k em SB NB r => ⟨false, by rw [hK]; exact tru_rep SB (by rw [em]; exact ht) r, ?_⟩
    rw [if_neg Bool.false_ne_true]
    exact tE.go SB NB (ev.at k em e) fun B2 x2 k2 em2 S2 _ r2 => q B2 x2 (k.trans k2) em2 S2 r2
  · cases e
theorem spar3 (i j l : Nat) {x y z : Str} {px py pz pt : Pos} {kt k2 pt2} (hN : X.N.Nodup) (ha : PE X a (tE G C ma)) (hb : PE X b (tE G C mb)) (hcc : PE X c (tE G C mc)) (hw : swappedStores [.Tuple [.Name x px, .Name y py, .Name z pz] kt pt] (.Tuple [a, b, c] k2 pt2) X.env = pure (some [x, y, z]))
    (hc : X.calm = true := by rfl) (hi : X.N[i]? = some x := by rfl) (hj : X.N[j]? = some y := by rfl) (hl : X.N[l]? = some z := by rfl) (hij : i ≠ j := by decide) (hil : i ≠ l := by decide) (hjl : j ≠ l := by decide)
    (hx : X.env.scope.names.lookup x = some .local := by rfl) (hy : X.env.scope.names.lookup y = some .local := by rfl) (hz : X.env.scope.names.lookup z = some .local := by rfl)
    (hs : swapsWithSole [.Tuple [.Name x px, .Name y py, .Name z pz] kt pt] (.Tuple [a, b, c] k2 pt2) pos.line X.env = pure false := by rfl)
    (hs1 : starEach [a, b, c] X.env = (false, eval a X.env) :: starEach [b, c] X.env := by rfl) (hs2 : starEach [b, c] X.env = (false, eval b X.env) :: starEach [c] X.env := by rfl) (hs3 : starEach [c] X.env = (false, eval c X.env) :: starEach [] X.env := by rfl) :
    PS X (.Assign [.Tuple [.Name x px, .Name y py, .Name z pz] kt pt] (.Tuple [a, b, c] k2 pt2) pos) (tS G C (.par3 i j l ma mb mc)) := (ps_par3 hc hN hi hj hl hij hil hjl hx hy hz (sa_cons ha (sa_cons hb (sa_cons hcc sa_nil hs3) hs2) hs1) hw hs).mono fun D σ H h => by
  obtain ⟨A, ρ, fl, ρ', mh', rfl, S, N, e, q⟩ := h
  simp only [ex] at e
  split at e
  · cases e
  rename_i v mh1 e1
  split at e
  · cases e
  rename_i w mh2 e2
  split at e
  · cases e
  rename_i u mh3 e3
  split at e
  · cases e
    refine tEs.go (vs := [v, w, u]) (mh1 := mh') S N (by simp only [evs, e1, e2, e3]) fun B xs k em SB NB r => ?_
    unfold Reps at r
    obtain ⟨v', r', rfl, r1, r2⟩ := r
    unfold Reps at r2
    obtain ⟨w', r'', rfl, r3, r4⟩ := r2
    unfold Reps at r4
    obtain ⟨u', r''', rfl, r5, r6⟩ := r4
    unfold Reps at r6
    subst r6
    exact ⟨v', w', u', rfl, q B k em SB _ (((NB.set r1 i).set r3 j).set r5 l)⟩
  · cases e
end
end L2.Mi

set_option Elab.async false
set_option linter.all false
set_option maxRecDepth 100000
set_option maxHeartbeats 4000000
/-! Mini21: objects of own classes: fields read and stored, methods called, new ones made; levels that count twice. -/
namespace L2.Mi
open PySem PySem.Spec PyProof.Rows
/-- a def that runs in its caller's frame -/
def spI (G : Gb) (C : CallF) (f n : Nat) : Sp := fun vs H Q _ => vs.length = n ∧ ∃ (A : Wd) (args : List MV) (r : MV) (mh' : MHp), A.H = H ∧ Sim G A ∧ Reps G A args vs ∧ C (icode f A.base) args A.mh = some (r, mh') ∧ Post G A mh' r Q
structure FnI (P : Program) (w : World) (K : PySem.W.Frag) (mg : Str → Option Value) (base : Heap) (G : Gb) (C : CallF) (k f : Nat) (a : Addr) : Prop where
  ex : ∃ (fd : FuncData) (ps : List Str), FnOk P w K mg base CX0 k a fd ps (spI G C f ps.length) ∧ PySem.W.keepIn K (.ref a) = true ∧ Binds K fd ps [] ∧ ∀ b args mh r, C (icode f b) args mh = some r → args.length = ps.length
/-- both promises of a def -/
structure FnB (P : Program) (w : World) (K : PySem.W.Frag) (mg : Str → Option Value) (base : Heap) (G : Gb) (C : CallF) (k f : Nat) (a : Addr) : Prop where
  c : FnC P w K mg base G C k f a
  i : FnI P w K mg base G C k f a
theorem run_okI {G : Gb} {C : CallF} {d : Df} {N : List Str} {vs : List V} {Q : VK} {A : Wd} {args : List MV} {r : MV} {mh' : MHp} (hN : N.length = d.ns) (S : Sim G A) (ra : Reps G A args vs) (e : runI C A.base d args A.mh = some (r, mh')) (q : Post G A mh' r Q) :
    args.length = d.np ∧ tSs G C d.body { nx := fun _ H' => Q .non H', rt := Q } (L2.start N vs) A.H := by
  unfold runI at e
  split at e
  · rename_i hl
    refine ⟨hl, ?_⟩
    split at e
    · cases e
    rename_i fl ρ' mh1 e1
    simp only [Option.map_eq_some_iff] at e
    obtain ⟨v, e2, e3⟩ := e
    cases e3
    refine ⟨A, _, fl, ρ', mh', rfl, S, (envs_start hN ra : Envs G A (args.map some ++ List.replicate (d.ns - args.length) none) _), ?_, fun B k em SB => ?_⟩
    · rw [hl]; exact e1
    cases fl with
    | nx =>
      cases e2
      exact fun σ _ => q B .non k em SB rep_non
    | rt w =>
      cases e2
      exact fun x rx => q B x k em SB rx
    | bk => cases e2
    | ct => cases e2
  · cases e
theorem icode_big (f b : Nat) : 100000 ≤ icode f b := by
  unfold icode
  rw [Nat.mul_succ]
  exact Nat.le_trans (Nat.le_add_left _ _) (Nat.le_add_left _ _)
theorem icode_mod {f : Nat} (b : Nat) (h : f < 100000) : icode f b % 100000 = f := by
  unfold icode
  rw [Nat.add_mul_mod_self_left]
  exact Nat.mod_eq_of_lt h
theorem icode_div {f : Nat} (b : Nat) (h : f < 100000) : icode f b / 100000 - 1 = b := by
  unfold icode
  rw [Nat.add_mul_div_left _ _ (by decide), Nat.div_eq_of_lt h, Nat.zero_add, Nat.add_sub_cancel]
theorem callM_eq2 {T : List Df} {k f : Nat} {args : List MV} {mh : MHp} {d : Df} (h : T[f]? = some d) : callM T (k + 1) f args mh = runD (callM T k) d args mh := by
  show (match T[f]? with
    | none => if 100000 ≤ f then (match T[f % 100000]? with
      | none => none
      | some d => runI (callM T k) (f / 100000 - 1) d args mh) else none
    | some d => runD (callM T k) d args mh) = _
  rw [h]
theorem callM_I {T : List Df} {k f b : Nat} {args : List MV} {mh : MHp} {d : Df} (hT : T.length ≤ 100000) (h : T[f]? = some d) : callM T (k + 1) (icode f b) args mh = runI (callM T k) b d args mh := by
  have hf : f < 100000 := by have := (List.getElem?_eq_some_iff.mp h).1; omega
  have h1 : T[icode f b]? = none := List.getElem?_eq_none (by have := icode_big f b; omega)
  show (match T[icode f b]? with
    | none => if 100000 ≤ icode f b then (match T[icode f b % 100000]? with
      | none => none
      | some d => runI (callM T k) (icode f b / 100000 - 1) d args mh) else none
    | some d => runD (callM T k) d args mh) = _
  rw [h1]
  simp only [icode_big f b, if_true, icode_mod b hf, icode_div b hf, h]
/-! ### the table, levels counted twice -/
structure DefOk2 (P : Program) (w : World) (K : PySem.W.Frag) (mg : Str → Option Value) (base : Heap) (G : Gb) (T : List Df) (f : Nat) (a : Addr) : Prop where
  ex : ∃ (d : Df) (x qual : Str) (st : Stmt) (fd : FuncData) (N ps : List Str), T[f]? = some d ∧ FunD K x qual (defArgs st) (defBody st) (defScope st) [] [] a fd ∧ FnScope N ps (defScope st) ∧ N.length = d.ns ∧ ps.length = d.np ∧ Binds K fd ps [] ∧
    ∀ (k : Nat) (C : CallF) (cdv : Value) (A : Around) (outer : List PySem.Env) (s : Shared) (H : Hp) (E : XK), (∀ f a, G.fa f = some a → FnB P w K mg base G C k f a) → Room (k + 1) (A.deeper (envOfC qual (defScope st) s.heap.objs.size a cdv)) →
      PSs (cxOf CX0 P w K mg base N qual (defScope st) a cdv A outer s H E).nox (defBody st) (tSs G C d.body)
theorem fnB_of {P : Program} {w : World} {K : PySem.W.Frag} {mg : Str → Option Value} {base : Heap} {G : Gb} {T : List Df} (hT : T.length ≤ 100000) (h : ∀ f a, G.fa f = some a → DefOk2 P w K mg base G T f a) : ∀ k f a, G.fa f = some a → FnB P w K mg base G (callM T k) (2 * k) f a := by
  intro k
  induction k with
  | zero =>
    intro f a hf
    obtain ⟨d, x, qual, st, fd, N, ps, hd, F, S, hN, hp, hb, hbody⟩ := (h f a hf).ex
    refine ⟨⟨fd, ps, ⟨fun vs H Q E q => q.1, fun A outer s H args us vs Q E _ _ _ _ q => ?_⟩, F.kp, hb, fun args mh r e => ?_⟩, ⟨fd, ps, ⟨fun vs H Q E q => q.1, fun A outer s H args us vs Q E _ _ _ _ q => ?_⟩, F.kp, hb, fun b args mh r e => ?_⟩⟩
    · obtain ⟨_, A, args, r, mh', _, _, _, e, _⟩ := q
      unfold callM at e
      cases e
    · unfold callM at e
      cases e
    · obtain ⟨_, A, args, r, mh', _, _, _, e, _⟩ := q
      unfold callM at e
      cases e
    · unfold callM at e
      cases e
  | succ k ih =>
    intro f a hf
    obtain ⟨d, x, qual, st, fd, N, ps, hd, F, S, hN, hp, hb, hbody⟩ := (h f a hf).ex
    refine ⟨⟨fd, ps, F.ok (k := 2 * k + 1) S (fun vs H Q E q => q.1) (fun cdv A outer s H vs Q E hr q => ⟨_, (hbody (2 * k) (callM T k) cdv A outer s H E ih hr).nox, ?_⟩), F.kp, hb, fun args mh r e => ?_⟩, ⟨fd, ps, F.ok (k := 2 * k + 1) S (fun vs H Q E q => q.1) (fun cdv A outer s H vs Q E hr q => ⟨_, (hbody (2 * k) (callM T k) cdv A outer s H E ih hr).nox, ?_⟩), F.kp, hb, fun b args mh r e => ?_⟩⟩
    · obtain ⟨hl, W, args, r, mh', rfl, SW, ra, e, q⟩ := q
      rw [callM_eq2 hd] at e
      exact (run_ok hN SW ra e q).2
    · rw [callM_eq2 hd] at e
      simp only [runD] at e
      split at e
      · rename_i hl; rw [hl, hp]
      · cases e
    · obtain ⟨hl, W, args, r, mh', rfl, SW, ra, e, q⟩ := q
      rw [callM_I hT hd] at e
      exact (run_okI hN SW ra e q).2
    · rw [callM_I hT hd] at e
      simp only [runI] at e
      split at e
      · rename_i hl; rw [hl, hp]
      · cases e
/-! ### fields -/
section
variable {G : Gb} {A : Wd}
theorem lk_zip {i : Nat} {v : MV} (hi : ∀ j, G.fl j = G.fl i → j = i) : ∀ {fs : List (Nat × MV)} {vs : List V}, lkF i fs = some v → Reps G A (fs.map Prod.snd) vs → ∃ w, (((fs.map fun p => G.fl p.1).zip vs).lookup (G.fl i)) = some w ∧ Rep G A v w
  | [], vs, e, r => by simp [lkF] at e
  | (j, x) :: fs, vs, e, r => by
    unfold Reps at r
    obtain ⟨w, t, rfl, r1, r2⟩ := r
    simp only [lkF] at e
    by_cases h : j = i
    · rw [if_pos h] at e
      cases e
      subst h
      exact ⟨w, by simp [List.lookup], r1⟩
    · rw [if_neg h] at e
      obtain ⟨u, h1, h2⟩ := lk_zip hi e r2
      refine ⟨u, ?_, h2⟩
      have hne : (G.fl i == G.fl j) = false := beq_eq_false_iff_ne.mpr fun z => h (hi j z.symm)
      simp only [List.map_cons, List.zip_cons_cons, List.lookup, hne]
      exact h1
theorem pt_zip {i : Nat} {v : MV} {w : V} (hi : ∀ j, G.fl j = G.fl i → j = i) (rv : Rep G A v w) : ∀ {fs : List (Nat × MV)} {vs : List V}, Reps G A (fs.map Prod.snd) vs → ∃ ws, putF (G.fl i) w ((fs.map fun p => G.fl p.1).zip vs) = ((ptF i v fs).map fun p => G.fl p.1).zip ws ∧ Reps G A ((ptF i v fs).map Prod.snd) ws
  | [], vs, r => by
    unfold Reps at r
    subst r
    exact ⟨[w], rfl, Reps.one rv⟩
  | (j, x) :: fs, vs, r => by
    unfold Reps at r
    obtain ⟨y, t, rfl, r1, r2⟩ := r
    simp only [List.map_cons, List.zip_cons_cons, putF, ptF]
    by_cases h : j = i
    · subst h
      refine ⟨w :: t, ?_, ?_⟩
      · rw [if_pos rfl, if_pos rfl]
        rfl
      · rw [if_pos rfl]
        show Reps G A (v :: fs.map Prod.snd) (w :: t)
        unfold Reps
        exact ⟨w, t, rfl, rv, r2⟩
    · have hne : ¬ G.fl j = G.fl i := fun z => h (hi j z)
      obtain ⟨ws, h1, h2⟩ := pt_zip hi rv r2
      refine ⟨y :: ws, ?_, ?_⟩
      · rw [if_neg hne, if_neg h, h1]
        rfl
      · rw [if_neg h]
        show Reps G A (x :: (ptF i v fs).map Prod.snd) (y :: ws)
        unfold Reps
        exact ⟨y, ws, rfl, r1, h2⟩
theorem no_zip {m : Str} (hm : ∀ j, G.fl j ≠ m) : ∀ (fs : List (Nat × MV)) (vs : List V), (((fs.map fun p => G.fl p.1).zip vs).lookup m) = none
  | [], vs => rfl
  | (j, x) :: fs, [] => rfl
  | (j, x) :: fs, w :: vs => by
    have hne : (m == G.fl j) = false := beq_eq_false_iff_ne.mpr fun z => hm j z.symm
    simp only [List.map_cons, List.zip_cons_cons, List.lookup, hne]
    exact no_zip hm fs vs
theorem zip_len (fs : List (Nat × MV)) (vs : List V) : ((fs.map fun p => G.fl p.1).zip vs).length ≤ fs.length := by
  rw [List.length_zip, List.length_map]
  exact Nat.min_le_left _ _
theorem pt_len (i : Nat) (v : MV) : ∀ fs : List (Nat × MV), (ptF i v fs).length ≤ fs.length + 1
  | [] => by simp [ptF]
  | p :: fs => by
    simp only [ptF]
    split
    · simp
    · have := pt_len i v fs
      simp only [List.length_cons]
      omega
theorem bds_pt {n i : Nat} {v : MV} (hv : bd n v = true) : ∀ {fs : List (Nat × MV)}, bds n (fs.map Prod.snd) = true → bds n ((ptF i v fs).map Prod.snd) = true
  | [], _ => by simp [ptF, bds, hv]
  | p :: fs, h => by
    simp only [List.map_cons, bds, Bool.and_eq_true] at h
    simp only [ptF]
    split
    · simp only [List.map_cons, bds, Bool.and_eq_true]
      exact ⟨hv, h.2⟩
    · simp only [List.map_cons, bds, Bool.and_eq_true]
      exact ⟨h.1, bds_pt hv h.2⟩
end
section
variable {G : Gb} {C : CallF} {X : Cx} {pos p : Pos} {e a b c o : Expr} {ma mb mc m mo : ME} {k : Nat}
/-- e.f -/
theorem se_fld {f : Str} (i : Nat) (he : PE X e (tE G C m)) (hC : ∀ c Ca, G.cl c = some Ca → Cls X.K Ca) (hA : ∀ c Ca, G.cl c = some Ca → NoAttr X.K Ca f) (hi : ∀ j, G.fl j = G.fl i → j = i) (hf : G.fl i = f := by rfl) (hb : attributeBase e f X.env (eval e X.env) = eval e X.env := by rfl) : PE X (.Attribute e f pos) (tE G C (.fld m i)) := (pe_fld he hb).mono fun σ H Q h => by
  obtain ⟨A, ρ, v, mh', rfl, S, N, e1, q⟩ := h
  simp only [ev] at e1
  split at e1
  · rename_i l mh1 e2
    split at e1
    · rename_i cc fs e3
      simp only [Option.map_eq_some_iff] at e1
      obtain ⟨w, e4, e5⟩ := e1
      cases e5
      refine tE.go S N e2 fun B x kB em SB NB r => ?_
      obtain ⟨ad, rfl, hβ⟩ := r.loc_
      rw [← em] at e3
      obtain ⟨Ca, dx, vs, hc, hH, rs⟩ := SB.obj l _ e3 ad hβ
      obtain ⟨y, hy, ry⟩ := lk_zip hi e4 rs
      rw [hf] at hy
      exact ⟨ad, Ca, dx, _, y, rfl, hH, hC _ _ hc, hA _ _ hc, hy, q B y kB em SB ry⟩
    · cases e1
  · cases e1
/-- o.f = e -/
theorem ss_stf {f : Str} {pos' : Pos} (i : Nat) (ho : PE X o (tE G C mo)) (he : PE X e (tE G C m)) (hC : ∀ c Ca, G.cl c = some Ca → Cls X.K Ca) (hA : ∀ c Ca, G.cl c = some Ca → NoAttr X.K Ca f) (hi : ∀ j, G.fl j = G.fl i → j = i) (hf : G.fl i = f := by rfl) (hs : swapsWith e (some (.Attribute o f pos')) pos.line X.env = pure false := by rfl) :
    PS X (.Assign [.Attribute o f pos'] e pos) (tS G C (.stf mo i m)) := (ps_fld ho he hs).mono fun D σ H h => by
  obtain ⟨A, ρ, fl, ρ', mh', rfl, S, N, e1, q⟩ := h
  simp only [ex] at e1
  split at e1
  · cases e1
  rename_i v mh1 e2
  split at e1
  · rename_i l mh2 e3
    split at e1
    · rename_i cc fs e4
      split at e1
      · rename_i hw
        cases e1
        refine tE.go S N e2 fun B y kB em SB NB rv => tE.go SB NB (ev.at kB em e3) fun B2 x k2 em2 S2 N2 r => ?_
        obtain ⟨ad, rfl, hβ⟩ := r.loc_
        have e4' : B2.mh[l]? = some (some (.ins cc fs)) := by rw [em2]; exact e4
        obtain ⟨Ca, dx, vs, hc, hH, rs⟩ := S2.obj l _ e4' ad hβ
        have rv2 := Rep.keep SB k2 _ _ rv
        obtain ⟨ws, hp, rw'⟩ := pt_zip hi rv2 rs
        rw [hf] at hp
        refine ⟨ad, Ca, dx, _, rfl, hH, hC _ _ hc, hA _ _ hc, Nat.lt_of_le_of_lt (zip_len fs vs) (by omega), ?_⟩
        rw [hp]
        have kw : Keep B2 (B2.wr l ad (.ins Ca dx (((ptF i v fs).map fun p => G.fl p.1).zip ws)) (.ins cc (ptF i v fs))) := keep_wr S2 e4' hβ
        have nt : NoTup (HO.ins Ca dx (((ptF i v fs).map fun p => G.fl p.1).zip ws)) := ⟨(fun _ z => nomatch z), (fun _ _ z => nomatch z)⟩
        have hbase : ∀ b ∈ B2.bs, l < b → obd b (.ins cc (ptF i v fs)) = true := fun b hb hl => by
          have hold := S2.bnd b hb l _ hl e4'
          refine bds_pt (wr_bd S2 (l := l) ?_ hb hl) hold
          rw [k2.base, kB.base]
          exact hw.1
        have Sw := S2.wr e4' hβ (o := .ins Ca dx (((ptF i v fs).map fun p => G.fl p.1).zip ws)) (u := .ins cc (ptF i v fs)) ⟨Ca, dx, ws, hc, upd_same, Reps.keep S2 kw _ _ rw'⟩ nt hbase
        exact q _ ((kB.trans k2).trans kw) (by show B2.mh.set l _ = _; rw [em2]) Sw σ (N2.keep S2 kw)
      · cases e1
    · cases e1
  · cases e1
theorem ss_nev {st : Stmt} : PS X st (tS G C .nev) := ps_never.mono fun D σ H h => by
  obtain ⟨A, ρ, fl, ρ', mh', rfl, S, N, e1, q⟩ := h
  simp only [ex] at e1
  cases e1
end
end L2.Mi

set_option Elab.async false
set_option linter.all false
set_option maxRecDepth 100000
set_option maxHeartbeats 4000000
/-! Mini22: methods, new objects. -/
namespace L2.Mi
open PySem PySem.Spec PyProof.Rows
section
variable {G : Gb} {C : CallF} {X : Cx} {pos p apos : Pos} {e a b c o : Expr} {ma mb mc m mo : ME} {k : Nat}
theorem mc_go {cn mn n : Nat} {Ca : Addr} {ms : List ME} {me : Str} {σ : L2.St} {H : Hp} {Q : VK} (hl : ∀ args mh r, C mn args mh = some r → args.length = n) (hc : G.cl cn = some Ca) (hm : ∀ j, G.fl j ≠ me) (h : tE G C (.mc cn mn mo ms) σ H Q) :
    tMeth Ca me (spC G C mn n) [] E0 (tE G C mo) (tEs G C ms) σ H Q := by
  obtain ⟨A, ρ, v, mh', rfl, S, N, e1, q⟩ := h
  simp only [ev] at e1
  split at e1
  · rename_i l mh1 e2
    split at e1
    · rename_i cc fs e3
      split at e1
      · rename_i hcc
        split at e1
        · cases e1
        rename_i xs mh2 e4
        subst hcc
        refine tE.go S N e2 fun B x kB em SB NB r => ?_
        obtain ⟨ad, rfl, hβ⟩ := r.loc_
        have e3' : B.mh[l]? = some (some (.ins cc fs)) := by rw [em]; exact e3
        obtain ⟨Ca', dx, vs, hc', hH, rs⟩ := SB.obj l _ e3' ad hβ
        rw [hc] at hc'
        cases hc'
        refine ⟨ad, dx, _, rfl, hH, no_zip hm fs vs, ?_⟩
        refine tEs.go SB NB (evs.at kB em e4) fun B2 ys k2 em2 S2 _ r2 => ?_
        rw [List.append_nil]
        have r3 : Reps G B2 (.loc l :: xs) (.ref ad :: ys) := by
          unfold Reps
          exact ⟨_, _, rfl, Rep.keep SB k2 _ _ r, r2⟩
        refine ⟨?_, B2, .loc l :: xs, v, mh', rfl, S2, r3, by rw [em2]; exact e1, Post.step q (kB.trans k2)⟩
        rw [← r3.len]
        exact hl _ _ _ e1
      · cases e1
    · cases e1
  · cases e1
/-- o.m(e, ..) -/
theorem se_mc {pl : Sem Bool} {x : Str} {es : List Expr} {ms : List ME} (cn mn : Nat) {Ca fa : Addr} (F : FnC X.prog X.w X.K X.mg X.base G C k mn fa) (hr : Room k X.A) (hcl : Cls X.K Ca) (hmt : Meth X.K Ca x fa) (hm : ∀ j, G.fl j ≠ x) (ho : PE X o (tE G C mo)) (ha : PA X (e :: es) (tEs G C ms)) (hc : G.cl cn = some Ca := by rfl)
    (hst : starEach (e :: es) X.env = (false, eval e X.env) :: starEach es X.env := by rfl) (hpl : (backTo pos (starEach es X.env)).any (·.1) = false := by rfl)
    (ht : eval (.Call (.Attribute o x apos) (e :: es) [] pos) X.env = (do
      let ov ← eval o X.env
      standAt apos.atName
      let (f, first) ← holding [ov] (getMethod ov x pl)
      callWith pos f first (backTo pos (starEach (e :: es) X.env)) (backToKw pos (keywordEach [] X.env))) := by rfl) :
    PE X (.Call (.Attribute o x apos) (e :: es) [] pos) (tE G C (.mc cn mn mo ms)) := by
  obtain ⟨fd, ps, F, hk, hb, hl⟩ := F.ex
  exact (pe_meth (pl := pl) ho hcl hmt F hr hb .nil pass0 ha hst hpl ht).mono fun σ H Q h => mc_go hl hc hm h
theorem se_mc0 {pl : Sem Bool} {x : Str} (cn mn : Nat) {Ca fa : Addr} (F : FnC X.prog X.w X.K X.mg X.base G C k mn fa) (hr : Room k X.A) (hcl : Cls X.K Ca) (hmt : Meth X.K Ca x fa) (hm : ∀ j, G.fl j ≠ x) (ho : PE X o (tE G C mo)) (hc : G.cl cn = some Ca := by rfl)
    (ht : eval (.Call (.Attribute o x apos) [] [] pos) X.env = (do
      let ov ← eval o X.env
      standAt apos.atName
      let (f, first) ← holding [ov] (getMethod ov x pl)
      callWith pos f first (backTo pos (starEach [] X.env)) (backToKw pos (keywordEach [] X.env))) := by rfl) :
    PE X (.Call (.Attribute o x apos) [] [] pos) (tE G C (.mc cn mn mo [])) := by
  obtain ⟨fd, ps, F, hk, hb, hl⟩ := F.ex
  refine (pe_meth0 (pl := pl) ho hcl hmt F hr hb .nil pass0 ht).mono fun σ H Q h => ?_
  have h2 := mc_go hl hc hm h
  obtain ⟨A, ρ, v, mh', e1, S, N, e2, q⟩ := h2
  refine ⟨A, ρ, v, mh', e1, S, N, e2, fun B y kB em SB r => ?_⟩
  obtain ⟨ad, dx, fs, rfl, hH, hlk, A2, ρ2, vs2, mh2, eH, S2, N2, e3, q2⟩ := q B y kB em SB r
  simp only [evs] at e3
  cases e3
  have z := q2 A2 [] (Keep.refl A2) rfl S2 (by unfold Reps; rfl)
  rw [eH] at z
  exact ⟨ad, dx, fs, rfl, hH, hlk, z⟩
/-! ### C(e, ..) -/
theorem mk_go {cn i n : Nat} {Ca : Addr} {ms : List ME} {σ : L2.St} {H : Hp} {Q : VK} (hl : ∀ b args mh r, C (icode i b) args mh = some r → args.length = n) (hc : G.cl cn = some Ca) (h : tE G C (.mk cn i ms) σ H Q) :
    tMake Ca (spI G C i n) [] E0 (tEs G C ms) σ H Q := by
  obtain ⟨A, ρ, v, mh', rfl, S, N, e1, q⟩ := h
  simp only [ev] at e1
  split at e1
  · cases e1
  rename_i xs mh1 e2
  split at e1
  · rename_i mh2 e3
    cases e1
    refine tEs.go S N e2 fun B ys kB em SB _ r => ?_
    intro x dx hx hdx hne
    rw [List.append_nil]
    have S1 : Sim G (B.up dx (.own x)) := SB.new hdx
    have k1 : Keep B (B.up dx (.own x)) := keep_new hdx
    have hx1 : (B.up dx (.own x)).H x = none := by
      show upd B.H dx (.own x) x = none
      rw [upd_ne (Ne.symm hne)]
      exact hx
    have k2 : Keep (B.up dx (.own x)) ((B.up dx (.own x)).al x (.ins Ca dx []) (.ins cn [])) := keep_al S1 hx1
    have S2 : Sim G ((B.up dx (.own x)).al x (.ins Ca dx []) (.ins cn [])) := S1.al hx1 ⟨Ca, dx, [], hc, upd_same, by unfold Reps; rfl⟩ ⟨(fun _ z => nomatch z), (fun _ _ z => nomatch z)⟩
    have kk := k1.trans k2
    have hβ : ((B.up dx (.own x)).al x (.ins Ca dx []) (.ins cn [])).β[mh1.length]? = some x := by
      show (B.β ++ [x])[mh1.length]? = some x
      rw [← em, ← SB.len, List.getElem?_append_right (Nat.le_refl _), Nat.sub_self]
      rfl
    have r1 : Rep G ((B.up dx (.own x)).al x (.ins Ca dx []) (.ins cn [])) (.loc mh1.length) (.ref x) := by
      unfold Rep
      exact ⟨x, rfl, hβ⟩
    have r3 : Reps G ((B.up dx (.own x)).al x (.ins Ca dx []) (.ins cn [])) (.loc mh1.length :: xs) (.ref x :: ys) := by
      unfold Reps
      exact ⟨_, _, rfl, r1, Reps.keep SB kk _ _ r⟩
    have hb2 : ((B.up dx (.own x)).al x (.ins Ca dx []) (.ins cn [])).base = A.base := by rw [kk.base, kB.base]
    have hm2 : ((B.up dx (.own x)).al x (.ins Ca dx []) (.ins cn [])).mh = mh1 ++ [some (.ins cn [])] := by
      show B.mh ++ [some (.ins cn [])] = _
      rw [em]
    refine ⟨?_, (B.up dx (.own x)).al x (.ins Ca dx []) (.ins cn []), .loc mh1.length :: xs, .non, mh', rfl, S2, r3, by rw [hb2, hm2]; exact e3, fun E y kE emE SE rE => ?_⟩
    · rw [← r3.len]
      exact hl _ _ _ _ e3
    · exact ⟨rE.non_, q E (.ref x) ((kB.trans kk).trans kE) emE SE (Rep.keep S2 kE _ _ r1)⟩
  · cases e1
theorem se_mk {x : Str} {es : List Expr} {ms : List ME} (cn i : Nat) {Ca fa : Addr} (F : FnI X.prog X.w X.K X.mg X.base G C k i fa) (hr : Room (k + 1) X.A) (M : Mk X.K Ca fa) (hmg : X.mg x = some (.ref Ca)) (ha : PA X (e :: es) (tEs G C ms)) (hc : G.cl cn = some Ca := by rfl) (hg : Gl X x := by rfl)
    (hdb : (x == ("__debug__" : Str)) = false := by decide) (he : starEach (e :: es) X.env = (false, eval e X.env) :: starEach es X.env := by rfl) (hpl : (backTo pos (starEach es X.env)).any (·.1) = false := by rfl) :
    PE X (.Call (.Name x p) (e :: es) [] pos) (tE G C (.mk cn i ms)) := by
  obtain ⟨fd, ps, F, hk, hb, hl⟩ := F.ex
  exact (pe_make M F hr hg hmg hb .nil pass0 ha hdb he hpl).mono fun σ H Q h => mk_go hl hc h
theorem se_mk0 {x : Str} (cn i : Nat) {Ca fa : Addr} (F : FnI X.prog X.w X.K X.mg X.base G C k i fa) (hr : Room (k + 1) X.A) (M : Mk X.K Ca fa) (hmg : X.mg x = some (.ref Ca)) (hc : G.cl cn = some Ca := by rfl) (hg : Gl X x := by rfl)
    (hdb : (x == ("__debug__" : Str)) = false := by decide) : PE X (.Call (.Name x p) [] [] pos) (tE G C (.mk cn i [])) := by
  obtain ⟨fd, ps, F, hk, hb, hl⟩ := F.ex
  refine (pe_make0 M F hr hg hmg hb .nil pass0 hdb).mono fun σ H Q h => ?_
  have h2 := mk_go hl hc h
  obtain ⟨A, ρ, vs, mh', rfl, S, N, e1, q⟩ := h2
  simp only [evs] at e1
  cases e1
  exact q A [] (Keep.refl A) rfl S (by unfold Reps; rfl)
end
end L2.Mi

set_option Elab.async false
set_option linter.all false
set_option maxRecDepth 100000
set_option maxHeartbeats 4000000
/-! Mini23: list.index of data, displays of two pairs, the law's promise with levels counted twice, fields' names. -/
namespace L2.Mi
open PySem PySem.Spec PyProof.Rows
theorem toDs_get : ∀ (ys : List MV) (j : Nat), (toDs ys)[j]? = (ys[j]?).map toD
  | [], j => by simp [toDs]
  | y :: ys, 0 => by simp [toDs]
  | y :: ys, j + 1 => by
    simp only [toDs, List.getElem?_cons_succ]
    exact toDs_get ys j
theorem me_index : MeS .index rIndexD := by
  intro G A o xs v mh' w vs Q S e ro r h
  simp only [methV, idxV] at e
  split at e
  · rename_i x
    split at e
    · rename_i ys e1
      split at e
      · rename_i x' e2
        split at e
        · rename_i hk
          simp only [Option.map_eq_some_iff] at e
          obtain ⟨j, e3, e4⟩ := e
          cases e4
          obtain ⟨y, rfl, ry⟩ := r.one_
          have d1 := frz_dp S 8 o _ w e1 (okD_can hk.2) ro
          have d2 := frz_dp S 8 x x' y e2 (okD_can hk.1) ry
          unfold toD at d1
          have hs := hk.2
          unfold okD toD at hs
          obtain ⟨a, rfl⟩ : ∃ a, w = .ref a := by
            cases d1 with
            | lst hs ha => exact ⟨_, rfl⟩
          rw [List.findIdx?_eq_some_iff_getElem] at e3
          obtain ⟨hj, hz, hno⟩ := e3
          refine ⟨a, y, toD x', toDs ys, j, toD ys[j], rfl, rfl, d1, d2, hs, hk.1, ?_, hz, fun m z' hm hz' => ?_, h.here S (rep_int _)⟩
          · rw [toDs_get, List.getElem?_eq_getElem hj]; rfl
          · rw [toDs_get, List.getElem?_eq_getElem (by omega)] at hz'
            cases hz'
            have := hno m hm
            simpa [eqD] using this
        · cases e
      · cases e
    · cases e
  · cases e
theorem fl_code {i : Nat} {s : Str} (h : s = ⟨#[i + 2000000]⟩) (hc : s.cps.toList.all (fun c => decide (c < 2000000)) = true) : False := by
  subst h
  simp at hc
  omega
/-- the fields' names by number -/
def flOf (ns : List Str) (i : Nat) : Str := match ns[i]? with
  | some s => s
  | none => ⟨#[i + 2000000]⟩
def flGood (ns : List Str) : Bool := decide ns.Nodup && ns.all fun s => s.cps.toList.all fun c => decide (c < 2000000)
theorem flOf_inj {ns : List Str} (h : flGood ns = true) {i j : Nat} (e : flOf ns i = flOf ns j) : i = j := by
  unfold flGood at h
  rw [Bool.and_eq_true, decide_eq_true_iff, List.all_eq_true] at h
  unfold flOf at e
  cases e1 : ns[i]? with
  | some s =>
    rw [e1] at e
    cases e2 : ns[j]? with
    | some t =>
      rw [e2] at e
      simp only at e
      subst e
      exact (List.getElem?_inj (List.getElem?_eq_some_iff.mp e1).1 h.1).mp (e1.trans e2.symm)
    | none =>
      rw [e2] at e
      exact (fl_code e (h.2 s (List.mem_of_getElem? e1))).elim
  | none =>
    rw [e1] at e
    cases e2 : ns[j]? with
    | some t =>
      rw [e2] at e
      exact (fl_code e.symm (h.2 t (List.mem_of_getElem? e2))).elim
    | none =>
      rw [e2] at e
      simp only [Str.mk.injEq] at e
      have := congrArg Array.toList e
      simp at this
      exact this
theorem flOf_ne {ns : List Str} (h : flGood ns = true) {m : Str} (hm : decide (m ∈ ns) = false) (hc : m.cps.toList.all (fun c => decide (c < 2000000)) = true) (j : Nat) : flOf ns j ≠ m := by
  intro e
  unfold flOf at e
  cases e1 : ns[j]? with
  | some s =>
    rw [e1] at e
    subst e
    exact absurd (List.mem_of_getElem? e1) (of_decide_eq_false hm)
  | none =>
    rw [e1] at e
    exact fl_code e.symm hc
section
variable {G : Gb} {C : CallF} {X : Cx} {pos p : Pos} {e a b c : Expr} {ma mb mc m : ME} {k : Nat}
theorem sm_index {apos cpos : Pos} {es : List Expr} {ms : List ME} (hu : X.A.units + 65 < cLine) (hK : X.K = G.K) (ho : PE X a (tE G C m)) (ha : PA X (e :: es) (tEs G C ms)) (hbase : attributeBase a "index" X.env (eval a X.env) = eval a X.env := by rfl)
    (hfew : ((backTo cpos (starEach (e :: es) X.env)).all (fun x => !x.1) && (backToKw cpos (keywordEach [] X.env)).all (fun x => x.1.isSome)
      && decide ((e :: es).length + ([] : List Keyword).length + (if ([] : List Keyword).isEmpty then 0 else 1) < 30)) = true := by rfl)
    (hline : (apos.endLine == cpos.line) = true := by rfl) (hs : starEach (e :: es) X.env = (false, eval e X.env) :: starEach es X.env := by rfl) (hplain : (backTo cpos (starEach es X.env)).any (·.1) = false := by rfl) :
    PE X (.Call (.Attribute a "index" apos) (e :: es) [] cpos) (tE G C (.meth .index m ms)) := se_meth me_index hK PySem.F.plainAttrs_list PySem.F.slot_list_index PySem.F.type_list_index (mt_indexD hu) ho ha hbase hfew hline hs hplain
theorem se_disp2 {k v k' v' : Expr} {mk mv mk' mv' : ME} (hk : PE X k (tE G C mk)) (hv : PE X v (tE G C mv)) (hk' : PE X k' (tE G C mk')) (hv' : PE X v' (tE G C mv')) : PE X (.Dict [some k, some k'] [v, v'] pos) (tE G C (.disp2 mk mv mk' mv')) := by
  refine (pe_disp (pps_cons hk hv (pps_cons hk' hv' pps_nil)) rfl rfl (by simp) (by simp)).mono fun σ H Q h => ?_
  obtain ⟨A, ρ, r, mh', rfl, S, N, e, q⟩ := h
  simp only [ev] at e
  split at e
  · cases e
  rename_i x mh1 e1
  split at e
  · cases e
  rename_i y mh2 e2
  split at e
  · cases e
  rename_i x2 mh3 e3
  split at e
  · cases e
  rename_i y2 mh4 e4
  split at e
  · rename_i ka kb q1 q2
    split at e
    · cases e
    rename_i hne
    cases e
    intro p hp
    have SA := S.hid (o := .dK []) hp noTup_dK
    have kA : Keep A (A.hid p (.dK [])) := keep_hid hp
    refine tE.go SA (N.keep S kA) (by rw [kA.base]; exact e1) fun B vx kB em SB NB rx => tE.go SB NB (ev.at (kA.trans kB) em e2) fun D vy kD em2 SD ND ry => tE.go SD ND (ev.at ((kA.trans kB).trans kD) em2 e3) fun E vx2 kE em3 SE NE rx2 => tE.go SE NE (ev.at (((kA.trans kB).trans kD).trans kE) em3 e4) fun F vy2 kF em4 SF NF ry2 => ?_
    have pA : p ∈ (A.hid p (.dK [])).ex := List.mem_cons_self
    have pB : p ∈ B.ex := kB.ex p pA
    have pD : p ∈ D.ex := kD.ex p pB
    have pE : p ∈ E.ex := kE.ex p pD
    have pF : p ∈ F.ex := kF.ex p pE
    have eB := kB.exk p pA _ upd_same (SA.exl p pA)
    have eD := kD.exk p pB _ eB (SB.exl p pB)
    have eE := kE.exk p pD _ eD (SD.exl p pD)
    have eF := kF.exk p pE _ eE (SE.exl p pE)
    have rx' := Rep.keep SB ((kD.trans kE).trans kF) _ _ rx
    have ry' := Rep.keep SD (kE.trans kF) _ _ ry
    have rx2' := Rep.keep SE kF _ _ rx2
    have hmer : mergeK [] [(kOf ka, vy), (kOf kb, vy2)] = [(kOf ka, vy), (kOf kb, vy2)] := by
      have : kOf ka ≠ kOf kb := fun z => hne (kOf_inj z)
      simp [mergeK, putK, this]
    refine ⟨eF, [(kOf ka, vy), (kOf kb, vy2)], ?_, by simp, ?_⟩
    · rw [kyV_rep q1 rx', kyV_rep q2 rx2']; rfl
    · rw [hmer]
      have nx : p ∉ A.ex := (off_new S hp).2
      have S1 := SF.put pF (o := .dK [(kOf ka, vy), (kOf kb, vy2)]) noTup_dK
      have hx : ∀ a ∈ A.ex, a ∈ (F.up p (.dK [(kOf ka, vy), (kOf kb, vy2)])).ex := fun a ha => kF.ex a (kE.ex a (kD.ex a (kB.ex a (List.mem_cons_of_mem _ ha))))
      have kZ : Keep A ((F.up p (.dK [(kOf ka, vy), (kOf kb, vy2)])).out A.ex) := keep_out (keep_put ((((kA.trans kB).trans kD).trans kE).trans kF) hp)
      refine q ((F.up p (.dK [(kOf ka, vy), (kOf kb, vy2)])).out A.ex) (.ref p) kZ em4 (S1.out hx) ?_
      unfold Rep
      refine ⟨p, [vy, vy2], rfl, .inl upd_same, ⟨SF.exl p pF, nx⟩, rfl, ?_⟩
      unfold Reps
      exact ⟨_, _, rfl, Rep.out hx _ _ (Rep.put SF pF _ _ ry'), Reps.one (Rep.out hx _ _ (Rep.put SF pF _ _ ry2))⟩
  · cases e
end
/-- the law itself, levels counted twice -/
theorem fnOk2_of {P : Program} {w : World} {K : PySem.W.Frag} {mg : Str → Option Value} {base : Heap} {G : Gb} {T : List Df} {k f : Nat} {a : Addr} {d : Df} {x qual : Str} {st : Stmt} {fd : FuncData} {N ps : List Str}
    (ih : ∀ f a, G.fa f = some a → FnB P w K mg base G (callM T k) (2 * k) f a) (hd : T[f]? = some d) (F : FunD K x qual (defArgs st) (defBody st) (defScope st) [] [] a fd) (S : FnScope N ps (defScope st)) (hN : N.length = d.ns)
    (hbody : ∀ (k : Nat) (C : CallF) (cdv : Value) (A : Around) (outer : List PySem.Env) (s : Shared) (H : Hp) (E : XK), (∀ f a, G.fa f = some a → FnB P w K mg base G C k f a) → Room (k + 1) (A.deeper (envOfC qual (defScope st) s.heap.objs.size a cdv)) →
      PSs (cxOf CX0 P w K mg base N qual (defScope st) a cdv A outer s H E).nox (defBody st) (tSs G C d.body)) : FnOk P w K mg base CX0 (2 * k + 2) a fd ps (spC G (callM T (k + 1)) f ps.length) := by
  refine F.ok (k := 2 * k + 1) S (fun vs H Q E q => q.1) (fun cdv A outer s H vs Q E hr q => ⟨_, (hbody (2 * k) (callM T k) cdv A outer s H E ih hr).nox, ?_⟩)
  obtain ⟨hl, W, args, r, mh', rfl, SW, ra, e, q⟩ := q
  rw [callM_eq2 hd] at e
  exact (run_ok hN SW ra e q).2
end L2.Mi

set_option Elab.async false
set_option linter.all false
set_option maxRecDepth 100000
set_option maxHeartbeats 4000000
/-! Mini24: a comprehension of a dict, live. -/
namespace L2.Mi
open PySem PySem.Spec PyProof.Rows
/-- a hidden dict comes out as a live one -/
abbrev Wd.fixD (W : Wd) (p : Addr) (o : MO) (ex : List Addr) : Wd := { W with ex := ex, β := W.β ++ [p], mh := W.mh ++ [some o] }
theorem fixD_live {G : Gb} {W : Wd} (S : Sim G W) {p : Addr} {xs : MO} {ex : List Addr} {a : Addr} (h : (W.fixD p xs ex).live a) : W.live a ∨ a = p := by
  obtain ⟨l, o, e1, e2⟩ := h
  have e2' : (W.β ++ [p])[l]? = some a := e2
  rcases app_get e1 with e1 | ⟨rfl, _⟩
  · have hl : l < W.β.length := by rw [S.len]; exact (List.getElem?_eq_some_iff.mp e1).1
    rw [List.getElem?_append_left hl] at e2'
    exact .inl ⟨l, o, e1, e2'⟩
  · rw [← S.len, List.getElem?_append_right (Nat.le_refl _)] at e2'
    simp at e2'
    exact .inr e2'.symm
mutual
theorem Rep.fixD {G : Gb} {W : Wd} (S : Sim G W) {p : Addr} (hp : p ∈ W.ex) {ys : MO} {ex : List Addr} (hx : ∀ a ∈ ex, a ∈ W.ex) : ∀ (x : MV) (v : V), Rep G W x v → Rep G (W.fixD p ys ex) x v
  | .non, v, h => h
  | .bl b, v, h => h
  | .int i, v, h => h
  | .str s, v, h => h
  | .fn f, v, h => h
  | .tup xs, v, h => by
    unfold Rep at h ⊢
    obtain ⟨a, vs, e, h1, h2⟩ := h
    exact ⟨a, vs, e, h1, Reps.fixD S hp hx xs vs h2⟩
  | .lst xs, v, h => by
    unfold Rep at h ⊢
    obtain ⟨a, vs, e, h1, h2, h3⟩ := h
    exact ⟨a, vs, e, h1, ⟨fun z => (fixD_live S z).elim h2.1 fun z => h2.2 (by rw [z]; exact hp), fun z => h2.2 (hx a z)⟩, Reps.fixD S hp hx xs vs h3⟩
  | .dct ks ms, v, h => by
    unfold Rep at h ⊢
    obtain ⟨a, vs, e, h1, h2, h3, h4⟩ := h
    exact ⟨a, vs, e, h1, ⟨fun z => (fixD_live S z).elim h2.1 fun z => h2.2 (by rw [z]; exact hp), fun z => h2.2 (hx a z)⟩, h3, Reps.fixD S hp hx ms vs h4⟩
  | .loc l, v, h => by
    unfold Rep at h ⊢
    obtain ⟨a, e, h1⟩ := h
    exact ⟨a, e, pre_get h1⟩
  | .scr ns, v, h => by
    unfold Rep at h ⊢
    obtain ⟨a, e, h1⟩ := h
    refine ⟨a, e, ?_⟩
    rcases h1 with ⟨h1, h2⟩ | h1
    · exact .inl ⟨h1, fun z => (fixD_live S z).elim h2.1 fun z => h2.2 (by rw [z]; exact hp), fun z => h2.2 (hx a z)⟩
    · exact .inr h1
theorem Reps.fixD {G : Gb} {W : Wd} (S : Sim G W) {p : Addr} (hp : p ∈ W.ex) {ys : MO} {ex : List Addr} (hx : ∀ a ∈ ex, a ∈ W.ex) : ∀ (xs : List MV) (vs : List V), Reps G W xs vs → Reps G (W.fixD p ys ex) xs vs
  | [], vs, h => h
  | x :: xs, vs, h => by
    unfold Reps at h ⊢
    obtain ⟨v, r, e, h1, h2⟩ := h
    exact ⟨v, r, e, Rep.fixD S hp hx x v h1, Reps.fixD S hp hx xs r h2⟩
end
theorem fixD_get {G : Gb} {W : Wd} (S : Sim G W) {p : Addr} {ys : MO} {l : Nat} {o : MO} {a : Addr} (e : (W.mh ++ [some ys])[l]? = some (some o)) (q : (W.β ++ [p])[l]? = some a) :
    (W.mh[l]? = some (some o) ∧ W.β[l]? = some a) ∨ (l = W.mh.length ∧ o = ys ∧ a = p) := by
  rcases app_get e with e | ⟨rfl, e9⟩
  · have hl : l < W.β.length := by rw [S.len]; exact (List.getElem?_eq_some_iff.mp e).1
    rw [List.getElem?_append_left hl] at q
    exact .inl ⟨e, q⟩
  · rw [← S.len, List.getElem?_append_right (Nat.le_refl _)] at q
    simp at q
    exact .inr ⟨rfl, Option.some.inj e9, q.symm⟩
theorem Sim.fixD {G : Gb} {W : Wd} (S : Sim G W) {p : Addr} (hp : p ∈ W.ex) {ks : List MKey} {ys : List MV} {vs : List V} {ex : List Addr} (hx : ∀ a ∈ ex, a ∈ W.ex) (hpx : p ∉ ex) (e : W.H p = some (HO.dK ((ks.map kOf).zip vs))) (hkl : ks.length = ys.length) (r : Reps G W ys vs) : Sim G (W.fixD p (.dct ks ys) ex) where
  len := by show (W.β ++ [p]).length = (W.mh ++ [some (MO.dct ks ys)]).length; rw [List.length_append, List.length_append, S.len]; rfl
  ble := fun b hb => by show b ≤ (W.mh ++ [some (MO.dct ks ys)]).length; rw [List.length_append]; exact Nat.le_trans (S.ble b hb) (Nat.le_add_right _ _)
  top := S.top
  obj := fun l u e' a q => by
    rcases fixD_get S e' q with ⟨e1, q1⟩ | ⟨_, rfl, rfl⟩
    · have r := S.obj l u e1 a q1
      cases u with
      | lst xs => obtain ⟨ws, q, r⟩ := r; exact ⟨ws, q, Reps.fixD S hp hx _ _ r⟩
      | dct ks ms => obtain ⟨ws, q, l, r⟩ := r; exact ⟨ws, q, l, Reps.fixD S hp hx _ _ r⟩
      | ins c fs => obtain ⟨Ca, dx, ws, hc, q, r⟩ := r; exact ⟨Ca, dx, ws, hc, q, Reps.fixD S hp hx _ _ r⟩
    · exact ⟨vs, e, hkl, Reps.fixD S hp hx _ _ r⟩
  inj := fun l1 l2 c o1 o2 e1 e2 q1 q2 => by
    rcases fixD_get S e1 q1 with ⟨a1, a2⟩ | ⟨a1, _, a2⟩
    · rcases fixD_get S e2 q2 with ⟨b1, b2⟩ | ⟨b1, _, b2⟩
      · exact S.inj l1 l2 c _ _ a1 b1 a2 b2
      · exact absurd ⟨l1, o1, a1, by rw [← b2]; exact a2⟩ (S.exl p hp)
    · rcases fixD_get S e2 q2 with ⟨b1, b2⟩ | ⟨b1, _, b2⟩
      · exact absurd ⟨l2, o2, b1, by rw [← a2]; exact b2⟩ (S.exl p hp)
      · rw [a1, b1]
  exo := fun a ha => S.exo a (hx a ha)
  exl := fun a ha z => (fixD_live S z).elim (S.exl a (hx a ha)) fun z => hpx (by rw [← z]; exact ha)
  bnd := fun b hb l w hl e' => by
    rcases app_get e' with e' | ⟨rfl, _⟩
    · exact S.bnd b hb l w hl e'
    · exact absurd (Nat.lt_of_lt_of_le hl (S.ble b hb)) (Nat.lt_irrefl _)
theorem keep_fixD {G : Gb} {B D : Wd} (S : Sim G D) (k : Keep B D) {p : Addr} {ys : MO} (hp : B.H p = none) : Keep B (D.fixD p ys B.ex) where
  ex := fun a h => h
  exn := fun a h => .inl h
  dom := k.dom
  bs := k.bs
  pre := by
    obtain ⟨t, e⟩ := k.pre
    exact ⟨t ++ [p], by show D.β ++ [p] = _; rw [e, List.append_assoc]⟩
  obj := k.obj
  liv := fun a z => (fixD_live S z).elim (k.liv a) fun z => .inr (by rw [z]; exact hp)
  exk := k.exk

section
variable {G : Gb} {C : CallF} {t : Tg} {own : List Nat} {mc mk me mi : ME}
theorem dc_live {A : Wd} {ρ : Env} {σ : L2.St} {v : MV} {mh' : MHp} {Q : VK} (hown : ∀ i ∈ tgN t, i ∈ own) (S : Sim G A) (N : Envs G A ρ σ) (e : ev C A.base (.al (.dcomp t own mi mc mk me)) ρ A.mh = some (v, mh')) (q : Post G A mh' v Q) :
    tDc (tI G C mi) (tG G t) (tT G C mc) (tE G C mk) (tE G C me) own σ A.H Q := by
  rcases ev_al e with ⟨xs, mh5, e9, rfl, rfl⟩ | ⟨ks, ms, mh5, e9, rfl, rfl⟩
  · obtain ⟨J, mh1, ys, ps, e1, hl, e2, e3, e4⟩ := ev_dcomp e9
    cases e4
  · obtain ⟨J, mh1, ys, ps, e1, hl, e2, e3, e4⟩ := ev_dcomp e9
    cases e4
    refine ⟨A, ρ, J, mh1, rfl, S, N, e1, fun B I k em SB wk p hp => ?_⟩
    refine dc_loop hown SB (N.keep S k) wk hl (by rw [k.base, em]; exact e2) e3 hp fun D vs kD SD pD mD eD rD => ?_
    have hx : ∀ a ∈ B.ex, a ∈ D.ex := kD.ex
    have hpx : p ∉ B.ex := fun z => by
      obtain ⟨u, e9, _⟩ := SB.exo p z
      rw [hp] at e9; cases e9
    refine q (D.fixD p (.dct (dFold ps [] []).1 (dFold ps [] []).2) B.ex) (.ref p) (k.trans (keep_fixD SD kD hp)) (by show D.mh ++ _ = _; rw [mD]) (SD.fixD pD hx hpx eD (dfold_len ps [] [] rfl) rD) ?_
    unfold Rep
    refine ⟨p, rfl, ?_⟩
    show (D.β ++ [p])[mh5.length]? = some p
    rw [← mD, ← SD.len, List.getElem?_append_right (Nat.le_refl _)]
    simp
end
section
variable {G : Gb} {C : CallF} {X : Cx} {mc mk me mi : ME} {t : Tg} {kx vx tg iter : Expr} {ifs : List Expr} {scope : Scope} {own : List (Str × Nat)} {pos : Pos}
theorem sal_dcomp (hown : ∀ i ∈ tgN t, i ∈ own.map (·.2)) (hc : X.calm = true) (hN : X.N.Nodup) (hi : PI X tg iter (tI G C mi)) (ok : BlkOk X.N X.env.scope scope own)
    (hg : ∀ (s : Shared) (H : Hp) (D : Addr) (cl : List (Str × Addr)) (fp : List Addr), PG (X.blk s H scope (compEnvC scope cl D X.env) fp) tg (tG G t)) (ht : ∀ (s : Shared) (H : Hp) (D : Addr) (cl : List (Str × Addr)) (fp : List Addr), PTs (X.blk s H scope (compEnvC scope cl D X.env) fp) ifs (tT G C mc))
    (hk : ∀ (s : Shared) (H : Hp) (D : Addr) (cl : List (Str × Addr)) (fp : List Addr), PE (X.blk s H scope (compEnvC scope cl D X.env) fp) kx (tE G C mk))
    (he : ∀ (s : Shared) (H : Hp) (D : Addr) (cl : List (Str × Addr)) (fp : List Addr), PE (X.blk s H scope (compEnvC scope cl D X.env) fp) vx (tE G C me)) (hs : ∀ x, foldedSetIterable iter X.env x = pure x := by intro _; rfl) :
    PE X (.DictComp kx vx [⟨tg, iter, ifs, 0⟩] scope pos) (tE G C (.al (.dcomp t (own.map (·.2)) mi mc mk me))) := by
  refine (pe_dc hc hN hi ok hg ht hk he hs).mono fun σ H Q h => ?_
  obtain ⟨A, ρ, v, mh', rfl, S, N, e, q⟩ := h
  exact dc_live hown S N e q
end
end L2.Mi

set_option Elab.async false
set_option linter.all false
set_option maxRecDepth 100000
set_option maxHeartbeats 4000000
/-! Mini25: len(set(texts)), any number of them: the proof of the library's set of whole numbers, turned to texts. -/
namespace L2.Mi
open PySem PySem.Spec PyProof.Rows
/-- the texts met first -/
def addS (σ : List Str) (v : Str) : List Str := if σ.any (· == v) then σ else σ ++ [v]
def metS (xs : List Str) (i : Nat) : List Str := (xs.take i).foldl addS []
theorem metS_succ {xs : List Str} {i : Nat} (h : i < xs.length) : metS xs (i + 1) = addS (metS xs i) (xs.getD i Str.empty) := by
  unfold metS
  rw [List.take_succ_eq_append_getElem h, List.foldl_append]
  simp [List.getD, h]
theorem addS_any (σ : List Str) (v k : Str) : (addS σ v).any (· == k) = (σ.any (· == k) || decide (k = v)) := by
  unfold addS
  by_cases h : σ.any (· == v) = true
  · rw [if_pos h]
    by_cases e : k = v
    · subst e; rw [h]; simp
    · simp [e]
  · rw [if_neg h, List.any_append]
    by_cases e : k = v
    · subst e; simp
    · have hb : (v == k) = false := by simpa [beq_iff_eq] using (fun h' : v = k => e h'.symm)
      simp [hb, e]
theorem addS_len (σ : List Str) (v : Str) : (addS σ v).length = if σ.any (· == v) then σ.length else σ.length + 1 := by
  unfold addS; split <;> simp
theorem metS_le (xs : List Str) : ∀ i, i ≤ xs.length → (metS xs i).length ≤ i
  | 0, _ => by simp [metS]
  | i + 1, h => by
    rw [metS_succ h, addS_len]
    have := metS_le xs i (by omega)
    split <;> omega
section
variable {prog : Program} {w : World} {A : Around} {R : Result → Shared → Prop} {I : Addr} {fp wr : List Addr} {Gn : Array GenState → Array GenState → Prop} {n : Nat} {P : Nat → Value → Prop} {Sx : Nat → Shared → Prop}
theorem loop_strs (W : WalksS prog w A.in1 I fp wr Gn n P Sx) (S : Addr) (hSf : S ∉ fp) (xs : List Str) (hsz : xs.length = n) (hb : n + 1 < scanBound)
    (hval : ∀ i v, P i v → ∃ t, v = .str (xs.getD i Str.empty) t) :
    ∀ (k i : Nat) (s : Shared), n - i = k → i ≤ n → Sx i s →
      s.heap.SetOf (PySem.strKind prog w) S (fun k' => (metS xs i).any (· == k')) (metS xs i).length →
      (∀ s', Moved (S :: wr) Gn s s' → s'.heap.SetOf (PySem.strKind prog w) S (fun k' => (metS xs n).any (· == k')) (metS xs n).length → R (.ok (.ret .none)) s') →
      codeAny (model prog w) A (.builtin "set.update.loop" ⟨[.ref S, .ref I], []⟩) R s := by
  have hSw : S ∉ wr := fun h => hSf (W.sub _ h)
  have hsub : ∀ b ∈ wr, b ∈ S :: wr := fun b hb => List.mem_cons_of_mem _ hb
  intro k
  induction k with
  | zero =>
    intro i s hk hi hst hS hR
    have hin : i = n := by omega
    subst hin
    refine codeAny_builtin PyProof.Rows.F.entry_set_update_loop ?_
    rw [Around.under_plainId PyProof.Rows.F.plain_set_update_loop _]
    show wpAny _ A.in1 (pyNext (.ref I) >>= _) _ _ s
    refine wpAny_bind (W.done s _ _ hst fun s' hm => ?_)
    show wpAny _ A.in1 (ret Value.none) _ _ s'
    obtain ⟨o, es, ep, t, ho, rest⟩ := hS
    exact wpAny_pure (hR s' (hm.mono hsub) ⟨o, es, ep, t, hm.heap S _ hSw ho, rest⟩)
  | succ k ih =>
    intro i s hk hi hst hS hR
    have hlt : i < n := by omega
    refine codeAny_builtin PyProof.Rows.F.entry_set_update_loop ?_
    rw [Around.under_plainId PyProof.Rows.F.plain_set_update_loop _]
    show wpAny _ A.in1 (pyNext (.ref I) >>= _) _ _ s
    refine wpAny_bind (W.item i s _ _ hlt hst fun v s' hP hst' hm => ?_)
    obtain ⟨t, rfl⟩ := hval i v hP
    have hS' : s'.heap.SetOf (PySem.strKind prog w) S (fun k' => (metS xs i).any (· == k')) (metS xs i).length := by
      obtain ⟨o, es, ep, tb, ho, rest⟩ := hS
      exact ⟨o, es, ep, tb, hm.heap S _ hSw ho, rest⟩
    show wpAny _ A.in1 (holding [Value.str (xs.getD i Str.empty) t] (setAdd S (.str (xs.getD i Str.empty) t)) >>= _) _ _ s'
    refine wpAny_bind (wpAny_holding ?_)
    unfold setAdd
    refine wpAny_holding ?_
    refine wpAny_bind ((PySem.strKind prog w).pyHash (k := xs.getD i Str.empty) (strKind_is _ _ _ _) ?_)
    have hroom : (metS xs i).length + 1 < scanBound := by have := metS_le xs i (by omega); omega
    refine wpAny_setAddHashed_of (knd := PySem.strKind prog w) (s := { s' with toks := s'.toks + 1 }) (strKind_is _ _ _ _) rfl hS' hroom fun h' hsb hS2 => ?_
    have hSi : h'.SetOf (PySem.strKind prog w) S (fun k' => (metS xs (i + 1)).any (· == k')) (metS xs (i + 1)).length :=
      SetOf_congr hS2 (fun k' => by rw [metS_succ (by omega), addS_any]) (by rw [metS_succ (by omega), addS_len])
    refine wpAny_pure ⟨plainId_quiet PyProof.Rows.F.plain_set_update_loop _, ih (i + 1) _ (by omega) hlt (W.frame _ s' _ _ hst' (Nat.le_succ _) fun b hb o e => ?_) hSi fun s'' hm'' hS'' => ?_⟩
    · rw [hsb.2 b (fun h : b = S => hSf (by rw [← h]; exact hb))]; exact e
    · refine hR s'' (Moved.trans W.gtrans ((hm.mono hsub).then_heap (Nat.le_succ _) fun b o hb e => ?_) hm'') hS''
      rw [hsb.2 b (fun h : b = S => hb (by rw [h]; exact List.mem_cons_self))]; exact e
end
section
variable {prog : Program} {w : World} {A : Around} {E : Value → Shared → Prop} {s : Shared}
abbrev newO (led : Bool) : Obj := { cls := .type "set", dict := none, data := .set #[] 0 (.fresh 0 0 led) }
theorem call_set_strs {l : Addr} {items : Array Value} {xs : List Str} {Q : Value → Shared → Prop}
    (hh : A.handled = none) (hl : s.heap.IsList l items) (hi : PyProof.Rows.StrsAre items.toList xs) (hb : xs.length + 1 < scanBound)
    (h : ∀ (h' : Heap) (tk : Nat), h'.SetOf (PySem.strKind prog w) s.heap.objs.size (fun k' => (metS xs xs.length).any (· == k')) (metS xs xs.length).length →
      (∀ b o, b < s.heap.objs.size → s.heap.get? b = some o → h'.get? b = some o) → Q (.ref s.heap.objs.size) { s with heap := h', toks := tk }) :
    wpAny (model prog w) A (call (.type "set") [.ref l]) Q E s := by
  have hsz : xs.length = items.size := by rw [← StrsAre.len_eq hi, Array.length_toList]
  obtain ⟨c, tl, hmro⟩ := PySem.F.called_set.mro
  have hmade := PySem.F.called_set.made
  have hsub := PySem.F.called_set.sub
  refine wpAny_call (codeAny_of_tree ?_)
  show wpAny _ _ (callAny (.type "set") _) _ _ _
  refine wpAny_pure ⟨Code.quiet_builtin _ (by decide +kernel), codeAny_builtin PySem.F.entry_type_call ?_⟩
  rw [Around.under_plain (weight_type_call_type "set" [.ref l] []) rfl]
  have h1 := PySem.F.called_set.notType
  have h2 := PySem.F.called_set.canCreate
  have hct := PySem.F.typeCall_set_1 (.ref l)
  repeat (any_goals (first | assumption | wp_step))
  refine codeAny_mono (code_set_new_1 (.ref l) (E := E) (Q₁ := fun obj s₁ => ∃ led : Bool, obj = .ref s.heap.objs.size ∧ s₁ = { s with heap := s.heap.push { cls := .type "set", dict := none, data := .set #[] 0 (.fresh 0 0 led) } }) fun led => ⟨led, rfl, rfl⟩) fun r s₁ hr => ?_
  rcases r with e | fl
  · exact hr
  cases fl with
  | ret obj =>
    obtain ⟨led, rfl, rfl⟩ := hr
    have hS : (s.heap.push (newO led)).get? s.heap.objs.size = some (newO led) := Heap.get?_push_size _ rfl
    have hT : Shared.TypeIs { s with heap := s.heap.push (newO led) } (.ref s.heap.objs.size) "set" := ⟨_, hS, rfl⟩
    have hli := PySem.F.called_set.init.lookup
    have hbi := PySem.F.called_set.init.bind (.ref s.heap.objs.size)
    repeat (any_goals (first | assumption | wp_step))
    refine codeAny_mono (codeAny_call_builtin (R := wants (fun r s₂ => r = .none ∧ ∃ h' tk, s₂ = { s with heap := h', toks := tk } ∧
        h'.SetOf (PySem.strKind prog w) s.heap.objs.size (fun k' => (metS xs xs.length).any (· == k')) (metS xs xs.length).length ∧
        (∀ b o, b < s.heap.objs.size → s.heap.get? b = some o → h'.get? b = some o)) E) PySem.F.called_set.init.plain PySem.F.entry_set_init (check_set_init_1 hT ?_)) fun r₂ s₂ hr₂ => ?_
    · obtain ⟨⟨ocls, odict, odata, oslots⟩, hol, hcl, nl, hdl⟩ := hl
      simp only at hcl hdl
      subst hcl; subst hdl
      have hol' : (s.heap.push (newO led)).get? l = some { cls := .type "list", dict := odict, data := .seq items nl, slots := oslots } := Heap.get?_push_of_some _ hol
      have hsls := PySem.F.sub_list_set
      have hslf := PySem.F.sub_list_frozenset
      have hne : (Value.type "list" == Value.type "dict") = false := by decide
      have hl1 : (s.heap.push (newO led)).IsList l items := ⟨_, hol', rfl, nl, rfl⟩
      unfold Builtin.«set.__init__» noKeywords Builtin.Frozenset.updateFrom
      generalize hPI : pyIter = PI
      wp_walk
      subst hPI
      refine wpAny_pyIter_list hl1 ?_
      refine wpAny_bind (wpAny_runValue ?_)
      have hlS : l < s.heap.objs.size := Heap.lt_size hol
      have hh3 : A.in1.in1.in1.handled = none := by simp [hh]
      have hneI : l ≠ (s.heap.push (newO led)).objs.size := by rw [Heap.size_push]; exact Nat.ne_of_lt (Nat.lt_succ_of_lt hlS)
      have hSf : s.heap.objs.size ∉ [(s.heap.push (newO led)).objs.size, l] := by
        rw [Heap.size_push]
        simp only [List.mem_cons, List.not_mem_nil, or_false, not_or]
        exact ⟨Nat.ne_of_lt (Nat.lt_succ_self _), Nat.ne_of_gt hlS⟩
      refine loop_strs ((Walks.list hh3 _ l hneI items).toS) s.heap.objs.size hSf xs hsz (by omega)
        (fun i v hv => SS.strs_at hi i v (by rw [Array.getElem?_toList]; exact hv)) (items.size - 0) 0 _ (by omega) (Nat.zero_le _)
        ⟨⟨_, Heap.get?_push_size _ rfl, rfl, rfl⟩, (hl1.push _)⟩ ?hS0 ?hR
      case hS0 =>
        exact SetOf_congr ((PyProof.Rows.setObjOf_fresh (knd := PySem.strKind prog w) led).setOf (Heap.get?_push_of_some _ hS) (by unfold scanBound; omega)) (fun _ => rfl) rfl
      case hR =>
        intro s' hm hS'
        obtain ⟨h', g', d', tk', os'⟩ := s'
        obtain rfl : g' = s.gens := hm.gens
        obtain rfl : d' = s.drawn := hm.drawn
        obtain rfl : os' = s.os := hm.os
        show wpAny _ _ _ _ _ _
        refine wpAny_pure ?_
        show wpAny _ _ (ret Value.none) _ _ _
        refine wpAny_pure ⟨rfl, h', tk', rfl, by rw [hsz]; exact hS', fun b o hb e => ?_⟩
        have h2 : b ≠ (s.heap.push (newO led)).objs.size := by rw [Heap.size_push]; exact Nat.ne_of_lt (Nat.lt_succ_of_lt hb)
        exact hm.heap b o (by simp only [List.mem_cons, List.not_mem_nil, or_false, not_or]; exact ⟨Nat.ne_of_lt hb, h2⟩) (Heap.get?_push_of_some _ (Heap.get?_push_of_some _ e))
    · rcases r₂ with e | fl₂
      · exact hr₂
      cases fl₂ with
      | ret r =>
        obtain ⟨rfl, h', tk, rfl, hS', hk'⟩ := hr₂
        repeat (any_goals (first | assumption | wp_step))
        exact h _ _ hS' hk'
      | _ => exact hr₂.elim
  | _ => exact hr.elim
end
section
variable {X : Cx}
/-- len(set(xs)), xs a list of texts -/
def tLenSetS (K : PySem.W.Frag) (ta : TE) : TE := fun σ H Q => ta σ H fun x H1 => ∃ l, ∃ xs : List Str, x = .ref l ∧ SqL K H1 l (xs.map V.str) ∧ xs.length + 1 < scanBound ∧ Q (.int (metS xs xs.length).length) H1
theorem pe_lenSetS {a : Expr} {ta : TE} {p p2 q pos : Pos} (hc : X.calm = true) (hg : Gl X "len") (hm : X.mg "len" = none) (hg2 : Gl X "set") (hm2 : X.mg "set" = none) (ha : PE X a ta)
    (na : starEach [a] X.env = (false, eval a X.env) :: starEach [] X.env := by rfl) : PE X (.Call (.Name "len" p) [.Call (.Name "set" p2) [a] [] q] [] pos) (tLenSetS X.K ta) := by
  refine ⟨fun pins s σ H Q I h => ?_⟩
  refine Call_ (ld_blt I hg hm boot_len ?_)
  refine PyProof.Rows.callWith_builtin1 (PyProof.Rows.args_cons ?_ rfl) rfl rfl
  refine Call_ (ld_blt I hg2 hm2 boot_set ?_)
  refine PyProof.Rows.callWith_type1 (PyProof.Rows.args_cons (thn (ha.run pins s σ H _ I h) fun v s1 ⟨x, H1, I1, r1, q1⟩ => PyProof.Rows.args_nil ?_) na) na rfl
  obtain ⟨l, xs, rfl, hq, h1, q1⟩ := q1
  cases r1
  obtain ⟨its, r, pl, hz⟩ := I1.list hq
  refine call_set_strs (I1.ok.hd hc) pl.isList (by simpa using strsAre_of r) h1 fun h' tk hS hk => ?_
  refine PyProof.Rows.args_nil ?_
  have hle := metS_le xs xs.length (Nat.le_refl _)
  obtain ⟨o, es, ep, t, ho, hex, hd, _, _, _, hf, hn⟩ := hS
  have I2 : Inv X pins σ H1 { s1 with heap := h', toks := tk } := I1.kept fun b o e => hk b o (Heap.lt_size e) e
  have hsb : scanBound ≤ 4611686018427387904 := by unfold scanBound; omega
  exact call_len_set ho hex hd hf (by rw [hn]; omega) ⟨.int (metS xs xs.length).length, H1, I2.tok _, ⟨_, by rw [hn]⟩, q1⟩
end
end L2.Mi

set_option Elab.async false
set_option linter.all false
set_option maxRecDepth 100000
set_option maxHeartbeats 4000000
/-! Mini26: len(set(texts)) in the evaluator. -/
namespace L2.Mi
open PySem PySem.Spec PyProof.Rows
abbrev mkT (s : Sx) : Str := ⟨s.toArray⟩
theorem mkT_inj {a b : Sx} : mkT a = mkT b ↔ a = b := by
  constructor
  · intro h
    have := congrArg (fun x : Str => x.cps.toList) h
    simpa using this
  · rintro rfl; rfl
theorem addS_map (σ : List Sx) (v : Sx) : addS (σ.map mkT) (mkT v) = (addX σ v).map mkT := by
  unfold addS addX
  by_cases h : v ∈ σ
  · rw [if_pos h, if_pos]
    exact List.any_eq_true.mpr ⟨mkT v, List.mem_map.mpr ⟨v, h, rfl⟩, by simp⟩
  · rw [if_neg h, if_neg, List.map_append]
    · rfl
    · intro z
      obtain ⟨x, hx, e⟩ := List.any_eq_true.mp z
      obtain ⟨u, hu, rfl⟩ := List.mem_map.mp hx
      have e : mkT u = mkT v := by simpa using e
      exact h (by rw [← mkT_inj.mp e]; exact hu)
theorem foldS_map : ∀ (ss σ : List Sx), (ss.map mkT).foldl addS (σ.map mkT) = (ss.foldl addX σ).map mkT
  | [], σ => rfl
  | s :: ss, σ => by
    rw [List.map_cons, List.foldl_cons, List.foldl_cons, addS_map, foldS_map ss]
theorem metS_all (ss : List Sx) : (metS (ss.map mkT) (ss.map mkT).length).length = (dedX ss).length := by
  unfold metS dedX
  rw [List.take_length]
  have := foldS_map ss []
  rw [List.map_nil] at this
  rw [this, List.length_map]
section
variable {G : Gb} {C : CallF} {X : Cx} {pos p p2 q : Pos} {a : Expr} {m : ME}
theorem se_lset (hm : X.mg "len" = none) (hm2 : X.mg "set" = none) (hK : X.K = G.K) (ha : PE X a (tE G C m)) (hc : X.calm = true := by rfl) (hg : Gl X "len" := by rfl) (hg2 : Gl X "set" := by rfl)
    (na : starEach [a] X.env = (false, eval a X.env) :: starEach [] X.env := by rfl) : PE X (.Call (.Name "len" p) [.Call (.Name "set" p2) [a] [] q] [] pos) (tE G C (.bi .lset [m])) := by
  refine (pe_lenSetS hc hg hm hg2 hm2 ha na).mono fun σ H Q h => ?_
  obtain ⟨A, ρ, v, mh', rfl, S, N, e, post⟩ := h
  simp only [ev, evs] at e
  split at e
  · cases e
  rename_i xs mh1 e0
  split at e0
  · cases e0
  rename_i x mh2 e1
  cases e0
  simp only [biV, one1, lsetV, Option.map_eq_some_iff, Option.bind_eq_some_iff] at e
  obtain ⟨w, ⟨ys, h1, ss, h2, h3⟩, e4⟩ := e
  split at h3
  · rename_i hlt
    cases h3
    cases e4
    refine tE.go S N e1 fun B u kB mB SB NB rv => ?_
    rw [← mB] at h1
    obtain ⟨l, vs, rfl, g1, g2⟩ := getL_rep SB h1 rv
    have g3 := Reps.strOf g2 h2
    refine ⟨l, ss.map mkT, rfl, ?_, by rw [List.length_map]; unfold scanBound; omega, ?_⟩
    · rw [hK, List.map_map]
      exact SqL.of (by rw [g1, g3]; rfl)
    · rw [metS_all]
      exact post B _ kB mB SB (by unfold Rep; rfl)
  · cases h3
end
end L2.Mi

set_option Elab.async false
set_option linter.all false
set_option maxRecDepth 100000
set_option maxHeartbeats 4000000
/-! Mini27: comprehensions with two fors. -/
namespace L2.Mi
open PySem PySem.Spec PyProof.Rows
theorem KeepW.up {A B : Wd} (k : KeepW A B) {p : Addr} {o : HO} (hp : p ∈ A.ex) : KeepW A (B.up p o) where
  exn := k.exn
  dom := fun a h => upd_dom a (k.dom a h)
  bs := k.bs
  pre := k.pre
  obj := fun a u e n x => by
    show ∃ u', upd B.H p o a = some u' ∧ _
    rw [upd_ne fun z => x (by rw [z]; exact hp)]
    exact k.obj a u e n x
  liv := k.liv
theorem KeepW.base {A B : Wd} (k : KeepW A B) : B.base = A.base := by unfold Wd.base; rw [k.bs]
theorem Envs.keepW {G : Gb} {A B : Wd} {ρ : Env} {σ : St} (h : Envs G A ρ σ) (S : Sim G A) (k : KeepW A B) : Envs G B ρ σ :=
  ⟨h.1, fun i v e => let ⟨x, q, r⟩ := h.2 i v e; ⟨x, q, Rep.keepW S k _ _ r⟩⟩
section
variable {G : Gb} {C : CallF} {X : Cx} {pos p : Pos} {mc me mi m : ME} {t : Tg} {own : List Nat}
/-- the inner loop: it goes on with the list as it stands -/
theorem in_loop {B0 B : Wd} {ρ : Env} {σ : L2.St} {J : Its} {I : L2.It} {a0 ys : List MV} {mh5 : MHp} {Q : Hp → Prop} (hown : ∀ i ∈ tgN t, i ∈ own) (k0 : Keep B0 B) (SB : Sim G B) (NB : Envs G B ρ σ) (wk : Wk G B J I) (hl : a0.length + ys.length ≤ line)
    (hc : compGo J (compF C B.base t own mc me ρ) J.items B.mh = some (ys, mh5)) {p : Addr} {v0 : List V} (hp0 : B0.H p = none) (hp : p ∈ B.ex) (eB : B.H p = some (.lst v0)) (rB : Reps G B a0 v0)
    (fin : ∀ D vs, Keep B0 D → Sim G D → p ∈ D.ex → D.mh = mh5 → D.H p = some (.lst vs) → Reps G D (a0 ++ ys) vs → Q D.H) :
    ∃ W : Nat → Nat → Hp → Prop, (∃ m, W 0 m B.H) ∧ ∀ i m H, W i m H →
  (I.stop i H ∧ Q H) ∨ (I.go i H ∧ ∃ Nx : Hp → Prop, (∀ H', Nx H' → ∃ m', m' < m ∧ W (i + 1) m' H') ∧ ∀ x H', I.yld i H x H' → tG G t x (L2.wipe σ own) H' fun σ2 H2 => L2.wipe σ2 own = L2.wipe σ own ∧ tT G C mc σ2 H2 fun b H3 =>
    if b = true then tE G C me σ2 H3 fun y H4 => ∃ acc, H4 p = some (.lst acc) ∧ acc.length < sizeLine ∧ Nx (upd H4 p (.lst (acc ++ [y]))) else Nx H3) := by
  let W : Nat → Nat → Hp → Prop := fun i m H => m = J.items.length - i ∧ i ≤ J.items.length ∧ ∃ (D : Wd) (as rs : List MV) (vs : List V), Keep B0 D ∧ KeepW B D ∧ Sim G D ∧ p ∈ D.ex ∧ D.H = H ∧ H p = some (.lst vs) ∧ Reps G D (a0 ++ as) vs ∧ compGo J (compF C B.base t own mc me ρ) (J.items.drop i) D.mh = some (rs, mh5) ∧ ys = as ++ rs
  refine ⟨W, ⟨J.items.length, by simp, Nat.zero_le _, B, [], ys, v0, k0, (Keep.refl B).w, SB, hp, rfl, eB, by simpa using rB, hc, rfl⟩, ?_⟩
  rintro i m H ⟨rfl, hi, D, as, rs, vs, kD, wD, SD, pD, rfl, eD, rD, cD, yD⟩
  by_cases hlt : i < J.items.length
  · have hd : J.items.drop i = J.items[i] :: J.items.drop (i + 1) := List.drop_eq_getElem_cons hlt
    rw [hd] at cD
    obtain ⟨oD, r, mh1, rs', f1, c1, rfl⟩ := compGo_cons cD
    refine .inr ⟨wk.go D wD SD oD i hlt, fun H' => W (i + 1) (J.items.length - (i + 1)) H', fun H' w => ⟨_, by omega, w⟩, fun x H' y => ?_⟩
    obtain ⟨E, z, kE, mE, rfl, SE, hz, rz⟩ := wk.yld D wD SD oD i x H' hlt y
    have hz' : J.items[i] = z := by
      rw [List.getElem?_eq_getElem hlt] at hz
      exact Option.some.inj hz
    rw [hz', ← mE] at f1
    obtain ⟨ρ', c, mh3, g1, g2, g3⟩ := compF_of f1
    have k0E := kD.trans kE
    have wE := wD.step kE
    refine ⟨E, wipeE ρ own, ρ', z, rfl, SE, (NB.keepW SB wE).wipe own, rz, g1, fun σ' N' off => ⟨?_, ?_⟩⟩
    · rw [off.wipe hown, wipe_wipe]
    have pE : p ∈ E.ex := kE.ex p pD
    have eE : E.H p = some (.lst vs) := kE.exk p pD _ eD (SD.exl p pD)
    have rE : Reps G E (a0 ++ as) vs := Reps.keep SD kE _ _ rD
    refine tT.go SE N' (by rw [wE.base]; exact g2) fun F kF mF SF NF => ?_
    have pF : p ∈ F.ex := kF.ex p pE
    have eF : F.H p = some (.lst vs) := kF.exk p pE _ eE (SE.exl p pE)
    have rF : Reps G F (a0 ++ as) vs := Reps.keep SE kF _ _ rE
    have k0F := k0E.trans kF
    have wF := wE.step kF
    rcases g3 with ⟨rfl, y', g4, rfl⟩ | ⟨rfl, g5, rfl⟩
    · rw [if_pos rfl]
      refine tE.go SF NF (by rw [wF.base, mF]; exact g4) fun K vx kK mK SK NK rx => ?_
      have pK : p ∈ K.ex := kK.ex p pF
      have eK : K.H p = some (.lst vs) := kK.exk p pF _ eF (SF.exl p pF)
      have rK : Reps G K (a0 ++ as) vs := Reps.keep SF kK _ _ rF
      refine ⟨vs, eK, ?_, rfl, hlt, K.up p (.lst (vs ++ [vx])), as ++ [y'], rs', vs ++ [vx], keep_put (k0F.trans kK) hp0, (wF.step kK).up hp, SK.put pK ⟨(fun _ z => nomatch z), (fun _ _ z => nomatch z)⟩, pK, rfl, upd_same, ?_, ?_, ?_⟩
      · rw [← rD.len, List.length_append]
        have hy := congrArg List.length yD
        simp only [Option.toList_some, List.length_append, List.length_cons, List.length_nil] at hy
        exact Nat.lt_of_lt_of_le (by omega) hl
      · rw [← List.append_assoc]
        exact Reps.put SK pK _ _ (rK.app (Reps.one rx))
      · show compGo J _ _ K.mh = _
        rw [mK]; exact c1
      · rw [yD]; simp
    · rw [if_neg Bool.false_ne_true]
      refine ⟨rfl, hlt, F, as, rs', vs, k0F, wF, SF, pF, rfl, eF, rF, ?_, ?_⟩
      · rw [mF, ← g5]; exact c1
      · rw [yD]; rfl
  · have e : i = J.items.length := by omega
    subst e
    rw [List.drop_length] at cD
    obtain ⟨oD, rfl, e5⟩ := compGo_nil cD
    refine .inl ⟨wk.stop D wD SD oD, fin D vs kD SD pD e5.symm eD ?_⟩
    rw [yD, List.append_nil]
    exact rD
end
section
variable {G : Gb} {C : CallF} {X : Cx} {mc me mi mc1 mi1 : ME} {t t1 : Tg} {own own1 : List Nat}
theorem lc2_loop {B : Wd} {ρ : Env} {σ : L2.St} {J : Its} {I : L2.It} {ys tot : List MV} {yls : List (List MV)} {mh5 : MHp} {Q : Hp → Prop} (hown : ∀ i ∈ tgN t, i ∈ own) (hown1 : ∀ i ∈ tgN t1, i ∈ own1) (SB : Sim G B) (NB : Envs G B ρ σ) (wk : Wk G B J I) (hl : tot.length ≤ line)
    (hc : compGo J (compF C B.base t own mc (.comp t1 own1 mi1 mc1 me) ρ) J.items B.mh = some (ys, mh5)) (hy : ys.mapM lstOf = some yls) (hy2 : yls.flatten = tot) {p : Addr} (hp : B.H p = none)
    (fin : ∀ D vs, Keep B D → Sim G D → p ∈ D.ex → D.mh = mh5 → D.H p = some (.lst vs) → Reps G D tot vs → Q D.H) :
    ∃ W : Nat → Nat → Hp → Prop, (∃ m, W 0 m (upd B.H p (.lst []))) ∧ ∀ i m H, W i m H →
  (I.stop i H ∧ Q H) ∨ (I.go i H ∧ ∃ Nx : Hp → Prop, (∀ H', Nx H' → ∃ m', m' < m ∧ W (i + 1) m' H') ∧ ∀ x H', I.yld i H x H' → tG G t x (L2.wipe σ own) H' fun σ2 H2 => L2.wipe σ2 own = L2.wipe σ own ∧ tT G C mc σ2 H2 fun b H3 =>
    if b = true then tI G C mi1 σ2 H3 fun J1 H4 => ∃ W1 : Nat → Nat → Hp → Prop, (∃ m, W1 0 m H4) ∧ ∀ j k H, W1 j k H →
      (J1.stop j H ∧ Nx H) ∨ (J1.go j H ∧ ∃ Nx1 : Hp → Prop, (∀ H', Nx1 H' → ∃ k', k' < k ∧ W1 (j + 1) k' H') ∧ ∀ x H', J1.yld j H x H' → tG G t1 x (L2.wipe σ2 own1) H' fun σ3 H5 => L2.wipe σ3 own1 = L2.wipe σ2 own1 ∧ tT G C mc1 σ3 H5 fun b H6 =>
        if b = true then tE G C me σ3 H6 fun y H7 => ∃ acc, H7 p = some (.lst acc) ∧ acc.length < sizeLine ∧ Nx1 (upd H7 p (.lst (acc ++ [y]))) else Nx1 H6)
    else Nx H3) := by
  let W : Nat → Nat → Hp → Prop := fun i m H => m = J.items.length - i ∧ i ≤ J.items.length ∧ ∃ (D : Wd) (as rs : List MV) (rls : List (List MV)) (vs : List V), Keep B D ∧ Sim G D ∧ p ∈ D.ex ∧ D.H = H ∧ H p = some (.lst vs) ∧ Reps G D as vs ∧ compGo J (compF C B.base t own mc (.comp t1 own1 mi1 mc1 me) ρ) (J.items.drop i) D.mh = some (rs, mh5) ∧ rs.mapM lstOf = some rls ∧ as ++ rls.flatten = tot
  have nt : NoTup (.lst ([] : List V)) := ⟨(fun _ z => nomatch z), (fun _ _ z => nomatch z)⟩
  refine ⟨W, ⟨J.items.length, by simp, Nat.zero_le _, B.hid p (.lst []), [], ys, yls, [], keep_hid hp, SB.hid hp nt, by simp, rfl, upd_same, by unfold Reps; rfl, hc, hy, hy2⟩, ?_⟩
  rintro i m H ⟨rfl, hi, D, as, rs, rls, vs, kD, SD, pD, rfl, eD, rD, cD, lD, yD⟩
  by_cases hlt : i < J.items.length
  · have hd : J.items.drop i = J.items[i] :: J.items.drop (i + 1) := List.drop_eq_getElem_cons hlt
    rw [hd] at cD
    obtain ⟨oD, r, mh1, rs', f1, c1, rfl⟩ := compGo_cons cD
    refine .inr ⟨wk.go D kD.w SD oD i hlt, fun H' => W (i + 1) (J.items.length - (i + 1)) H', fun H' w => ⟨_, by omega, w⟩, fun x H' y => ?_⟩
    obtain ⟨E, z, kE, mE, rfl, SE, hz, rz⟩ := wk.yld D kD.w SD oD i x H' hlt y
    have hz' : J.items[i] = z := by
      rw [List.getElem?_eq_getElem hlt] at hz
      exact Option.some.inj hz
    rw [hz', ← mE] at f1
    obtain ⟨ρ', c, mh3, g1, g2, g3⟩ := compF_of f1
    have kBE := kD.trans kE
    refine ⟨E, wipeE ρ own, ρ', z, rfl, SE, (NB.keep SB kBE).wipe own, rz, g1, fun σ' N' off => ⟨?_, ?_⟩⟩
    · rw [off.wipe hown, wipe_wipe]
    have pE : p ∈ E.ex := kE.ex p pD
    have eE : E.H p = some (.lst vs) := kE.exk p pD _ eD (SD.exl p pD)
    have rE : Reps G E as vs := Reps.keep SD kE _ _ rD
    refine tT.go SE N' (by rw [kBE.base]; exact g2) fun F kF mF SF NF => ?_
    have pF : p ∈ F.ex := kF.ex p pE
    have eF : F.H p = some (.lst vs) := kF.exk p pE _ eE (SE.exl p pE)
    have rF : Reps G F as vs := Reps.keep SE kF _ _ rE
    have kBF := kBE.trans kF
    rcases g3 with ⟨rfl, y', g4, rfl⟩ | ⟨rfl, g5, rfl⟩
    · rw [if_pos rfl]
      rw [Option.toList_some, List.singleton_append] at lD
      simp only [List.mapM_cons, Option.bind_eq_bind, Option.bind_eq_some_iff] at lD
      obtain ⟨li, q1, rl', q2, q3⟩ := lD
      cases q3
      obtain ⟨J1, mhA, ys1, h1, h2, h3, rfl⟩ := ev_comp g4
      simp only [lstOf] at q1
      cases q1
      refine ⟨F, ρ', J1, mhA, rfl, SF, NF, by rw [kBF.base, mF]; exact h1, fun B1 I1 k1 em1 S1 wk1 => ?_⟩
      have kB1 := kBF.trans k1
      refine in_loop (B0 := B) (a0 := as) hown1 kB1 S1 (NF.keep SF k1) wk1 ?_ (by rw [kB1.base, em1]; exact h3) hp (k1.ex p pF) (k1.exk p pF _ eF (SF.exl p pF)) (Reps.keep SF k1 _ _ rF) fun D' vs' kD' SD' pD' mD' eD' rD' => ?_
      · have := congrArg List.length yD
        simp only [List.flatten_cons, List.length_append] at this
        omega
      · refine ⟨rfl, hlt, D', as ++ li, rs', rl', vs', kD', SD', pD', rfl, eD', rD', ?_, q2, ?_⟩
        · rw [mD']; exact c1
        · rw [← yD]; simp
    · rw [if_neg Bool.false_ne_true]
      refine ⟨rfl, hlt, F, as, rs', rls, vs, kBF, SF, pF, rfl, eF, rF, ?_, ?_, yD⟩
      · rw [mF, ← g5]; exact c1
      · simpa using lD
  · have e : i = J.items.length := by omega
    subst e
    rw [List.drop_length] at cD
    obtain ⟨oD, rfl, e5⟩ := compGo_nil cD
    simp at lD
    subst lD
    refine .inl ⟨wk.stop D kD.w SD oD, fin D vs kD SD pD e5.symm eD ?_⟩
    rw [← yD]
    simpa using rD
end
section
variable {G : Gb} {C : CallF} {X : Cx} {mc me mi mc1 mi1 : ME} {t t1 : Tg}
theorem lc2_frozen {own own1 : List Nat} {A : Wd} {ρ : Env} {σ : L2.St} {v : MV} {mh' : MHp} {Q : VK} (hown : ∀ i ∈ tgN t, i ∈ own) (hown1 : ∀ i ∈ tgN t1, i ∈ own1) (S : Sim G A) (N : Envs G A ρ σ) (e : ev C A.base (.bi .flat [.comp t own mi mc (.comp t1 own1 mi1 mc1 me)]) ρ A.mh = some (v, mh')) (q : Post G A mh' v Q) :
    tLc2 (tI G C mi) (tG G t) (tT G C mc) (tI G C mi1) (tG G t1) (tT G C mc1) (tE G C me) own own1 σ A.H Q := by
  rw [ev] at e
  simp only [evs] at e
  split at e
  · cases e
  rename_i xs mh1 e0
  split at e0
  · cases e0
  rename_i x mh2 e9
  cases e0
  simp only [biV, one1, flatV, Option.map_eq_some_iff, Option.bind_eq_some_iff] at e
  obtain ⟨w, ⟨ys, h1, yls, h2, h3⟩, e4⟩ := e
  split at h3
  · rename_i hln
    cases h3
    cases e4
    obtain ⟨J, mhA, ys', e1, hl, e2, rfl⟩ := ev_comp e9
    simp only [lstOf] at h1
    cases h1
    refine ⟨A, ρ, J, mhA, rfl, S, N, e1, fun B I k em SB wk p hp => ?_⟩
    refine lc2_loop hown hown1 SB (N.keep S k) wk hln (by rw [k.base, em]; exact e2) h2 rfl hp fun D vs kD SD pD mD eD rD => ?_
    have hx : ∀ a ∈ B.ex, a ∈ D.ex := kD.ex
    refine q (D.out B.ex) (.ref p) (k.trans (keep_out kD)) mD (SD.out hx) ?_
    unfold Rep
    refine ⟨p, vs, rfl, eD, ⟨SD.exl p pD, fun z => ?_⟩, Reps.out hx _ _ rD⟩
    obtain ⟨u, e9, _⟩ := SB.exo p z
    rw [hp] at e9; cases e9
  · cases h3
variable {elt tg iter tg1 iter1 : Expr} {ifs ifs1 : List Expr} {scope : Scope} {own : List (Str × Nat)} {own1 : List Nat} {pos : Pos}
theorem se_comp2 (hown : ∀ i ∈ tgN t, i ∈ own.map (·.2)) (hown1 : ∀ i ∈ tgN t1, i ∈ own1) (hv : ∀ i ∈ own1, i ∈ own.map (·.2)) (hc : X.calm = true) (hN : X.N.Nodup) (hi : PI X tg iter (tI G C mi)) (ok : BlkOk X.N X.env.scope scope own)
    (hg : ∀ (s : Shared) (H : Hp) (D : Addr) (cl : List (Str × Addr)) (fp : List Addr), PG (X.blk s H scope (compEnvC scope cl D X.env) fp) tg (tG G t)) (ht : ∀ (s : Shared) (H : Hp) (D : Addr) (cl : List (Str × Addr)) (fp : List Addr), PTs (X.blk s H scope (compEnvC scope cl D X.env) fp) ifs (tT G C mc))
    (hi1 : ∀ (s : Shared) (H : Hp) (D : Addr) (cl : List (Str × Addr)) (fp : List Addr), PI (X.blk s H scope (compEnvC scope cl D X.env) fp) tg1 iter1 (tI G C mi1))
    (hg1 : ∀ (s : Shared) (H : Hp) (D : Addr) (cl : List (Str × Addr)) (fp : List Addr), PG (X.blk s H scope (compEnvC scope cl D X.env) fp) tg1 (tG G t1)) (ht1 : ∀ (s : Shared) (H : Hp) (D : Addr) (cl : List (Str × Addr)) (fp : List Addr), PTs (X.blk s H scope (compEnvC scope cl D X.env) fp) ifs1 (tT G C mc1))
    (he : ∀ (s : Shared) (H : Hp) (D : Addr) (cl : List (Str × Addr)) (fp : List Addr), PE (X.blk s H scope (compEnvC scope cl D X.env) fp) elt (tE G C me)) (hs : ∀ x, foldedSetIterable iter X.env x = pure x := by intro _; rfl) (hs1 : ∀ env x, foldedSetIterable iter1 env x = pure x := by intro _ _; rfl) :
    PE X (.ListComp elt [⟨tg, iter, ifs, 0⟩, ⟨tg1, iter1, ifs1, 0⟩] scope pos) (tE G C (.bi .flat [.comp t (own.map (·.2)) mi mc (.comp t1 own1 mi1 mc1 me)])) := by
  refine (pe_lc2 hc hN hi ok hv hg ht hi1 hg1 ht1 he hs hs1).mono fun σ H Q h => ?_
  obtain ⟨A, ρ, v, mh', rfl, S, N, e, q⟩ := h
  exact lc2_frozen hown hown1 S N e q
theorem ss_setLc2 {i : Nat} {y : Str} {py spos : Pos} (hown : ∀ i ∈ tgN t, i ∈ own.map (·.2)) (hown1 : ∀ i ∈ tgN t1, i ∈ own1) (hv : ∀ i ∈ own1, i ∈ own.map (·.2)) (hc : X.calm = true) (hN : X.N.Nodup) (hy : X.N[i]? = some y) (hyl : X.env.scope.names.lookup y = some .local)
    (hsw : swapsWith (.ListComp elt [⟨tg, iter, ifs, 0⟩, ⟨tg1, iter1, ifs1, 0⟩] scope pos) (some (.Name y py)) spos.line X.env = pure true) (hi : PI X tg iter (tI G C mi)) (ok : BlkOk X.N X.env.scope scope own)
    (hg : ∀ (s : Shared) (H : Hp) (D : Addr) (cl : List (Str × Addr)) (fp : List Addr), PG (X.blk s H scope (compEnvC scope cl D X.env) fp) tg (tG G t)) (ht : ∀ (s : Shared) (H : Hp) (D : Addr) (cl : List (Str × Addr)) (fp : List Addr), PTs (X.blk s H scope (compEnvC scope cl D X.env) fp) ifs (tT G C mc))
    (hi1 : ∀ (s : Shared) (H : Hp) (D : Addr) (cl : List (Str × Addr)) (fp : List Addr), PI (X.blk s H scope (compEnvC scope cl D X.env) fp) tg1 iter1 (tI G C mi1))
    (hg1 : ∀ (s : Shared) (H : Hp) (D : Addr) (cl : List (Str × Addr)) (fp : List Addr), PG (X.blk s H scope (compEnvC scope cl D X.env) fp) tg1 (tG G t1)) (ht1 : ∀ (s : Shared) (H : Hp) (D : Addr) (cl : List (Str × Addr)) (fp : List Addr), PTs (X.blk s H scope (compEnvC scope cl D X.env) fp) ifs1 (tT G C mc1))
    (he : ∀ (s : Shared) (H : Hp) (D : Addr) (cl : List (Str × Addr)) (fp : List Addr), PE (X.blk s H scope (compEnvC scope cl D X.env) fp) elt (tE G C me)) (hs : ∀ x, foldedSetIterable iter X.env x = pure x := by intro _; rfl) (hs1 : ∀ env x, foldedSetIterable iter1 env x = pure x := by intro _ _; rfl) :
    PS X (.Assign [.Name y py] (.ListComp elt [⟨tg, iter, ifs, 0⟩, ⟨tg1, iter1, ifs1, 0⟩] scope pos) spos) (tS G C (.set (.nm i) (.bi .flat [.comp t (own.map (·.2)) mi mc (.comp t1 own1 mi1 mc1 me)]))) := (ps_setLc2 hc hN hy hyl hsw hi ok hv hg ht hi1 hg1 ht1 he hs hs1).mono fun D σ H h => by
  obtain ⟨A, ρ, fl, ρ', mh', rfl, S, N, e, q⟩ := h
  obtain ⟨v, e1, e2, rfl⟩ := ex_set e
  simp only [asg] at e2
  split at e2
  · cases e2
    exact lc2_frozen hown hown1 S N e1 fun B x k em SB r => q B k em SB _ ((N.keep S k).set r i)
  · cases e2
end
end L2.Mi

set_option Elab.async false
set_option linter.all false
set_option maxRecDepth 100000
set_option maxHeartbeats 4000000
/-! Mini28: repr of tuples, texts and dicts; dict(zip(xs, ys)) of two lists. -/
namespace L2.Mi
open PySem PySem.Spec PyProof.Rows
/-! ### what repr reads -/
theorem readsAll_keys {h : Heap} : ∀ {ks : List MKey} {us : List Value}, Paired (fun k u => keyIs (kOf k) u = true) ks us → (ks.all txtK) = true → ReadsAll h us (ks.map keyD) []
  | [], _, .nil, _ => .nil
  | k :: ks, _, .cons r t, e => by
    rw [List.all_cons, Bool.and_eq_true] at e
    rw [List.map_cons]
    have r2 := readsAll_keys (h := h) t e.2
    cases k with
    | inl i => exact absurd e.1 (by simp [txtK])
    | inr x =>
      rcases keyIs_shape r with ⟨i, t, e1, e2⟩ | ⟨y, t, e1, e2⟩
      · exact nomatch e1
      · subst e2
        cases e1
        exact ReadsAll.cons (as := []) (bs := []) (.str _ t) r2
/-- the entries' keys and values apart -/
theorem entries_apart {P : Program} {w : World} : ∀ {ks : List MKey} {vs : List V} {kvs : List (Key × Value)} {es : List DictEntry}, ks.length = vs.length → KV ((ks.map kOf).zip vs) kvs → Pairs (mixKind P w) es kvs →
    Paired (fun k u => keyIs (kOf k) u = true) ks (es.map (·.key)) ∧ Vals vs (es.map (·.val))
  | [], [], _, _, _, r, p => by
    cases r
    cases p
    exact ⟨.nil, .nil⟩
  | k :: ks, v :: vs, _, _, hl, r, p => by
    cases r with
    | cons r rr =>
      cases p with
      | cons p1 p2 pp =>
        obtain ⟨q1, q2⟩ := entries_apart (by simpa using hl) rr pp
        obtain ⟨e1, e2⟩ := r
        refine ⟨.cons ?_ q1, .cons ?_ q2⟩
        · have e1 : kOf k = _ := e1
          show keyIs (kOf k) _ = true
          rw [e1]; exact p1
        · have e3 : RelV v _ := e2
          rw [← p2] at e3
          exact e3
theorem toRs_len : ∀ xs : List MV, (toRs xs).length = xs.length
  | [] => by unfold toRs; rfl
  | x :: xs => by unfold toRs; rw [List.length_cons, List.length_cons, toRs_len xs]
section
variable {G : Gb} {B : Wd} {X : Cx} {pins : List (Addr × Obj)} {σ : L2.St} {s : Shared}
mutual
theorem rep_reads (hK : X.K = G.K) (I : Inv X pins σ B.H s) : ∀ (x : MV) (v : V) (u : Value), okR x = true → Rep G B x v → RelV v u → ∃ as, Reads s.heap u (toR x) as ∧ sysModules ∉ as
  | .non, v, u, _, r, e => by
    rw [r.non_] at e
    have e : u = .none := e
    subst e
    exact ⟨[], by unfold toR; exact .none, by simp⟩
  | .bl b, v, u, _, r, e => by
    rw [r.bl_] at e
    have e : u = .bool b := e
    subst e
    exact ⟨[], by unfold toR; exact .bool b, by simp⟩
  | .str x, v, u, _, r, e => by
    rw [r.str_] at e
    obtain ⟨t, rfl⟩ := (show ∃ t, u = Value.str _ t from e)
    exact ⟨[], by unfold toR; exact .str _ t, by simp⟩
  | .tup xs, v, u, ok, r, e => by
    obtain ⟨a, vs, rfl, hT, rr⟩ := r.tup_
    have e : u = .ref a := e
    subst e
    rw [← hK] at hT
    obtain ⟨its, rv, ⟨o, ho, hc, n, hd⟩, _⟩ := I.tuple hT
    unfold okR at ok
    obtain ⟨as, h1, h2⟩ := reps_reads hK I xs vs its ok rr rv
    exact ⟨as, by unfold toR; exact .tuple ho hc hd (by simpa using h1), h2⟩
  | .dct ks ms, v, u, ok, r, e => by
    unfold Rep at r
    obtain ⟨a, vs, rfl, hR, _, hl, rr⟩ := r
    have e : u = .ref a := e
    subst e
    unfold okR at ok
    simp only [Bool.and_eq_true, decide_eq_true_eq] at ok
    obtain ⟨z, lo, kvs, rk, o, es, ep, ho, hx, hdt, _, hp, _⟩ := (show ObjOk X.prog X.w B.H s.heap a _ from hR.ok I.hok)
    have hlv : ks.length = vs.length := by rw [hl]; exact rr.len
    obtain ⟨q1, q2⟩ := entries_apart hlv rk hp
    obtain ⟨as, h1, h2⟩ := reps_reads hK I ms vs _ ok.2 rr q2
    have h0 := readsAll_keys (h := s.heap) q1 ok.1.1
    have hll : (toRs ms).length = (ks.map keyD).length := by rw [List.length_map, toRs_len, hl]
    refine ⟨a :: [] ++ as, ?_, ?_⟩
    · unfold toR
      refine .dict ho hx.1 hdt ?_ ?_
      · rw [List.map_fst_zip (by omega)]; exact h0
      · rw [List.map_snd_zip (by omega)]; exact h1
    · intro hm
      rcases List.mem_cons.mp (by simpa using hm) with z | z
      · subst z; simp at lo
      · exact h2 z
  | .int _, _, _, ok, _, _ => by unfold okR at ok; cases ok
  | .lst _, _, _, ok, _, _ => by unfold okR at ok; cases ok
  | .fn _, _, _, ok, _, _ => by unfold okR at ok; cases ok
  | .loc _, _, _, ok, _, _ => by unfold okR at ok; cases ok
  | .scr _, _, _, ok, _, _ => by unfold okR at ok; cases ok
theorem reps_reads (hK : X.K = G.K) (I : Inv X pins σ B.H s) : ∀ (xs : List MV) (vs : List V) (us : List Value), okRs xs = true → Reps G B xs vs → Vals vs us → ∃ as, ReadsAll s.heap us (toRs xs) as ∧ sysModules ∉ as
  | [], vs, us, _, r, e => by
    unfold Reps at r
    subst r
    cases e
    exact ⟨[], by unfold toRs; exact .nil, by simp⟩
  | x :: xs, vs, us, ok, r, e => by
    unfold Reps at r
    obtain ⟨v, t, rfl, r1, r2⟩ := r
    cases e with
    | cons e1 e2 =>
      unfold okRs at ok
      rw [Bool.and_eq_true] at ok
      obtain ⟨as, h1, h2⟩ := rep_reads hK I x v _ ok.1 r1 e1
      obtain ⟨bs, h3, h4⟩ := reps_reads hK I xs t _ ok.2 r2 e2
      refine ⟨as ++ bs, by unfold toRs; exact .cons h1 h3, fun z => ?_⟩
      rcases List.mem_append.mp z with z | z
      · exact h2 z
      · exact h4 z
end
end
/-! ### repr -/
theorem keys_show : ∀ {ks : List MKey} {ds : List PyData}, (ks.all txtK) = true → PyData.showableAll ds = true → PyData.showableKv ((ks.map keyD).zip ds) = true
  | [], _, _, _ => by simp [PyData.showableKv]
  | _ :: _, [], _, _ => by simp [PyData.showableKv]
  | k :: ks, d :: ds, h, e => by
    rw [List.all_cons, Bool.and_eq_true] at h
    simp only [PyData.showableAll, Bool.and_eq_true] at e
    rw [List.map_cons, List.zip_cons_cons]
    simp only [PyData.showableKv, Bool.and_eq_true]
    refine ⟨⟨?_, e.1⟩, keys_show h.2 e.2⟩
    cases k with
    | inl i => exact absurd h.1 (by simp [txtK])
    | inr x => simp [keyD, PyData.showable]
mutual
theorem okR_show : ∀ x : MV, okR x = true → PyData.showable (toR x) = true
  | .non, _ => by unfold toR; simp [PyData.showable]
  | .bl b, _ => by unfold toR; simp [PyData.showable]
  | .str x, _ => by unfold toR; simp [PyData.showable]
  | .tup xs, h => by
    unfold okR at h
    unfold toR
    simp only [PyData.showable]
    exact okRs_show xs h
  | .dct ks ms, h => by
    unfold okR at h
    simp only [Bool.and_eq_true, decide_eq_true_eq] at h
    unfold toR
    simp only [PyData.showable]
    exact keys_show h.1.1 (okRs_show ms h.2)
  | .int _, ok => by unfold okR at ok; cases ok
  | .lst _, ok => by unfold okR at ok; cases ok
  | .fn _, ok => by unfold okR at ok; cases ok
  | .loc _, ok => by unfold okR at ok; cases ok
  | .scr _, ok => by unfold okR at ok; cases ok
theorem okRs_show : ∀ xs : List MV, okRs xs = true → PyData.showableAll (toRs xs) = true
  | [], _ => by unfold toRs; simp [PyData.showableAll]
  | x :: xs, h => by
    unfold okRs at h
    rw [Bool.and_eq_true] at h
    unfold toRs
    simp only [PyData.showableAll, Bool.and_eq_true]
    exact ⟨okR_show x h.1, okRs_show xs h.2⟩
end
/-- what repr shows of a tuple -/
def Shw (K : PySem.W.Frag) (H : Hp) (a : Addr) (d : PyData) : Prop := ∀ (X : Cx) (pins : List (Addr × Obj)) (σ : L2.St) (s : Shared), X.K = K → Inv X pins σ H s → ∃ as, Reads s.heap (.ref a) d as ∧ sysModules ∉ as
def rRepr (K : PySem.W.Frag) : List V → Hp → VK → Prop := fun vs H Q => ∃ a d, vs = [.ref a] ∧ Shw K H a d ∧ d.showable = true ∧ d.depth ≤ 40 ∧ d.shown.length ≤ sizeLine ∧ Q (.str d.shown) H
theorem bi_repr : BiS .repr rRepr := by
  intro G A xs v vs Q S e r h
  obtain ⟨x, rfl, e'⟩ := one1_some e
  obtain ⟨w, rfl, rx⟩ := r.one_
  unfold reprV at e'
  split at e'
  · rename_i ys
    split at e'
    · rename_i hc
      cases e'
      obtain ⟨h1, h2, h3⟩ := hc
      have ok : okR (.tup ys) = true := by unfold okR; exact h1
      obtain ⟨a, vs, rfl, _, _⟩ := id rx.tup_
      refine ⟨a, toR (.tup ys), rfl, fun X pins σ s hK I => rep_reads hK I _ _ _ ok rx rfl, okR_show _ ok, h2, by rw [sizeLine_eq]; exact h3, ?_⟩
      have q := h.here S (rep_str _)
      have e2 : (⟨(PyData.shown (toR (.tup ys))).cps.toList.toArray⟩ : Str) = PyData.shown (toR (.tup ys)) := str_toList_eq (by simp)
      rw [e2] at q
      exact q
    · cases e'
  · cases e'
theorem call_repr {X : Cx} (hg : X.A.guards = some []) (hu : X.A.units + 64 < cLine) : CallR X (.builtin "repr") (rRepr X.K) := by
  intro pins s σ H xs us Q I r h
  obtain ⟨a, d, rfl, hsh, hs, hd, hz, q⟩ := h
  obtain ⟨u, rfl, rx⟩ := vals1 r
  cases rx
  obtain ⟨as, h1, h2⟩ := hsh X pins σ s rfl I
  refine repr_of_reads' h1 hs (fun _ => h2) hg (by omega) (fun b o e => e) (fun h' u tk hk => ?_) hz
  exact ⟨.str d.shown, H, I.kept hk, ⟨u, rfl⟩, q⟩
section
variable {G : Gb} {C : CallF} {X : Cx} {pos p : Pos} {e : Expr}
theorem sb_repr (hgd : X.A.guards = some []) (hu : X.A.units + 64 < cLine) (hm : X.mg "repr" = none) (hK : X.K = G.K) {es : List Expr} {ms : List ME} (ha : PA X (e :: es) (tEs G C ms)) (hg : Gl X "repr" := by rfl) (he : starEach (e :: es) X.env = (false, eval e X.env) :: starEach es X.env := by rfl) (hpl : (backTo pos (starEach es X.env)).any (·.1) = false := by rfl) : PE X (.Call (.Name "repr" p) (e :: es) [] pos) (tE G C (.bi .repr ms)) := se_biB bi_repr (call_repr hgd hu) hK hg hm (by kernel_rfl) ha (by decide) (by decide) he hpl
end
/-! ### dict(zip(xs, ys)) -/
def rDzip (K : PySem.W.Frag) : List V → Hp → VK → Prop := fun vs H Q => ∃ (a b : Addr) (ks : List Key) (ys : List V), vs = [.ref a, .ref b] ∧ SqL K H a (ks.map kV) ∧ SqL K H b ys ∧ ks.length = ys.length ∧ ks.length ≤ 1000000 ∧
  ∀ p, H p = none → Q (.ref p) (upd H p (.dK (mergeK [] (ks.zip ys))))
def tDz (K : PySem.W.Frag) (ta : TA) : TE := fun σ H Q => ta σ H fun vs H1 => rDzip K vs H1 Q
theorem kv_zip {w : World} : ∀ {ks : List Key} {ys : List V} {us : List Value}, Vals ys us → KV (ks.zip ys) (ks.zip us)
  | [], _, _, _ => by rw [List.zip_nil_left, List.zip_nil_left]; exact .nil
  | k :: ks, _, _, .nil => .nil
  | k :: ks, _, _, .cons r t => .cons ⟨rfl, r⟩ (kv_zip (w := w) t)
section
variable {X : Cx} {a b : Expr} {ta : TA} {p p2 pos pos2 : Pos}
theorem pe_dzip (hc : X.calm = true) (hg : Gl X "dict") (hm : X.mg "dict" = none) (hg2 : Gl X "zip") (hm2 : X.mg "zip" = none) (ha : PA X [a, b] ta)
    (hs : starEach [a, b] X.env = (false, eval a X.env) :: starEach [b] X.env := by rfl) (hpl : (backTo pos2 (starEach [b] X.env)).any (·.1) = false := by rfl)
    (na : starEach [.Call (.Name "zip" p2) [a, b] [] pos2] X.env = (false, eval (.Call (.Name "zip" p2) [a, b] [] pos2) X.env) :: starEach [] X.env := by rfl) :
    PE X (.Call (.Name "dict" p) [.Call (.Name "zip" p2) [a, b] [] pos2] [] pos) (tDz X.K ta) := by
  refine ⟨fun pins s σ H Q I h => ?_⟩
  refine Call_ (ld_blt I hg hm bt_dict (PyProof.Rows.callWith_type1 (args_cons ?_ na) na) (by decide) (by decide))
  refine Call_ (ld_blt I hg2 hm2 PyProof.Rows.boot_zip (PyProof.Rows.callWith_type1 (thn (ha.run pos2 pins s σ H _ I h) fun us s1 ⟨vs, H1, I1, r1, q1⟩ => ?_) hs hpl))
  obtain ⟨l1, l2, ks, ys, rfl, hx, hy, hl, hz, q⟩ := q1
  cases r1 with
  | cons r rr =>
    cases rr with
    | cons r' rr =>
      cases rr
      cases r
      cases r'
      obtain ⟨it1, rv1, p1, _⟩ := I1.list hx
      obtain ⟨it2, rv2, p2', _⟩ := I1.list hy
      have b1 : l1 < s1.heap.objs.size := p1.lt
      have b2 : l2 < s1.heap.objs.size := p2'.lt
      refine call_zip_2 p1.isList p2'.isList fun h' z1 z2 z3 z4 z5 hsz hk => args_nil ?_
      have D := PySem.W.ktu_apart s1.heap.objs.size l1 l2 b1 b2
      have len1 := rv1.length
      have len2 := rv2.length
      rw [List.length_map] at len1
      have e1 : it1.toArray.size = ks.length := by rw [List.size_toArray, len1]
      have e2 : it2.toArray.size = ys.length := by rw [List.size_toArray, len2]
      have lst : ∀ {l : Addr} {ws : Array Value}, s1.heap.IsList l ws → h'.IsList l ws := fun ⟨o, e, r⟩ => ⟨o, hk _ _ e, r⟩
      refine PySem.call_dict_pairs (s := { s1 with heap := h' }) (knd := mixKind X.prog X.w) (kvs := ks.zip it2) (PairArg.zip _ _ _ _ _ l1 l2 D it1.toArray it2.toArray) (I1.ok.hd hc) ⟨z1, z2, ⟨_, _, z3⟩, z4, z5, lst p1.isList, lst p2'.isList⟩ ⟨?_, fun i key v h => ?_⟩ ?_ fun h2 tk hd' k => ?_
      · rw [List.length_zip, e1, e2, len2]
      · obtain ⟨h1, h2⟩ := h
        rw [List.getElem?_toArray] at h1 h2
        have j1 := (List.getElem?_eq_some_iff.mp h1).1
        have j2 := (List.getElem?_eq_some_iff.mp h2).1
        have jk : i < ks.length := by omega
        obtain ⟨u', f1, f2⟩ := rv1.get (i := i) (x := kV ks[i]) (by rw [List.getElem?_map, List.getElem?_eq_getElem jk]; rfl)
        rw [h1] at f1
        cases f1
        refine ⟨ks[i], ?_, kV_is f2⟩
        rw [List.getElem?_zip_eq_some]
        exact ⟨List.getElem?_eq_getElem jk, h2⟩
      · rw [e1, e2, sizeLine_eq]; omega
      have keep : ∀ d o, s1.heap.get? d = some o → h2.get? d = some o := fun d o e => by
        have hd := Heap.lt_size e
        refine k d o (fun z => ?_) (hk d o e)
        simp only [List.mem_cons, List.not_mem_nil, or_false] at z
        rcases z with z | z | z | z
        · exact Nat.ne_of_lt (Nat.lt_of_lt_of_le hd (Nat.le_add_right _ _)) z
        · exact Nat.ne_of_lt (Nat.lt_of_lt_of_le hd (Nat.le_add_right _ _)) z
        · exact Nat.ne_of_lt hd z
        · exact Nat.ne_of_lt (Nat.lt_of_lt_of_le hd (Nat.le_add_right _ _)) z
      have big : s1.heap.objs.size ≤ h'.objs.size := by omega
      have hm : (h'.objs.size == sysModules) = false := beq_eq_false_iff_ne.mpr (Nat.ne_of_gt (Nat.lt_of_lt_of_le I1.big big))
      have rel : KV (ks.zip ys) (ks.zip it2) := kv_zip (w := X.w) rv2
      have hlen : (mergeK [] (ks.zip ys)).length ≤ sizeLine := by
        refine Nat.le_trans (length_mergeK (ks.zip ys) []) ?_
        rw [List.length_nil, Nat.zero_add, List.length_zip, sizeLine_eq]
        omega
      exact ⟨.ref h'.objs.size, upd H1 h'.objs.size (.dK (mergeK [] (ks.zip ys))), I1.laid (t' := tk) keep big (show ObjOk X.prog X.w _ _ _ (.dK (mergeK [] (ks.zip ys))) from ⟨hlen, hm, merged [] (ks.zip it2), KV.merge rel .nil, hd'⟩), rfl, q _ (I1.hok.fresh big)⟩
end
section
variable {G : Gb} {A : Wd}
theorem keys_rep : ∀ {xs : List MV} {us : List V} {ks : List MKey}, xs.mapM kyV = some ks → Reps G A xs us → us = (ks.map kOf).map kV
  | [], us, ks, e, r => by
    unfold Reps at r
    simp at e
    subst e
    exact r
  | x :: xs, us, ks, e, r => by
    unfold Reps at r
    obtain ⟨v, t, rfl, r1, r2⟩ := r
    simp only [List.mapM_cons, Option.bind_eq_bind, Option.bind_eq_some_iff] at e
    obtain ⟨k, e1, qs, e2, e3⟩ := e
    cases e3
    rw [kyV_rep e1 r1, keys_rep e2 r2]
    rfl
theorem mapM_len {α β : Type} {f : α → Option β} : ∀ {xs : List α} {ys : List β}, xs.mapM f = some ys → xs.length = ys.length
  | [], ys, e => by simp at e; subst e; rfl
  | x :: xs, ys, e => by
    simp only [List.mapM_cons, Option.bind_eq_bind, Option.bind_eq_some_iff] at e
    obtain ⟨k, e1, qs, e2, e3⟩ := e
    cases e3
    rw [List.length_cons, List.length_cons, mapM_len e2]
theorem bi_dzip : BiS .dzip rDzip := by
  intro G A xs v vs Q S e r h
  have e : dzipV A.mh xs = some v := e
  unfold dzipV at e
  split at e
  · rename_i x y
    simp only [Option.bind_eq_some_iff] at e
    obtain ⟨xs', e1, ys', e2, ks, e3, e4⟩ := e
    split at e4
    · rename_i hc
      cases e4
      unfold Reps at r
      obtain ⟨v1, t, rfl, r1, r2⟩ := r
      obtain ⟨v2, rfl, r3⟩ := r2.one_
      obtain ⟨a, us, rfl, hH, rr⟩ := getL_rep S e1 r1
      obtain ⟨b, ws, rfl, hH2, rr2⟩ := getL_rep S e2 r3
      have ek := keys_rep e3 rr
      subst ek
      have l1 := mapM_len e3
      have l2 := rr2.len
      refine ⟨a, b, ks.map kOf, ws, rfl, SqL.of hH, SqL.of hH2, by rw [List.length_map]; omega, by rw [List.length_map]; omega, fun p hp => ?_⟩
      obtain ⟨zs, q1, q2⟩ := dfold_rep (ks.zip ys') ws (by rw [List.map_snd_zip (by omega)]; exact rr2) [] [] [] rfl (by unfold Reps; rfl)
      have e5 : ((ks.zip ys').map fun p => kOf p.1) = ks.map kOf := by
        rw [show (fun p : MKey × MV => kOf p.1) = kOf ∘ Prod.fst from rfl, ← List.map_map, List.map_fst_zip (by omega)]
      rw [e5] at q1
      have q1' : mergeK [] ((ks.map kOf).zip ws) = _ := q1
      rw [q1']
      exact h.newDct S (dfold_len (ks.zip ys') [] [] rfl) q2 hp
    · cases e4
  · cases e
end
section
variable {G : Gb} {C : CallF} {X : Cx} {pos pos2 p p2 : Pos} {a b : Expr} {ms : List ME}
theorem se_dzip (hm : X.mg "dict" = none) (hm2 : X.mg "zip" = none) (hK : X.K = G.K) (ha : PA X [a, b] (tEs G C ms)) (hc : X.calm = true := by rfl) (hg : Gl X "dict" := by rfl) (hg2 : Gl X "zip" := by rfl)
    (hs : starEach [a, b] X.env = (false, eval a X.env) :: starEach [b] X.env := by rfl) (hpl : (backTo pos2 (starEach [b] X.env)).any (·.1) = false := by rfl)
    (na : starEach [.Call (.Name "zip" p2) [a, b] [] pos2] X.env = (false, eval (.Call (.Name "zip" p2) [a, b] [] pos2) X.env) :: starEach [] X.env := by rfl) :
    PE X (.Call (.Name "dict" p) [.Call (.Name "zip" p2) [a, b] [] pos2] [] pos) (tE G C (.bi .dzip ms)) :=
  (pe_dzip hc hg hm hg2 hm2 ha hs hpl na).mono fun _ _ _ h => bi_go bi_dzip hK h
end
end L2.Mi

set_option Elab.async false
set_option linter.all false
set_option maxRecDepth 100000
set_option maxHeartbeats 4000000
/-! Mini29: a law whose own body wants to know what is under way around it (repr): its body is walked at the caller's place alone.
The library's rules for a def and for a law, turned to one place. -/
namespace L2.Mi
open PySem PySem.Spec PyProof.Rows
/-- a def's promise at one place -/
def RunAt (P : Program) (w : World) (K : PySem.W.Frag) (mg : Str → Option Value) (base : Heap) (CX : CXT) (A : Around) (f : Addr) (fd : FuncData) (ps : List Str) (sp : Sp) : Prop :=
  ∀ (outer : List PySem.Env) (s : Shared) (H : Hp) (args : Args) (us : List Value) (vs : List V) (Q : VK) (E : XK), Env0 P w K mg base A outer s H → BindsTo s fd args (ps.zip us) → Vals vs us → sp vs H Q E →
    codeAny (model P w) A (.call (.ref f) args) (CR CX outer P w H s Q E) s
theorem runAt_of {CX : CXT} {P : Program} {w : World} {K : PySem.W.Frag} {mg : Str → Option Value} {base : Heap} {k : Nat} {f : Addr} {x qual : Str} {params : Arguments} {body : List Stmt} {scope : Scope} {kws : List (Str × V)} {dvs : List V} {fd : FuncData} {N ps : List Str} {sp : Sp} {A : Around}
    (F : FunD K x qual params body scope dvs kws f fd) (S : FnScope N ps scope) (hr : Room (k + 1) A) (len : ∀ vs H Q E, sp vs H Q E → vs.length = ps.length)
    (hbody : ∀ (cdv : Value) (outer : List PySem.Env) (s : Shared) (H : Hp) (vs : List V) (Q : VK) (E : XK), Room k (A.deeper (envOfC qual scope s.heap.objs.size f cdv)) → sp vs H Q E →
      ∃ t, PSs (cxOf CX P w K mg base N qual scope f cdv A outer s H E) body t ∧ t { nx := fun _ H' => Q .non H', rt := Q } (L2.start N vs) H) :
    RunAt P w K mg base CX A f fd ps sp := by
  obtain ⟨oc, od, dV, kV, doc, pm, an, cdv, ct, osl, rfl, lk, hcd, _, _⟩ := F.ex
  intro outer s H args us vs Q E e0 hb r hsp
  have hl := len _ _ _ _ hsp
  have KX : K.In s.heap := e0.mod.kin.keeps fun b o e => (e0.bs b o e).1
  have lim : s.heap.NoLimit := e0.mod.nolimit.keeps fun b o e => (e0.bs b o e).1
  refine codeAny_call_function hr.depth (KX _ _ lk) rfl S.co S.gen rfl (PySem.W.codeRec_of KX hcd) (hb _ _ _ _ ?_)
  refine wpAny_newFunctionEnv_cells S.kind (fun ⟨n, v⟩ hy => (S.par n (List.of_mem_zip hy).1).elim .inl fun q => .inr ⟨q, PySem.W.cellsFrom_some _ _ _ (.inl q)⟩) fun env he s1 x => ?_
  subst he
  refine ⟨lim.keeps x.toInCall.keep, codeAny_func ?_⟩
  obtain ⟨t, ht, hq⟩ := hbody cdv outer s H vs Q E (hr.deeper _) hsp
  have I : Inv (cxOf CX P w K mg base N qual scope f cdv A outer s H E) [] (L2.start N vs) H s1 := inv_start S hr.hd e0 hl r x
  refine wpAny_mono (ht.run [] s1 (L2.start N vs) H _ I hq) (fun fl s' hs => ?_) fun e s' hs => hs
  cases fl with
  | ret u => obtain ⟨v, σ', H', J, rv, q⟩ := hs; exact ⟨v, H', J.os, J.bare, J.base, J.hok, rv, q⟩
  | next => obtain ⟨σ', H', J, q⟩ := hs; exact ⟨.non, H', J.os, J.bare, J.base, J.hok, rfl, q⟩
  | brk => obtain ⟨_, _, _, q⟩ := hs; exact q.elim
  | cont => obtain ⟨_, _, _, q⟩ := hs; exact q.elim
/-- what the law's call finds: H tracks nothing but the script -/
theorem call_at {P : Program} {w : World} {K : PySem.W.Frag} {mg mb : Str → Option Value} {CX : CXT} {fa a : Addr} {fd : FuncData} {x : Str} {sp : Sp} {s₁ : Shared} {vs : List Value} {H : Hp}
    (KX : K.In s₁.heap) (hns : s₁.heap.Ns mainGlobals mg) (hb : s₁.heap.Ns builtinsNs mb) (hbb : ∀ x : Str, x ≠ "__name__" → mb x = bootBuiltins x) (hlim : s₁.heap.NoLimit) (hg : s₁.gens = #[])
    (ha : s₁.heap.get? a = some { cls := .type "list", data := .seq vs.toArray })
    (F : ∀ base : Heap, K.In base → base.Ns mainGlobals mg → RunAt P w K mg base CX callerA fa fd [x] sp) (hbind : ∀ (s : Shared) (u : Value), BindsTo s fd ⟨[u], []⟩ [(x, u)])
    (hsp : sp [.ref a] H (fun v _ => v = .bl true) fun _ _ _ => False) (hO : Only H) (hok : HOk P w H s₁.heap) (hA : ∀ b, H b ≠ none → b = a) (hK : H a ≠ none → K.lookup a = none)
    (hCX : ∀ H e s', CX [] H s₁ (fun _ _ _ => False) e s' → False) :
    codeAny (model P w) callerA (.call (.ref fa) ⟨[.ref a], []⟩) (fun r s' => r = .ok (.ret (.bool true)) ∧ OldK s₁.heap s'.heap ∧ s'.os = s₁.os ∧ AllBare s'.gens) s₁ := by
  have off : ∀ {b : Addr} {o : Obj}, s₁.heap.get? b = some o → (b = a → H a = none) → H b = none := fun {b o} e h => by
    cases q : H b with
    | none => rfl
    | some u =>
      have e' : b = a := hA b (by rw [q]; simp)
      rw [e', h e'] at q; cases q
  have nsK : ∀ {b : Addr} {m : Str → Option Value}, s₁.heap.Ns b m → (hidT s₁.heap H).Ns b m := fun {b m} ⟨o, es, ep, e, d, r⟩ => ⟨o, es, ep, hidT_get e (off e fun z => by
    subst z
    rw [ha] at e; cases e
    have d' : Data.seq vs.toArray _ = Data.dict es ep := d
    cases d'), d, r⟩
  have hKb : K.In (hidT s₁.heap H) := fun b o e => hidT_get (KX b o e) (off (KX b o e) fun z => by
    subst z
    cases q : H b with
    | none => rfl
    | some u => rw [hK (by rw [q]; simp)] at e; cases e)
  have e0 : Env0 P w K mg (hidT s₁.heap H) callerA [] s₁ H := ⟨rfl, ⟨hKb, nsK hns, ⟨mb, nsK hb, hbb⟩, let ⟨mc, h1, h2⟩ := hlim; ⟨mc, nsK h1, h2⟩⟩, fun b o e => of_hidT e, Nat.le_of_eq (hidT_size _ _), trivial, fun b hb => absurd (show b ∈ ([] : List Addr) from hb) (by simp), hok, .of_eq hg⟩
  refine codeAny_mono (F _ hKb (nsK hns) [] s₁ H ⟨[.ref a], []⟩ [.ref a] [.ref a] _ _ e0 (hbind s₁ (.ref a)) (.cons rfl .nil) hsp) fun r s' h => ?_
  cases r with
  | error e => exact (hCX H e s' h).elim
  | ok fl =>
    cases fl with
    | next => exact False.elim h
    | brk => exact False.elim h
    | cont => exact False.elim h
    | ret u =>
      obtain ⟨v, H', os, bare, un, hok', r', q⟩ := h
      have q' : v = .bl true := q
      subst q'
      obtain rfl : u = Value.bool true := r'
      refine ⟨rfl, OldK.of_keep fun b o e => ?_, os, bare⟩
      rcases hO b with z | ⟨ob, xs, z⟩
      · exact un.keep b o e z (by intro z; exact absurd (show b ∈ ([] : List Addr) from z) (by simp)) (by simp)
      · obtain ⟨e1, _⟩ := hok b _ z
        obtain ⟨e2, _⟩ := hok' b _ (un.frzs b ob _ z)
        rw [e] at e1; cases e1
        exact e2
theorem walk_at {l : PySem.W.OpenLaw} {n : Nat} {q : Program} {loose : List Str} {XP : (Str → Option Value) → Heap → Prop} {YP : World → Heap → Prop} {d : DefRec} {CX : CXT} {x : Str}
    (hn : l.most = some n) (hn2 : n ≤ sizeLine) (hdf : d.params.defaults = [])
    (F : ∀ (w : World) (mg : Str → Option Value) (fa : Addr) (h : Heap), YP w h → h.Ns mainGlobals mg → mg d.name = some (.ref fa) →
      ∃ (K : PySem.W.Frag) (fd : FuncData) (sp : Sp), K.In h ∧ (∀ (s : Shared) (u : Value), BindsTo s fd ⟨[u], []⟩ [(x, u)]) ∧
        (∀ (H : Hp) (a : Addr) (ns : List Int), ns.length ≤ n → Only H → SqL K H a (ns.map V.int) → sp [.ref a] H (fun v _ => v = .bl true) fun _ _ _ => False) ∧
        ∀ base : Heap, K.In base → base.Ns mainGlobals mg → RunAt l.prog w K mg base CX callerA fa fd [x] sp)
    (hCX : ∀ (H : Hp) (s : Shared) (e : Value) (s' : Shared), CX [] H s (fun _ _ _ => False) e s' → False) :
    PySem.W.WalkO q loose XP YP l.row.toRowW d [] (fun f vs => PySem.call f vs) := by
  refine Att.attach_call hn hdf fun w s₀ s₁ mg mb fa o pm cd doc a vs ns G Y ho hd hcd hmg hobj hints hlen hg => ?_
  obtain ⟨K, fd, sp, KX, hb, hsp, hF⟩ := F w mg fa _ Y G.T.g hmg
  have rv := vals_ints hints
  have hl := Nat.le_trans hlen hn2
  have go := fun (H : Hp) (h1 : Only H) (h2 : SqL K H a (ns.map V.int)) => call_at (H := H) KX G.T.g G.T.b G.T.builtins G.T.nolimit hg hobj hF hb (hsp H a ns hlen h1 h2) h1
  cases hk : K.lookup a with
  | some o =>
    have e := KX a o hk
    rw [hobj] at e
    cases e
    exact go (fun _ => none) (fun _ => .inl rfl) (.inr ⟨_, vs.toArray, _, hk, rfl, rfl, rfl, by rw [List.size_toArray, hints.length]; exact hl, by simpa using rv⟩) (fun b u z => nomatch (show (none : Option HO) = some u from z)) (fun b z => absurd rfl z) (fun z => absurd rfl z) fun H e s' => hCX H s₁ e s'
  | none =>
    refine go (fun b => if b = a then some (.frz { cls := .type "list", data := .seq vs.toArray } (.lst (ns.map V.int))) else none) (fun b => ?_) (.inl (.inr ⟨{ cls := .type "list", data := .seq vs.toArray }, if_pos rfl⟩)) (fun b u z => ?_) (fun b z => ?_) (fun _ => hk) fun H e s' => hCX H s₁ e s'
    · by_cases hb : b = a
      · exact .inr ⟨_, _, if_pos hb⟩
      · exact .inl (if_neg hb)
    · by_cases hb : b = a
      · have z' := (if_pos hb).symm.trans z
        cases z'
        subst hb
        exact ⟨hobj, by rw [List.length_map]; exact hl, vs, _, rv, hobj⟩
      · have z' := (if_neg hb).symm.trans z
        cases z'
    · by_cases hb : b = a
      · exact hb
      · exact absurd (if_neg hb) z
/-- the law, levels counted twice -/
theorem runAt2 {P : Program} {w : World} {K : PySem.W.Frag} {mg : Str → Option Value} {base : Heap} {G : Gb} {T : List Df} {k f : Nat} {a : Addr} {d : Df} {x qual : Str} {st : Stmt} {fd : FuncData} {N ps : List Str}
    (ih : ∀ f a, G.fa f = some a → FnB P w K mg base G (callM T k) (2 * k) f a) (hd : T[f]? = some d) (F : FunD K x qual (defArgs st) (defBody st) (defScope st) [] [] a fd) (S : FnScope N ps (defScope st)) (hN : N.length = d.ns) (hr : Room (2 * k + 2) callerA)
    (hbody : ∀ (k : Nat) (C : CallF) (cdv : Value) (outer : List PySem.Env) (s : Shared) (H : Hp) (E : XK), (∀ f a, G.fa f = some a → FnB P w K mg base G C k f a) → Room (k + 1) (callerA.deeper (envOfC qual (defScope st) s.heap.objs.size a cdv)) →
      PSs (cxOf CX0 P w K mg base N qual (defScope st) a cdv callerA outer s H E).nox (defBody st) (tSs G C d.body)) : RunAt P w K mg base CX0 callerA a fd ps (spC G (callM T (k + 1)) f ps.length) := by
  refine runAt_of (k := 2 * k + 1) F S hr (fun vs H Q E q => q.1) (fun cdv outer s H vs Q E hr q => ⟨_, (hbody (2 * k) (callM T k) cdv outer s H E ih hr).nox, ?_⟩)
  obtain ⟨hl, W, args, r, mh', rfl, SW, ra, e, q⟩ := q
  rw [callM_eq2 hd] at e
  exact (run_ok hN SW ra e q).2
end L2.Mi

set_option Elab.async false
set_option linter.all false
set_option maxRecDepth 100000
set_option maxHeartbeats 4000000
/-! Mini30: name = {k: v for ..} on one line, the name a local. -/
namespace L2.Mi
open PySem PySem.Spec PyProof.Rows
section
variable {X : Cx} {i : Nat} {y : Str} {py : Pos} {kx vx tg iter : Expr} {ifs : List Expr} {scope : Scope} {own : List (Str × Nat)} {pos spos : Pos}
theorem ps_setDc {wi : TI} {g : TG} {tt : TT} {tk tv : TE} (hc : X.calm = true) (hN : X.N.Nodup) (hy : X.N[i]? = some y) (hyl : X.env.scope.names.lookup y = some .local)
    (hsw : swapsWith (.DictComp kx vx [⟨tg, iter, ifs, 0⟩] scope pos) (some (.Name y py)) spos.line X.env = pure true) (hi : PI X tg iter wi) (ok : BlkOk X.N X.env.scope scope own)
    (hg : ∀ (s : Shared) (H : Hp) (C : Addr) (cl : List (Str × Addr)) (fp : List Addr), PG (X.blk s H scope (compEnvC scope cl C X.env) fp) tg g) (ht : ∀ (s : Shared) (H : Hp) (C : Addr) (cl : List (Str × Addr)) (fp : List Addr), PTs (X.blk s H scope (compEnvC scope cl C X.env) fp) ifs tt)
    (hk : ∀ (s : Shared) (H : Hp) (C : Addr) (cl : List (Str × Addr)) (fp : List Addr), PE (X.blk s H scope (compEnvC scope cl C X.env) fp) kx tk)
    (he : ∀ (s : Shared) (H : Hp) (C : Addr) (cl : List (Str × Addr)) (fp : List Addr), PE (X.blk s H scope (compEnvC scope cl C X.env) fp) vx tv) (hs : ∀ x, foldedSetIterable iter X.env x = pure x := by intro _; rfl) :
    PS X (.Assign [.Name y py] (.DictComp kx vx [⟨tg, iter, ifs, 0⟩] scope pos) spos) (tAsg (tDc wi g tt tk tv (own.map (·.2))) (gName i)) := by
  refine ⟨fun pins s σ H D I h => ?_⟩
  rw [exec_Assign_Name_used _ _ _ _ hsw]
  refine wpAny_bind (wpAny_standAt (wpAny_bind ?_))
  show wpAny _ X.A (do let _ ← comprehension (.DictComp kx vx [⟨tg, iter, ifs, 0⟩] scope pos) scope X.env (firstIterPos [⟨tg, iter, ifs, 0⟩] pos) newDict false (eval iter X.env) (some (assign (.Name y py) X.env))) _ _ s
  have h : tDc wi g tt tk tv (own.map (·.2)) σ H (fun x H1 => gName i x σ H1 D.nx) := h
  refine wpAny_bind (thn (dc_core (Qf := fun _ s' => SP X pins D .next s') hc hN I hi ok hg ht hk he hs h fun L C s' m H' I' q hn f => ?_) fun _ s' hq => wpAny_pure (wpAny_pure hq))
  show wpAny _ _ (assign (.Name y py) X.env (.ref L)) _ _ _
  refine wpAny_assign_Name (store_ok2 (v := V.ref L) I' hN hy (.inl hyl) rfl (fun s2 I2 ⟨a, sb, ha⟩ => ?_) (.inr hyl))
  obtain ⟨f0, f1, f2, f3, f4, f5⟩ := f
  have haC : C ≠ a := by
    rcases ha with z | z
    · rw [z]; exact f1
    · exact fun e => f4 y a z e.symm
  refine ⟨m, hn.sameBut sb haC, fun h3 sb3 => ?_⟩
  exact ⟨_, H', I2.turned (t' := s2.toks) (fun b o hb e => (sb3.2 b hb).trans e) f0 f1 f3 f4 f5, q⟩
theorem sw_trueD {gs : List Comprehension} {l : Nat} {env : PySem.Env} (hk : env.scope.kind = .function) (hy : env.scope.names.lookup y = some .local) (hl : (py.line == pos.line) = true)
    (ha : (scope.names.any fun (n, k) => n == y && (k == .local || k == .cell)) = false) : swapsWith (.DictComp kx vx gs scope pos) (some (.Name y py)) l env = pure true := by
  have ky : env.kindOf y = some .local := hy
  have hb : env.blockKind = .function := by unfold Env.blockKind; rw [hk]; rfl
  unfold swapsWith
  simp only [hb, ky, ha, Expr.pos, hl]
  rfl
end
section
variable {G : Gb} {C : CallF} {X : Cx} {mc mk me mi : ME} {t : Tg} {i : Nat} {y : Str} {py : Pos} {kx vx tg iter : Expr} {ifs : List Expr} {scope : Scope} {own : List (Str × Nat)} {pos spos : Pos}
theorem ss_setDc (hown : ∀ i ∈ tgN t, i ∈ own.map (·.2)) (hc : X.calm = true) (hN : X.N.Nodup) (hy : X.N[i]? = some y) (hyl : X.env.scope.names.lookup y = some .local)
    (hsw : swapsWith (.DictComp kx vx [⟨tg, iter, ifs, 0⟩] scope pos) (some (.Name y py)) spos.line X.env = pure true) (hi : PI X tg iter (tI G C mi)) (ok : BlkOk X.N X.env.scope scope own)
    (hg : ∀ (s : Shared) (H : Hp) (D : Addr) (cl : List (Str × Addr)) (fp : List Addr), PG (X.blk s H scope (compEnvC scope cl D X.env) fp) tg (tG G t)) (ht : ∀ (s : Shared) (H : Hp) (D : Addr) (cl : List (Str × Addr)) (fp : List Addr), PTs (X.blk s H scope (compEnvC scope cl D X.env) fp) ifs (tT G C mc))
    (hk : ∀ (s : Shared) (H : Hp) (D : Addr) (cl : List (Str × Addr)) (fp : List Addr), PE (X.blk s H scope (compEnvC scope cl D X.env) fp) kx (tE G C mk))
    (he : ∀ (s : Shared) (H : Hp) (D : Addr) (cl : List (Str × Addr)) (fp : List Addr), PE (X.blk s H scope (compEnvC scope cl D X.env) fp) vx (tE G C me)) (hs : ∀ x, foldedSetIterable iter X.env x = pure x := by intro _; rfl) :
    PS X (.Assign [.Name y py] (.DictComp kx vx [⟨tg, iter, ifs, 0⟩] scope pos) spos) (tS G C (.set (.nm i) (.dcomp t (own.map (·.2)) mi mc mk me))) := (ps_setDc hc hN hy hyl hsw hi ok hg ht hk he hs).mono fun D σ H h => by
  obtain ⟨A, ρ, fl, ρ', mh', rfl, S, N, e, q⟩ := h
  obtain ⟨v, e1, e2, rfl⟩ := ex_set e
  simp only [asg] at e2
  split at e2
  · cases e2
    exact dc_frozen hown S N e1 fun B x k em SB r => q B k em SB _ ((N.keep S k).set r i)
  · cases e2
theorem ss_setDcA (hown : ∀ i ∈ tgN t, i ∈ own.map (·.2)) (hc : X.calm = true) (hN : X.N.Nodup) (hy : X.N[i]? = some y) (hyl : X.env.scope.names.lookup y = some .local)
    (hsw : swapsWith (.DictComp kx vx [⟨tg, iter, ifs, 0⟩] scope pos) (some (.Name y py)) spos.line X.env = pure true) (hi : PI X tg iter (tI G C mi)) (ok : BlkOk X.N X.env.scope scope own)
    (hg : ∀ (s : Shared) (H : Hp) (D : Addr) (cl : List (Str × Addr)) (fp : List Addr), PG (X.blk s H scope (compEnvC scope cl D X.env) fp) tg (tG G t)) (ht : ∀ (s : Shared) (H : Hp) (D : Addr) (cl : List (Str × Addr)) (fp : List Addr), PTs (X.blk s H scope (compEnvC scope cl D X.env) fp) ifs (tT G C mc))
    (hk : ∀ (s : Shared) (H : Hp) (D : Addr) (cl : List (Str × Addr)) (fp : List Addr), PE (X.blk s H scope (compEnvC scope cl D X.env) fp) kx (tE G C mk))
    (he : ∀ (s : Shared) (H : Hp) (D : Addr) (cl : List (Str × Addr)) (fp : List Addr), PE (X.blk s H scope (compEnvC scope cl D X.env) fp) vx (tE G C me)) (hs : ∀ x, foldedSetIterable iter X.env x = pure x := by intro _; rfl) :
    PS X (.Assign [.Name y py] (.DictComp kx vx [⟨tg, iter, ifs, 0⟩] scope pos) spos) (tS G C (.set (.nm i) (.al (.dcomp t (own.map (·.2)) mi mc mk me)))) := (ps_setDc hc hN hy hyl hsw hi ok hg ht hk he hs).mono fun D σ H h => by
  obtain ⟨A, ρ, fl, ρ', mh', rfl, S, N, e, q⟩ := h
  obtain ⟨v, e1, e2, rfl⟩ := ex_set e
  simp only [asg] at e2
  split at e2
  · cases e2
    exact dc_live hown S N e1 fun B x k em SB r => q B k em SB _ ((N.keep S k).set r i)
  · cases e2
end
end L2.Mi

set_option Elab.async false
set_option linter.all false
set_option maxRecDepth 100000
set_option maxHeartbeats 4000000

namespace L2.Mi.k04
open PySem PySem.Spec PyProof.Rows L2.Mi
/-! the text by places -/
def top (i : Nat) : Stmt := PySem.Challenge.pw_termwright_k04_puttings.main.body.getD i (.Pass ⟨0, 0, 0, 0⟩)
abbrev s_are_signs_of_text : Stmt := top 3
abbrev s_is_sign : Stmt := top 4
abbrev s_is_variable : Stmt := top 5
abbrev s_places_of : Stmt := top 6
abbrev s_is_var : Stmt := top 7
abbrev s_nodes : Stmt := top 8
abbrev s_is_term : Stmt := top 9
abbrev s_variables : Stmt := top 10
abbrev s_is_putting : Stmt := top 12
abbrev s_put_for : Stmt := top 13
abbrev s_plain : Stmt := top 14
abbrev s_behind : Stmt := top 15
abbrev s_is_renaming : Stmt := top 16
abbrev s_numbered : Stmt := top 17
abbrev s_are_alike : Stmt := top 18
abbrev s_solves : Stmt := top 19
abbrev s_l_state : Stmt := top 21
abbrev s_l_take : Stmt := top 22
abbrev s_l_pick : Stmt := top 23
abbrev s_l_tongue : Stmt := top 24
abbrev s_l_term : Stmt := top 25
abbrev s_l_put : Stmt := top 26
abbrev s_l_names : Stmt := top 27
abbrev s_l_putting : Stmt := top 28
abbrev s_law : Stmt := top 29
/-! the defs -/
def d_are_signs_of_text : Df := ⟨2, 3, false, [(.ite (.or (.not (.isi (.var 0) .str)) (.or (.not (.chn .le .le (.c (.int (1))) (.bi .len [(.var 0)]) (.c (.int (8))))) (.cmp .nmem (.sub (.var 0) (.c (.int (0)))) (.var 1)))) [(.ret (.c (.bl false)))] []), (.ret (.bi .all [(.comp (.nm 2) [2] (.slcL (.var 0) (.c (.int (1)))) (.c (.bl true)) (.or (.chn .le .le (.c (.str [97])) (.var 2) (.c (.str [122]))) (.chn .le .le (.c (.str [48])) (.var 2) (.c (.str [57])))))]))]⟩
abbrev N_are_signs_of_text : List Str := ["value", "first", "sign"]
abbrev P_are_signs_of_text : List Str := ["value", "first"]
def d_is_sign : Df := ⟨1, 1, false, [(.ret (.call 0 [(.var 0), (.c (.str [97, 98, 99, 100, 101, 102, 103, 104, 105, 106, 107, 108, 109, 110, 111, 112, 113, 114, 115, 116, 117, 118, 119, 120, 121, 122]))]))]⟩
abbrev N_is_sign : List Str := ["value"]
abbrev P_is_sign : List Str := ["value"]
def d_is_variable : Df := ⟨1, 1, false, [(.ret (.call 0 [(.var 0), (.c (.str [65, 66, 67, 68, 69, 70, 71, 72, 73, 74, 75, 76, 77, 78, 79, 80, 81, 82, 83, 84, 85, 86, 87, 88, 89, 90]))]))]⟩
abbrev N_is_variable : List Str := ["value"]
abbrev P_is_variable : List Str := ["value"]
def d_places_of : Df := ⟨2, 4, false, [(.for (.tp [(.nm 2), (.nm 3)]) (.var 0) [(.ite (.cmp .eq (.var 2) (.var 1)) [(.ret (.var 3))] [])]), (.ret (.c .non))]⟩
abbrev N_places_of : List Str := ["tongue", "sign", "name", "many"]
abbrev P_places_of : List Str := ["tongue", "sign"]
def d_is_var : Df := ⟨1, 1, false, [(.ret (.isi (.var 0) .str))]⟩
abbrev N_is_var : List Str := ["term"]
abbrev P_is_var : List Str := ["term"]
def d_nodes : Df := ⟨1, 4, false, [(.par 1 2 (.al (.lst [(.var 0)])) (.c (.int (0)))), (.while (.cmp .gt (.bi .len [(.var 1)]) (.c (.int (0)))) [(.set (.nm 3) (.meth .pop (.var 1) [])), (.aug 2 .add (.c (.int (1)))), (.ite (.and (.isi (.var 3) .tuple) (.cmp .gt (.bi .len [(.var 3)]) (.c (.int (0))))) [(.ex (.meth .extend (.var 1) [(.slcL (.var 3) (.c (.int (1))))]))] [(.ite (.not (.isi (.var 3) .str)) [(.ret (.c .non))] [])]), (.ite (.cmp .gt (.var 2) (.c (.int (400)))) [(.ret (.var 2))] [])]), (.ret (.var 2))]⟩
abbrev N_nodes : List Str := ["value", "waiting", "found", "now"]
abbrev P_nodes : List Str := ["value"]
def d_is_term : Df := ⟨2, 5, false, [(.set (.nm 2) (.call 5 [(.var 0)])), (.ite (.or (.cmp .is (.var 2) (.c .non)) (.cmp .gt (.var 2) (.c (.int (400))))) [(.ret (.c (.bl false)))] []), (.set (.nm 3) (.al (.lst [(.var 0)]))), (.while (.cmp .gt (.bi .len [(.var 3)]) (.c (.int (0)))) [(.set (.nm 4) (.meth .pop (.var 3) [])), (.ite (.isi (.var 4) .tuple) [(.ite (.or (.not (.call 1 [(.sub (.var 4) (.c (.int (0))))])) (.cmp .ne (.call 3 [(.var 1), (.sub (.var 4) (.c (.int (0))))]) (.bin .sub (.bi .len [(.var 4)]) (.c (.int (1)))))) [(.ret (.c (.bl false)))] []), (.ex (.meth .extend (.var 3) [(.slcL (.var 4) (.c (.int (1))))]))] [(.ite (.not (.call 2 [(.var 4)])) [(.ret (.c (.bl false)))] [])])]), (.ret (.c (.bl true)))]⟩
abbrev N_is_term : List Str := ["value", "tongue", "many", "waiting", "now"]
abbrev P_is_term : List Str := ["value", "tongue"]
def d_variables : Df := ⟨1, 4, false, [(.ite (.call 4 [(.var 0)]) [(.ret (.lst [(.var 0)]))] []), (.set (.nm 1) (.al (.lst []))), (.for (.nm 2) (.slcL (.var 0) (.c (.int (1)))) [(.ex (.meth .extend (.var 1) [(.comp (.nm 3) [3] (.call 7 [(.var 2)]) (.cmp .nmem (.var 3) (.var 1)) (.var 3))]))]), (.ret (.var 1))]⟩
abbrev N_variables : List Str := ["term", "found", "part", "name"]
abbrev P_variables : List Str := ["term"]
def d_is_putting : Df := ⟨2, 3, false, [(.ite (.or (.not (.isi (.var 0) .dict)) (.not (.bi .all [(.comp (.nm 2) [2] (.var 0) (.c (.bl true)) (.call 2 [(.var 2)]))]))) [(.ret (.c (.bl false)))] []), (.ret (.bi .all [(.comp (.nm 2) [2] (.var 0) (.c (.bl true)) (.call 6 [(.sub (.var 0) (.var 2)), (.var 1)]))]))]⟩
abbrev N_is_putting : List Str := ["value", "tongue", "name"]
abbrev P_is_putting : List Str := ["value", "tongue"]
def d_put_for : Df := ⟨2, 3, false, [(.ite (.call 4 [(.var 0)]) [(.ret (.meth .get2 (.var 1) [(.var 0), (.var 0)]))] []), (.ret (.bin .add (.tup [(.sub (.var 0) (.c (.int (0))))]) (.bi .tuple [(.comp (.nm 2) [2] (.slcL (.var 0) (.c (.int (1)))) (.c (.bl true)) (.call 9 [(.var 2), (.var 1)]))])))]⟩
abbrev N_put_for : List Str := ["term", "putting", "part"]
abbrev P_put_for : List Str := ["term", "putting"]
def d_plain : Df := ⟨1, 2, false, [(.ret (.dcomp (.nm 1) [1] (.bi .sorted [(.var 0)]) (.cmp .ne (.sub (.var 0) (.var 1)) (.var 1)) (.var 1) (.sub (.var 0) (.var 1))))]⟩
abbrev N_plain : List Str := ["putting", "name"]
abbrev P_plain : List Str := ["putting"]
def d_behind : Df := ⟨2, 4, false, [(.set (.nm 2) (.al (.dcomp (.nm 3) [3] (.var 0) (.c (.bl true)) (.var 3) (.call 9 [(.sub (.var 0) (.var 3)), (.var 1)])))), (.for (.nm 3) (.var 1) [(.ite (.cmp .nmem (.var 3) (.var 2)) [(.sti (.var 2) (.var 3) (.sub (.var 1) (.var 3)))] [])]), (.ret (.call 10 [(.var 2)]))]⟩
abbrev N_behind : List Str := ["first", "second", "found", "name"]
abbrev P_behind : List Str := ["first", "second"]
def d_is_renaming : Df := ⟨1, 4, false, [(.set (.nm 1) (.comp (.nm 2) [2] (.var 0) (.c (.bl true)) (.sub (.var 0) (.var 2)))), (.ret (.and (.bi .all [(.comp (.nm 3) [3] (.var 1) (.c (.bl true)) (.call 4 [(.var 3)]))]) (.cmp .eq (.bi .lset [(.var 1)]) (.bi .len [(.var 1)]))))]⟩
abbrev N_is_renaming : List Str := ["putting", "told", "name", "term"]
abbrev P_is_renaming : List Str := ["putting"]
def d_numbered : Df := ⟨1, 3, false, [(.set (.nm 1) (.call 7 [(.var 0)])), (.ret (.call 9 [(.var 0), (.dcomp (.nm 2) [2] (.rng1 (.bi .len [(.var 1)])) (.c (.bl true)) (.sub (.var 1) (.var 2)) (.bin .add (.c (.str [86])) (.bi .strI [(.var 2)])))]))]⟩
abbrev N_numbered : List Str := ["term", "names", "k"]
abbrev P_numbered : List Str := ["term"]
def d_are_alike : Df := ⟨2, 2, false, [(.ret (.cmp .eq (.call 13 [(.var 0)]) (.call 13 [(.var 1)])))]⟩
abbrev N_are_alike : List Str := ["one", "other"]
abbrev P_are_alike : List Str := ["one", "other"]
def d_solves : Df := ⟨2, 4, false, [(.ret (.bi .all [(.comp (.tp [(.nm 2), (.nm 3)]) [2, 3] (.var 1) (.c (.bl true)) (.cmp .eq (.call 9 [(.var 2), (.var 0)]) (.call 9 [(.var 3), (.var 0)])))]))]⟩
abbrev N_solves : List Str := ["putting", "pairs", "one", "other"]
abbrev P_solves : List Str := ["putting", "pairs"]
def d_l_state : Df := ⟨1, 3, true, [(.set (.nm 1) (.al (.comp (.nm 2) [2] (.slcH (.var 0) (.c (.int (63)))) (.c (.bl true)) (.bi .abs [(.var 2)])))), (.ite (.cmp .eq (.bi .len [(.var 1)]) (.c (.int (0)))) [(.set (.nm 1) (.al (.lst [(.c (.int (0)))])))] []), (.ret (.al (.lst [(.c (.int (0))), (.var 1)])))]⟩
abbrev N_l_state : List Str := ["script", "cells", "cell"]
abbrev P_l_state : List Str := ["script"]
def d_l_take : Df := ⟨2, 6, false, [(.ite (.cmp .lt (.var 1) (.c (.int (2)))) [(.ret (.c (.int (0))))] []), (.set (.nm 2) (.sub (.var 0) (.c (.int (1))))), (.set (.nm 3) (.bin .mod (.bi .int [(.sub (.var 0) (.c (.int (0))))]) (.bi .len [(.var 2)]))), (.set (.nm 4) (.sub (.var 2) (.var 3))), (.ite (.cmp .ge (.var 4) (.c (.int (1000000000000000000)))) [(.sti (.var 2) (.var 3) (.bin .fdiv (.var 4) (.var 1))), (.ret (.bin .mod (.bi .int [(.var 4)]) (.var 1)))] []), (.sti (.var 0) (.c (.int (0))) (.bin .add (.sub (.var 0) (.c (.int (0)))) (.c (.int (1))))), (.set (.nm 5) (.bin .mod (.bi .int [(.bin .add (.bin .mul (.var 4) (.c (.int (48271)))) (.bin .mul (.sub (.var 0) (.c (.int (0)))) (.c (.int (69621)))))]) (.c (.int (2147483647))))), (.set (.nm 5) (.bin .mod (.bi .int [(.bin .add (.bin .mul (.var 5) (.c (.int (16807)))) (.bin .mul (.sub (.var 0) (.c (.int (0)))) (.c (.int (7919)))))]) (.c (.int (1000000007))))), (.ret (.bin .mod (.bi .int [(.bin .fdiv (.var 5) (.c (.int (7))))]) (.var 1)))]⟩
abbrev N_l_take : List Str := ["state", "most", "cells", "at", "cell", "mixed"]
abbrev P_l_take : List Str := ["state", "most"]
def d_l_pick : Df := ⟨2, 2, false, [(.ret (.sub (.var 1) (.call 17 [(.var 0), (.bi .len [(.var 1)])])))]⟩
abbrev N_l_pick : List Str := ["state", "row"]
abbrev P_l_pick : List Str := ["state", "row"]
def d_l_tongue : Df := ⟨1, 1, false, [(.ret (.call 18 [(.var 0), (.lst [(.tup [(.tup [(.c (.str [97])), (.c (.int (0)))]), (.tup [(.c (.str [102])), (.c (.int (2)))])]), (.tup [(.tup [(.c (.str [97])), (.c (.int (0)))]), (.tup [(.c (.str [98])), (.c (.int (0)))]), (.tup [(.c (.str [102])), (.c (.int (2)))]), (.tup [(.c (.str [103])), (.c (.int (1)))])]), (.tup [(.tup [(.c (.str [97])), (.c (.int (0)))]), (.tup [(.c (.str [98, 49])), (.c (.int (0)))]), (.tup [(.c (.str [103])), (.c (.int (1)))]), (.tup [(.c (.str [104])), (.c (.int (3)))])]), (.tup [(.tup [(.c (.str [99])), (.c (.int (0)))]), (.tup [(.c (.str [102])), (.c (.int (2)))]), (.tup [(.c (.str [103])), (.c (.int (1)))])])])]))]⟩
abbrev N_l_tongue : List Str := ["state"]
abbrev P_l_tongue : List Str := ["state"]
def d_l_term : Df := ⟨4, 9, false, [(.ite (.and (.cmp .gt (.bi .len [(.var 2)]) (.c (.int (0)))) (.cmp .eq (.call 17 [(.var 0), (.ite (.cmp .gt (.var 3) (.c (.int (1)))) (.c (.int (3))) (.c (.int (2))))]) (.c (.int (0))))) [(.ret (.call 18 [(.var 0), (.var 2)]))] []), (.set (.nm 4) (.comp (.nm 7) [7] (.var 1) (.or (.cmp .gt (.var 3) (.c (.int (1)))) (.cmp .eq (.sub (.var 7) (.c (.int (1)))) (.c (.int (0))))) (.var 7))), (.set (.tp [(.nm 5), (.nm 6)]) (.call 18 [(.var 0), (.var 4)])), (.ret (.bin .add (.tup [(.var 5)]) (.bi .tuple [(.comp (.nm 8) [8] (.rng1 (.var 6)) (.c (.bl true)) (.call 20 [(.var 0), (.var 1), (.var 2), (.bin .sub (.var 3) (.c (.int (1))))]))])))]⟩
abbrev N_l_term : List Str := ["state", "tongue", "names", "most", "pairs", "sign", "many", "pair", "k"]
abbrev P_l_term : List Str := ["state", "tongue", "names", "most"]
def d_l_put : Df := ⟨2, 3, false, [(.ite (.isi (.var 0) .str) [(.ret (.meth .get2 (.var 1) [(.var 0), (.var 0)]))] []), (.ret (.bin .add (.tup [(.sub (.var 0) (.c (.int (0))))]) (.bi .tuple [(.comp (.nm 2) [2] (.slcL (.var 0) (.c (.int (1)))) (.c (.bl true)) (.call 21 [(.var 2), (.var 1)]))])))]⟩
abbrev N_l_put : List Str := ["term", "putting", "part"]
abbrev P_l_put : List Str := ["term", "putting"]
def d_l_names : Df := ⟨1, 4, false, [(.ite (.isi (.var 0) .str) [(.ret (.lst [(.var 0)]))] []), (.set (.nm 1) (.lst [])), (.for (.nm 2) (.slcL (.var 0) (.c (.int (1)))) [(.set (.nm 1) (.bin .add (.var 1) (.comp (.nm 3) [3] (.call 22 [(.var 2)]) (.cmp .nmem (.var 3) (.var 1)) (.var 3))))]), (.ret (.var 1))]⟩
abbrev N_l_names : List Str := ["term", "found", "part", "name"]
abbrev P_l_names : List Str := ["term"]
def d_l_putting : Df := ⟨2, 4, false, [(.set (.nm 2) (.al .dnew)), (.for (.nm 3) (.slcH (.lst [(.c (.str [88])), (.c (.str [89])), (.c (.str [90])), (.c (.str [87]))]) (.call 17 [(.var 0), (.c (.int (5)))])) [(.sti (.var 2) (.var 3) (.ite (.cmp .gt (.call 17 [(.var 0), (.c (.int (4)))]) (.c (.int (0)))) (.call 20 [(.var 0), (.var 1), (.lst [(.c (.str [88])), (.c (.str [89])), (.c (.str [86, 48])), (.c (.str [85]))]), (.c (.int (3)))]) (.var 3)))]), (.ret (.var 2))]⟩
abbrev N_l_putting : List Str := ["state", "tongue", "found", "name"]
abbrev P_l_putting : List Str := ["state", "tongue"]
def d_law : Df := ⟨1, 22, false, [(.set (.nm 1) (.call 16 [(.var 0)])), (.for (.nm 2) (.rng1 (.c (.int (4)))) [(.set (.nm 3) (.call 19 [(.var 1)])), (.set (.nm 4) (.call 20 [(.var 1), (.var 3), (.lst [(.c (.str [88])), (.c (.str [89])), (.c (.str [90])), (.c (.str [87])), (.c (.str [84]))]), (.c (.int (4)))])), (.set (.tp [(.nm 18), (.nm 19)]) (.tup [(.call 23 [(.var 1), (.var 3)]), (.call 23 [(.var 1), (.var 3)])])), (.set (.nm 5) (.bi .repr [(.tup [(.var 18), (.var 19)])])), (.ite (.or (.cmp .ne (.call 9 [(.var 4), (.var 18)]) (.call 21 [(.var 4), (.var 18)])) (.cmp .ne (.bi .repr [(.tup [(.var 18), (.var 19)])]) (.var 5))) [(.ret (.c (.bl false)))] []), (.set (.nm 6) (.call 11 [(.var 18), (.var 19)])), (.set (.nm 7) (.al .dnew)), (.for (.nm 8) (.bi .sorted [(.lst [(.c (.str [88])), (.c (.str [89])), (.c (.str [90])), (.c (.str [87]))])]) [(.set (.nm 13) (.call 21 [(.call 21 [(.var 8), (.var 18)]), (.var 19)])), (.ite (.cmp .ne (.var 13) (.var 8)) [(.sti (.var 7) (.var 8) (.var 13))] [])]), (.ite (.or (.not (.isi (.var 6) .dict)) (.or (.cmp .ne (.bi .list [(.var 6)]) (.bi .sorted [(.var 7)])) (.or (.cmp .ne (.var 6) (.var 7)) (.cmp .ne (.call 21 [(.var 4), (.var 6)]) (.call 21 [(.call 21 [(.var 4), (.var 18)]), (.var 19)]))))) [(.ret (.c (.bl false)))] []), (.set (.nm 9) (.call 22 [(.var 4)])), (.set (.nm 10) (.al .dnew)), (.for (.nm 11) (.rng1 (.bi .len [(.var 9)])) [(.sti (.var 10) (.sub (.var 9) (.var 11)) (.bin .add (.c (.str [86])) (.bi .strI [(.var 11)])))]), (.ite (.cmp .ne (.call 13 [(.var 4)]) (.call 21 [(.var 4), (.var 10)])) [(.ret (.c (.bl false)))] []), (.set (.nm 12) (.call 21 [(.var 4), (.var 18)])), (.set (.nm 13) (.al (.lst []))), (.for (.nm 8) (.call 22 [(.var 12)]) [(.ex (.meth .append (.var 13) [(.bin .add (.c (.str [86])) (.bi .strI [(.bi .len [(.var 13)])]))]))]), (.set (.nm 14) (.bi .dzip [(.call 22 [(.var 12)]), (.var 13)])), (.ite (.cmp .ne (.call 14 [(.var 4), (.var 12)]) (.cmp .eq (.call 21 [(.var 12), (.var 14)]) (.call 21 [(.var 4), (.var 10)]))) [(.ret (.c (.bl false)))] []), (.set (.nm 15) (.comp (.nm 8) [8] (.var 18) (.c (.bl true)) (.sub (.var 18) (.var 8)))), (.set (.nm 16) (.and (.cmp .eq (.bi .len [(.comp (.nm 20) [20] (.var 15) (.not (.isi (.var 20) .str)) (.var 20))]) (.c (.int (0)))) (.cmp .eq (.bi .len [(.comp (.nm 11) [11] (.rng1 (.bi .len [(.var 15)])) (.cmp .mem (.sub (.var 15) (.var 11)) (.slcH (.var 15) (.var 11))) (.var 11))]) (.c (.int (0)))))), (.ite (.cmp .ne (.call 12 [(.var 18)]) (.var 16)) [(.ret (.c (.bl false)))] []), (.set (.nm 17) (.slcH (.lst [(.tup [(.var 4), (.var 12)]), (.tup [(.call 21 [(.var 4), (.var 18)]), (.call 21 [(.var 12), (.var 18)])])]) (.bin .add (.c (.int (1))) (.call 17 [(.var 1), (.c (.int (2)))])))), (.ite (.cmp .ne (.call 15 [(.var 18), (.var 17)]) (.cmp .eq (.bi .len [(.comp (.nm 21) [21] (.var 17) (.cmp .ne (.call 21 [(.sub (.var 21) (.c (.int (0)))), (.var 18)]) (.call 21 [(.sub (.var 21) (.c (.int (1)))), (.var 18)])) (.var 21))]) (.c (.int (0))))) [(.ret (.c (.bl false)))] []), (.ite (.or (.cmp .isn (.call 8 [(.var 18), (.var 3)]) (.c (.bl true))) (.or (.cmp .isn (.call 8 [(.disp1 (.c (.str [88])) (.tup [(.c (.str [122, 122, 122]))])), (.var 3)]) (.c (.bl false))) (.cmp .isn (.call 8 [(.disp1 (.c (.str [120])) (.c (.str [88]))), (.var 3)]) (.c (.bl false))))) [(.ret (.c (.bl false)))] []), (.ite (.or (.cmp .isn (.call 8 [(.lst [(.tup [(.c (.str [88])), (.c (.str [89]))])]), (.var 3)]) (.c (.bl false))) (.or (.cmp .isn (.call 8 [(.c .non), (.var 3)]) (.c (.bl false))) (.or (.cmp .isn (.call 8 [(.disp1 (.c (.str [88])) (.c .non)), (.var 3)]) (.c (.bl false))) (.cmp .isn (.call 8 [(.disp1 (.c (.int (5))) (.c (.str [88]))), (.var 3)]) (.c (.bl false)))))) [(.ret (.c (.bl false)))] [])]), (.ret (.c (.bl true)))]⟩
abbrev N_law : List Str := ["script", "state", "turn", "tongue", "term", "kept", "both", "due", "name", "names", "plain_v", "k", "other", "told", "second_plain", "rows", "good", "pairs", "first", "second", "each", "pair"]
abbrev P_law : List Str := ["script"]
def T : List Df := [d_are_signs_of_text, d_is_sign, d_is_variable, d_places_of, d_is_var, d_nodes, d_is_term, d_variables, d_is_putting, d_put_for, d_plain, d_behind, d_is_renaming, d_numbered, d_are_alike, d_solves, d_l_state, d_l_take, d_l_pick, d_l_tongue, d_l_term, d_l_put, d_l_names, d_l_putting, d_law]
end L2.Mi.k04

set_option Elab.async false
set_option linter.all false
set_option maxRecDepth 100000
set_option maxHeartbeats 4000000

namespace L2.Mi.k04
open PySem PySem.Spec PyProof.Rows L2.Mi
theorem sc_are_signs_of_text : FnScope N_are_signs_of_text P_are_signs_of_text (defScope s_are_signs_of_text) := ⟨rfl, rfl, rfl, by decide +kernel, rfl, by decide +kernel, by decide +kernel⟩
theorem sc_is_sign : FnScope N_is_sign P_is_sign (defScope s_is_sign) := ⟨rfl, rfl, rfl, by decide +kernel, rfl, by decide +kernel, by decide +kernel⟩
theorem sc_is_variable : FnScope N_is_variable P_is_variable (defScope s_is_variable) := ⟨rfl, rfl, rfl, by decide +kernel, rfl, by decide +kernel, by decide +kernel⟩
theorem sc_places_of : FnScope N_places_of P_places_of (defScope s_places_of) := ⟨rfl, rfl, rfl, by decide +kernel, rfl, by decide +kernel, by decide +kernel⟩
theorem sc_is_var : FnScope N_is_var P_is_var (defScope s_is_var) := ⟨rfl, rfl, rfl, by decide +kernel, rfl, by decide +kernel, by decide +kernel⟩
theorem sc_nodes : FnScope N_nodes P_nodes (defScope s_nodes) := ⟨rfl, rfl, rfl, by decide +kernel, rfl, by decide +kernel, by decide +kernel⟩
theorem sc_is_term : FnScope N_is_term P_is_term (defScope s_is_term) := ⟨rfl, rfl, rfl, by decide +kernel, rfl, by decide +kernel, by decide +kernel⟩
theorem sc_variables : FnScope N_variables P_variables (defScope s_variables) := ⟨rfl, rfl, rfl, by decide +kernel, rfl, by decide +kernel, by decide +kernel⟩
theorem sc_is_putting : FnScope N_is_putting P_is_putting (defScope s_is_putting) := ⟨rfl, rfl, rfl, by decide +kernel, rfl, by decide +kernel, by decide +kernel⟩
theorem sc_put_for : FnScope N_put_for P_put_for (defScope s_put_for) := ⟨rfl, rfl, rfl, by decide +kernel, rfl, by decide +kernel, by decide +kernel⟩
theorem sc_plain : FnScope N_plain P_plain (defScope s_plain) := ⟨rfl, rfl, rfl, by decide +kernel, rfl, by decide +kernel, by decide +kernel⟩
theorem sc_behind : FnScope N_behind P_behind (defScope s_behind) := ⟨rfl, rfl, rfl, by decide +kernel, rfl, by decide +kernel, by decide +kernel⟩
theorem sc_is_renaming : FnScope N_is_renaming P_is_renaming (defScope s_is_renaming) := ⟨rfl, rfl, rfl, by decide +kernel, rfl, by decide +kernel, by decide +kernel⟩
theorem sc_numbered : FnScope N_numbered P_numbered (defScope s_numbered) := ⟨rfl, rfl, rfl, by decide +kernel, rfl, by decide +kernel, by decide +kernel⟩
theorem sc_are_alike : FnScope N_are_alike P_are_alike (defScope s_are_alike) := ⟨rfl, rfl, rfl, by decide +kernel, rfl, by decide +kernel, by decide +kernel⟩
theorem sc_solves : FnScope N_solves P_solves (defScope s_solves) := ⟨rfl, rfl, rfl, by decide +kernel, rfl, by decide +kernel, by decide +kernel⟩
theorem sc_l_state : FnScope N_l_state P_l_state (defScope s_l_state) := ⟨rfl, rfl, rfl, by decide +kernel, rfl, by decide +kernel, by decide +kernel⟩
theorem sc_l_take : FnScope N_l_take P_l_take (defScope s_l_take) := ⟨rfl, rfl, rfl, by decide +kernel, rfl, by decide +kernel, by decide +kernel⟩
theorem sc_l_pick : FnScope N_l_pick P_l_pick (defScope s_l_pick) := ⟨rfl, rfl, rfl, by decide +kernel, rfl, by decide +kernel, by decide +kernel⟩
theorem sc_l_tongue : FnScope N_l_tongue P_l_tongue (defScope s_l_tongue) := ⟨rfl, rfl, rfl, by decide +kernel, rfl, by decide +kernel, by decide +kernel⟩
theorem sc_l_term : FnScope N_l_term P_l_term (defScope s_l_term) := ⟨rfl, rfl, rfl, by decide +kernel, rfl, by decide +kernel, by decide +kernel⟩
theorem sc_l_put : FnScope N_l_put P_l_put (defScope s_l_put) := ⟨rfl, rfl, rfl, by decide +kernel, rfl, by decide +kernel, by decide +kernel⟩
theorem sc_l_names : FnScope N_l_names P_l_names (defScope s_l_names) := ⟨rfl, rfl, rfl, by decide +kernel, rfl, by decide +kernel, by decide +kernel⟩
theorem sc_l_putting : FnScope N_l_putting P_l_putting (defScope s_l_putting) := ⟨rfl, rfl, rfl, by decide +kernel, rfl, by decide +kernel, by decide +kernel⟩
theorem sc_law : FnScope N_law P_law (defScope s_law) := ⟨rfl, rfl, rfl, by decide +kernel, rfl, by decide +kernel, by decide +kernel⟩
def faO (K : PySem.W.Frag) : Nat → Option Addr
  | 0 => some (He.ga K "are_signs_of_text")
  | 1 => some (He.ga K "is_sign")
  | 2 => some (He.ga K "is_variable")
  | 3 => some (He.ga K "places_of")
  | 4 => some (He.ga K "is_var")
  | 5 => some (He.ga K "nodes")
  | 6 => some (He.ga K "is_term")
  | 7 => some (He.ga K "variables")
  | 8 => some (He.ga K "is_putting")
  | 9 => some (He.ga K "put_for")
  | 10 => some (He.ga K "plain")
  | 11 => some (He.ga K "behind")
  | 12 => some (He.ga K "is_renaming")
  | 13 => some (He.ga K "numbered")
  | 14 => some (He.ga K "are_alike")
  | 15 => some (He.ga K "solves")
  | 16 => some (He.ga K "_law_state")
  | 17 => some (He.ga K "_law_take")
  | 18 => some (He.ga K "_law_pick")
  | 19 => some (He.ga K "_law_tongue")
  | 20 => some (He.ga K "_law_term")
  | 21 => some (He.ga K "_law_put")
  | 22 => some (He.ga K "_law_names")
  | 23 => some (He.ga K "_law_putting")
  | _ => none
def clO (K : PySem.W.Frag) : Nat → Option Addr
  | _ => none
def flNames : List Str := []
theorem flG : flGood flNames = true := by decide +kernel
abbrev gb (K : PySem.W.Frag) : Gb := { K := K, fa := faO K, cl := clO K, fl := flOf flNames }
structure GF (K : PySem.W.Frag) (mg : Str → Option Value) : Prop where
  f_abs : mg "abs" = none
  f_all : mg "all" = none
  f_dict : mg "dict" = none
  f_int : mg "int" = none
  f_isinstance : mg "isinstance" = none
  f_len : mg "len" = none
  f_list : mg "list" = none
  f_range : mg "range" = none
  f_repr : mg "repr" = none
  f_set : mg "set" = none
  f_sorted : mg "sorted" = none
  f_str : mg "str" = none
  f_tuple : mg "tuple" = none
  f_zip : mg "zip" = none
  g_u_law_names : mg "_law_names" = some (.ref (He.ga K "_law_names"))
  g_u_law_pick : mg "_law_pick" = some (.ref (He.ga K "_law_pick"))
  g_u_law_put : mg "_law_put" = some (.ref (He.ga K "_law_put"))
  g_u_law_putting : mg "_law_putting" = some (.ref (He.ga K "_law_putting"))
  g_u_law_state : mg "_law_state" = some (.ref (He.ga K "_law_state"))
  g_u_law_take : mg "_law_take" = some (.ref (He.ga K "_law_take"))
  g_u_law_term : mg "_law_term" = some (.ref (He.ga K "_law_term"))
  g_u_law_tongue : mg "_law_tongue" = some (.ref (He.ga K "_law_tongue"))
  g_are_alike : mg "are_alike" = some (.ref (He.ga K "are_alike"))
  g_are_signs_of_text : mg "are_signs_of_text" = some (.ref (He.ga K "are_signs_of_text"))
  g_behind : mg "behind" = some (.ref (He.ga K "behind"))
  g_is_putting : mg "is_putting" = some (.ref (He.ga K "is_putting"))
  g_is_renaming : mg "is_renaming" = some (.ref (He.ga K "is_renaming"))
  g_is_sign : mg "is_sign" = some (.ref (He.ga K "is_sign"))
  g_is_term : mg "is_term" = some (.ref (He.ga K "is_term"))
  g_is_var : mg "is_var" = some (.ref (He.ga K "is_var"))
  g_is_variable : mg "is_variable" = some (.ref (He.ga K "is_variable"))
  g_nodes : mg "nodes" = some (.ref (He.ga K "nodes"))
  g_numbered : mg "numbered" = some (.ref (He.ga K "numbered"))
  g_places_of : mg "places_of" = some (.ref (He.ga K "places_of"))
  g_plain : mg "plain" = some (.ref (He.ga K "plain"))
  g_put_for : mg "put_for" = some (.ref (He.ga K "put_for"))
  g_solves : mg "solves" = some (.ref (He.ga K "solves"))
  g_variables : mg "variables" = some (.ref (He.ga K "variables"))
  i_MOST_LETTERS : ∃ t, mg "MOST_LETTERS" = some (.int (8) t)
  i_MOST_NODES : ∃ t, mg "MOST_NODES" = some (.int (400) t)
theorem b_are_signs_of_text {P : Program} {w : World} {K : PySem.W.Frag} {mg : Str → Option Value} {base : Heap} {k : Nat} {C : CallF} (g : GF K mg) (a : Addr) (cdv : Value) (A : Around) (outer : List PySem.Env) (s : Shared) (H : Hp) (E : XK) (F : ∀ f a, (gb K).fa f = some a → FnB P w K mg base (gb K) C k f a)
    (hr : Room (k + 1) (A.deeper (envOfC "are_signs_of_text" (defScope s_are_signs_of_text) s.heap.objs.size a cdv))) : PSs (cxOf CX0 P w K mg base N_are_signs_of_text "are_signs_of_text" (defScope s_are_signs_of_text) a cdv A outer s H E).nox (defBody s_are_signs_of_text) (tSs (gb K) C d_are_signs_of_text.body) := by
  have hr0 := hr.mono (Nat.le_succ k)
  have Fc := fun f a h => (F f a h).c
  have hu : (A.deeper (envOfC "are_signs_of_text" (defScope s_are_signs_of_text) s.heap.objs.size a cdv)).units + 65 < cLine := by have := hr.un; omega
  exact (sss_cons (ss_if (PW.pt (sw_or (st_not (st_val (sisi .str g.f_isinstance g.f_str bt_str rfl (sv 0)))) (sw_or (st_not (st_chn (o := .le) (o' := .le) rfl hu se_int (sb_len g.f_len rfl (sa_cons (sv 0) sa_nil)) (sgl g.i_MOST_LETTERS))) (sw_or1 (st_cmp (o := .nmem) rfl hu (by rfl) (se_sub rfl hu (sv 0) se_int) (sv 1)))))) (sss_cons (ss_ret se_bl)
    sss_nil) sss_nil)
    (sss_cons (ss_ret (sb_all g.f_all rfl (sa_cons (se_comp (own := [("sign", 2)]) (by decide) rfl sc_are_signs_of_text.nd (si_any rfl (se_slcL rfl (sv 0) se_int)) (blkOk_by (by kernel_rfl)) (fun _ _ _ _ _ => (sgn 2 sc_are_signs_of_text.nd)) (fun _ _ _ _ _ => sts_nil) (fun _ _ _ _ _ => (se_or (se_chn (o := .le) (o' := .le) rfl hu (se_str (by decide +kernel)) (sv 2) (se_str (by decide +kernel))) (se_one (se_chn (o := .le) (o' := .le) rfl hu (se_str (by decide +kernel)) (sv 2) (se_str (by decide +kernel))))))) sa_nil)))
    sss_nil))
theorem b_is_sign {P : Program} {w : World} {K : PySem.W.Frag} {mg : Str → Option Value} {base : Heap} {k : Nat} {C : CallF} (g : GF K mg) (a : Addr) (cdv : Value) (A : Around) (outer : List PySem.Env) (s : Shared) (H : Hp) (E : XK) (F : ∀ f a, (gb K).fa f = some a → FnB P w K mg base (gb K) C k f a)
    (hr : Room (k + 1) (A.deeper (envOfC "is_sign" (defScope s_is_sign) s.heap.objs.size a cdv))) : PSs (cxOf CX0 P w K mg base N_is_sign "is_sign" (defScope s_is_sign) a cdv A outer s H E).nox (defBody s_is_sign) (tSs (gb K) C d_is_sign.body) := by
  have hr0 := hr.mono (Nat.le_succ k)
  have Fc := fun f a h => (F f a h).c
  have hu : (A.deeper (envOfC "is_sign" (defScope s_is_sign) s.heap.objs.size a cdv)).units + 65 < cLine := by have := hr.un; omega
  exact (sss_cons (ss_ret (scall 0 Fc hr0 g.g_are_signs_of_text (sa_cons (sv 0) (sa_cons (se_str (by decide +kernel)) sa_nil))))
    sss_nil)
theorem b_is_variable {P : Program} {w : World} {K : PySem.W.Frag} {mg : Str → Option Value} {base : Heap} {k : Nat} {C : CallF} (g : GF K mg) (a : Addr) (cdv : Value) (A : Around) (outer : List PySem.Env) (s : Shared) (H : Hp) (E : XK) (F : ∀ f a, (gb K).fa f = some a → FnB P w K mg base (gb K) C k f a)
    (hr : Room (k + 1) (A.deeper (envOfC "is_variable" (defScope s_is_variable) s.heap.objs.size a cdv))) : PSs (cxOf CX0 P w K mg base N_is_variable "is_variable" (defScope s_is_variable) a cdv A outer s H E).nox (defBody s_is_variable) (tSs (gb K) C d_is_variable.body) := by
  have hr0 := hr.mono (Nat.le_succ k)
  have Fc := fun f a h => (F f a h).c
  have hu : (A.deeper (envOfC "is_variable" (defScope s_is_variable) s.heap.objs.size a cdv)).units + 65 < cLine := by have := hr.un; omega
  exact (sss_cons (ss_ret (scall 0 Fc hr0 g.g_are_signs_of_text (sa_cons (sv 0) (sa_cons (se_str (by decide +kernel)) sa_nil))))
    sss_nil)
theorem b_places_of {P : Program} {w : World} {K : PySem.W.Frag} {mg : Str → Option Value} {base : Heap} {k : Nat} {C : CallF} (g : GF K mg) (a : Addr) (cdv : Value) (A : Around) (outer : List PySem.Env) (s : Shared) (H : Hp) (E : XK) (F : ∀ f a, (gb K).fa f = some a → FnB P w K mg base (gb K) C k f a)
    (hr : Room (k + 1) (A.deeper (envOfC "places_of" (defScope s_places_of) s.heap.objs.size a cdv))) : PSs (cxOf CX0 P w K mg base N_places_of "places_of" (defScope s_places_of) a cdv A outer s H E).nox (defBody s_places_of) (tSs (gb K) C d_places_of.body) := by
  have hr0 := hr.mono (Nat.le_succ k)
  have Fc := fun f a h => (F f a h).c
  have hu : (A.deeper (envOfC "places_of" (defScope s_places_of) s.heap.objs.size a cdv)).units + 65 < cLine := by have := hr.un; omega
  exact (sss_cons (ss_for PassesOwn.never rfl (si_any rfl (sv 0)) (sg_tup rfl rfl (sgs_cons (sgn 2 sc_places_of.nd) (sgs_cons (sgn 3 sc_places_of.nd) sgs_nil))) (sss_cons (ss_if (st_cmp (o := .eq) rfl hu (by rfl) (sv 2) (sv 1)) (sss_cons (ss_ret (sv 3))
    sss_nil) sss_nil)
    sss_nil))
    (sss_cons (ss_ret se_non)
    sss_nil))
theorem b_is_var {P : Program} {w : World} {K : PySem.W.Frag} {mg : Str → Option Value} {base : Heap} {k : Nat} {C : CallF} (g : GF K mg) (a : Addr) (cdv : Value) (A : Around) (outer : List PySem.Env) (s : Shared) (H : Hp) (E : XK) (F : ∀ f a, (gb K).fa f = some a → FnB P w K mg base (gb K) C k f a)
    (hr : Room (k + 1) (A.deeper (envOfC "is_var" (defScope s_is_var) s.heap.objs.size a cdv))) : PSs (cxOf CX0 P w K mg base N_is_var "is_var" (defScope s_is_var) a cdv A outer s H E).nox (defBody s_is_var) (tSs (gb K) C d_is_var.body) := by
  have hr0 := hr.mono (Nat.le_succ k)
  have Fc := fun f a h => (F f a h).c
  have hu : (A.deeper (envOfC "is_var" (defScope s_is_var) s.heap.objs.size a cdv)).units + 65 < cLine := by have := hr.un; omega
  exact (sss_cons (ss_ret (sisi .str g.f_isinstance g.f_str bt_str rfl (sv 0)))
    sss_nil)
theorem b_nodes {P : Program} {w : World} {K : PySem.W.Frag} {mg : Str → Option Value} {base : Heap} {k : Nat} {C : CallF} (g : GF K mg) (a : Addr) (cdv : Value) (A : Around) (outer : List PySem.Env) (s : Shared) (H : Hp) (E : XK) (F : ∀ f a, (gb K).fa f = some a → FnB P w K mg base (gb K) C k f a)
    (hr : Room (k + 1) (A.deeper (envOfC "nodes" (defScope s_nodes) s.heap.objs.size a cdv))) : PSs (cxOf CX0 P w K mg base N_nodes "nodes" (defScope s_nodes) a cdv A outer s H E).nox (defBody s_nodes) (tSs (gb K) C d_nodes.body) := by
  have hr0 := hr.mono (Nat.le_succ k)
  have Fc := fun f a h => (F f a h).c
  have hu : (A.deeper (envOfC "nodes" (defScope s_nodes) s.heap.objs.size a cdv)).units + 65 < cLine := by have := hr.un; omega
  exact (sss_cons (spar 1 2 sc_nodes.nd (sal_lst (sa_cons (sv 0) sa_nil)) se_int (by rfl))
    (sss_cons (ss_while PassesOwn.never (st_cmp (o := .gt) rfl hu (by rfl) (sb_len g.f_len rfl (sa_cons (sv 1) sa_nil)) se_int) (sss_cons (sset 3 sc_nodes.nd (sm_pop0 rfl (sv 1)))
    (sss_cons (saug 2 (o := .add) (by first | exact .inl rfl | exact .inr rfl) sc_nodes.nd se_int)
    (sss_cons (ss_if (PW.pt (sw_and (st_val (sisi .tuple g.f_isinstance g.f_tuple bt_tuple rfl (sv 3))) (sw_and1 (st_cmp (o := .gt) rfl hu (by rfl) (sb_len g.f_len rfl (sa_cons (sv 3) sa_nil)) se_int)))) (sss_cons (ss_expr (sm_extend rfl (sv 1) (sa_cons (se_slcL rfl (sv 3) se_int) sa_nil)))
    sss_nil) (sss_cons (ss_if (st_not (st_val (sisi .str g.f_isinstance g.f_str bt_str rfl (sv 3)))) (sss_cons (ss_ret se_non)
    sss_nil) sss_nil)
    sss_nil))
    (sss_cons (ss_if (st_cmp (o := .gt) rfl hu (by rfl) (sv 2) (sgl g.i_MOST_NODES)) (sss_cons (ss_ret (sv 2))
    sss_nil) sss_nil)
    sss_nil)))))
    (sss_cons (ss_ret (sv 2))
    sss_nil)))
theorem b_is_term {P : Program} {w : World} {K : PySem.W.Frag} {mg : Str → Option Value} {base : Heap} {k : Nat} {C : CallF} (g : GF K mg) (a : Addr) (cdv : Value) (A : Around) (outer : List PySem.Env) (s : Shared) (H : Hp) (E : XK) (F : ∀ f a, (gb K).fa f = some a → FnB P w K mg base (gb K) C k f a)
    (hr : Room (k + 1) (A.deeper (envOfC "is_term" (defScope s_is_term) s.heap.objs.size a cdv))) : PSs (cxOf CX0 P w K mg base N_is_term "is_term" (defScope s_is_term) a cdv A outer s H E).nox (defBody s_is_term) (tSs (gb K) C d_is_term.body) := by
  have hr0 := hr.mono (Nat.le_succ k)
  have Fc := fun f a h => (F f a h).c
  have hu : (A.deeper (envOfC "is_term" (defScope s_is_term) s.heap.objs.size a cdv)).units + 65 < cLine := by have := hr.un; omega
  exact (sss_cons (sset 2 sc_is_term.nd (scall 5 Fc hr0 g.g_nodes (sa_cons (sv 0) sa_nil)))
    (sss_cons (ss_if (PW.pt (sw_or (st_cmp (o := .is) rfl hu (by rfl) (sv 2) se_non) (sw_or1 (st_cmp (o := .gt) rfl hu (by rfl) (sv 2) (sgl g.i_MOST_NODES))))) (sss_cons (ss_ret se_bl)
    sss_nil) sss_nil)
    (sss_cons (sset 3 sc_is_term.nd (sal_lst (sa_cons (sv 0) sa_nil)))
    (sss_cons (ss_while PassesOwn.never (st_cmp (o := .gt) rfl hu (by rfl) (sb_len g.f_len rfl (sa_cons (sv 3) sa_nil)) se_int) (sss_cons (sset 4 sc_is_term.nd (sm_pop0 rfl (sv 3)))
    (sss_cons (ss_if (st_val (sisi .tuple g.f_isinstance g.f_tuple bt_tuple rfl (sv 4))) (sss_cons (ss_if (PW.pt (sw_or (st_not (st_val (scall 1 Fc hr0 g.g_is_sign (sa_cons (se_sub rfl hu (sv 4) se_int) sa_nil)))) (sw_or1 (st_cmp (o := .ne) rfl hu (by rfl) (scall 3 Fc hr0 g.g_places_of (sa_cons (sv 1) (sa_cons (se_sub rfl hu (sv 4) se_int) sa_nil))) (se_bin (o := .sub) rfl (sb_len g.f_len rfl (sa_cons (sv 4) sa_nil)) se_int))))) (sss_cons (ss_ret se_bl)
    sss_nil) sss_nil)
    (sss_cons (ss_expr (sm_extend rfl (sv 3) (sa_cons (se_slcL rfl (sv 4) se_int) sa_nil)))
    sss_nil)) (sss_cons (ss_if (st_not (st_val (scall 2 Fc hr0 g.g_is_variable (sa_cons (sv 4) sa_nil)))) (sss_cons (ss_ret se_bl)
    sss_nil) sss_nil)
    sss_nil))
    sss_nil)))
    (sss_cons (ss_ret se_bl)
    sss_nil)))))
theorem b_variables {P : Program} {w : World} {K : PySem.W.Frag} {mg : Str → Option Value} {base : Heap} {k : Nat} {C : CallF} (g : GF K mg) (a : Addr) (cdv : Value) (A : Around) (outer : List PySem.Env) (s : Shared) (H : Hp) (E : XK) (F : ∀ f a, (gb K).fa f = some a → FnB P w K mg base (gb K) C k f a)
    (hr : Room (k + 1) (A.deeper (envOfC "variables" (defScope s_variables) s.heap.objs.size a cdv))) : PSs (cxOf CX0 P w K mg base N_variables "variables" (defScope s_variables) a cdv A outer s H E).nox (defBody s_variables) (tSs (gb K) C d_variables.body) := by
  have hr0 := hr.mono (Nat.le_succ k)
  have Fc := fun f a h => (F f a h).c
  have hu : (A.deeper (envOfC "variables" (defScope s_variables) s.heap.objs.size a cdv)).units + 65 < cLine := by have := hr.un; omega
  exact (sss_cons (ss_if (st_val (scall 4 Fc hr0 g.g_is_var (sa_cons (sv 0) sa_nil))) (sss_cons (ss_ret (se_lst (sa_cons (sv 0) sa_nil)))
    sss_nil) sss_nil)
    (sss_cons (sset 1 sc_variables.nd (sal_lst sa_nil))
    (sss_cons (ss_for PassesOwn.never rfl (si_any rfl (se_slcL rfl (sv 0) se_int)) (sgn 2 sc_variables.nd) (sss_cons (ss_expr (sm_extend rfl (sv 1) (sa_cons (se_comp (own := [("name", 3)]) (by decide) rfl sc_variables.nd (si_any rfl (scall 7 Fc hr0 g.g_variables (sa_cons (sv 2) sa_nil))) (blkOk_by (by kernel_rfl)) (fun _ _ _ _ _ => (sgn 3 sc_variables.nd)) (fun _ _ _ _ _ => (pts_one (st_cmp (o := .nmem) rfl hu (by rfl) (sv 3) (sv 1)))) (fun _ _ _ _ _ => (sv 3))) sa_nil)))
    sss_nil))
    (sss_cons (ss_ret (sv 1))
    sss_nil))))
theorem b_is_putting {P : Program} {w : World} {K : PySem.W.Frag} {mg : Str → Option Value} {base : Heap} {k : Nat} {C : CallF} (g : GF K mg) (a : Addr) (cdv : Value) (A : Around) (outer : List PySem.Env) (s : Shared) (H : Hp) (E : XK) (F : ∀ f a, (gb K).fa f = some a → FnB P w K mg base (gb K) C k f a)
    (hr : Room (k + 1) (A.deeper (envOfC "is_putting" (defScope s_is_putting) s.heap.objs.size a cdv))) : PSs (cxOf CX0 P w K mg base N_is_putting "is_putting" (defScope s_is_putting) a cdv A outer s H E).nox (defBody s_is_putting) (tSs (gb K) C d_is_putting.body) := by
  have hr0 := hr.mono (Nat.le_succ k)
  have Fc := fun f a h => (F f a h).c
  have hu : (A.deeper (envOfC "is_putting" (defScope s_is_putting) s.heap.objs.size a cdv)).units + 65 < cLine := by have := hr.un; omega
  exact (sss_cons (ss_if (PW.pt (sw_or (st_not (st_val (sisi .dict g.f_isinstance g.f_dict bt_dict rfl (sv 0)))) (sw_or1 (st_not (st_val (sb_all g.f_all rfl (sa_cons (se_comp (own := [("name", 2)]) (by decide) rfl sc_is_putting.nd (si_any rfl (sv 0)) (blkOk_by (by kernel_rfl)) (fun _ _ _ _ _ => (sgn 2 sc_is_putting.nd)) (fun _ _ _ _ _ => sts_nil) (fun _ _ _ _ _ => (scall 2 Fc hr0 g.g_is_variable (sa_cons (sv 2) sa_nil)))) sa_nil))))))) (sss_cons (ss_ret se_bl)
    sss_nil) sss_nil)
    (sss_cons (ss_ret (sb_all g.f_all rfl (sa_cons (se_comp (own := [("name", 2)]) (by decide) rfl sc_is_putting.nd (si_any rfl (sv 0)) (blkOk_by (by kernel_rfl)) (fun _ _ _ _ _ => (sgn 2 sc_is_putting.nd)) (fun _ _ _ _ _ => sts_nil) (fun _ _ _ _ _ => (scall 6 Fc hr0 g.g_is_term (sa_cons (se_sub rfl hu (sv 0) (sv 2)) (sa_cons (sv 1) sa_nil))))) sa_nil)))
    sss_nil))
theorem b_put_for {P : Program} {w : World} {K : PySem.W.Frag} {mg : Str → Option Value} {base : Heap} {k : Nat} {C : CallF} (g : GF K mg) (a : Addr) (cdv : Value) (A : Around) (outer : List PySem.Env) (s : Shared) (H : Hp) (E : XK) (F : ∀ f a, (gb K).fa f = some a → FnB P w K mg base (gb K) C k f a)
    (hr : Room (k + 1) (A.deeper (envOfC "put_for" (defScope s_put_for) s.heap.objs.size a cdv))) : PSs (cxOf CX0 P w K mg base N_put_for "put_for" (defScope s_put_for) a cdv A outer s H E).nox (defBody s_put_for) (tSs (gb K) C d_put_for.body) := by
  have hr0 := hr.mono (Nat.le_succ k)
  have Fc := fun f a h => (F f a h).c
  have hu : (A.deeper (envOfC "put_for" (defScope s_put_for) s.heap.objs.size a cdv)).units + 65 < cLine := by have := hr.un; omega
  exact (sss_cons (ss_if (st_val (scall 4 Fc hr0 g.g_is_var (sa_cons (sv 0) sa_nil))) (sss_cons (ss_ret (se_get2 hu (sv 1) (sv 0) (sv 0)))
    sss_nil) sss_nil)
    (sss_cons (ss_ret (se_bin (o := .add) rfl (se_tup (sa_cons (se_sub rfl hu (sv 0) se_int) sa_nil)) (sb_tuple g.f_tuple rfl (sa_cons (se_comp (own := [("part", 2)]) (by decide) rfl sc_put_for.nd (si_any rfl (se_slcL rfl (sv 0) se_int)) (blkOk_by (by kernel_rfl)) (fun _ _ _ _ _ => (sgn 2 sc_put_for.nd)) (fun _ _ _ _ _ => sts_nil) (fun _ _ _ _ _ => (scall 9 Fc hr0 g.g_put_for (sa_cons (sv 2) (sa_cons (sv 1) sa_nil))))) sa_nil))))
    sss_nil))
theorem b_plain {P : Program} {w : World} {K : PySem.W.Frag} {mg : Str → Option Value} {base : Heap} {k : Nat} {C : CallF} (g : GF K mg) (a : Addr) (cdv : Value) (A : Around) (outer : List PySem.Env) (s : Shared) (H : Hp) (E : XK) (F : ∀ f a, (gb K).fa f = some a → FnB P w K mg base (gb K) C k f a)
    (hr : Room (k + 1) (A.deeper (envOfC "plain" (defScope s_plain) s.heap.objs.size a cdv))) : PSs (cxOf CX0 P w K mg base N_plain "plain" (defScope s_plain) a cdv A outer s H E).nox (defBody s_plain) (tSs (gb K) C d_plain.body) := by
  have hr0 := hr.mono (Nat.le_succ k)
  have Fc := fun f a h => (F f a h).c
  have hu : (A.deeper (envOfC "plain" (defScope s_plain) s.heap.objs.size a cdv)).units + 65 < cLine := by have := hr.un; omega
  exact (sss_cons (ss_ret (se_dcomp (own := [("name", 1)]) (by decide) rfl sc_plain.nd (si_any rfl (sb_sorted g.f_sorted rfl hu (sa_cons (sv 0) sa_nil))) (blkOk_by (by kernel_rfl)) (fun _ _ _ _ _ => (sgn 1 sc_plain.nd)) (fun _ _ _ _ _ => (pts_one (st_cmp (o := .ne) rfl hu (by rfl) (se_sub rfl hu (sv 0) (sv 1)) (sv 1)))) (fun _ _ _ _ _ => (sv 1)) (fun _ _ _ _ _ => (se_sub rfl hu (sv 0) (sv 1)))))
    sss_nil)
theorem b_behind {P : Program} {w : World} {K : PySem.W.Frag} {mg : Str → Option Value} {base : Heap} {k : Nat} {C : CallF} (g : GF K mg) (a : Addr) (cdv : Value) (A : Around) (outer : List PySem.Env) (s : Shared) (H : Hp) (E : XK) (F : ∀ f a, (gb K).fa f = some a → FnB P w K mg base (gb K) C k f a)
    (hr : Room (k + 1) (A.deeper (envOfC "behind" (defScope s_behind) s.heap.objs.size a cdv))) : PSs (cxOf CX0 P w K mg base N_behind "behind" (defScope s_behind) a cdv A outer s H E).nox (defBody s_behind) (tSs (gb K) C d_behind.body) := by
  have hr0 := hr.mono (Nat.le_succ k)
  have Fc := fun f a h => (F f a h).c
  have hu : (A.deeper (envOfC "behind" (defScope s_behind) s.heap.objs.size a cdv)).units + 65 < cLine := by have := hr.un; omega
  exact (sss_cons (ss_setDcA (i := 2) (own := [("name", 3)]) (by decide) rfl sc_behind.nd rfl rfl (sw_trueD rfl rfl rfl (by rfl)) (si_any rfl (sv 0)) (blkOk_by (by kernel_rfl)) (fun _ _ _ _ _ => (sgn 3 sc_behind.nd)) (fun _ _ _ _ _ => sts_nil) (fun _ _ _ _ _ => (sv 3)) (fun _ _ _ _ _ => (scall 9 Fc hr0 g.g_put_for (sa_cons (se_sub rfl hu (sv 0) (sv 3)) (sa_cons (sv 1) sa_nil)))))
    (sss_cons (ss_for PassesOwn.never rfl (si_any rfl (sv 1)) (sgn 3 sc_behind.nd) (sss_cons (ss_if (st_cmp (o := .nmem) rfl hu (by rfl) (sv 3) (sv 2)) (sss_cons (ss_sti hu (se_sub rfl hu (sv 1) (sv 3)) (sv 2) (sv 3))
    sss_nil) sss_nil)
    sss_nil))
    (sss_cons (ss_ret (scall 10 Fc hr0 g.g_plain (sa_cons (sv 2) sa_nil)))
    sss_nil)))
theorem b_is_renaming {P : Program} {w : World} {K : PySem.W.Frag} {mg : Str → Option Value} {base : Heap} {k : Nat} {C : CallF} (g : GF K mg) (a : Addr) (cdv : Value) (A : Around) (outer : List PySem.Env) (s : Shared) (H : Hp) (E : XK) (F : ∀ f a, (gb K).fa f = some a → FnB P w K mg base (gb K) C k f a)
    (hr : Room (k + 1) (A.deeper (envOfC "is_renaming" (defScope s_is_renaming) s.heap.objs.size a cdv))) : PSs (cxOf CX0 P w K mg base N_is_renaming "is_renaming" (defScope s_is_renaming) a cdv A outer s H E).nox (defBody s_is_renaming) (tSs (gb K) C d_is_renaming.body) := by
  have hr0 := hr.mono (Nat.le_succ k)
  have Fc := fun f a h => (F f a h).c
  have hu : (A.deeper (envOfC "is_renaming" (defScope s_is_renaming) s.heap.objs.size a cdv)).units + 65 < cLine := by have := hr.un; omega
  exact (sss_cons (ss_setLc (i := 1) (own := [("name", 2)]) (by decide) rfl sc_is_renaming.nd rfl rfl (sw_true rfl rfl rfl (by rfl)) (si_any rfl (sv 0)) (blkOk_by (by kernel_rfl)) (fun _ _ _ _ _ => (sgn 2 sc_is_renaming.nd)) (fun _ _ _ _ _ => sts_nil) (fun _ _ _ _ _ => (se_sub rfl hu (sv 0) (sv 2))))
    (sss_cons (ss_ret (se_and (sb_all g.f_all rfl (sa_cons (se_comp (own := [("term", 3)]) (by decide) rfl sc_is_renaming.nd (si_any rfl (sv 1)) (blkOk_by (by kernel_rfl)) (fun _ _ _ _ _ => (sgn 3 sc_is_renaming.nd)) (fun _ _ _ _ _ => sts_nil) (fun _ _ _ _ _ => (scall 4 Fc hr0 g.g_is_var (sa_cons (sv 3) sa_nil)))) sa_nil)) (se_one (se_cmp (o := .eq) rfl hu (by rfl) (se_lset g.f_len g.f_set rfl (sv 1)) (sb_len g.f_len rfl (sa_cons (sv 1) sa_nil))))))
    sss_nil))
theorem b_numbered {P : Program} {w : World} {K : PySem.W.Frag} {mg : Str → Option Value} {base : Heap} {k : Nat} {C : CallF} (g : GF K mg) (a : Addr) (cdv : Value) (A : Around) (outer : List PySem.Env) (s : Shared) (H : Hp) (E : XK) (F : ∀ f a, (gb K).fa f = some a → FnB P w K mg base (gb K) C k f a)
    (hr : Room (k + 1) (A.deeper (envOfC "numbered" (defScope s_numbered) s.heap.objs.size a cdv))) : PSs (cxOf CX0 P w K mg base N_numbered "numbered" (defScope s_numbered) a cdv A outer s H E).nox (defBody s_numbered) (tSs (gb K) C d_numbered.body) := by
  have hr0 := hr.mono (Nat.le_succ k)
  have Fc := fun f a h => (F f a h).c
  have hu : (A.deeper (envOfC "numbered" (defScope s_numbered) s.heap.objs.size a cdv)).units + 65 < cLine := by have := hr.un; omega
  exact (sss_cons (sset 1 sc_numbered.nd (scall 7 Fc hr0 g.g_variables (sa_cons (sv 0) sa_nil)))
    (sss_cons (ss_ret (scall 9 Fc hr0 g.g_put_for (sa_cons (sv 0) (sa_cons (se_dcomp (own := [("k", 2)]) (by decide) rfl sc_numbered.nd (si_range1 rfl g.f_range (sb_len g.f_len rfl (sa_cons (sv 1) sa_nil))) (blkOk_by (by kernel_rfl)) (fun _ _ _ _ _ => (sgn 2 sc_numbered.nd)) (fun _ _ _ _ _ => sts_nil) (fun _ _ _ _ _ => (se_sub rfl hu (sv 1) (sv 2))) (fun _ _ _ _ _ => (se_bin (o := .add) rfl (se_str (by decide +kernel)) (sb_str g.f_str rfl (sa_cons (sv 2) sa_nil))))) sa_nil))))
    sss_nil))
theorem b_are_alike {P : Program} {w : World} {K : PySem.W.Frag} {mg : Str → Option Value} {base : Heap} {k : Nat} {C : CallF} (g : GF K mg) (a : Addr) (cdv : Value) (A : Around) (outer : List PySem.Env) (s : Shared) (H : Hp) (E : XK) (F : ∀ f a, (gb K).fa f = some a → FnB P w K mg base (gb K) C k f a)
    (hr : Room (k + 1) (A.deeper (envOfC "are_alike" (defScope s_are_alike) s.heap.objs.size a cdv))) : PSs (cxOf CX0 P w K mg base N_are_alike "are_alike" (defScope s_are_alike) a cdv A outer s H E).nox (defBody s_are_alike) (tSs (gb K) C d_are_alike.body) := by
  have hr0 := hr.mono (Nat.le_succ k)
  have Fc := fun f a h => (F f a h).c
  have hu : (A.deeper (envOfC "are_alike" (defScope s_are_alike) s.heap.objs.size a cdv)).units + 65 < cLine := by have := hr.un; omega
  exact (sss_cons (ss_ret (se_cmp (o := .eq) rfl hu (by rfl) (scall 13 Fc hr0 g.g_numbered (sa_cons (sv 0) sa_nil)) (scall 13 Fc hr0 g.g_numbered (sa_cons (sv 1) sa_nil))))
    sss_nil)
theorem b_solves {P : Program} {w : World} {K : PySem.W.Frag} {mg : Str → Option Value} {base : Heap} {k : Nat} {C : CallF} (g : GF K mg) (a : Addr) (cdv : Value) (A : Around) (outer : List PySem.Env) (s : Shared) (H : Hp) (E : XK) (F : ∀ f a, (gb K).fa f = some a → FnB P w K mg base (gb K) C k f a)
    (hr : Room (k + 1) (A.deeper (envOfC "solves" (defScope s_solves) s.heap.objs.size a cdv))) : PSs (cxOf CX0 P w K mg base N_solves "solves" (defScope s_solves) a cdv A outer s H E).nox (defBody s_solves) (tSs (gb K) C d_solves.body) := by
  have hr0 := hr.mono (Nat.le_succ k)
  have Fc := fun f a h => (F f a h).c
  have hu : (A.deeper (envOfC "solves" (defScope s_solves) s.heap.objs.size a cdv)).units + 65 < cLine := by have := hr.un; omega
  exact (sss_cons (ss_ret (sb_all g.f_all rfl (sa_cons (se_comp (own := [("one", 2), ("other", 3)]) (by decide) rfl sc_solves.nd (si_any rfl (sv 1)) (blkOk_by (by kernel_rfl)) (fun _ _ _ _ _ => (sg_tup rfl rfl (sgs_cons (sgn 2 sc_solves.nd) (sgs_cons (sgn 3 sc_solves.nd) sgs_nil)))) (fun _ _ _ _ _ => sts_nil) (fun _ _ _ _ _ => (se_cmp (o := .eq) rfl hu (by rfl) (scall 9 Fc hr0 g.g_put_for (sa_cons (sv 2) (sa_cons (sv 0) sa_nil))) (scall 9 Fc hr0 g.g_put_for (sa_cons (sv 3) (sa_cons (sv 0) sa_nil)))))) sa_nil)))
    sss_nil)
theorem b_l_state {P : Program} {w : World} {K : PySem.W.Frag} {mg : Str → Option Value} {base : Heap} {k : Nat} {C : CallF} (g : GF K mg) (a : Addr) (cdv : Value) (A : Around) (outer : List PySem.Env) (s : Shared) (H : Hp) (E : XK) (F : ∀ f a, (gb K).fa f = some a → FnB P w K mg base (gb K) C k f a)
    (hr : Room (k + 1) (A.deeper (envOfC "_law_state" (defScope s_l_state) s.heap.objs.size a cdv))) : PSs (cxOf CX0 P w K mg base N_l_state "_law_state" (defScope s_l_state) a cdv A outer s H E).nox (defBody s_l_state) (tSs (gb K) C d_l_state.body) := by
  have hr0 := hr.mono (Nat.le_succ k)
  have Fc := fun f a h => (F f a h).c
  have hu : (A.deeper (envOfC "_law_state" (defScope s_l_state) s.heap.objs.size a cdv)).units + 65 < cLine := by have := hr.un; omega
  exact (sss_cons (ss_setLcA (i := 1) (own := [("cell", 2)]) (by decide) rfl sc_l_state.nd rfl rfl (sw_true rfl rfl rfl (by rfl)) (si_any rfl (se_slcH rfl (sv 0) se_int)) (blkOk_by (by kernel_rfl)) (fun _ _ _ _ _ => (sgn 2 sc_l_state.nd)) (fun _ _ _ _ _ => sts_nil) (fun _ _ _ _ _ => (sb_abs g.f_abs rfl (sa_cons (sv 2) sa_nil))))
    (sss_cons (ss_if (st_cmp (o := .eq) rfl hu (by rfl) (sb_len g.f_len rfl (sa_cons (sv 1) sa_nil)) se_int) (sss_cons (sset 1 sc_l_state.nd (sal_lst (sa_cons se_int sa_nil)))
    sss_nil) sss_nil)
    (sss_cons (ss_ret (sal_lst (sa_cons se_int (sa_cons (sv 1) sa_nil))))
    sss_nil)))
theorem b_l_take {P : Program} {w : World} {K : PySem.W.Frag} {mg : Str → Option Value} {base : Heap} {k : Nat} {C : CallF} (g : GF K mg) (a : Addr) (cdv : Value) (A : Around) (outer : List PySem.Env) (s : Shared) (H : Hp) (E : XK) (F : ∀ f a, (gb K).fa f = some a → FnB P w K mg base (gb K) C k f a)
    (hr : Room (k + 1) (A.deeper (envOfC "_law_take" (defScope s_l_take) s.heap.objs.size a cdv))) : PSs (cxOf CX0 P w K mg base N_l_take "_law_take" (defScope s_l_take) a cdv A outer s H E).nox (defBody s_l_take) (tSs (gb K) C d_l_take.body) := by
  have hr0 := hr.mono (Nat.le_succ k)
  have Fc := fun f a h => (F f a h).c
  have hu : (A.deeper (envOfC "_law_take" (defScope s_l_take) s.heap.objs.size a cdv)).units + 65 < cLine := by have := hr.un; omega
  exact (sss_cons (ss_if (st_cmp (o := .lt) rfl hu (by rfl) (sv 1) se_int) (sss_cons (ss_ret se_int)
    sss_nil) sss_nil)
    (sss_cons (sset 2 sc_l_take.nd (se_sub rfl hu (sv 0) se_int))
    (sss_cons (sset 3 sc_l_take.nd (se_bin (o := .mod) rfl (sb_int g.f_int rfl (sa_cons (se_sub rfl hu (sv 0) se_int) sa_nil)) (sb_len g.f_len rfl (sa_cons (sv 2) sa_nil))))
    (sss_cons (sset 4 sc_l_take.nd (se_sub rfl hu (sv 2) (sv 3)))
    (sss_cons (ss_if (st_cmp (o := .ge) rfl hu (by rfl) (sv 4) se_int) (sss_cons (ss_sti hu (se_bin (o := .fdiv) rfl (sv 4) (sv 1)) (sv 2) (sv 3))
    (sss_cons (ss_ret (se_bin (o := .mod) rfl (sb_int g.f_int rfl (sa_cons (sv 4) sa_nil)) (sv 1)))
    sss_nil)) sss_nil)
    (sss_cons (ss_sti hu (se_bin (o := .add) rfl (se_sub rfl hu (sv 0) se_int) se_int) (sv 0) se_int)
    (sss_cons (sset 5 sc_l_take.nd (se_bin (o := .mod) rfl (sb_int g.f_int rfl (sa_cons (se_bin (o := .add) rfl (se_bin (o := .mul) rfl (sv 4) se_int) (se_bin (o := .mul) rfl (se_sub rfl hu (sv 0) se_int) se_int)) sa_nil)) se_int))
    (sss_cons (sset 5 sc_l_take.nd (se_bin (o := .mod) rfl (sb_int g.f_int rfl (sa_cons (se_bin (o := .add) rfl (se_bin (o := .mul) rfl (sv 5) se_int) (se_bin (o := .mul) rfl (se_sub rfl hu (sv 0) se_int) se_int)) sa_nil)) se_int))
    (sss_cons (ss_ret (se_bin (o := .mod) rfl (sb_int g.f_int rfl (sa_cons (se_bin (o := .fdiv) rfl (sv 5) se_int) sa_nil)) (sv 1)))
    sss_nil)))))))))
theorem b_l_pick {P : Program} {w : World} {K : PySem.W.Frag} {mg : Str → Option Value} {base : Heap} {k : Nat} {C : CallF} (g : GF K mg) (a : Addr) (cdv : Value) (A : Around) (outer : List PySem.Env) (s : Shared) (H : Hp) (E : XK) (F : ∀ f a, (gb K).fa f = some a → FnB P w K mg base (gb K) C k f a)
    (hr : Room (k + 1) (A.deeper (envOfC "_law_pick" (defScope s_l_pick) s.heap.objs.size a cdv))) : PSs (cxOf CX0 P w K mg base N_l_pick "_law_pick" (defScope s_l_pick) a cdv A outer s H E).nox (defBody s_l_pick) (tSs (gb K) C d_l_pick.body) := by
  have hr0 := hr.mono (Nat.le_succ k)
  have Fc := fun f a h => (F f a h).c
  have hu : (A.deeper (envOfC "_law_pick" (defScope s_l_pick) s.heap.objs.size a cdv)).units + 65 < cLine := by have := hr.un; omega
  exact (sss_cons (ss_ret (se_sub rfl hu (sv 1) (scall 17 Fc hr0 g.g_u_law_take (sa_cons (sv 0) (sa_cons (sb_len g.f_len rfl (sa_cons (sv 1) sa_nil)) sa_nil)))))
    sss_nil)
theorem b_l_tongue {P : Program} {w : World} {K : PySem.W.Frag} {mg : Str → Option Value} {base : Heap} {k : Nat} {C : CallF} (g : GF K mg) (a : Addr) (cdv : Value) (A : Around) (outer : List PySem.Env) (s : Shared) (H : Hp) (E : XK) (F : ∀ f a, (gb K).fa f = some a → FnB P w K mg base (gb K) C k f a)
    (hr : Room (k + 1) (A.deeper (envOfC "_law_tongue" (defScope s_l_tongue) s.heap.objs.size a cdv))) : PSs (cxOf CX0 P w K mg base N_l_tongue "_law_tongue" (defScope s_l_tongue) a cdv A outer s H E).nox (defBody s_l_tongue) (tSs (gb K) C d_l_tongue.body) := by
  have hr0 := hr.mono (Nat.le_succ k)
  have Fc := fun f a h => (F f a h).c
  have hu : (A.deeper (envOfC "_law_tongue" (defScope s_l_tongue) s.heap.objs.size a cdv)).units + 65 < cLine := by have := hr.un; omega
  exact (sss_cons (ss_ret (scall 18 Fc hr0 g.g_u_law_pick (sa_cons (sv 0) (sa_cons (se_lst (sa_cons (se_tup (sa_cons (se_tup (sa_cons (se_str (by decide +kernel)) (sa_cons se_int sa_nil))) (sa_cons (se_tup (sa_cons (se_str (by decide +kernel)) (sa_cons se_int sa_nil))) sa_nil))) (sa_cons (se_tup (sa_cons (se_tup (sa_cons (se_str (by decide +kernel)) (sa_cons se_int sa_nil))) (sa_cons (se_tup (sa_cons (se_str (by decide +kernel)) (sa_cons se_int sa_nil))) (sa_cons (se_tup (sa_cons (se_str (by decide +kernel)) (sa_cons se_int sa_nil))) (sa_cons (se_tup (sa_cons (se_str (by decide +kernel)) (sa_cons se_int sa_nil))) sa_nil))))) (sa_cons (se_tup (sa_cons (se_tup (sa_cons (se_str (by decide +kernel)) (sa_cons se_int sa_nil))) (sa_cons (se_tup (sa_cons (se_str (by decide +kernel)) (sa_cons se_int sa_nil))) (sa_cons (se_tup (sa_cons (se_str (by decide +kernel)) (sa_cons se_int sa_nil))) (sa_cons (se_tup (sa_cons (se_str (by decide +kernel)) (sa_cons se_int sa_nil))) sa_nil))))) (sa_cons (se_tup (sa_cons (se_tup (sa_cons (se_str (by decide +kernel)) (sa_cons se_int sa_nil))) (sa_cons (se_tup (sa_cons (se_str (by decide +kernel)) (sa_cons se_int sa_nil))) (sa_cons (se_tup (sa_cons (se_str (by decide +kernel)) (sa_cons se_int sa_nil))) sa_nil)))) sa_nil))))) sa_nil))))
    sss_nil)
theorem b_l_term {P : Program} {w : World} {K : PySem.W.Frag} {mg : Str → Option Value} {base : Heap} {k : Nat} {C : CallF} (g : GF K mg) (a : Addr) (cdv : Value) (A : Around) (outer : List PySem.Env) (s : Shared) (H : Hp) (E : XK) (F : ∀ f a, (gb K).fa f = some a → FnB P w K mg base (gb K) C k f a)
    (hr : Room (k + 1) (A.deeper (envOfC "_law_term" (defScope s_l_term) s.heap.objs.size a cdv))) : PSs (cxOf CX0 P w K mg base N_l_term "_law_term" (defScope s_l_term) a cdv A outer s H E).nox (defBody s_l_term) (tSs (gb K) C d_l_term.body) := by
  have hr0 := hr.mono (Nat.le_succ k)
  have Fc := fun f a h => (F f a h).c
  have hu : (A.deeper (envOfC "_law_term" (defScope s_l_term) s.heap.objs.size a cdv)).units + 65 < cLine := by have := hr.un; omega
  exact (sss_cons (ss_if (PW.pt (sw_and (st_cmp (o := .gt) rfl hu (by rfl) (sb_len g.f_len rfl (sa_cons (sv 2) sa_nil)) se_int) (sw_and1 (st_cmp (o := .eq) rfl hu (by rfl) (scall 17 Fc hr0 g.g_u_law_take (sa_cons (sv 0) (sa_cons (se_ite (st_cmp (o := .gt) rfl hu (by rfl) (sv 3) se_int) se_int se_int) sa_nil))) se_int)))) (sss_cons (ss_ret (scall 18 Fc hr0 g.g_u_law_pick (sa_cons (sv 0) (sa_cons (sv 2) sa_nil))))
    sss_nil) sss_nil)
    (sss_cons (ss_setLc (i := 4) (own := [("pair", 7)]) (by decide) rfl sc_l_term.nd rfl rfl (sw_true rfl rfl rfl (by rfl)) (si_any rfl (sv 1)) (blkOk_by (by kernel_rfl)) (fun _ _ _ _ _ => (sgn 7 sc_l_term.nd)) (fun _ _ _ _ _ => (pts_one (PW.pt (sw_or (st_cmp (o := .gt) rfl hu (by rfl) (sv 3) se_int) (sw_or1 (st_cmp (o := .eq) rfl hu (by rfl) (se_sub rfl hu (sv 7) se_int) se_int)))))) (fun _ _ _ _ _ => (sv 7)))
    (sss_cons (ss_asg (scall 18 Fc hr0 g.g_u_law_pick (sa_cons (sv 0) (sa_cons (sv 4) sa_nil))) (sg_tup rfl rfl (sgs_cons (sgn 5 sc_l_term.nd) (sgs_cons (sgn 6 sc_l_term.nd) sgs_nil))))
    (sss_cons (ss_ret (se_bin (o := .add) rfl (se_tup (sa_cons (sv 5) sa_nil)) (sb_tuple g.f_tuple rfl (sa_cons (se_comp (own := [("k", 8)]) (by decide) rfl sc_l_term.nd (si_range1 rfl g.f_range (sv 6)) (blkOk_by (by kernel_rfl)) (fun _ _ _ _ _ => (sgn 8 sc_l_term.nd)) (fun _ _ _ _ _ => sts_nil) (fun _ _ _ _ _ => (scall 20 Fc hr0 g.g_u_law_term (sa_cons (sv 0) (sa_cons (sv 1) (sa_cons (sv 2) (sa_cons (se_bin (o := .sub) rfl (sv 3) se_int) sa_nil))))))) sa_nil))))
    sss_nil))))
theorem b_l_put {P : Program} {w : World} {K : PySem.W.Frag} {mg : Str → Option Value} {base : Heap} {k : Nat} {C : CallF} (g : GF K mg) (a : Addr) (cdv : Value) (A : Around) (outer : List PySem.Env) (s : Shared) (H : Hp) (E : XK) (F : ∀ f a, (gb K).fa f = some a → FnB P w K mg base (gb K) C k f a)
    (hr : Room (k + 1) (A.deeper (envOfC "_law_put" (defScope s_l_put) s.heap.objs.size a cdv))) : PSs (cxOf CX0 P w K mg base N_l_put "_law_put" (defScope s_l_put) a cdv A outer s H E).nox (defBody s_l_put) (tSs (gb K) C d_l_put.body) := by
  have hr0 := hr.mono (Nat.le_succ k)
  have Fc := fun f a h => (F f a h).c
  have hu : (A.deeper (envOfC "_law_put" (defScope s_l_put) s.heap.objs.size a cdv)).units + 65 < cLine := by have := hr.un; omega
  exact (sss_cons (ss_if (st_val (sisi .str g.f_isinstance g.f_str bt_str rfl (sv 0))) (sss_cons (ss_ret (se_get2 hu (sv 1) (sv 0) (sv 0)))
    sss_nil) sss_nil)
    (sss_cons (ss_ret (se_bin (o := .add) rfl (se_tup (sa_cons (se_sub rfl hu (sv 0) se_int) sa_nil)) (sb_tuple g.f_tuple rfl (sa_cons (se_comp (own := [("part", 2)]) (by decide) rfl sc_l_put.nd (si_any rfl (se_slcL rfl (sv 0) se_int)) (blkOk_by (by kernel_rfl)) (fun _ _ _ _ _ => (sgn 2 sc_l_put.nd)) (fun _ _ _ _ _ => sts_nil) (fun _ _ _ _ _ => (scall 21 Fc hr0 g.g_u_law_put (sa_cons (sv 2) (sa_cons (sv 1) sa_nil))))) sa_nil))))
    sss_nil))
theorem b_l_names {P : Program} {w : World} {K : PySem.W.Frag} {mg : Str → Option Value} {base : Heap} {k : Nat} {C : CallF} (g : GF K mg) (a : Addr) (cdv : Value) (A : Around) (outer : List PySem.Env) (s : Shared) (H : Hp) (E : XK) (F : ∀ f a, (gb K).fa f = some a → FnB P w K mg base (gb K) C k f a)
    (hr : Room (k + 1) (A.deeper (envOfC "_law_names" (defScope s_l_names) s.heap.objs.size a cdv))) : PSs (cxOf CX0 P w K mg base N_l_names "_law_names" (defScope s_l_names) a cdv A outer s H E).nox (defBody s_l_names) (tSs (gb K) C d_l_names.body) := by
  have hr0 := hr.mono (Nat.le_succ k)
  have Fc := fun f a h => (F f a h).c
  have hu : (A.deeper (envOfC "_law_names" (defScope s_l_names) s.heap.objs.size a cdv)).units + 65 < cLine := by have := hr.un; omega
  exact (sss_cons (ss_if (st_val (sisi .str g.f_isinstance g.f_str bt_str rfl (sv 0))) (sss_cons (ss_ret (se_lst (sa_cons (sv 0) sa_nil)))
    sss_nil) sss_nil)
    (sss_cons (sset 1 sc_l_names.nd (se_lst sa_nil))
    (sss_cons (ss_for PassesOwn.never rfl (si_any rfl (se_slcL rfl (sv 0) se_int)) (sgn 2 sc_l_names.nd) (sss_cons (sset 1 sc_l_names.nd (se_bin (o := .add) rfl (sv 1) (se_comp (own := [("name", 3)]) (by decide) rfl sc_l_names.nd (si_any rfl (scall 22 Fc hr0 g.g_u_law_names (sa_cons (sv 2) sa_nil))) (blkOk_by (by kernel_rfl)) (fun _ _ _ _ _ => (sgn 3 sc_l_names.nd)) (fun _ _ _ _ _ => (pts_one (st_cmp (o := .nmem) rfl hu (by rfl) (sv 3) (sv 1)))) (fun _ _ _ _ _ => (sv 3)))))
    sss_nil))
    (sss_cons (ss_ret (sv 1))
    sss_nil))))
theorem b_l_putting {P : Program} {w : World} {K : PySem.W.Frag} {mg : Str → Option Value} {base : Heap} {k : Nat} {C : CallF} (g : GF K mg) (a : Addr) (cdv : Value) (A : Around) (outer : List PySem.Env) (s : Shared) (H : Hp) (E : XK) (F : ∀ f a, (gb K).fa f = some a → FnB P w K mg base (gb K) C k f a)
    (hr : Room (k + 1) (A.deeper (envOfC "_law_putting" (defScope s_l_putting) s.heap.objs.size a cdv))) : PSs (cxOf CX0 P w K mg base N_l_putting "_law_putting" (defScope s_l_putting) a cdv A outer s H E).nox (defBody s_l_putting) (tSs (gb K) C d_l_putting.body) := by
  have hr0 := hr.mono (Nat.le_succ k)
  have Fc := fun f a h => (F f a h).c
  have hu : (A.deeper (envOfC "_law_putting" (defScope s_l_putting) s.heap.objs.size a cdv)).units + 65 < cLine := by have := hr.un; omega
  exact (sss_cons (sset 2 sc_l_putting.nd sal_dnew)
    (sss_cons (ss_for PassesOwn.never rfl (si_any rfl (se_slcH rfl (se_lst (sa_cons (se_str (by decide +kernel)) (sa_cons (se_str (by decide +kernel)) (sa_cons (se_str (by decide +kernel)) (sa_cons (se_str (by decide +kernel)) sa_nil))))) (scall 17 Fc hr0 g.g_u_law_take (sa_cons (sv 0) (sa_cons se_int sa_nil))))) (sgn 3 sc_l_putting.nd) (sss_cons (ss_sti hu (se_ite (st_cmp (o := .gt) rfl hu (by rfl) (scall 17 Fc hr0 g.g_u_law_take (sa_cons (sv 0) (sa_cons se_int sa_nil))) se_int) (scall 20 Fc hr0 g.g_u_law_term (sa_cons (sv 0) (sa_cons (sv 1) (sa_cons (se_lst (sa_cons (se_str (by decide +kernel)) (sa_cons (se_str (by decide +kernel)) (sa_cons (se_str (by decide +kernel)) (sa_cons (se_str (by decide +kernel)) sa_nil))))) (sa_cons se_int sa_nil))))) (sv 3)) (sv 2) (sv 3))
    sss_nil))
    (sss_cons (ss_ret (sv 2))
    sss_nil)))
theorem b_law {P : Program} {w : World} {K : PySem.W.Frag} {mg : Str → Option Value} {base : Heap} {k : Nat} {C : CallF} (g : GF K mg) (a : Addr) (cdv : Value) (A : Around) (outer : List PySem.Env) (s : Shared) (H : Hp) (E : XK) (F : ∀ f a, (gb K).fa f = some a → FnB P w K mg base (gb K) C k f a)
    (hgd0 : A.guards = some [])
    (hr : Room (k + 1) (A.deeper (envOfC "law" (defScope s_law) s.heap.objs.size a cdv))) : PSs (cxOf CX0 P w K mg base N_law "law" (defScope s_law) a cdv A outer s H E).nox (defBody s_law) (tSs (gb K) C d_law.body) := by
  have hr0 := hr.mono (Nat.le_succ k)
  have Fc := fun f a h => (F f a h).c
  have hu : (A.deeper (envOfC "law" (defScope s_law) s.heap.objs.size a cdv)).units + 65 < cLine := by have := hr.un; omega
  have hgd : (A.deeper (envOfC "law" (defScope s_law) s.heap.objs.size a cdv)).guards = some [] := hgd0
  exact (sss_cons (sset 1 sc_law.nd (scall 16 Fc hr0 g.g_u_law_state (sa_cons (sv 0) sa_nil)))
    (sss_cons (ss_for PassesOwn.never rfl (si_range1 rfl g.f_range se_int) (sgn 2 sc_law.nd) (sss_cons (sset 3 sc_law.nd (scall 19 Fc hr0 g.g_u_law_tongue (sa_cons (sv 1) sa_nil)))
    (sss_cons (sset 4 sc_law.nd (scall 20 Fc hr0 g.g_u_law_term (sa_cons (sv 1) (sa_cons (sv 3) (sa_cons (se_lst (sa_cons (se_str (by decide +kernel)) (sa_cons (se_str (by decide +kernel)) (sa_cons (se_str (by decide +kernel)) (sa_cons (se_str (by decide +kernel)) (sa_cons (se_str (by decide +kernel)) sa_nil)))))) (sa_cons se_int sa_nil))))))
    (sss_cons (ss_asg (se_tup (sa_cons (scall 23 Fc hr0 g.g_u_law_putting (sa_cons (sv 1) (sa_cons (sv 3) sa_nil))) (sa_cons (scall 23 Fc hr0 g.g_u_law_putting (sa_cons (sv 1) (sa_cons (sv 3) sa_nil))) sa_nil))) (sg_tup rfl rfl (sgs_cons (sgn 18 sc_law.nd) (sgs_cons (sgn 19 sc_law.nd) sgs_nil))))
    (sss_cons (sset 5 sc_law.nd (sb_repr hgd (Nat.lt_of_succ_lt hu) g.f_repr rfl (sa_cons (se_tup (sa_cons (sv 18) (sa_cons (sv 19) sa_nil))) sa_nil)))
    (sss_cons (ss_if (PW.pt (sw_or (st_cmp (o := .ne) rfl hu (by rfl) (scall 9 Fc hr0 g.g_put_for (sa_cons (sv 4) (sa_cons (sv 18) sa_nil))) (scall 21 Fc hr0 g.g_u_law_put (sa_cons (sv 4) (sa_cons (sv 18) sa_nil)))) (sw_or1 (st_cmp (o := .ne) rfl hu (by rfl) (sb_repr hgd (Nat.lt_of_succ_lt hu) g.f_repr rfl (sa_cons (se_tup (sa_cons (sv 18) (sa_cons (sv 19) sa_nil))) sa_nil)) (sv 5))))) (sss_cons (ss_ret se_bl)
    sss_nil) sss_nil)
    (sss_cons (sset 6 sc_law.nd (scall 11 Fc hr0 g.g_behind (sa_cons (sv 18) (sa_cons (sv 19) sa_nil))))
    (sss_cons (sset 7 sc_law.nd sal_dnew)
    (sss_cons (ss_for PassesOwn.never rfl (si_any rfl (sb_sorted g.f_sorted rfl hu (sa_cons (se_lst (sa_cons (se_str (by decide +kernel)) (sa_cons (se_str (by decide +kernel)) (sa_cons (se_str (by decide +kernel)) (sa_cons (se_str (by decide +kernel)) sa_nil))))) sa_nil))) (sgn 8 sc_law.nd) (sss_cons (sset 13 sc_law.nd (scall 21 Fc hr0 g.g_u_law_put (sa_cons (scall 21 Fc hr0 g.g_u_law_put (sa_cons (sv 8) (sa_cons (sv 18) sa_nil))) (sa_cons (sv 19) sa_nil))))
    (sss_cons (ss_if (st_cmp (o := .ne) rfl hu (by rfl) (sv 13) (sv 8)) (sss_cons (ss_sti hu (sv 13) (sv 7) (sv 8))
    sss_nil) sss_nil)
    sss_nil)))
    (sss_cons (ss_if (PW.pt (sw_or (st_not (st_val (sisi .dict g.f_isinstance g.f_dict bt_dict rfl (sv 6)))) (sw_or (st_cmp (o := .ne) rfl hu (by rfl) (sb_list g.f_list rfl (sa_cons (sv 6) sa_nil)) (sb_sorted g.f_sorted rfl hu (sa_cons (sv 7) sa_nil))) (sw_or (st_cmp (o := .ne) rfl hu (by rfl) (sv 6) (sv 7)) (sw_or1 (st_cmp (o := .ne) rfl hu (by rfl) (scall 21 Fc hr0 g.g_u_law_put (sa_cons (sv 4) (sa_cons (sv 6) sa_nil))) (scall 21 Fc hr0 g.g_u_law_put (sa_cons (scall 21 Fc hr0 g.g_u_law_put (sa_cons (sv 4) (sa_cons (sv 18) sa_nil))) (sa_cons (sv 19) sa_nil))))))))) (sss_cons (ss_ret se_bl)
    sss_nil) sss_nil)
    (sss_cons (sset 9 sc_law.nd (scall 22 Fc hr0 g.g_u_law_names (sa_cons (sv 4) sa_nil)))
    (sss_cons (sset 10 sc_law.nd sal_dnew)
    (sss_cons (ss_for PassesOwn.never rfl (si_range1 rfl g.f_range (sb_len g.f_len rfl (sa_cons (sv 9) sa_nil))) (sgn 11 sc_law.nd) (sss_cons (ss_sti hu (se_bin (o := .add) rfl (se_str (by decide +kernel)) (sb_str g.f_str rfl (sa_cons (sv 11) sa_nil))) (sv 10) (se_sub rfl hu (sv 9) (sv 11)))
    sss_nil))
    (sss_cons (ss_if (st_cmp (o := .ne) rfl hu (by rfl) (scall 13 Fc hr0 g.g_numbered (sa_cons (sv 4) sa_nil)) (scall 21 Fc hr0 g.g_u_law_put (sa_cons (sv 4) (sa_cons (sv 10) sa_nil)))) (sss_cons (ss_ret se_bl)
    sss_nil) sss_nil)
    (sss_cons (sset 12 sc_law.nd (scall 21 Fc hr0 g.g_u_law_put (sa_cons (sv 4) (sa_cons (sv 18) sa_nil))))
    (sss_cons (sset 13 sc_law.nd (sal_lst sa_nil))
    (sss_cons (ss_for PassesOwn.never rfl (si_any rfl (scall 22 Fc hr0 g.g_u_law_names (sa_cons (sv 12) sa_nil))) (sgn 8 sc_law.nd) (sss_cons (ss_expr (sm_append rfl (sv 13) (sa_cons (se_bin (o := .add) rfl (se_str (by decide +kernel)) (sb_str g.f_str rfl (sa_cons (sb_len g.f_len rfl (sa_cons (sv 13) sa_nil)) sa_nil))) sa_nil)))
    sss_nil))
    (sss_cons (sset 14 sc_law.nd (se_dzip g.f_dict g.f_zip rfl (sa_cons (scall 22 Fc hr0 g.g_u_law_names (sa_cons (sv 12) sa_nil)) (sa_cons (sv 13) sa_nil))))
    (sss_cons (ss_if (st_cmp (o := .ne) rfl hu (by rfl) (scall 14 Fc hr0 g.g_are_alike (sa_cons (sv 4) (sa_cons (sv 12) sa_nil))) (se_cmp (o := .eq) rfl hu (by rfl) (scall 21 Fc hr0 g.g_u_law_put (sa_cons (sv 12) (sa_cons (sv 14) sa_nil))) (scall 21 Fc hr0 g.g_u_law_put (sa_cons (sv 4) (sa_cons (sv 10) sa_nil))))) (sss_cons (ss_ret se_bl)
    sss_nil) sss_nil)
    (sss_cons (sset 15 sc_law.nd (se_comp (own := [("name", 8)]) (by decide) rfl sc_law.nd (si_any rfl (sv 18)) (blkOk_by (by kernel_rfl)) (fun _ _ _ _ _ => (sgn 8 sc_law.nd)) (fun _ _ _ _ _ => sts_nil) (fun _ _ _ _ _ => (se_sub rfl hu (sv 18) (sv 8)))))
    (sss_cons (sset 16 sc_law.nd (se_and (se_cmp (o := .eq) rfl hu (by rfl) (sb_len g.f_len rfl (sa_cons (se_comp (own := [("each", 20)]) (by decide) rfl sc_law.nd (si_any rfl (sv 15)) (blkOk_by (by kernel_rfl)) (fun _ _ _ _ _ => (sgn 20 sc_law.nd)) (fun _ _ _ _ _ => (pts_one (st_not (st_val (sisi .str g.f_isinstance g.f_str bt_str rfl (sv 20)))))) (fun _ _ _ _ _ => (sv 20))) sa_nil)) se_int) (se_one (se_cmp (o := .eq) rfl hu (by rfl) (sb_len g.f_len rfl (sa_cons (se_comp (own := [("k", 11)]) (by decide) rfl sc_law.nd (si_range1 rfl g.f_range (sb_len g.f_len rfl (sa_cons (sv 15) sa_nil))) (blkOk_by (by kernel_rfl)) (fun _ _ _ _ _ => (sgn 11 sc_law.nd)) (fun _ _ _ _ _ => (pts_one (st_cmp (o := .mem) rfl hu (by rfl) (se_sub rfl hu (sv 15) (sv 11)) (se_slcH rfl (sv 15) (sv 11))))) (fun _ _ _ _ _ => (sv 11))) sa_nil)) se_int))))
    (sss_cons (ss_if (st_cmp (o := .ne) rfl hu (by rfl) (scall 12 Fc hr0 g.g_is_renaming (sa_cons (sv 18) sa_nil)) (sv 16)) (sss_cons (ss_ret se_bl)
    sss_nil) sss_nil)
    (sss_cons (sset 17 sc_law.nd (se_slcH rfl (se_lst (sa_cons (se_tup (sa_cons (sv 4) (sa_cons (sv 12) sa_nil))) (sa_cons (se_tup (sa_cons (scall 21 Fc hr0 g.g_u_law_put (sa_cons (sv 4) (sa_cons (sv 18) sa_nil))) (sa_cons (scall 21 Fc hr0 g.g_u_law_put (sa_cons (sv 12) (sa_cons (sv 18) sa_nil))) sa_nil))) sa_nil))) (se_bin (o := .add) rfl se_int (scall 17 Fc hr0 g.g_u_law_take (sa_cons (sv 1) (sa_cons se_int sa_nil))))))
    (sss_cons (ss_if (st_cmp (o := .ne) rfl hu (by rfl) (scall 15 Fc hr0 g.g_solves (sa_cons (sv 18) (sa_cons (sv 17) sa_nil))) (se_cmp (o := .eq) rfl hu (by rfl) (sb_len g.f_len rfl (sa_cons (se_comp (own := [("pair", 21)]) (by decide) rfl sc_law.nd (si_any rfl (sv 17)) (blkOk_by (by kernel_rfl)) (fun _ _ _ _ _ => (sgn 21 sc_law.nd)) (fun _ _ _ _ _ => (pts_one (st_cmp (o := .ne) rfl hu (by rfl) (scall 21 Fc hr0 g.g_u_law_put (sa_cons (se_sub rfl hu (sv 21) se_int) (sa_cons (sv 18) sa_nil))) (scall 21 Fc hr0 g.g_u_law_put (sa_cons (se_sub rfl hu (sv 21) se_int) (sa_cons (sv 18) sa_nil)))))) (fun _ _ _ _ _ => (sv 21))) sa_nil)) se_int)) (sss_cons (ss_ret se_bl)
    sss_nil) sss_nil)
    (sss_cons (ss_if (PW.pt (sw_or (st_cmp (o := .isn) rfl hu (by rfl) (scall 8 Fc hr0 g.g_is_putting (sa_cons (sv 18) (sa_cons (sv 3) sa_nil))) se_bl) (sw_or (st_cmp (o := .isn) rfl hu (by rfl) (scall 8 Fc hr0 g.g_is_putting (sa_cons (se_disp1 (se_str (by decide +kernel)) (se_tup (sa_cons (se_str (by decide +kernel)) sa_nil))) (sa_cons (sv 3) sa_nil))) se_bl) (sw_or1 (st_cmp (o := .isn) rfl hu (by rfl) (scall 8 Fc hr0 g.g_is_putting (sa_cons (se_disp1 (se_str (by decide +kernel)) (se_str (by decide +kernel))) (sa_cons (sv 3) sa_nil))) se_bl))))) (sss_cons (ss_ret se_bl)
    sss_nil) sss_nil)
    (sss_cons (ss_if (PW.pt (sw_or (st_cmp (o := .isn) rfl hu (by rfl) (scall 8 Fc hr0 g.g_is_putting (sa_cons (se_lst (sa_cons (se_tup (sa_cons (se_str (by decide +kernel)) (sa_cons (se_str (by decide +kernel)) sa_nil))) sa_nil)) (sa_cons (sv 3) sa_nil))) se_bl) (sw_or (st_cmp (o := .isn) rfl hu (by rfl) (scall 8 Fc hr0 g.g_is_putting (sa_cons se_non (sa_cons (sv 3) sa_nil))) se_bl) (sw_or (st_cmp (o := .isn) rfl hu (by rfl) (scall 8 Fc hr0 g.g_is_putting (sa_cons (se_disp1 (se_str (by decide +kernel)) se_non) (sa_cons (sv 3) sa_nil))) se_bl) (sw_or1 (st_cmp (o := .isn) rfl hu (by rfl) (scall 8 Fc hr0 g.g_is_putting (sa_cons (se_disp1 se_int (se_str (by decide +kernel))) (sa_cons (sv 3) sa_nil))) se_bl)))))) (sss_cons (ss_ret se_bl)
    sss_nil) sss_nil)
    sss_nil))))))))))))))))))))))))))
    (sss_cons (ss_ret se_bl)
    sss_nil)))
end L2.Mi.k04

set_option Elab.async false
set_option linter.all false
set_option maxRecDepth 100000
set_option maxHeartbeats 4000000
/-! Ev1: reckoning with the evaluator. -/
namespace L2.Mi
open PySem PySem.Spec PyProof.Rows

theorem callM_eq {T : List Df} {k f : Nat} {args : List MV} {mh : MHp} {d : Df} (h : T[f]? = some d) : callM T (k + 1) f args mh = runD (callM T k) d args mh := by
  show (match T[f]? with
    | none => if 100000 ≤ f then (match T[f % 100000]? with
      | none => none
      | some d => runI (callM T k) (f / 100000 - 1) d args mh) else none
    | some d => runD (callM T k) d args mh) = _
  rw [h]
mutual
/-- plain data: no live object, short texts -/
def dat : MV → Bool
  | .non => true
  | .bl _ => true
  | .int _ => true
  | .str s => decide (s.length ≤ 1000) && s.all fun c => decide (c < 1114112)
  | .tup xs => dats xs
  | .lst xs => dats xs
  | .fn _ => false
  | .loc _ => false
  | .dct _ _ => false
  | .scr _ => false
def dats : List MV → Bool
  | [] => true
  | x :: xs => dat x && dats xs
end
mutual
theorem frz_dat {n : Nat} {mh : MHp} {k : Nat} : ∀ x : MV, dat x = true → frz n mh k x = some x
  | .non, _ => by unfold frz; rfl
  | .bl _, _ => by unfold frz; rfl
  | .int _, _ => by unfold frz; rfl
  | .str _, _ => by unfold frz; rfl
  | .fn _, h => by unfold dat at h; cases h
  | .scr _, h => by unfold dat at h; cases h
  | .loc _, h => by unfold dat at h; cases h
  | .dct _ _, h => by unfold dat at h; cases h
  | .tup xs, h => by
    unfold dat at h
    unfold frz
    rw [frzs_dat xs h]; rfl
  | .lst xs, h => by
    unfold dat at h
    unfold frz
    rw [frzs_dat xs h]; rfl
theorem frzs_dat {n : Nat} {mh : MHp} {k : Nat} : ∀ xs : List MV, dats xs = true → frzs n mh k xs = some xs
  | [], _ => by unfold frzs; rfl
  | x :: xs, h => by
    unfold dats at h
    rw [Bool.and_eq_true] at h
    unfold frzs
    rw [frz_dat x h.1, frzs_dat xs h.2]; rfl
end
theorem dats_iff : ∀ {xs : List MV}, dats xs = true ↔ ∀ x ∈ xs, dat x = true
  | [] => by simp [dats]
  | x :: xs => by simp [dats, dats_iff (xs := xs)]
/-- a call whose body was reckoned -/
theorem run_of {C : CallF} {d : Df} {args : List MV} {mh mh1 : MHp} {fl : Fl} {ρ : Env} {v : MV} (hl : args.length = d.np) (hv : d.live = false) (e : exs C mh.length d.body (args.map some ++ List.replicate (d.ns - d.np) none) mh = some (fl, ρ, mh1))
    (he : endV fl = some v) (hd : dat v = true) : runD C d args mh = some (v, mh1.take mh.length) := by
  unfold runD
  rw [if_pos hl, e]
  simp only [he, hv]
  rw [frz_dat v hd]
  rfl
theorem run_of' {C : CallF} {d : Df} {args : List MV} {mh mh1 : MHp} {fl : Fl} {ρ : Env} {v : MV} (hl : args.length = d.np) (hv : d.live = false) (e : exs C mh.length d.body (args.map some ++ List.replicate (d.ns - d.np) none) mh = some (fl, ρ, mh1))
    (he : endV fl = some v) (hd : dat v = true) (hm : mh1.length = mh.length) : runD C d args mh = some (v, mh1) := by
  rw [run_of hl hv e he hd, ← hm, List.take_length]
/-! ### loops -/
theorem compGo_pure {J : Its} (hJ : J.src = none) {f : MV → MHp → Option (Option MV × MHp)} {g : MV → Option MV} {mh : MHp} : ∀ {xs : List MV}, (∀ x ∈ xs, f x mh = some (g x, mh)) → compGo J f xs mh = some (xs.filterMap g, mh)
  | [], h => by
    have ok : J.ok mh := by unfold Its.ok; rw [hJ]; trivial
    unfold compGo
    rw [if_pos ok]; rfl
  | x :: xs, h => by
    have ok : J.ok mh := by unfold Its.ok; rw [hJ]; trivial
    unfold compGo
    rw [if_pos ok, h x (by simp)]
    simp only
    rw [compGo_pure hJ fun y hy => h y (List.mem_cons_of_mem _ hy)]
    simp only [List.filterMap_cons]
    cases g x <;> rfl
/-- each turn gives an item; P of the heap stays -/
theorem compGo_st {J : Its} (hJ : J.src = none) {f : MV → MHp → Option (Option MV × MHp)} {P : MHp → Prop} {R : MV → Prop} : ∀ {xs : List MV} {mh : MHp}, P mh → (∀ x ∈ xs, ∀ mh, P mh → ∃ y mh', f x mh = some (some y, mh') ∧ P mh' ∧ R y) →
    ∃ ys mh', compGo J f xs mh = some (ys, mh') ∧ P mh' ∧ ys.length = xs.length ∧ ∀ y ∈ ys, R y
  | [], mh, p, h => by
    have ok : J.ok mh := by unfold Its.ok; rw [hJ]; trivial
    refine ⟨[], mh, ?_, p, rfl, fun y hy => by simp at hy⟩
    unfold compGo
    rw [if_pos ok]
  | x :: xs, mh, p, h => by
    have ok : J.ok mh := by unfold Its.ok; rw [hJ]; trivial
    obtain ⟨y, mh1, e1, p1, r1⟩ := h x (by simp) mh p
    obtain ⟨ys, mh2, e2, p2, l2, r2⟩ := compGo_st hJ p1 fun z hz => h z (List.mem_cons_of_mem _ hz)
    refine ⟨y :: ys, mh2, ?_, p2, by simp [l2], fun z hz => ?_⟩
    · unfold compGo
      rw [if_pos ok, e1]
      simp only [e2]
      rfl
    · rcases List.mem_cons.mp hz with rfl | hz
      · exact r1
      · exact r2 z hz
/-- a for that goes through -/
theorem forGo_st {J : Its} (hJ : J.src = none) {f : MV → Env → MHp → Option (Fl × Env × MHp)} {P : Env → MHp → Prop} : ∀ {xs : List MV} {ρ : Env} {mh : MHp}, P ρ mh → (∀ x ∈ xs, ∀ ρ mh, P ρ mh → ∃ ρ' mh', f x ρ mh = some (.nx, ρ', mh') ∧ P ρ' mh') →
    ∃ ρ' mh', forGo J f xs ρ mh = some (.nx, ρ', mh') ∧ P ρ' mh'
  | [], ρ, mh, p, h => by
    have ok : J.ok mh := by unfold Its.ok; rw [hJ]; trivial
    refine ⟨ρ, mh, ?_, p⟩
    unfold forGo
    rw [if_pos ok]
  | x :: xs, ρ, mh, p, h => by
    have ok : J.ok mh := by unfold Its.ok; rw [hJ]; trivial
    obtain ⟨ρ1, mh1, e1, p1⟩ := h x (by simp) ρ mh p
    obtain ⟨ρ2, mh2, e2, p2⟩ := forGo_st hJ p1 fun z hz => h z (List.mem_cons_of_mem _ hz)
    refine ⟨ρ2, mh2, ?_, p2⟩
    unfold forGo
    rw [if_pos ok, e1]
    exact e2
theorem forGo_cons_of {J : Its} (hJ : J.src = none) {f : MV → Env → MHp → Option (Fl × Env × MHp)} {x : MV} {xs : List MV} {ρ : Env} {mh : MHp} : forGo J f (x :: xs) ρ mh = match f x ρ mh with
    | none => none
    | some (.nx, ρ1, mh1) => forGo J f xs ρ1 mh1
    | some (.ct, ρ1, mh1) => forGo J f xs ρ1 mh1
    | some (.bk, ρ1, mh1) => some (.nx, ρ1, mh1)
    | some (.rt v, ρ1, mh1) => some (.rt v, ρ1, mh1) := by
  have ok : J.ok mh := by unfold Its.ok; rw [hJ]; trivial
  rw [forGo, if_pos ok] <;> rfl
theorem forGo_nil_of {J : Its} (hJ : J.src = none) {f : MV → Env → MHp → Option (Fl × Env × MHp)} {ρ : Env} {mh : MHp} : forGo J f [] ρ mh = some (.nx, ρ, mh) := by
  have ok : J.ok mh := by unfold Its.ok; rw [hJ]; trivial
  rw [forGo, if_pos ok]
theorem whileN_mono {c : Env → MHp → Option (Bool × MHp)} {f : Env → MHp → Option (Fl × Env × MHp)} {r : Fl × Env × MHp} : ∀ {n : Nat} {ρ : Env} {mh : MHp}, whileN c f n ρ mh = some r → ∀ m, n ≤ m → whileN c f m ρ mh = some r
  | 0, ρ, mh, h, m, hm => by unfold whileN at h; cases h
  | n + 1, ρ, mh, h, 0, hm => by omega
  | n + 1, ρ, mh, h, m + 1, hm => by
    rw [whileN] at h ⊢
    revert h
    cases e1 : c ρ mh with
    | none => exact fun h => nomatch h
    | some p =>
      obtain ⟨b, mh1⟩ := p
      cases b with
      | false => exact fun h => h
      | true =>
        show (match f ρ mh1 with
          | none => none
          | some (.nx, ρ1, mh2) => whileN c f n ρ1 mh2
          | some (.ct, ρ1, mh2) => whileN c f n ρ1 mh2
          | some (.bk, ρ1, mh2) => some (.nx, ρ1, mh2)
          | some (.rt v, ρ1, mh2) => some (.rt v, ρ1, mh2)) = some r → (match f ρ mh1 with
          | none => none
          | some (.nx, ρ1, mh2) => whileN c f m ρ1 mh2
          | some (.ct, ρ1, mh2) => whileN c f m ρ1 mh2
          | some (.bk, ρ1, mh2) => some (.nx, ρ1, mh2)
          | some (.rt v, ρ1, mh2) => some (.rt v, ρ1, mh2)) = some r
        cases e2 : f ρ mh1 with
        | none => exact fun h => nomatch h
        | some q =>
          obtain ⟨fl, ρ1, mh2⟩ := q
          cases fl with
          | nx => exact fun h => whileN_mono h m (by omega)
          | ct => exact fun h => whileN_mono h m (by omega)
          | bk => exact fun h => h
          | rt v => exact fun h => h
theorem whileM_eq {c : Env → MHp → Option (Bool × MHp)} {f : Env → MHp → Option (Fl × Env × MHp)} {r : Fl × Env × MHp} {n : Nat} {ρ : Env} {mh : MHp} (h : whileN c f n ρ mh = some r) : whileM c f ρ mh = some r := by
  have ex : ∃ n, whileN c f n ρ mh ≠ none := ⟨n, by rw [h]; exact fun z => nomatch z⟩
  unfold whileM
  rw [dif_pos ex]
  have hc := Classical.choose_spec ex
  cases e : whileN c f (Classical.choose ex) ρ mh with
  | none => exact absurd e hc
  | some r' =>
    rcases Nat.le_total n (Classical.choose ex) with l | l
    · rw [whileN_mono h _ l] at e; exact e.symm
    · rw [whileN_mono e _ l] at h; exact h
/-! the bodies of loops, kept whole -/
section
variable (C : CallF) (base : Nat)
noncomputable def forF (t : Tg) (body : List MS) : MV → Env → MHp → Option (Fl × Env × MHp) := fun x ρ1 mh2 => match asg mh2 t x ρ1 with
  | none => none
  | some ρ2 => exs C base body ρ2 mh2
noncomputable def whC (c : ME) : Env → MHp → Option (Bool × MHp) := fun ρ1 mh1 => match ev C base c ρ1 mh1 with
  | some (.bl b, mh2) => some (b, mh2)
  | _ => none
end
section
variable {C : CallF} {base : Nat} {ρ : Env} {mh : MHp}
theorem ex_for {t : Tg} {it : ME} {body : List MS} : ex C base (.for t it body) ρ mh = match evI C base it ρ mh with
  | none => none
  | some (J, mh1) => forGo J (forF C base t body) J.items ρ mh1 := by
  simp only [ex]
  rfl
theorem ex_while {c : ME} {body : List MS} : ex C base (.while c body) ρ mh = whileM (whC C base c) (exs C base body) ρ mh := by
  simp only [ex]
  rfl
theorem ev_compq {tg : Tg} {own : List Nat} {it cond e : ME} : ev C base (.comp tg own it cond e) ρ mh = match evI C base it ρ mh with
  | none => none
  | some (J, mh1) => if J.items.length ≤ line then (match compGo J (compF C base tg own cond e ρ) J.items mh1 with
    | none => none
    | some (ys, mh5) => some (.lst ys, mh5)) else none := by
  simp only [ev]
  rfl
end
theorem bls_map {mh : MHp} (bs : List Bool) : bls mh (.lst (bs.map .bl)) = some bs := by
  unfold bls
  show (bs.map MV.bl).mapM blOf = some bs
  induction bs with
  | nil => rfl
  | cons b bs ih => rw [List.map_cons, List.mapM_cons, ih]; rfl
theorem atI0 {α : Type} {x : α} {xs : List α} : idx (x :: xs) 0 = some x := by
  unfold idx L2.atI L2.ixN
  simp
theorem cut_drop {α : Type} {xs : List α} {k : Nat} : cut xs (some (k : Int)) none = xs.drop k := by
  unfold cut
  rw [HT.sIx_nat, HT.sIx_none]
  by_cases h : k ≤ xs.length
  · rw [Nat.min_eq_left h, List.take_of_length_le (by rw [List.length_drop]; omega)]
  · rw [Nat.min_eq_right (by omega), List.drop_eq_nil_of_le (Nat.le_refl _), List.drop_eq_nil_of_le (by omega)]
    simp
theorem cut_take {α : Type} {xs : List α} {k : Nat} : cut xs none (some (k : Int)) = xs.take k := by
  unfold cut
  rw [HT.sIx_nat, HT.sIx_none]
  by_cases h : k ≤ xs.length
  · rw [Nat.min_eq_left h]; simp
  · rw [Nat.min_eq_right (by omega)]; simp [List.take_of_length_le (show xs.length ≤ k by omega)]
end L2.Mi

set_option Elab.async false
set_option linter.all false
set_option maxRecDepth 100000
set_option maxHeartbeats 4000000
/-! Ev2: small facts for every law; the law's state, take, pick (their numbers in T are told). -/
namespace L2.Mi
open PySem PySem.Spec PyProof.Rows
theorem lt1 {a b : Nat} : (([a] : List Nat) < [b]) = (a < b) := by
  apply propext
  constructor
  · intro h
    cases h with
    | rel h => exact h
    | cons h => cases h
  · exact fun h => .rel h
theorem eqV_int (mh : MHp) (a b : Int) : eqV mh (.int a) (.int b) = some (decide (a = b)) := by
  unfold eqV
  rw [frz_dat _ rfl, frz_dat _ rfl]
  have h1 : okD (.int a) = true := rfl
  have h2 : okD (.int b) = true := rfl
  simp only [h1, h2, and_self, if_true]
  congr 1
theorem eqV_bl (mh : MHp) (a b : Bool) : eqV mh (.bl a) (.bl b) = some (decide (a = b)) := by
  unfold eqV
  rw [frz_dat _ rfl, frz_dat _ rfl]
  have h1 : okD (.bl a) = true := rfl
  have h2 : okD (.bl b) = true := rfl
  simp only [h1, h2, and_self, if_true]
  cases a <;> cases b <;> rfl
theorem eqV_nonint (mh : MHp) (b : Int) : eqV mh .non (.int b) = some false := by
  unfold eqV
  rw [frz_dat _ rfl, frz_dat _ rfl]
  rfl
theorem okD_str {a : Sx} (h : dat (.str a) = true) : okD (.str a) = true := by
  unfold dat at h
  rw [Bool.and_eq_true] at h
  have h2 := h.2
  show (PyData.canLay0 (.str ⟨a.toArray⟩) && decide (PyData.depth (.str ⟨a.toArray⟩) ≤ 64)) = true
  have e1 : PyData.depth (.str ⟨a.toArray⟩) = 0 := by unfold PyData.depth; rfl
  rw [e1]
  unfold PyData.canLay0 PySem.PyData.strOk
  simp at h2 ⊢
  intro i hi
  exact h2 i hi
theorem eqV_str (mh : MHp) (a b : Sx) (ha : dat (.str a) = true) (hb : dat (.str b) = true) : eqV mh (.str a) (.str b) = some (decide (a = b)) := by
  unfold eqV
  rw [frz_dat _ ha, frz_dat _ hb]
  simp only [okD_str ha, okD_str hb, and_self, if_true]
  congr 1
  show PyData.eqv (.str ⟨a.toArray⟩) (.str ⟨b.toArray⟩) = _
  unfold PyData.eqv
  apply Bool.eq_iff_iff.mpr
  simp
theorem idx_nat {α : Type} {xs : List α} {j : Nat} {v : α} (h : xs[j]? = some v) : idx xs (j : Int) = some v := L2.atI_nat h
theorem idx_nat1 {α : Type} {xs : List α} {j : Nat} {v : α} (h : xs[j + 1]? = some v) : idx xs ((j : Int) + 1) = some v := by
  have := L2.atI_nat h
  simpa [idx] using this
theorem atI1 {α : Type} {x y : α} {xs : List α} : idx (x :: y :: xs) 1 = some y := by
  have := idx_nat (xs := x :: y :: xs) (j := 1) (v := y) rfl
  simpa using this
theorem bls_map' {mh : MHp} {α : Type} (xs : List α) (g : α → Bool) : bls mh (.lst (xs.map fun x => .bl (g x))) = some (xs.map g) := by
  have := bls_map (mh := mh) (xs.map g)
  rw [List.map_map] at this
  exact this
/-- the law's state at l, n objects in all -/
def St (l n : Nat) (mh : MHp) : Prop := mh.length = n ∧ ∃ (c : Nat) (i : Int) (cs : List Int), mh[l]? = some (some (.lst [.int i, .loc c])) ∧ mh[c]? = some (some (.lst (cs.map .int))) ∧ cs ≠ [] ∧ c ≠ l
theorem idx_int {cs : List Int} {a : Int} (h0 : 0 ≤ a) (h1 : a < cs.length) : ∃ x, cs[a.toNat]? = some x ∧ idx (cs.map MV.int) a = some (.int x) := by
  have hl : a.toNat < cs.length := by omega
  refine ⟨cs[a.toNat], List.getElem?_eq_getElem hl, ?_⟩
  have : (cs.map MV.int)[a.toNat]? = some (.int cs[a.toNat]) := by
    rw [List.getElem?_map, List.getElem?_eq_getElem hl]; rfl
  have e := L2.atI_nat this
  have : ((a.toNat : Nat) : Int) = a := by omega
  rw [this] at e
  exact e
theorem ixN_in {n : Nat} {a : Int} (h0 : 0 ≤ a) (h1 : a < n) : L2.ixN n a = some a.toNat := by
  unfold L2.ixN
  rw [if_pos h0, if_pos h1]
theorem get_set_ne {mh : MHp} {a b : Nat} {o : Option MO} (h : a ≠ b) : (mh.set a o)[b]? = mh[b]? := List.getElem?_set_ne h
theorem get_set_eq {mh : MHp} {a : Nat} {o o' : Option MO} (h : mh[a]? = some o') : (mh.set a o)[a]? = some o := List.getElem?_set_self (List.getElem?_eq_some_iff.mp h).1
def takeD : Df := ⟨2, 6, false, [(.ite (.cmp .lt (.var 1) (.c (.int (2)))) [(.ret (.c (.int (0))))] []), (.set (.nm 2) (.sub (.var 0) (.c (.int (1))))), (.set (.nm 3) (.bin .mod (.bi .int [(.sub (.var 0) (.c (.int (0))))]) (.bi .len [(.var 2)]))), (.set (.nm 4) (.sub (.var 2) (.var 3))), (.ite (.cmp .ge (.var 4) (.c (.int (1000000000000000000)))) [(.sti (.var 2) (.var 3) (.bin .fdiv (.var 4) (.var 1))), (.ret (.bin .mod (.bi .int [(.var 4)]) (.var 1)))] []), (.sti (.var 0) (.c (.int (0))) (.bin .add (.sub (.var 0) (.c (.int (0)))) (.c (.int (1))))), (.set (.nm 5) (.bin .mod (.bi .int [(.bin .add (.bin .mul (.var 4) (.c (.int (48271)))) (.bin .mul (.sub (.var 0) (.c (.int (0)))) (.c (.int (69621)))))]) (.c (.int (2147483647))))), (.set (.nm 5) (.bin .mod (.bi .int [(.bin .add (.bin .mul (.var 5) (.c (.int (16807)))) (.bin .mul (.sub (.var 0) (.c (.int (0)))) (.c (.int (7919)))))]) (.c (.int (1000000007))))), (.ret (.bin .mod (.bi .int [(.bin .fdiv (.var 5) (.c (.int (7))))]) (.var 1)))]⟩
theorem take_ok {T : List Df} {it : Nat} (hT : T[it]? = some takeD) (k : Nat) {l n : Nat} {mh : MHp} (S : St l n mh) (most : Int) (hm : most ≤ 1000000) : ∃ r mh', callM T (k + 1) it [.loc l, .int most] mh = some (.int r, mh') ∧ St l n mh' ∧ 0 ≤ r ∧ (2 ≤ most → r < most) ∧ (most < 2 → r = 0) := by
  obtain ⟨hn, c, i, cs, h1, h2, h3, h4⟩ := S
  by_cases hlt : most < 2
  · refine ⟨0, mh, ?_, ⟨hn, c, i, cs, h1, h2, h3, h4⟩, by omega, by omega, fun _ => rfl⟩
    rw [callM_eq hT]
    refine run_of' rfl rfl (ρ := [some (.loc l), some (.int most), none, none, none, none]) (fl := .rt (.int 0)) ?_ rfl rfl rfl
    simp [takeD, exs, ex, ev, cmpV, ordV, hlt]
  · have hlen : 0 < (cs.length : Int) := by
      have : 0 < cs.length := List.length_pos_iff.mpr h3
      omega
    have a0 : 0 ≤ i.fmod cs.length := Int.fmod_nonneg_of_pos i hlen
    have a1 : i.fmod cs.length < cs.length := Int.fmod_lt_of_pos i hlen
    obtain ⟨x, hx, ex1⟩ := idx_int (cs := cs) a0 a1
    have hne : ¬ ((cs.length : Int) = 0) := by omega
    have hne' : ¬ (cs.length = 0) := by omega
    have b0 : idx [MV.int i, MV.loc c] 0 = some (.int i) := atI0
    have b1 : idx [MV.int i, MV.loc c] 1 = some (.loc c) := atI1
    have e1 : exs (callM T k) mh.length [(.ite (.cmp .lt (.var 1) (.c (.int (2)))) [(.ret (.c (.int (0))))] []), (.set (.nm 2) (.sub (.var 0) (.c (.int (1))))), (.set (.nm 3) (.bin .mod (.bi .int [(.sub (.var 0) (.c (.int (0))))]) (.bi .len [(.var 2)]))), (.set (.nm 4) (.sub (.var 2) (.var 3)))] [some (.loc l), some (.int most), none, none, none, none] mh = some (.nx, [some (.loc l), some (.int most), some (.loc c), some (.int (i.fmod cs.length)), some (.int x), none], mh) := by
      simp [exs, ex, ev, evs, cmpV, ordV, hlt, subV, getL, h1, h2, b0, b1, asg, biV, one1, intV1, lenV, binV, intV, hne', ex1]
    have mp : 0 < most := by omega
    have mne : ¬ most = 0 := by omega
    have mab : most.natAbs < 1073741824 := by omega
    have spl : ∀ {ss ss' : List MS} {ρ ρ' : Env} {m : MHp} {C : CallF}, exs C mh.length ss ρ mh = some (.nx, ρ', m) → exs C mh.length (ss ++ ss') ρ mh = exs C mh.length ss' ρ' m := fun {ss ss' ρ ρ' m C} h => by
      clear e1
      have gen : ∀ (ss : List MS) (ρ : Env) (m0 : MHp), exs C mh.length ss ρ m0 = some (.nx, ρ', m) → exs C mh.length (ss ++ ss') ρ m0 = exs C mh.length ss' ρ' m := by
        intro ss
        induction ss with
        | nil => intro ρ m0 h; simp only [exs] at h; cases h; rfl
        | cons s ss ih =>
          intro ρ m0 h
          rcases exs_cons h with ⟨ρ1, m1, e, h'⟩ | ⟨_, hn⟩
          · rw [List.cons_append, exs, e]; exact ih ρ1 m1 h'
          · exact absurd rfl hn
      exact gen ss ρ mh h
    rw [callM_eq hT]
    by_cases hbig : x < 1000000000000000000
    · -- the mixed way
      have key : ∀ r : Int, r = (((((x * 48271 + (i + 1) * 69621).fmod 2147483647) * 16807 + (i + 1) * 7919).fmod 1000000007).fdiv 7).fmod most → ∃ ρ, exs (callM T k) mh.length takeD.body [some (.loc l), some (.int most), none, none, none, none] mh = some (.rt (.int r), ρ, mh.set l (some (.lst [.int (i + 1), .loc c]))) := fun r hr => by
        have g1 : (mh.set l (some (.lst [.int (i + 1), .loc c])))[l]? = some (some (.lst [.int (i + 1), .loc c])) := get_set_eq h1
        have g2 : (mh.set l (some (.lst [.int (i + 1), .loc c])))[c]? = some (some (.lst (cs.map .int))) := by rw [get_set_ne (Ne.symm h4)]; exact h2
        have b0' : idx [MV.int (i + 1), MV.loc c] 0 = some (.int (i + 1)) := atI0
        have ix : L2.ixN 2 0 = some 0 := rfl
        have w1 : wr mh.length l (.int (i + 1)) = true := by simp [wr, bd]
        have := spl (ss' := [(.ite (.cmp .ge (.var 4) (.c (.int (1000000000000000000)))) [(.sti (.var 2) (.var 3) (.bin .fdiv (.var 4) (.var 1))), (.ret (.bin .mod (.bi .int [(.var 4)]) (.var 1)))] []), (.sti (.var 0) (.c (.int (0))) (.bin .add (.sub (.var 0) (.c (.int (0)))) (.c (.int (1))))), (.set (.nm 5) (.bin .mod (.bi .int [(.bin .add (.bin .mul (.var 4) (.c (.int (48271)))) (.bin .mul (.sub (.var 0) (.c (.int (0)))) (.c (.int (69621)))))]) (.c (.int (2147483647))))), (.set (.nm 5) (.bin .mod (.bi .int [(.bin .add (.bin .mul (.var 5) (.c (.int (16807)))) (.bin .mul (.sub (.var 0) (.c (.int (0)))) (.c (.int (7919)))))]) (.c (.int (1000000007))))), (.ret (.bin .mod (.bi .int [(.bin .fdiv (.var 5) (.c (.int (7))))]) (.var 1)))]) e1
        refine ⟨[some (.loc l), some (.int most), some (.loc c), some (.int (i.fmod cs.length)), some (.int x), some (.int ((((x * 48271 + (i + 1) * 69621).fmod 2147483647) * 16807 + (i + 1) * 7919).fmod 1000000007))], ?_⟩
        rw [hr]
        show exs (callM T k) mh.length ([(.ite (.cmp .lt (.var 1) (.c (.int (2)))) [(.ret (.c (.int (0))))] []), (.set (.nm 2) (.sub (.var 0) (.c (.int (1))))), (.set (.nm 3) (.bin .mod (.bi .int [(.sub (.var 0) (.c (.int (0))))]) (.bi .len [(.var 2)]))), (.set (.nm 4) (.sub (.var 2) (.var 3)))] ++ _) _ mh = _
        rw [this]
        simp [exs, ex, ev, evs, cmpV, ordV, hbig, subV, getL, h1, g1, b0, b0', asg, biV, one1, intV1, binV, intV, addV, mulV, mne, ix, w1]
      obtain ⟨ρ, e⟩ := key _ rfl
      refine ⟨_, _, run_of' rfl rfl e rfl rfl (by simp), ⟨by simp [hn], c, i + 1, cs, get_set_eq h1, by rw [get_set_ne (Ne.symm h4)]; exact h2, h3, h4⟩, Int.fmod_nonneg_of_pos _ mp, fun _ => Int.fmod_lt_of_pos _ mp, fun z => absurd z hlt⟩
    · have key : ∃ ρ, exs (callM T k) mh.length takeD.body [some (.loc l), some (.int most), none, none, none, none] mh = some (.rt (.int (x.fmod most)), ρ, mh.set c (some (.lst ((cs.set (i.fmod cs.length).toNat (x.fdiv most)).map .int)))) := by
        have ix : L2.ixN cs.length (i.fmod cs.length) = some (i.fmod cs.length).toNat := ixN_in a0 a1
        have w1 : wr mh.length c (.int (x.fdiv most)) = true := by simp [wr, bd]
        have := spl (ss' := [(.ite (.cmp .ge (.var 4) (.c (.int (1000000000000000000)))) [(.sti (.var 2) (.var 3) (.bin .fdiv (.var 4) (.var 1))), (.ret (.bin .mod (.bi .int [(.var 4)]) (.var 1)))] []), (.sti (.var 0) (.c (.int (0))) (.bin .add (.sub (.var 0) (.c (.int (0)))) (.c (.int (1))))), (.set (.nm 5) (.bin .mod (.bi .int [(.bin .add (.bin .mul (.var 4) (.c (.int (48271)))) (.bin .mul (.sub (.var 0) (.c (.int (0)))) (.c (.int (69621)))))]) (.c (.int (2147483647))))), (.set (.nm 5) (.bin .mod (.bi .int [(.bin .add (.bin .mul (.var 5) (.c (.int (16807)))) (.bin .mul (.sub (.var 0) (.c (.int (0)))) (.c (.int (7919)))))]) (.c (.int (1000000007))))), (.ret (.bin .mod (.bi .int [(.bin .fdiv (.var 5) (.c (.int (7))))]) (.var 1)))]) e1
        refine ⟨[some (.loc l), some (.int most), some (.loc c), some (.int (i.fmod cs.length)), some (.int x), none], ?_⟩
        show exs (callM T k) mh.length ([(.ite (.cmp .lt (.var 1) (.c (.int (2)))) [(.ret (.c (.int (0))))] []), (.set (.nm 2) (.sub (.var 0) (.c (.int (1))))), (.set (.nm 3) (.bin .mod (.bi .int [(.sub (.var 0) (.c (.int (0))))]) (.bi .len [(.var 2)]))), (.set (.nm 4) (.sub (.var 2) (.var 3)))] ++ _) _ mh = _
        rw [this]
        simp [exs, ex, ev, evs, cmpV, ordV, hbig, h2, asg, biV, one1, intV1, binV, intV, mne, mab, ix, w1, List.map_set]
      obtain ⟨ρ, e⟩ := key
      refine ⟨_, _, run_of' rfl rfl e rfl rfl (by simp), ⟨by simp [hn], c, i, cs.set (i.fmod cs.length).toNat (x.fdiv most), by rw [get_set_ne h4]; exact h1, get_set_eq h2, by simp [h3], h4⟩, Int.fmod_nonneg_of_pos _ mp, fun _ => Int.fmod_lt_of_pos _ mp, fun z => absurd z hlt⟩
def pickD (it : Nat) : Df := ⟨2, 2, false, [(.ret (.sub (.var 1) (.call it [(.var 0), (.bi .len [(.var 1)])])))]⟩
theorem St.len {l n : Nat} {mh : MHp} (h : St l n mh) : mh.length = n := h.1
theorem pick_ok {T : List Df} {it ip : Nat} (hT : T[it]? = some takeD) (hP : T[ip]? = some (pickD it)) (k : Nat) {l n : Nat} {mh : MHp} (S : St l n mh) (row : List MV) (h0 : row ≠ []) (hr : row.length ≤ 1000000) (hd : dats row = true) : ∃ y mh', y ∈ row ∧ callM T (k + 2) ip [.loc l, .lst row] mh = some (y, mh') ∧ St l n mh' := by
  have hp : 0 < row.length := List.length_pos_iff.mpr h0
  obtain ⟨r, mh', e, S', r0, r1, r2⟩ := take_ok hT k S (row.length : Int) (by omega)
  have hlt : r < (row.length : Int) := by
    by_cases h : 2 ≤ (row.length : Int)
    · exact r1 h
    · have := r2 (by omega); omega
  have hl : r.toNat < row.length := by omega
  have hi : idx row r = some row[r.toNat] := by
    have := L2.atI_nat (List.getElem?_eq_getElem hl)
    have e2 : ((r.toNat : Nat) : Int) = r := by omega
    rw [e2] at this
    exact this
  refine ⟨row[r.toNat], mh', List.getElem_mem hl, ?_, S'⟩
  rw [callM_eq hP]
  refine run_of' rfl rfl (ρ := [some (.loc l), some (.lst row)]) (fl := .rt row[r.toNat]) ?_ rfl (dats_iff.mp hd _ (List.getElem_mem hl)) (by rw [S'.1, S.1])
  simp [pickD, exs, ex, ev, evs, biV, one1, lenV, getL, e, subV, hi]
end L2.Mi

set_option Elab.async false
set_option linter.all false
set_option maxRecDepth 100000
set_option maxHeartbeats 4000000
/-! Ev3: the law's state for any table; == of a value with itself; terms as trees. -/
namespace L2.Mi
open PySem PySem.Spec PyProof.Rows
def stateD : Df := ⟨1, 3, true, [(.set (.nm 1) (.al (.comp (.nm 2) [2] (.slcH (.var 0) (.c (.int (63)))) (.c (.bl true)) (.bi .abs [(.var 2)])))), (.ite (.cmp .eq (.bi .len [(.var 1)]) (.c (.int (0)))) [(.set (.nm 1) (.al (.lst [(.c (.int (0)))])))] []), (.ret (.al (.lst [(.c (.int (0))), (.var 1)])))]⟩
theorem state_ok {T : List Df} {is : Nat} (hT : T[is]? = some stateD) (k : Nat) (ns : List Int) : ∃ l n mh, callM T (k + 1) is [.scr ns] [] = some (.loc l, mh) ∧ St l n mh := by
  let g : Int → Int := fun i => if i < 0 then -i else i
  have hc : ∀ (C : CallF), ev C 0 (.comp (.nm 2) [2] (.slcH (.var 0) (.c (.int (63)))) (.c (.bl true)) (.bi .abs [(.var 2)])) [some (.scr ns), none, none] [] = some (.lst (((ns.take 63).map g).map .int), []) := fun C => by
    have hcut : cut (ns.map MV.int) none (some 63) = (ns.take 63).map .int := by
      have := cut_take (xs := ns.map MV.int) (k := 63)
      rw [show ((63 : Nat) : Int) = 63 from rfl] at this
      rw [this, List.map_take]
    have ei : evI C 0 (.slcH (.var 0) (.c (.int (63)))) [some (.scr ns), none, none] [] = some (⟨(ns.take 63).map .int, none⟩, []) := by
      simp [evI, ev, slcV, hcut, itsOf]
    have hz : ((ns.take 63).map MV.int).length ≤ line := by simp; unfold line; omega
    rw [ev_compq, ei]
    simp only [hz, if_true]
    rw [compGo_pure rfl (g := fun x => match x with | .int i => some (.int (g i)) | _ => none)]
    · simp only
      congr 3
      rw [List.filterMap_map, ← List.filterMap_eq_map, ← List.filterMap_eq_map, List.filterMap_filterMap]
      rfl
    · intro x hx
      obtain ⟨i, _, rfl⟩ := List.mem_map.mp hx
      simp [compF, asg, wipeE, ev, evs, biV, one1, absV, g]
  rw [callM_eq hT]
  have z1 : 1 ≤ line := by unfold line; omega
  have z2 : 2 ≤ line := by unfold line; omega
  unfold runD
  rw [if_pos (show [MV.scr ns].length = stateD.np from rfl)]
  by_cases he : (ns.take 63).map g = []
  · refine ⟨2, 3, [some (.lst []), some (.lst [.int 0]), some (.lst [.int 0, .loc 1])], ?_, rfl, 1, 0, [0], rfl, rfl, by simp, by decide⟩
    have e : exs (callM T k) 0 stateD.body [some (.scr ns), none, none] [] = some (.rt (.loc 2), [some (.scr ns), some (.loc 1), none], [some (.lst []), some (.lst [.int 0]), some (.lst [.int 0, .loc 1])]) := by
      have hc' := hc (callM T k)
      rw [he] at hc'
      have c1 : ex (callM T k) 0 (.set (.nm 1) (.al (.comp (.nm 2) [2] (.slcH (.var 0) (.c (.int (63)))) (.c (.bl true)) (.bi .abs [(.var 2)])))) [some (.scr ns), none, none] [] = some (.nx, [some (.scr ns), some (.loc 0), none], [some (.lst [])]) := by
        rw [ex, ev, hc']
        simp [asg]
      rw [stateD, exs, c1]
      simp [exs, ex, ev, evs, biV, one1, lenV, getL, cmpV, eqV_int, z1, z2, asg]
    show (match exs (callM T k) 0 stateD.body [some (.scr ns), none, none] [] with
      | none => none
      | some (fl, _, mh1) => match endV fl with
        | none => none
        | some v => if stateD.live = true then some (v, mh1) else (frz 0 mh1 8 v).map (·, mh1.take 0)) = _
    rw [e]
    rfl
  · refine ⟨1, 2, [some (.lst (((ns.take 63).map g).map .int)), some (.lst [.int 0, .loc 0])], ?_, rfl, 0, 0, (ns.take 63).map g, rfl, rfl, he, by decide⟩
    have e : exs (callM T k) 0 stateD.body [some (.scr ns), none, none] [] = some (.rt (.loc 1), [some (.scr ns), some (.loc 0), none], [some (.lst (((ns.take 63).map g).map .int)), some (.lst [.int 0, .loc 0])]) := by
      have hc' := hc (callM T k)
      have c1 : ex (callM T k) 0 (.set (.nm 1) (.al (.comp (.nm 2) [2] (.slcH (.var 0) (.c (.int (63)))) (.c (.bl true)) (.bi .abs [(.var 2)])))) [some (.scr ns), none, none] [] = some (.nx, [some (.scr ns), some (.loc 0), none], [some (.lst (((ns.take 63).map g).map .int))]) := by
        rw [ex, ev, hc']
        simp [asg]
      generalize hcs : (ns.take 63).map g = cs at he c1 ⊢
      have hne : ¬ (cs.length = 0) := fun z => he (List.length_eq_zero_iff.mp z)
      rw [stateD, exs, c1]
      simp [exs, ex, ev, evs, biV, one1, lenV, getL, cmpV, eqV_int, he, z2, asg]
    show (match exs (callM T k) 0 stateD.body [some (.scr ns), none, none] [] with
      | none => none
      | some (fl, _, mh1) => match endV fl with
        | none => none
        | some v => if stateD.live = true then some (v, mh1) else (frz 0 mh1 8 v).map (·, mh1.take 0)) = _
    rw [e]
    rfl
/-! ### == of a value with itself -/
mutual
theorem eqD_refl : ∀ x : MV, dat x = true → eqD x x = true
  | .non, _ => by unfold eqD toD PyData.eqv; rfl
  | .bl b, _ => by unfold eqD toD PyData.eqv; simp
  | .int i, _ => by unfold eqD toD PyData.eqv; simp
  | .str s, _ => by unfold eqD toD PyData.eqv; simp
  | .tup xs, h => by
    unfold dat at h
    have := eqDs_refl xs h
    unfold eqD toD PyData.eqv
    exact this
  | .lst xs, h => by
    unfold dat at h
    have := eqDs_refl xs h
    unfold eqD toD PyData.eqv
    exact this
  | .fn _, h => by unfold dat at h; cases h
  | .loc _, h => by unfold dat at h; cases h
  | .dct _ _, h => by unfold dat at h; cases h
  | .scr _, h => by unfold dat at h; cases h
theorem eqDs_refl : ∀ xs : List MV, dats xs = true → PyData.eqvAll (toDs xs) (toDs xs) = true
  | [], _ => by unfold toDs PyData.eqvAll; rfl
  | x :: xs, h => by
    unfold dats at h
    rw [Bool.and_eq_true] at h
    have h1 := eqD_refl x h.1
    have h2 := eqDs_refl xs h.2
    unfold eqD at h1
    unfold toDs PyData.eqvAll
    rw [h1, h2]; rfl
end
mutual
/-- how deep lists and tuples stand in one another -/
def dep : MV → Nat
  | .tup xs => deps xs + 1
  | .lst xs => deps xs + 1
  | _ => 0
def deps : List MV → Nat
  | [] => 0
  | x :: xs => max (dep x) (deps xs)
end
mutual
theorem dat_can : ∀ x : MV, dat x = true → PyData.canLay0 (toD x) = true ∧ PyData.depth (toD x) ≤ dep x
  | .non, _ => ⟨rfl, by unfold toD PyData.depth; omega⟩
  | .bl b, _ => ⟨rfl, by unfold toD PyData.depth; omega⟩
  | .int i, _ => ⟨rfl, by unfold toD PyData.depth; omega⟩
  | .str s, h => by
    have := okD_str h
    unfold okD SeqAt.shaped at this
    rw [Bool.and_eq_true] at this
    exact ⟨this.1, by unfold toD PyData.depth; omega⟩
  | .tup xs, h => by
    unfold dat at h
    obtain ⟨h1, h2⟩ := dats_can xs h
    unfold toD
    refine ⟨by unfold PyData.canLay0; exact h1, ?_⟩
    unfold PyData.depth dep
    omega
  | .lst xs, h => by
    unfold dat at h
    obtain ⟨h1, h2⟩ := dats_can xs h
    unfold toD
    refine ⟨by unfold PyData.canLay0; exact h1, ?_⟩
    unfold PyData.depth dep
    omega
  | .fn _, h => by unfold dat at h; cases h
  | .loc _, h => by unfold dat at h; cases h
  | .dct _ _, h => by unfold dat at h; cases h
  | .scr _, h => by unfold dat at h; cases h
theorem dats_can : ∀ xs : List MV, dats xs = true → PyData.canLayAll0 (toDs xs) = true ∧ PyData.depthAll (toDs xs) ≤ deps xs
  | [], _ => ⟨rfl, by unfold toDs PyData.depthAll; omega⟩
  | x :: xs, h => by
    unfold dats at h
    rw [Bool.and_eq_true] at h
    obtain ⟨a1, a2⟩ := dat_can x h.1
    obtain ⟨b1, b2⟩ := dats_can xs h.2
    unfold toDs
    refine ⟨by unfold PyData.canLayAll0; rw [a1, b1]; rfl, ?_⟩
    unfold PyData.depthAll deps
    omega
end
theorem okD_dat {x : MV} (h : dat x = true) (hd : dep x ≤ 64) : okD x = true := by
  obtain ⟨h1, h2⟩ := dat_can x h
  unfold okD SeqAt.shaped
  rw [h1, Bool.true_and]
  exact decide_eq_true (by omega)
theorem eqV_refl (mh : MHp) {x : MV} (h : dat x = true) (hd : dep x ≤ 64) : eqV mh x x = some true := by
  unfold eqV
  rw [frz_dat x h]
  simp only [okD_dat h hd, and_self, if_true, eqD_refl x h]
end L2.Mi

set_option Elab.async false
set_option linter.all false
set_option maxRecDepth 100000
set_option maxHeartbeats 4000000
/-! Ev4: the law's tongues and drawn terms, for any table. -/
namespace L2.Mi
open PySem PySem.Spec PyProof.Rows
mutual
def cnt : MV → Nat
  | .tup xs => 1 + cntT xs
  | _ => 1
def cntT : List MV → Nat
  | [] => 0
  | _ :: xs => cnts xs
def cnts : List MV → Nat
  | [] => 0
  | x :: xs => cnt x + cnts xs
end
theorem cnts_app (xs ys : List MV) : cnts (xs ++ ys) = cnts xs + cnts ys := by
  induction xs with
  | nil => simp [cnts]
  | cons x xs ih => simp only [List.cons_append, cnts, ih]; omega
theorem dats_app (xs ys : List MV) : dats (xs ++ ys) = (dats xs && dats ys) := by
  induction xs with
  | nil => simp [dats]
  | cons x xs ih => simp only [List.cons_append, dats, ih, Bool.and_assoc]
theorem cnt_pos (x : MV) : 1 ≤ cnt x := by
  cases x <;> simp [cnt]
theorem len_cnts : ∀ w : List MV, w.length ≤ cnts w
  | [] => by simp
  | x :: w => by have := len_cnts w; have := cnt_pos x; simp only [cnts, List.length_cons]; omega
abbrev pr (s : Sx) (i : Int) : MV := .tup [.str s, .int i]
def tongues : List (List MV) := [[pr [97] 0, pr [102] 2], [pr [97] 0, pr [98] 0, pr [102] 2, pr [103] 1], [pr [97] 0, pr [98, 49] 0, pr [103] 1, pr [104] 3], [pr [99] 0, pr [102] 2, pr [103] 1]]
def isZ (p : MV) : Bool := match p with | .tup [_, .int i] => decide (i = 0) | _ => false
def tokPG : MV → Bool
  | .tup [.str s, .int i] => decide (0 ≤ i) && decide (i ≤ 3) && dat (.str s)
  | _ => false
def tokG (ps : List MV) : Bool := ps.all tokPG && dats ps && decide (2 ≤ ps.length) && decide (ps.length ≤ 4) && (ps.filter isZ).length != 0
theorem tongues_okG : tongues.all tokG = true := by decide +kernel
structure TokG (ps : List MV) : Prop where
  each : ∀ p ∈ ps, ∃ (s : Sx) (i : Nat), p = pr s i ∧ i ≤ 3 ∧ dat (.str s) = true
  dat : dats ps = true
  l2 : 2 ≤ ps.length
  l4 : ps.length ≤ 4
  zero : ps.filter isZ ≠ []
theorem tokG_of {ps : List MV} (h : ps ∈ tongues) : TokG ps := by
  have := List.all_eq_true.mp tongues_okG ps h
  unfold tokG at this
  simp only [Bool.and_eq_true, decide_eq_true_eq] at this
  obtain ⟨⟨⟨⟨h1, h3⟩, h4⟩, h5⟩, h7⟩ := this
  refine ⟨fun p hp => ?_, h3, h4, h5, fun z => by rw [z] at h7; simp at h7⟩
  have := List.all_eq_true.mp h1 p hp
  unfold tokPG at this
  split at this
  · rename_i s i
    simp only [Bool.and_eq_true, decide_eq_true_eq] at this
    obtain ⟨⟨a, b⟩, d⟩ := this
    refine ⟨s, i.toNat, ?_, by omega, d⟩
    have : ((i.toNat : Nat) : Int) = i := by omega
    rw [this]
  · cases this
def tongueD (ip : Nat) : Df := ⟨1, 1, false, [(.ret (.call ip [(.var 0), (.lst [(.tup [(.tup [(.c (.str [97])), (.c (.int (0)))]), (.tup [(.c (.str [102])), (.c (.int (2)))])]), (.tup [(.tup [(.c (.str [97])), (.c (.int (0)))]), (.tup [(.c (.str [98])), (.c (.int (0)))]), (.tup [(.c (.str [102])), (.c (.int (2)))]), (.tup [(.c (.str [103])), (.c (.int (1)))])]), (.tup [(.tup [(.c (.str [97])), (.c (.int (0)))]), (.tup [(.c (.str [98, 49])), (.c (.int (0)))]), (.tup [(.c (.str [103])), (.c (.int (1)))]), (.tup [(.c (.str [104])), (.c (.int (3)))])]), (.tup [(.tup [(.c (.str [99])), (.c (.int (0)))]), (.tup [(.c (.str [102])), (.c (.int (2)))]), (.tup [(.c (.str [103])), (.c (.int (1)))])])])]))]⟩
theorem tongue_ok {T : List Df} {it ip ig : Nat} (hT : T[it]? = some takeD) (hP : T[ip]? = some (pickD it)) (hG : T[ig]? = some (tongueD ip)) (k : Nat) {l n : Nat} {mh : MHp} (S : St l n mh) : ∃ ps mh', ps ∈ tongues ∧ callM T (k + 3) ig [.loc l] mh = some (.tup ps, mh') ∧ St l n mh' := by
  obtain ⟨y, mh', hy, e, S'⟩ := pick_ok hT hP k S (tongues.map .tup) (by simp [tongues]) (by simp [tongues]) (by decide +kernel)
  obtain ⟨ps, hps, rfl⟩ := List.mem_map.mp hy
  refine ⟨ps, mh', hps, ?_, S'⟩
  rw [callM_eq hG]
  have hd : dat (.tup ps) = true := by unfold dat; exact (tokG_of hps).dat
  refine run_of' rfl rfl (ρ := [some (.loc l)]) (fl := .rt (.tup ps)) ?_ rfl hd (by rw [S'.1, S.1])
  have h1 : 2 ≤ line := by unfold line; omega
  have h2 : 3 ≤ line := by unfold line; omega
  have h3 : 4 ≤ line := by unfold line; omega
  simp only [tongues, pr, List.map] at e
  simp [tongueD, exs, ex, ev, evs, e, h1, h2, h3]
def bnd : Nat → Nat
  | 0 => 1
  | m + 1 => 1 + 3 * bnd m
theorem bnd_pos (m : Nat) : 1 ≤ bnd m := by cases m <;> simp [bnd] <;> omega
theorem cnts_le {b : Nat} : ∀ {xs : List MV}, (∀ x ∈ xs, cnt x ≤ b) → cnts xs ≤ xs.length * b
  | [], _ => by simp [cnts]
  | x :: xs, h => by
    have h1 := h x (by simp)
    have h2 := cnts_le (xs := xs) fun y hy => h y (List.mem_cons_of_mem _ hy)
    simp only [cnts, List.length_cons, Nat.succ_mul]
    omega
structure DrawnG (P : MV → Prop) (b e : Nat) (t : MV) : Prop where
  good : P t
  cnt : cnt t ≤ b
  dep : dep t ≤ e
  dat : dat t = true
theorem deps_le {b : Nat} : ∀ {xs : List MV}, (∀ x ∈ xs, dep x ≤ b) → deps xs ≤ b
  | [], _ => by simp [deps]
  | x :: xs, h => by
    have h1 := h x (by simp)
    have h2 := deps_le (xs := xs) fun y hy => h y (List.mem_cons_of_mem _ hy)
    simp only [deps]
    omega
def termD (it ip im : Nat) : Df := ⟨4, 9, false, [(.ite (.and (.cmp .gt (.bi .len [(.var 2)]) (.c (.int (0)))) (.cmp .eq (.call it [(.var 0), (.ite (.cmp .gt (.var 3) (.c (.int (1)))) (.c (.int (3))) (.c (.int (2))))]) (.c (.int (0))))) [(.ret (.call ip [(.var 0), (.var 2)]))] []), (.set (.nm 4) (.comp (.nm 7) [7] (.var 1) (.or (.cmp .gt (.var 3) (.c (.int (1)))) (.cmp .eq (.sub (.var 7) (.c (.int (1)))) (.c (.int (0))))) (.var 7))), (.set (.tp [(.nm 5), (.nm 6)]) (.call ip [(.var 0), (.var 4)])), (.ret (.bin .add (.tup [(.var 5)]) (.bi .tuple [(.comp (.nm 8) [8] (.rng1 (.var 6)) (.c (.bl true)) (.call im [(.var 0), (.var 1), (.var 2), (.bin .sub (.var 3) (.c (.int (1))))]))])))]⟩
abbrev mEnv (l : Nat) (ps names : List MV) (M : Int) (a b c : Option MV) : Env := [some (.loc l), some (.tup ps), some (.lst names), some (.int M), a, b, c, none, none]
theorem fm_filter (P : MV → Bool) : ∀ xs : List MV, xs.filterMap (fun p => if P p = true then some p else none) = xs.filter P
  | [] => rfl
  | x :: xs => by
    rw [List.filterMap_cons, List.filter_cons, fm_filter P xs]
    cases P x <;> rfl
theorem term_bodyG {T : List Df} {it ip im : Nat} (hT : T[it]? = some takeD) (hPk : T[ip]? = some (pickD it)) {P0 : MV → Prop} {l n : Nat} {ps : List MV} (hps : TokG ps) (hP0 : ∀ s (i : Nat) ys, pr s i ∈ ps → ys.length = i → (∀ y ∈ ys, P0 y) → P0 (.tup (.str s :: ys))) {names : List MV} (hnl : names.length ≤ 1000) (hnd : dats names = true) (hng : ∀ x ∈ names, ∃ s, x = .str s ∧ P0 (.str s))
    {k : Nat} {M : Int} {b e : Nat} {mh : MHp} (hM : 1 ≤ M) (S : St l n mh)
    (rec : 1 < M → ∀ mh, St l n mh → ∃ t mh', callM T (k + 2) im [.loc l, .tup ps, .lst names, .int (M - 1)] mh = some (t, mh') ∧ St l n mh' ∧ DrawnG P0 b e t) :
    ∃ t ρ mh', exs (callM T (k + 2)) mh.length (termD it ip im).body (mEnv l ps names M none none none) mh = some (.rt t, ρ, mh') ∧ St l n mh' ∧ DrawnG P0 (1 + 3 * b) (e + 1) t := by
  have z2 : 2 ≤ line := by unfold line; omega
  have hc1 : ∃ b mh1, ev (callM T (k + 2)) mh.length (.and (.cmp .gt (.bi .len [(.var 2)]) (.c (.int (0)))) (.cmp .eq (.call it [(.var 0), (.ite (.cmp .gt (.var 3) (.c (.int (1)))) (.c (.int (3))) (.c (.int (2))))]) (.c (.int (0))))) (mEnv l ps names M none none none) mh = some (.bl b, mh1) ∧ St l n mh1 ∧ (b = true → names ≠ []) := by
    by_cases hn0 : names = []
    · refine ⟨false, mh, ?_, S, fun h => by cases h⟩
      subst hn0
      simp [mEnv, ev, evs, biV, one1, lenV, getL, cmpV, ordV]
    · have hnl0 : 0 < names.length := List.length_pos_iff.mpr hn0
      obtain ⟨r, mh1, e1, S1, r0, _, _⟩ := take_ok hT (k + 1) S (if 1 < M then 3 else 2) (by split <;> omega)
      refine ⟨decide (r = 0), mh1, ?_, S1, fun _ => hn0⟩
      by_cases h : 1 < M
      · rw [if_pos h] at e1
        have e1 : callM T (k + 2) it [.loc l, .int 3] mh = _ := e1
        simp [mEnv, ev, evs, biV, one1, lenV, getL, cmpV, ordV, hnl0, h, e1, eqV_int]
      · rw [if_neg h] at e1
        have e1 : callM T (k + 2) it [.loc l, .int 2] mh = _ := e1
        simp [mEnv, ev, evs, biV, one1, lenV, getL, cmpV, ordV, hnl0, h, e1, eqV_int]
  obtain ⟨bb, mh1, c1, S1, hbn⟩ := hc1
  cases bb with
  | true =>
    obtain ⟨y, mh2, hy, e2, S2⟩ := pick_ok hT hPk k S1 names (hbn rfl) (by omega) hnd
    obtain ⟨s, rfl, hs⟩ := hng y hy
    refine ⟨.str s, mEnv l ps names M none none none, mh2, ?_, S2, ⟨hs, by simp only [cnt]; omega, by simp only [dep]; omega, dats_iff.mp hnd _ hy⟩⟩
    rw [termD, exs]
    simp only [ex, c1]
    simp [exs, ex, ev, evs, mEnv, e2]
  | false =>
    -- a pair is drawn
    let P : MV → Bool := fun p => decide (1 < M) || isZ p
    have hg : ev (callM T (k + 2)) mh.length (.comp (.nm 7) [7] (.var 1) (.or (.cmp .gt (.var 3) (.c (.int (1)))) (.cmp .eq (.sub (.var 7) (.c (.int (1)))) (.c (.int (0))))) (.var 7)) (mEnv l ps names M none none none) mh1 = some (.lst (ps.filter P), mh1) := by
      have ei : evI (callM T (k + 2)) mh.length (.var 1) (mEnv l ps names M none none none) mh1 = some (⟨ps, none⟩, mh1) := by simp [evI, ev, itsOf, mEnv]
      have hz : ps.length ≤ line := by have := hps.l4; unfold line; omega
      rw [ev_compq, ei]
      simp only [hz, if_true]
      rw [compGo_pure rfl (g := fun p => if P p = true then some p else none)]
      · simp only
        rw [fm_filter]
      · intro p hp
        obtain ⟨s, i, rfl, hi, _⟩ := hps.each p hp
        by_cases h : 1 < M
        · simp [compF, asg, wipeE, ev, mEnv, cmpV, ordV, h, P]
        · by_cases hi0 : (i : Int) = 0
          · simp [compF, asg, wipeE, ev, mEnv, cmpV, ordV, h, P, subV, atI1, eqV_int, isZ, hi0]
          · have hi0' : ¬ (i = 0) := by omega
            simp [compF, asg, wipeE, ev, mEnv, cmpV, ordV, h, P, subV, atI1, eqV_int, isZ, hi0, hi0']
    have hne : ps.filter P ≠ [] := by
      have hz := hps.zero
      intro z
      apply hz
      rw [List.filter_eq_nil_iff] at z ⊢
      intro p hp q
      exact z p hp (by
        have : isZ p = true := q
        simp [P, this])
    have hfl : (ps.filter P).length ≤ 1000 := Nat.le_trans (List.length_filter_le _ _) (by have := hps.l4; omega)
    have hfd : dats (ps.filter P) = true := dats_iff.mpr fun x hx => dats_iff.mp hps.dat x ((List.mem_filter.mp hx).1)
    obtain ⟨y, mh2, hy, e2, S2⟩ := pick_ok hT hPk k S1 (ps.filter P) hne (by omega) hfd
    have hyp := (List.mem_filter.mp hy).1
    obtain ⟨s, i, rfl, hi, hds⟩ := hps.each y hyp
    have hi1 : ¬ 1 < M → i = 0 := fun h => by
      have := (List.mem_filter.mp hy).2
      simp [P, h, isZ] at this
      exact this
    -- the parts
    have hpart : ∃ ys mh3, ev (callM T (k + 2)) mh.length (.comp (.nm 8) [8] (.rng1 (.var 6)) (.c (.bl true)) (.call im [(.var 0), (.var 1), (.var 2), (.bin .sub (.var 3) (.c (.int (1))))])) (mEnv l ps names M (some (.lst (ps.filter P))) (some (.str s)) (some (.int i))) mh2 = some (.lst ys, mh3) ∧ St l n mh3 ∧ ys.length = i ∧ ∀ y ∈ ys, DrawnG P0 b e y := by
      have ei : evI (callM T (k + 2)) mh.length (.rng1 (.var 6)) (mEnv l ps names M (some (.lst (ps.filter P))) (some (.str s)) (some (.int i))) mh2 = some (⟨(List.range i).map fun (k : Nat) => .int (k : Int), none⟩, mh2) := by
        have b1 : (-4611686018427387904 : Int) ≤ i := by omega
        have b2 : (i : Int) < 4611686018427387904 := by omega
        simp [evI, ev, mEnv, b1, b2]
      obtain ⟨ys, mh3, q1, q2, q3, q4⟩ := compGo_st (J := ⟨(List.range i).map fun (k : Nat) => MV.int (k : Int), none⟩) rfl (f := compF (callM T (k + 2)) mh.length (.nm 8) [8] (.c (.bl true)) (.call im [(.var 0), (.var 1), (.var 2), (.bin .sub (.var 3) (.c (.int (1))))]) (mEnv l ps names M (some (.lst (ps.filter P))) (some (.str s)) (some (.int i)))) (P := St l n) (R := DrawnG P0 b e) (xs := (List.range i).map fun (k : Nat) => MV.int (k : Int)) S2 (fun x hx m1 Sm => by
        obtain ⟨j, hj, rfl⟩ := List.mem_map.mp hx
        have hj' := List.mem_range.mp hj
        have h1 : 1 < M := Classical.byContradiction fun z => by have := hi1 z; omega
        obtain ⟨t, m2, t1, t2, t3⟩ := rec h1 m1 Sm
        refine ⟨t, m2, ?_, t2, t3⟩
        simp [compF, asg, wipeE, ev, evs, mEnv, binV, intV, t1])
      refine ⟨ys, mh3, ?_, q2, by simpa using q3, q4⟩
      rw [ev_compq, ei]
      have hz : i ≤ line := by unfold line; omega
      simp only [List.length_map, List.length_range, hz, if_true, q1]
    obtain ⟨ys, mh3, e3, S3, hl, hy3⟩ := hpart
    have hdd : dats ys = true := dats_iff.mpr fun x hx => (hy3 x hx).dat
    have hcc : cnts ys ≤ i * b := by rw [← hl]; exact cnts_le fun x hx => (hy3 x hx).cnt
    have hib : i * b ≤ 3 * b := Nat.mul_le_mul_right b hi
    refine ⟨.tup (.str s :: ys), mEnv l ps names M (some (.lst (ps.filter P))) (some (.str s)) (some (.int i)), mh3, ?_, S3, ⟨?_, ?_, ?_, ?_⟩⟩
    · have hz : 1 ≤ line := by unfold line; omega
      have hz2 : 1 + ys.length ≤ line := by unfold line; omega
      rw [termD, exs]
      simp only [ex, c1, exs, hg]
      simp only [asg, mEnv, List.length_cons, List.length_nil, List.set, Nat.reduceAdd, Nat.reduceLT, if_true]
      simp only [mEnv] at e3
      simp [ev, evs, e2, asg, asgs, e3, exs, ex, hz, biV, one1, tupV, getL, binV, addV, hz2]
    · exact hP0 s i ys hyp hl fun y hy => (hy3 y hy).good
    · simp only [cnt, cntT]; omega
    · have := deps_le fun x hx => (hy3 x hx).dep
      simp only [dep, deps]
      omega
    · unfold dat dats; rw [hds, hdd]; rfl
theorem term_ok {T : List Df} {it ip im : Nat} (hT : T[it]? = some takeD) (hPk : T[ip]? = some (pickD it)) (hM : T[im]? = some (termD it ip im)) {P0 : MV → Prop} {l n : Nat} {ps : List MV} (hps : TokG ps) (hP0 : ∀ s (i : Nat) ys, pr s i ∈ ps → ys.length = i → (∀ y ∈ ys, P0 y) → P0 (.tup (.str s :: ys))) {names : List MV} (hnl : names.length ≤ 1000) (hnd : dats names = true) (hng : ∀ x ∈ names, ∃ s, x = .str s ∧ P0 (.str s)) :
    ∀ (m k : Nat) {mh : MHp}, St l n mh → ∃ t mh', callM T (k + m + 3) im [.loc l, .tup ps, .lst names, .int ((m + 1 : Nat) : Int)] mh = some (t, mh') ∧ St l n mh' ∧ DrawnG P0 (bnd m) (m + 1) t := by
  intro m
  induction m with
  | zero =>
    intro k mh S
    obtain ⟨t, ρ, mh', e, S', d⟩ := term_bodyG hT hPk hps hP0 hnl hnd hng (k := k) (M := ((0 + 1 : Nat) : Int)) (b := 0) (e := 0) (mh := mh) (by omega) S (fun h => by exfalso; omega)
    refine ⟨t, mh', ?_, S', d⟩
    rw [callM_eq hM]
    exact run_of' rfl rfl e rfl d.dat (by rw [S'.1, S.1])
  | succ m ih =>
    intro k mh S
    obtain ⟨t, ρ, mh', e, S', d⟩ := term_bodyG hT hPk hps hP0 hnl hnd hng (k := k + m + 1) (M := ((m + 1 + 1 : Nat) : Int)) (b := bnd m) (e := m + 1) (mh := mh) (by omega) S (fun h mh1 S1 => by
      obtain ⟨t, mh2, q, r⟩ := ih k S1
      have e2 : ((m + 1 + 1 : Nat) : Int) - 1 = ((m + 1 : Nat) : Int) := by omega
      rw [e2]
      exact ⟨t, mh2, q, r⟩)
    refine ⟨t, mh', ?_, S', d⟩
    rw [show k + (m + 1) + 3 = (k + m + 1 + 2) + 1 by omega, callM_eq hM]
    exact run_of' rfl rfl e rfl d.dat (by rw [S'.1, S.1])
end L2.Mi

set_option Elab.async false
set_option linter.all false
set_option maxRecDepth 100000
set_option maxHeartbeats 4000000
/-! Ev5: terms, positions, parts put, for any table (bounded by depth). -/
namespace L2.Mi
open PySem PySem.Spec PyProof.Rows
def isS : MV → Bool
  | .str _ => true
  | _ => false
mutual
/-- a term: a text, or a tuple of a text and terms -/
def tm : MV → Bool
  | .str _ => true
  | .tup xs => tmT xs
  | _ => false
def tmT : List MV → Bool
  | [] => false
  | h :: xs => isS h && tms xs
def tms : List MV → Bool
  | [] => true
  | x :: xs => tm x && tms xs
end
theorem tms_iff : ∀ {xs : List MV}, tms xs = true ↔ ∀ x ∈ xs, tm x = true
  | [] => by simp [tms]
  | x :: xs => by simp [tms, tms_iff (xs := xs)]
/-- a term is a text, or a tuple of a text and terms -/
theorem tm_cases {t : MV} (h : tm t = true) (hd : dat t = true) : (∃ s, t = .str s) ∨ ∃ s xs, t = .tup (.str s :: xs) ∧ dat (.str s) = true ∧ (∀ x ∈ xs, tm x = true ∧ dat x = true) := by
  cases t with
  | str s => exact .inl ⟨s, rfl⟩
  | tup ys =>
    cases ys with
    | nil => simp [tm, tmT] at h
    | cons y xs =>
      simp only [tm, tmT, Bool.and_eq_true] at h
      cases y with
      | str s =>
        have hds : dats (.str s :: xs) = true := by unfold dat at hd; exact hd
        exact .inr ⟨s, xs, rfl, dats_iff.mp hds _ (by simp), fun x hx => ⟨tms_iff.mp h.2 x hx, dats_iff.mp hds x (List.mem_cons_of_mem _ hx)⟩⟩
      | _ => simp [isS] at h
  | _ => simp [tm] at h
theorem cnt_le {x : MV} {xs : List MV} (h : x ∈ xs) : cnt x ≤ cnts xs := by
  induction xs with
  | nil => simp at h
  | cons y xs ih =>
    simp only [cnts]
    rcases List.mem_cons.mp h with rfl | h
    · omega
    · have := ih h; omega
theorem ints_map {mh : MHp} (ns : List Int) : intsM mh (.lst (ns.map .int)) = some ns := by
  unfold intsM
  show (ns.map MV.int).mapM intOf = some ns
  induction ns with
  | nil => rfl
  | cons n ns ih => rw [List.map_cons, List.mapM_cons, ih]; rfl
theorem ints_map2 {mh : MHp} {α : Type} (xs : List α) (g : α → Int) : intsM mh (.lst (xs.map (MV.int ∘ g))) = some (xs.map g) := by
  have := ints_map (mh := mh) (xs.map g)
  rw [List.map_map] at this
  exact this
theorem cut1 (h : MV) (xs : List MV) : cut (h :: xs) (some 1) none = xs := by
  have := cut_drop (xs := h :: xs) (k := 1)
  simpa using this
/-- the part at a position -/
def atF : MV → List Int → Option MV
  | t, [] => some t
  | .tup xs, i :: is => (idx xs i).bind fun x => atF x is
  | _, _ :: _ => none
theorem atF_dat : ∀ (is : List Int) (t r : MV), dat t = true → atF t is = some r → dat r = true
  | [], t, r, h, e => by simp only [atF] at e; cases e; exact h
  | i :: is, t, r, h, e => by
    cases t with
    | tup xs =>
      simp only [atF, Option.bind_eq_some_iff] at e
      obtain ⟨x, e1, e2⟩ := e
      have hx : x ∈ xs := by
        unfold idx L2.atI at e1
        obtain ⟨j, _, e3⟩ := Option.bind_eq_some_iff.mp e1
        exact List.mem_of_getElem? e3
      exact atF_dat is x r (dats_iff.mp (by unfold dat at h; exact h) x hx) e2
    | _ => simp [atF] at e
abbrev atB : List MS := [(.set (.nm 0) (.sub (.var 0) (.var 2)))]
theorem at_loop {C : CallF} {b : Nat} {p : Option MV} {mh : MHp} {J : Its} (hJ : J.src = none) : ∀ (is : List Int) (t r : MV) (o : Option MV), atF t is = some r →
    ∃ o', forGo J (forF C b (.nm 2) atB) (is.map .int) [some t, p, o] mh = some (.nx, [some r, p, o'], mh)
  | [], t, r, o, e => by simp only [atF] at e; cases e; exact ⟨o, forGo_nil_of hJ⟩
  | i :: is, t, r, o, e => by
    cases t with
    | tup xs =>
      simp only [atF, Option.bind_eq_some_iff] at e
      obtain ⟨x, e1, e2⟩ := e
      have st : forF C b (.nm 2) atB (.int i) [some (.tup xs), p, o] mh = some (.nx, [some x, p, some (.int i)], mh) := by
        simp [forF, asg, exs, ex, ev, subV, e1]
      rw [List.map_cons, forGo_cons_of hJ, st]
      exact at_loop hJ is x r _ e2
    | _ => simp [atF] at e
def latD : Df := ⟨2, 3, false, [(.for (.nm 2) (.var 1) atB), (.ret (.var 0))]⟩
theorem at_ok {T : List Df} {f : Nat} (hT : T[f]? = some latD) (k : Nat) {t r : MV} {is : List Int} (mh : MHp) (hd : dat t = true) (e : atF t is = some r) : callM T (k + 1) f [t, .tup (is.map .int)] mh = some (r, mh) := by
  rw [callM_eq hT]
  obtain ⟨o', h⟩ := at_loop (C := callM T k) (b := mh.length) (p := some (.tup (is.map .int))) (mh := mh) (J := ⟨is.map .int, none⟩) rfl is t r none e
  refine run_of' rfl rfl (ρ := [some r, some (.tup (is.map .int)), o']) (fl := .rt r) ?_ rfl (atF_dat is t r hd e) rfl
  have ei : evI (callM T k) mh.length (.var 1) [some t, some (.tup (is.map .int)), none] mh = some (⟨is.map .int, none⟩, mh) := by simp [evI, ev, itsOf]
  show exs (callM T k) mh.length latD.body [some t, some (.tup (is.map .int)), none] mh = _
  rw [latD, exs, ex_for, ei]
  simp only
  rw [h]
  simp [exs, ex, ev]
/-- a position as a value -/
abbrev pV (p : List Int) : MV := .tup (p.map .int)
mutual
/-- the positions of a term -/
def pls : MV → List (List Int)
  | .tup xs => [] :: plsT xs
  | _ => [[]]
def plsT : List MV → List (List Int)
  | [] => []
  | _ :: xs => plsL 1 xs
def plsL : Nat → List MV → List (List Int)
  | _, [] => []
  | k, x :: xs => (pls x).map (fun p => (k : Int) :: p) ++ plsL (k + 1) xs
end
mutual
theorem pls_len : ∀ t, (pls t).length = cnt t
  | .tup [] => by simp [pls, plsT, cnt, cntT]
  | .tup (_ :: xs) => by
    have := plsL_len 1 xs
    simp only [pls, plsT, cnt, cntT, List.length_cons]
    omega
  | .str _ => by simp [pls, cnt]
  | .non => by simp [pls, cnt]
  | .bl _ => by simp [pls, cnt]
  | .int _ => by simp [pls, cnt]
  | .fn _ => by simp [pls, cnt]
  | .lst _ => by simp [pls, cnt]
  | .loc _ => by simp [pls, cnt]
  | .dct _ _ => by simp [pls, cnt]
  | .scr _ => by simp [pls, cnt]
theorem plsL_len : ∀ (k : Nat) (xs : List MV), (plsL k xs).length = cnts xs
  | k, [] => by simp [plsL, cnts]
  | k, x :: xs => by
    have h1 := pls_len x
    have h2 := plsL_len (k + 1) xs
    simp only [plsL, cnts, List.length_append, List.length_map]
    omega
end
theorem mem_plsL : ∀ {xs : List MV} {k : Nat} {q : List Int}, q ∈ plsL k xs ↔ ∃ (j : Nat) (x : MV) (p : List Int), xs[j]? = some x ∧ q = ((k + j : Nat) : Int) :: p ∧ p ∈ pls x
  | [], k, q => by simp [plsL]
  | x :: xs, k, q => by
    simp only [plsL, List.mem_append, List.mem_map]
    rw [mem_plsL (xs := xs)]
    constructor
    · rintro (⟨p, hp, rfl⟩ | ⟨j, y, p, h1, h2, h3⟩)
      · exact ⟨0, x, p, rfl, rfl, hp⟩
      · exact ⟨j + 1, y, p, by simpa using h1, by rw [h2]; congr 2; omega, h3⟩
    · rintro ⟨j, y, p, h1, h2, h3⟩
      cases j with
      | zero =>
        simp at h1
        subst h1
        exact .inl ⟨p, h3, h2.symm⟩
      | succ j => exact .inr ⟨j, y, p, by simpa using h1, by rw [h2]; congr 2; omega, h3⟩
theorem nil_pls (t : MV) : [] ∈ pls t := by
  cases t <;> simp [pls]
theorem head_pls (t : MV) : (pls t).head? = some [] := by
  cases t <;> simp [pls]
/-- a position that is not the top -/
theorem cons_pls {t : MV} {i : Int} {p : List Int} : i :: p ∈ pls t ↔ ∃ (h : MV) (xs : List MV) (j : Nat) (x : MV), t = .tup (h :: xs) ∧ i = ((1 + j : Nat) : Int) ∧ xs[j]? = some x ∧ p ∈ pls x := by
  cases t with
  | tup ys =>
    cases ys with
    | nil => simp [pls, plsT]
    | cons h xs =>
      simp only [pls, plsT, List.mem_cons]
      rw [mem_plsL]
      constructor
      · rintro (h | ⟨j, x, q, h1, h2, h3⟩)
        · simp at h
        · simp only [List.cons.injEq] at h2
          obtain ⟨h2, h4⟩ := h2
          subst h4
          exact ⟨h, xs, j, x, rfl, h2, h1, h3⟩
      · rintro ⟨h', xs', j, x, e, h2, h1, h3⟩
        simp only [MV.tup.injEq, List.cons.injEq] at e
        obtain ⟨e1, e2⟩ := e
        subst e1 e2
        exact .inr ⟨j, x, p, h1, by rw [h2], h3⟩
  | _ => simp [pls]
theorem get_cons1 {h : MV} {xs : List MV} {j : Nat} {x : MV} (e : xs[j]? = some x) : (h :: xs)[1 + j]? = some x := by
  rw [Nat.add_comm]; simpa using e
theorem pls_at : ∀ (p : List Int) (t : MV), p ∈ pls t → ∃ r, atF t p = some r
  | [], t, _ => ⟨t, by cases t <;> rfl⟩
  | i :: p, t, h => by
    obtain ⟨hd, xs, j, x, rfl, rfl, h1, h2⟩ := cons_pls.mp h
    obtain ⟨r, e⟩ := pls_at p x h2
    refine ⟨r, ?_⟩
    simp only [atF]
    rw [idx_nat (get_cons1 h1)]
    exact e
theorem cnt_get {xs : List MV} {j : Nat} {x : MV} (e : xs[j]? = some x) : cnt x ≤ cnts xs := cnt_le (List.mem_of_getElem? e)
theorem pls_plen : ∀ (p : List Int) (t : MV), p ∈ pls t → p.length < cnt t
  | [], t, _ => by have := cnt_pos t; simp; omega
  | i :: p, t, h => by
    obtain ⟨hd, xs, j, x, rfl, rfl, h1, h2⟩ := cons_pls.mp h
    have := pls_plen p x h2
    have := cnt_get h1
    simp only [List.length_cons, cnt, cntT]
    omega
mutual
theorem pls_ord : ∀ t, (pls t).Pairwise fun a b => HT.lexLt b a = false
  | .tup [] => by simp [pls, plsT]
  | .tup (_ :: xs) => by
    simp only [pls, plsT]
    refine List.pairwise_cons.mpr ⟨fun b _ => ?_, plsL_ord 1 xs⟩
    cases b <;> simp [HT.lexLt]
  | .str _ => by simp [pls]
  | .non => by simp [pls]
  | .bl _ => by simp [pls]
  | .int _ => by simp [pls]
  | .fn _ => by simp [pls]
  | .lst _ => by simp [pls]
  | .loc _ => by simp [pls]
  | .dct _ _ => by simp [pls]
  | .scr _ => by simp [pls]
theorem plsL_ord : ∀ (k : Nat) (xs : List MV), (plsL k xs).Pairwise fun a b => HT.lexLt b a = false
  | k, [] => by simp [plsL]
  | k, x :: xs => by
    simp only [plsL]
    refine List.pairwise_append.mpr ⟨?_, plsL_ord (k + 1) xs, ?_⟩
    · rw [List.pairwise_map]
      exact (pls_ord x).imp fun {a b} h => by simp [HT.lexLt, h]
    · intro a ha b hb
      obtain ⟨p, _, rfl⟩ := List.mem_map.mp ha
      obtain ⟨j, y, q, _, rfl, _⟩ := mem_plsL.mp hb
      have h1 : ¬ (((k + 1 + j : Nat) : Int) < (k : Int)) := by omega
      have h2 : ¬ (((k + 1 + j : Nat) : Int) = (k : Int)) := by omega
      rw [HT.lexLt_cons, if_neg h2]
      exact decide_eq_false h1
end
theorem pV_dat (p : List Int) : dat (pV p) = true := by
  unfold dat
  exact dats_iff.mpr fun x hx => by obtain ⟨i, _, rfl⟩ := List.mem_map.mp hx; rfl
theorem pV_dats (ps : List (List Int)) : dats (ps.map pV) = true := dats_iff.mpr fun x hx => by
  obtain ⟨p, _, rfl⟩ := List.mem_map.mp hx
  exact pV_dat p
/-- the whole numbers from k on -/
def upto : Nat → Nat → List MV
  | _, 0 => []
  | k, n + 1 => .int (k : Int) :: upto (k + 1) n
theorem upto_eq : ∀ (n k : Nat), (List.range n).map (fun (j : Nat) => MV.int ((k : Int) + (j : Int))) = upto k n
  | 0, k => rfl
  | n + 1, k => by
    have e : (List.range n).map (fun (j : Nat) => MV.int ((k : Int) + ((j + 1 : Nat) : Int))) = (List.range n).map fun (j : Nat) => MV.int (((k + 1 : Nat) : Int) + (j : Int)) := List.map_congr_left fun j _ => by
      rw [show (k : Int) + ((j + 1 : Nat) : Int) = ((k + 1 : Nat) : Int) + (j : Int) by omega]
    have h0 : MV.int ((k : Int) + ((0 : Nat) : Int)) = MV.int (k : Int) := by simp
    rw [List.range_succ_eq_map, List.map_cons, List.map_map, upto, ← upto_eq n (k + 1), ← e, h0]
    rfl
/-- the positions of one part, with its number ahead -/
theorem pos_comp {C : CallF} {b k : Nat} {e : ME} {x : MV} {ρ : Env} {mh : MHp} (hρ : ρ.length = 4) (h2 : ρ[2]? = some (some (.int (k : Int)))) (hc : ev C b e ρ mh = some (.lst ((pls x).map pV), mh)) (hI : evI C b e ρ mh = some (⟨(pls x).map pV, none⟩, mh)) (hl : cnt x ≤ 4000000) :
    ev C b (.comp (.nm 3) [3] e (.c (.bl true)) (.bin .add (.tup [(.var 2)]) (.var 3))) ρ mh = some (.lst (((pls x).map fun p => (k : Int) :: p).map pV), mh) := by
  have hz : ((pls x).map pV).length ≤ line := by rw [List.length_map, pls_len]; unfold line; omega
  rw [ev_compq, hI]
  simp only [hz, if_true]
  rw [compGo_pure rfl (g := fun v => match v with | .tup ps => some (.tup (.int (k : Int) :: ps)) | _ => none)]
  · simp only
    congr 3
    rw [List.filterMap_map, List.map_map, ← List.filterMap_eq_map]
    rfl
  · intro v hv
    obtain ⟨p, hp, rfl⟩ := List.mem_map.mp hv
    have hpl := pls_plen p x hp
    have z1 : 1 ≤ line := by unfold line; omega
    have z2 : 1 + p.length ≤ line := by unfold line; omega
    obtain ⟨a, b, c, d, rfl⟩ : ∃ a b c d, ρ = [a, b, c, d] := by
      match ρ, hρ with
      | [a, b, c, d], _ => exact ⟨a, b, c, d, rfl⟩
    simp at h2
    subst h2
    simp [compF, asg, wipeE, ev, evs, z1, binV, addV, z2]
abbrev plBody (f : Nat) : List MS := [(.set (.nm 1) (.bin .add (.var 1) (.comp (.nm 3) [3] (.call f [(.sub (.var 0) (.var 2))]) (.c (.bl true)) (.bin .add (.tup [(.var 2)]) (.var 3)))))]
theorem pl_loop {C : CallF} {b f : Nat} {all : List MV} {mh : MHp} {J : Its} (hJ : J.src = none) : ∀ (xs : List MV) (k : Nat) (acc : List (List Int)) (o : Option MV), all.drop k = xs → (∀ x ∈ xs, C f [x] mh = some (.lst ((pls x).map pV), mh)) → acc.length + cnts xs ≤ 8000000 → cnts xs ≤ 4000000 →
    ∃ o', forGo J (forF C b (.nm 2) (plBody f)) (upto k xs.length) [some (.tup all), some (.lst (acc.map pV)), o, none] mh = some (.nx, [some (.tup all), some (.lst ((acc ++ plsL k xs).map pV)), o', none], mh)
  | [], k, acc, o, _, _, _, _ => ⟨o, by simp only [plsL, List.append_nil]; exact forGo_nil_of hJ⟩
  | x :: xs, k, acc, o, hd, hC, hl, hl2 => by
    have hk : all[k]? = some x := by
      have := congrArg (·[0]?) hd
      simpa using this
    have hd' : all.drop (k + 1) = xs := by
      have := congrArg (·.drop 1) hd
      simpa using this
    simp only [cnts] at hl hl2
    have hc := hC x (by simp)
    have v1 : ev C b (.call f [(.sub (.var 0) (.var 2))]) [some (.tup all), some (.lst (acc.map pV)), some (.int (k : Int)), none] mh = some (.lst ((pls x).map pV), mh) := by
      simp [ev, evs, subV, idx_nat hk, hc]
    have v2 : evI C b (.call f [(.sub (.var 0) (.var 2))]) [some (.tup all), some (.lst (acc.map pV)), some (.int (k : Int)), none] mh = some (⟨(pls x).map pV, none⟩, mh) := by
      simp [evI, ev, evs, subV, idx_nat hk, hc, itsOf]
    have hcomp := pos_comp (k := k) (x := x) rfl rfl v1 v2 (by omega)
    obtain ⟨F, hF⟩ : ∃ F, F = (pls x).map fun p => (k : Int) :: p := ⟨_, rfl⟩
    have hFl : F.length = cnt x := by rw [hF, List.length_map, pls_len]
    rw [← hF] at hcomp
    have hz2 : acc.length + F.length ≤ line := by unfold line; omega
    have st : forF C b (.nm 2) (plBody f) (.int (k : Int)) [some (.tup all), some (.lst (acc.map pV)), o, none] mh = some (.nx, [some (.tup all), some (.lst ((acc ++ F).map pV)), some (.int (k : Int)), none], mh) := by
      simp [forF, asg, plBody, exs, ex, ev, ↓hcomp, binV, addV, getL, hz2]
    rw [List.length_cons, upto, forGo_cons_of hJ, st]
    obtain ⟨o', e⟩ := pl_loop hJ xs (k + 1) (acc ++ F) (some (.int (k : Int))) hd' (fun y hy => hC y (List.mem_cons_of_mem _ hy)) (by rw [List.length_append]; omega) (by omega)
    refine ⟨o', ?_⟩
    simp only [plsL]
    rw [← hF, ← List.append_assoc]
    exact e
def lplacesD (f : Nat) : Df := ⟨1, 4, false, [(.ite (.isi (.var 0) .str) [(.ret (.lst [(.tup [])]))] []), (.set (.nm 1) (.lst [(.tup [])])), (.for (.nm 2) (.rng2 (.c (.int (1))) (.bi .len [(.var 0)])) (plBody f)), (.ret (.var 1))]⟩
theorem dep_mem {h x : MV} {xs : List MV} (hx : x ∈ xs) : dep x + 1 ≤ dep (.tup (h :: xs)) := by
  have : dep x ≤ deps xs := by
    clear h
    induction xs with
    | nil => simp at hx
    | cons y xs ih =>
      simp only [deps]
      rcases List.mem_cons.mp hx with rfl | hx
      · omega
      · have := ih hx; omega
  simp only [dep, deps]
  omega
theorem places_ok {T : List Df} {f : Nat} (hT : T[f]? = some (lplacesD f)) : ∀ (D k : Nat) (t : MV) (mh : MHp), dep t ≤ D → cnt t ≤ 4000000 → tm t = true → dat t = true → callM T (k + D + 1) f [t] mh = some (.lst ((pls t).map pV), mh) := by
  intro D
  induction D with
  | zero =>
    intro k t mh hD hN ht hd
    rw [callM_eq hT]
    have z1 : 1 ≤ line := by unfold line; omega
    have z0 : 0 ≤ line := by unfold line; omega
    have hdv : dat (.lst ((pls t).map pV)) = true := by unfold dat; exact pV_dats _
    rcases tm_cases ht hd with ⟨s, rfl⟩ | ⟨s, xs, rfl, hds, hx⟩
    · refine run_of' rfl rfl (ρ := [some (.str s), none, none, none]) (fl := .rt (.lst ((pls (.str s)).map pV))) ?_ rfl hdv rfl
      simp [lplacesD, exs, ex, ev, evs, isTy, pls, z1, z0]
    · simp [dep] at hD
  | succ D ih =>
    intro k t mh hD hN ht hd
    rw [show k + (D + 1) + 1 = (k + D + 1) + 1 by omega, callM_eq hT]
    have z1 : 1 ≤ line := by unfold line; omega
    have z0 : 0 ≤ line := by unfold line; omega
    have hdv : dat (.lst ((pls t).map pV)) = true := by unfold dat; exact pV_dats _
    rcases tm_cases ht hd with ⟨s, rfl⟩ | ⟨s, xs, rfl, hds, hx⟩
    · refine run_of' rfl rfl (ρ := [some (.str s), none, none, none]) (fl := .rt (.lst ((pls (.str s)).map pV))) ?_ rfl hdv rfl
      simp [lplacesD, exs, ex, ev, evs, isTy, pls, z1, z0]
    · have hN' := hN
      simp only [cnt, cntT] at hN
      have hlx := len_cnts xs
      obtain ⟨o', e⟩ := pl_loop (C := callM T (k + D + 1)) (b := mh.length) (f := f) (all := .str s :: xs) (mh := mh) (J := ⟨upto 1 xs.length, none⟩) rfl xs 1 [[]] none rfl (fun x hxm => ih k x mh (by have := dep_mem (h := .str s) hxm; omega) (by have := cnt_le hxm; omega) (hx x hxm).1 (hx x hxm).2) (by simp; omega) (by omega)
      have e' : forGo ⟨upto 1 xs.length, none⟩ (forF (callM T (k + D + 1)) mh.length (.nm 2) (plBody f)) (upto 1 xs.length) [some (.tup (.str s :: xs)), some (.lst [.tup []]), none, none] mh = _ := e
      refine run_of' rfl rfl (ρ := [some (.tup (.str s :: xs)), some (.lst ((pls (.tup (.str s :: xs))).map pV)), o', none]) (fl := .rt (.lst ((pls (.tup (.str s :: xs))).map pV))) ?_ rfl hdv rfl
      have ei : evI (callM T (k + D + 1)) mh.length (.rng2 (.c (.int (1))) (.bi .len [(.var 0)])) [some (.tup (.str s :: xs)), some (.lst [.tup []]), none, none] mh = some (⟨upto 1 xs.length, none⟩, mh) := by
        have u := upto_eq xs.length 1
        have b2 : (xs.length : Int) + 1 < 4611686018427387904 := by omega
        have b3 : (-4611686018427387904 : Int) ≤ (xs.length : Int) + 1 := by omega
        simp only [Int.natCast_one] at u
        simp [evI, ev, evs, biV, one1, lenV, b2, b3, u]
      have s1 : ex (callM T (k + D + 1)) mh.length (.ite (.isi (.var 0) .str) [(.ret (.lst [(.tup [])]))] []) [some (.tup (.str s :: xs)), none, none, none] mh = some (.nx, [some (.tup (.str s :: xs)), none, none, none], mh) := by
        simp [ex, exs, ev, evs, isTy]
      have s2 : ex (callM T (k + D + 1)) mh.length (.set (.nm 1) (.lst [(.tup [])])) [some (.tup (.str s :: xs)), none, none, none] mh = some (.nx, [some (.tup (.str s :: xs)), some (.lst [.tup []]), none, none], mh) := by
        simp [ex, ev, evs, asg, z0, z1]
      show exs (callM T (k + D + 1)) mh.length (lplacesD f).body [some (.tup (.str s :: xs)), none, none, none] mh = _
      rw [lplacesD, exs, s1]
      simp only
      rw [exs, s2]
      simp only
      rw [exs, ex_for, ei]
      simp only
      rw [e']
      simp only [exs, ex, ev]
      simp [pls, plsT]
/-- the def that puts, calling itself by its number -/
def putD (f : Nat) : Df := ⟨3, 4, false, [(.ite (.cmp .eq (.bi .len [(.var 1)]) (.c (.int (0)))) [(.ret (.var 2))] []), (.set (.nm 3) (.sub (.var 1) (.c (.int (0))))), (.ret (.bin .add (.bin .add (.slcH (.var 0) (.var 3)) (.tup [(.call f [(.sub (.var 0) (.var 3)), (.slcL (.var 1) (.c (.int (1)))), (.var 2)])])) (.slcL (.var 0) (.bin .add (.var 3) (.c (.int (1)))))))]⟩
theorem deps_app (xs ys : List MV) : deps (xs ++ ys) = max (deps xs) (deps ys) := by
  induction xs with
  | nil => simp [deps]
  | cons x xs ih => simp only [List.cons_append, deps, ih]; omega
theorem deps_take (k : Nat) (xs : List MV) : deps (xs.take k) ≤ deps xs := by
  have h := deps_app (xs.take k) (xs.drop k)
  rw [List.take_append_drop] at h
  omega
theorem deps_drop (k : Nat) (xs : List MV) : deps (xs.drop k) ≤ deps xs := by
  have h := deps_app (xs.take k) (xs.drop k)
  rw [List.take_append_drop] at h
  omega
theorem deps_mem {x : MV} {xs : List MV} (h : x ∈ xs) : dep x ≤ deps xs := by
  induction xs with
  | nil => simp at h
  | cons y xs ih =>
    simp only [deps]
    rcases List.mem_cons.mp h with rfl | h
    · omega
    · have := ih h; omega
theorem dats_take {k : Nat} {xs : List MV} (h : dats xs = true) : dats (xs.take k) = true := dats_iff.mpr fun x hx => dats_iff.mp h x (List.mem_of_mem_take hx)
theorem dats_drop {k : Nat} {xs : List MV} (h : dats xs = true) : dats (xs.drop k) = true := dats_iff.mpr fun x hx => dats_iff.mp h x (List.mem_of_mem_drop hx)
/-! terms whose signs have their numbers of places -/
mutual
def tmA (ar : Sx → Option Nat) : MV → Bool
  | .str _ => true
  | .tup xs => tmAT ar xs
  | _ => false
def tmAT (ar : Sx → Option Nat) : List MV → Bool
  | [] => false
  | h :: xs => (match h with
    | .str s => decide (ar s = some xs.length)
    | _ => false) && tmAs ar xs
def tmAs (ar : Sx → Option Nat) : List MV → Bool
  | [] => true
  | x :: xs => tmA ar x && tmAs ar xs
end
theorem tmAs_iff {ar : Sx → Option Nat} : ∀ {xs : List MV}, tmAs ar xs = true ↔ ∀ x ∈ xs, tmA ar x = true
  | [] => by simp [tmAs]
  | x :: xs => by simp [tmAs, tmAs_iff (xs := xs)]
mutual
theorem tmA_tm {ar : Sx → Option Nat} : ∀ t, tmA ar t = true → tm t = true
  | .str _, _ => rfl
  | .tup [], h => by simp [tmA, tmAT] at h
  | .tup (y :: xs), h => by
    simp only [tmA, tmAT, Bool.and_eq_true] at h
    simp only [tm, tmT, Bool.and_eq_true]
    refine ⟨?_, tmAs_tms xs h.2⟩
    cases y with
    | str s => rfl
    | _ => cases h.1
  | .non, h => by simp [tmA] at h
  | .bl _, h => by simp [tmA] at h
  | .int _, h => by simp [tmA] at h
  | .fn _, h => by simp [tmA] at h
  | .lst _, h => by simp [tmA] at h
  | .loc _, h => by simp [tmA] at h
  | .dct _ _, h => by simp [tmA] at h
  | .scr _, h => by simp [tmA] at h
theorem tmAs_tms {ar : Sx → Option Nat} : ∀ xs, tmAs ar xs = true → tms xs = true
  | [], _ => rfl
  | x :: xs, h => by
    simp only [tmAs, Bool.and_eq_true] at h
    simp only [tms, Bool.and_eq_true]
    exact ⟨tmA_tm x h.1, tmAs_tms xs h.2⟩
end
theorem tmA_cases {ar : Sx → Option Nat} {t : MV} (h : tmA ar t = true) (hd : dat t = true) : (∃ s, t = .str s) ∨ ∃ s xs, t = .tup (.str s :: xs) ∧ ar s = some xs.length ∧ dat (.str s) = true ∧ (∀ x ∈ xs, tmA ar x = true ∧ dat x = true) := by
  rcases tm_cases (tmA_tm t h) hd with ⟨s, rfl⟩ | ⟨s, xs, rfl, h1, h2⟩
  · exact .inl ⟨s, rfl⟩
  · simp only [tmA, tmAT, Bool.and_eq_true, decide_eq_true_eq] at h
    exact .inr ⟨s, xs, rfl, h.1, h1, fun x hx => ⟨tmAs_iff.mp h.2 x hx, (h2 x hx).2⟩⟩
theorem tmA_tup {ar : Sx → Option Nat} {s : Sx} {xs : List MV} (h : ar s = some xs.length) (hx : ∀ x ∈ xs, tmA ar x = true) : tmA ar (.tup (.str s :: xs)) = true := by
  simp only [tmA, tmAT, Bool.and_eq_true, decide_eq_true_eq]
  exact ⟨h, tmAs_iff.mpr hx⟩
theorem set_split {h0 u : MV} {xs : List MV} {j : Nat} (hj : j < xs.length) : (h0 :: xs).take (1 + j) ++ [u] ++ (h0 :: xs).drop (1 + j + 1) = h0 :: xs.set j u := by
  rw [List.set_eq_take_append_cons_drop, if_pos hj, Nat.add_comm 1 j]
  simp
theorem cnts_set {u x : MV} : ∀ {xs : List MV} {j : Nat}, xs[j]? = some x → cnts (xs.set j u) + cnt x = cnts xs + cnt u
  | [], j, e => by simp at e
  | y :: xs, 0, e => by simp at e; subst e; simp only [List.set_cons_zero, cnts]; omega
  | y :: xs, j + 1, e => by
    have := cnts_set (u := u) (xs := xs) (j := j) (by simpa using e)
    simp only [List.set_cons_succ, cnts]
    omega
theorem put_ok {T : List Df} {r : MV} (hr : dat r = true) : ∀ (p : List Int) (t : MV), p ∈ pls t → cnt t ≤ 4000000 → dat t = true → ∃ u, dat u = true ∧ dep u ≤ dep t + dep r ∧ ((∀ ar, tmA ar t = true → tmA ar r = true → tmA ar u = true) ∧ cnt u ≤ cnt t + cnt r) ∧ ∀ f, T[f]? = some (putD f) → ∀ (k : Nat) (mh : MHp), callM T (k + p.length + 1) f [t, pV p, r] mh = some (u, mh)
  | [], t, _, _, hd => by
    refine ⟨r, hr, by omega, ⟨fun _ _ h => h, by omega⟩, fun f hf k mh => ?_⟩
    rw [callM_eq hf]
    refine run_of' rfl rfl (ρ := [some t, some (pV []), some r, none]) (fl := .rt r) ?_ rfl hr rfl
    simp [putD, exs, ex, ev, evs, biV, one1, lenV, cmpV, eqV_int]
  | i :: p, t, h, hc, hd => by
    obtain ⟨h0, xs, j, x, rfl, rfl, h1, h2⟩ := cons_pls.mp h
    simp only [cnt, cntT] at hc
    have hg := get_cons1 (h := h0) h1
    have hds : dats (h0 :: xs) = true := by unfold dat at hd; exact hd
    have hxm : x ∈ h0 :: xs := List.mem_of_getElem? hg
    obtain ⟨u, du, pu, ⟨au, cu⟩, hu⟩ := put_ok hr p x h2 (by have := cnt_get h1; omega) (dats_iff.mp hds x hxm)
    have hlx := len_cnts xs
    obtain ⟨A, hA⟩ : ∃ A, A = (h0 :: xs).take (1 + j) := ⟨_, rfl⟩
    obtain ⟨B, hB⟩ : ∃ B, B = (h0 :: xs).drop (1 + j + 1) := ⟨_, rfl⟩
    have dA : dats A = true := by rw [hA]; exact dats_take hds
    have dB : dats B = true := by rw [hB]; exact dats_drop hds
    have lA : A.length ≤ 4000001 := by rw [hA, List.length_take, List.length_cons]; omega
    have lB : B.length ≤ 4000001 := by rw [hB, List.length_drop, List.length_cons]; omega
    have pA := deps_take (1 + j) (h0 :: xs)
    have pB := deps_drop (1 + j + 1) (h0 :: xs)
    have px := deps_mem hxm
    rw [← hA] at pA
    rw [← hB] at pB
    have hsp : A ++ [u] ++ B = h0 :: xs.set j u := by rw [hA, hB]; exact set_split (List.getElem?_eq_some_iff.mp h1).1
    have hcs := cnts_set (u := u) h1
    refine ⟨.tup (A ++ [u] ++ B), ?_, ?_, ⟨fun ar ht hr' => ?_, ?_⟩, fun f hf k mh => ?_⟩
    rotate_left 2
    · rw [hsp]
      rcases tmA_cases ht hd with ⟨s, e⟩ | ⟨s, ys, e, a1, a2, a3⟩
      · cases e
      · cases e
        refine tmA_tup (by rw [List.length_set]; exact a1) fun y hy => ?_
        rcases List.mem_or_eq_of_mem_set hy with hy | rfl
        · exact (a3 y hy).1
        · exact au ar (a3 x (List.mem_of_getElem? h1)).1 hr'
    · rw [hsp]
      simp only [cnt, cntT]
      omega
    rotate_left 1
    · unfold dat
      rw [dats_app, dats_app, dA, dB]
      simp [dats, du]
    · simp only [dep, deps_app, deps]
      simp only [deps] at pA pB px
      omega
    · rw [List.length_cons, show k + (p.length + 1) + 1 = (k + p.length + 1) + 1 by omega, callM_eq hf]
      have hdr : dat (.tup (A ++ [u] ++ B)) = true := by
        unfold dat
        rw [dats_app, dats_app, dA, dB]
        simp [dats, du]
      have hrec := hu f hf k mh
      have c1 : cut (h0 :: xs) none (some ((1 + j : Nat) : Int)) = A := by rw [cut_take, hA]
      have c2 : cut (h0 :: xs) (some (((1 + j : Nat) : Int) + 1)) none = B := by
        have := cut_drop (xs := h0 :: xs) (k := 1 + j + 1)
        rw [show ((1 + j + 1 : Nat) : Int) = ((1 + j : Nat) : Int) + 1 by omega] at this
        rw [this, hB]
      have c3 : cut (MV.int ((1 + j : Nat) : Int) :: p.map MV.int) (some 1) none = p.map MV.int := cut1 _ _
      have c4 := idx_nat hg
      have z1 : A.length + 1 ≤ line := by unfold line; omega
      have z2 : A.length + 1 + B.length ≤ line := by unfold line; omega
      have z3 : 1 ≤ line := by unfold line; omega
      have z4 : ¬ ((p.length : Int) + 1 = 0) := by omega
      have s1 : exs (callM T (k + p.length + 1)) mh.length [(.ite (.cmp .eq (.bi .len [(.var 1)]) (.c (.int (0)))) [(.ret (.var 2))] []), (.set (.nm 3) (.sub (.var 1) (.c (.int (0)))))] [some (.tup (h0 :: xs)), some (pV (((1 + j : Nat) : Int) :: p)), some r, none] mh = some (.nx, [some (.tup (h0 :: xs)), some (pV (((1 + j : Nat) : Int) :: p)), some r, some (.int ((1 + j : Nat) : Int))], mh) := by
        simp [exs, ex, ev, evs, biV, one1, lenV, cmpV, eqV_int, z4, subV, atI0, asg]
      generalize ((1 + j : Nat) : Int) = q at c1 c2 c3 c4 s1 ⊢
      have hrec' : callM T (k + p.length + 1) f [x, .tup (p.map .int), r] mh = some (u, mh) := hrec
      refine run_of' rfl rfl (ρ := [some (.tup (h0 :: xs)), some (pV (q :: p)), some r, some (.int q)]) (fl := .rt (.tup (A ++ [u] ++ B))) ?_ rfl hdr rfl
      show exs (callM T (k + p.length + 1)) mh.length (putD f).body [some (.tup (h0 :: xs)), some (pV (q :: p)), some r, none] mh = _
      rw [putD]
      have s2 : exs (callM T (k + p.length + 1)) mh.length [(.ret (.bin .add (.bin .add (.slcH (.var 0) (.var 3)) (.tup [(.call f [(.sub (.var 0) (.var 3)), (.slcL (.var 1) (.c (.int (1)))), (.var 2)])])) (.slcL (.var 0) (.bin .add (.var 3) (.c (.int (1)))))))] [some (.tup (h0 :: xs)), some (.tup (.int q :: p.map .int)), some r, some (.int q)] mh = some (.rt (.tup (A ++ [u] ++ B)), [some (.tup (h0 :: xs)), some (.tup (.int q :: p.map .int)), some r, some (.int q)], mh) := by
        simp [exs, ex, ev, evs, slcV, subV, c1, c2, c3, c4, hrec', z1, z2, z3, binV, addV]
      rcases exs_cons s1 with ⟨ρ2, mh2, e1, e2⟩ | ⟨_, hn⟩
      · rcases exs_cons e2 with ⟨ρ3, mh3, e3, e4⟩ | ⟨_, hn⟩
        · simp only [exs] at e4
          cases e4
          rw [exs, e1]
          simp only
          rw [exs, e3]
          exact s2
        · exact absurd rfl hn
      · exact absurd rfl hn
end L2.Mi

set_option Elab.async false
set_option linter.all false
set_option maxRecDepth 100000
set_option maxHeartbeats 4000000
/-! Ev6: values with dicts; dicts as lists of pairs; == of terms. -/
namespace L2.Mi
open PySem PySem.Spec PyProof.Rows
mutual
/-- no live object; dicts may stand within -/
def dat2 : MV → Bool
  | .non => true
  | .bl _ => true
  | .int _ => true
  | .str s => dat (.str s)
  | .tup xs => dat2s xs
  | .lst xs => dat2s xs
  | .dct _ vs => dat2s vs
  | .fn _ => false
  | .loc _ => false
  | .scr _ => false
def dat2s : List MV → Bool
  | [] => true
  | x :: xs => dat2 x && dat2s xs
end
mutual
theorem frz_dat2 {n : Nat} {mh : MHp} {k : Nat} : ∀ x : MV, dat2 x = true → frz n mh k x = some x
  | .non, _ => by unfold frz; rfl
  | .bl _, _ => by unfold frz; rfl
  | .int _, _ => by unfold frz; rfl
  | .str _, _ => by unfold frz; rfl
  | .fn _, h => by unfold dat2 at h; cases h
  | .scr _, h => by unfold dat2 at h; cases h
  | .loc _, h => by unfold dat2 at h; cases h
  | .dct ks vs, h => by
    unfold dat2 at h
    unfold frz
    rw [frzs_dat2 vs h]; rfl
  | .tup xs, h => by
    unfold dat2 at h
    unfold frz
    rw [frzs_dat2 xs h]; rfl
  | .lst xs, h => by
    unfold dat2 at h
    unfold frz
    rw [frzs_dat2 xs h]; rfl
theorem frzs_dat2 {n : Nat} {mh : MHp} {k : Nat} : ∀ xs : List MV, dat2s xs = true → frzs n mh k xs = some xs
  | [], _ => by unfold frzs; rfl
  | x :: xs, h => by
    unfold dat2s at h
    rw [Bool.and_eq_true] at h
    unfold frzs
    rw [frz_dat2 x h.1, frzs_dat2 xs h.2]; rfl
end
mutual
theorem dat_dat2 : ∀ x : MV, dat x = true → dat2 x = true
  | .non, _ => rfl
  | .bl _, _ => rfl
  | .int _, _ => rfl
  | .str _, h => by unfold dat2; exact h
  | .fn _, h => by unfold dat at h; cases h
  | .scr _, h => by unfold dat at h; cases h
  | .loc _, h => by unfold dat at h; cases h
  | .dct _ _, h => by unfold dat at h; cases h
  | .tup xs, h => by unfold dat at h; unfold dat2; exact dats_dat2 xs h
  | .lst xs, h => by unfold dat at h; unfold dat2; exact dats_dat2 xs h
theorem dats_dat2 : ∀ xs : List MV, dats xs = true → dat2s xs = true
  | [], _ => rfl
  | x :: xs, h => by
    unfold dats at h
    rw [Bool.and_eq_true] at h
    unfold dat2s
    rw [dat_dat2 x h.1, dats_dat2 xs h.2]; rfl
end
theorem dat2s_iff : ∀ {xs : List MV}, dat2s xs = true ↔ ∀ x ∈ xs, dat2 x = true
  | [] => by simp [dat2s]
  | x :: xs => by simp [dat2s, dat2s_iff (xs := xs)]
theorem run_of2 {C : CallF} {d : Df} {args : List MV} {mh mh1 : MHp} {fl : Fl} {ρ : Env} {v : MV} (hl : args.length = d.np) (hv : d.live = false) (e : exs C mh.length d.body (args.map some ++ List.replicate (d.ns - d.np) none) mh = some (fl, ρ, mh1))
    (he : endV fl = some v) (hd : dat2 v = true) : runD C d args mh = some (v, mh1.take mh.length) := by
  unfold runD
  rw [if_pos hl, e]
  simp only [he, hv]
  rw [frz_dat2 v hd]
  rfl
/-- a value that must be read out -/
theorem run_frz2 {C : CallF} {d : Df} {args : List MV} {mh mh1 : MHp} {fl : Fl} {ρ : Env} {v w : MV} (hl : args.length = d.np) (hv : d.live = false) (e : exs C mh.length d.body (args.map some ++ List.replicate (d.ns - d.np) none) mh = some (fl, ρ, mh1))
    (he : endV fl = some v) (hf : frz mh.length mh1 8 v = some w) : runD C d args mh = some (w, mh1.take mh.length) := by
  unfold runD
  rw [if_pos hl, e]
  simp only [he, hv]
  rw [hf]
  rfl
/-! ### == of terms -/
theorem tms_of_tm {xs : List MV} (h : tm (.tup xs) = true) : tms xs = true := by
  cases xs with
  | nil => rfl
  | cons y ys =>
    simp only [tm, tmT, Bool.and_eq_true] at h
    simp only [tms, Bool.and_eq_true]
    refine ⟨?_, h.2⟩
    cases y with
    | str s => rfl
    | _ => cases h.1
mutual
theorem eqD_tm : ∀ t u : MV, tm t = true → tm u = true → PyData.eqv (toD t) (toD u) = true → t = u
  | .str a, .str b, _, _, h => by
    unfold toD PyData.eqv at h
    simp at h
    rw [h]
  | .str a, .tup ys, _, _, h => by unfold toD PyData.eqv at h; cases h
  | .tup xs, .str b, _, _, h => by unfold toD PyData.eqv at h; cases h
  | .tup xs, .tup ys, h1, h2, h => by
    unfold toD PyData.eqv at h
    rw [eqDs_tm xs ys (tms_of_tm h1) (tms_of_tm h2) h]
  | .non, _, h, _, _ => by simp [tm] at h
  | .bl _, _, h, _, _ => by simp [tm] at h
  | .int _, _, h, _, _ => by simp [tm] at h
  | .fn _, _, h, _, _ => by simp [tm] at h
  | .lst _, _, h, _, _ => by simp [tm] at h
  | .loc _, _, h, _, _ => by simp [tm] at h
  | .dct _ _, _, h, _, _ => by simp [tm] at h
  | .scr _, _, h, _, _ => by simp [tm] at h
  | _, .non, _, h, _ => by simp [tm] at h
  | _, .bl _, _, h, _ => by simp [tm] at h
  | _, .int _, _, h, _ => by simp [tm] at h
  | _, .fn _, _, h, _ => by simp [tm] at h
  | _, .lst _, _, h, _ => by simp [tm] at h
  | _, .loc _, _, h, _ => by simp [tm] at h
  | _, .dct _ _, _, h, _ => by simp [tm] at h
  | _, .scr _, _, h, _ => by simp [tm] at h
theorem eqDs_tm : ∀ xs ys : List MV, tms xs = true → tms ys = true → PyData.eqvAll (toDs xs) (toDs ys) = true → xs = ys
  | [], [], _, _, _ => rfl
  | [], _ :: _, _, _, h => by unfold toDs PyData.eqvAll at h; cases h
  | _ :: _, [], _, _, h => by unfold toDs PyData.eqvAll at h; cases h
  | x :: xs, y :: ys, h1, h2, h => by
    simp only [tms, Bool.and_eq_true] at h1 h2
    unfold toDs PyData.eqvAll at h
    rw [Bool.and_eq_true] at h
    rw [eqD_tm x y h1.1 h2.1 h.1, eqDs_tm xs ys h1.2 h2.2 h.2]
end
/-- a term with its bounds -/
structure Tm (ar : Sx → Option Nat) (t : MV) : Prop where
  tm : tmA ar t = true
  dat : dat t = true
  dep : dep t ≤ 30
theorem Tm.tm' {ar : Sx → Option Nat} {t : MV} (h : Tm ar t) : L2.Mi.tm t = true := tmA_tm t h.tm
theorem eqV_tm (mh : MHp) {t u : MV} (h1 : tm t = true) (d1 : dat t = true) (p1 : dep t ≤ 60) (h2 : tm u = true) (d2 : dat u = true) (p2 : dep u ≤ 60) : ∃ b, eqV mh t u = some b ∧ (b = true ↔ t = u) := by
  refine ⟨eqD t u, ?_, ?_⟩
  · unfold eqV
    rw [frz_dat t d1, frz_dat u d2]
    simp only [okD_dat d1 (by omega), okD_dat d2 (by omega), and_self, if_true]
  · constructor
    · intro h
      exact eqD_tm t u h1 h2 h
    · rintro rfl
      exact eqD_refl t d1
/-! ### dicts with texts for keys -/
abbrev AL := List (Sx × MV)
def aK (d : AL) : List MKey := d.map fun p => .inr p.1
def aV (d : AL) : List MV := d.map Prod.snd
def look : AL → Sx → Option MV
  | [], _ => none
  | p :: d, s => if p.1 = s then some p.2 else look d s
theorem aK_len (d : AL) : (aK d).length = d.length := by simp [aK]
theorem aV_len (d : AL) : (aV d).length = d.length := by simp [aV]
theorem dLook_al (s : Sx) : ∀ d : AL, dLook (aK d) (aV d) (.inr s) = look d s
  | [] => rfl
  | p :: d => by
    have ih := dLook_al s d
    simp only [aK, aV, List.map_cons, dLook, look] at ih ⊢
    by_cases h : p.1 = s
    · rw [if_pos h, if_pos (by rw [h])]
    · rw [if_neg h, if_neg (by intro z; exact h (Sum.inr.inj z))]
      exact ih
theorem any_al (s : Sx) : ∀ d : AL, ((aK d).any fun k' => decide (k' = .inr s)) = (look d s).isSome
  | [] => rfl
  | p :: d => by
    have ih := any_al s d
    simp only [aK, List.map_cons, List.any_cons, look] at ih ⊢
    rw [ih]
    by_cases h : p.1 = s
    · rw [if_pos h, decide_eq_true (by rw [h])]; rfl
    · rw [if_neg h, decide_eq_false (by intro z; exact h (Sum.inr.inj z))]; rfl
theorem put_new {d : AL} {s : Sx} {t : MV} (h : look d s = none) : dPutK (aK d) (.inr s) = aK (d ++ [(s, t)]) ∧ dPutV (aK d) (aV d) (.inr s) t = aV (d ++ [(s, t)]) := by
  unfold dPutK dPutV
  rw [any_al, h]
  simp [aK, aV]
theorem look_mem {s : Sx} {t : MV} : ∀ {d : AL}, look d s = some t → (s, t) ∈ d
  | [], h => by simp [look] at h
  | p :: d, h => by
    simp only [look] at h
    by_cases e : p.1 = s
    · rw [if_pos e] at h
      cases h
      subst e
      exact List.mem_cons_self
    · rw [if_neg e] at h
      exact List.mem_cons_of_mem _ (look_mem h)
theorem look_of {s : Sx} {t : MV} : ∀ {d : AL}, (d.map Prod.fst).Nodup → (s, t) ∈ d → look d s = some t
  | [], _, h => by simp at h
  | p :: d, hn, h => by
    rw [List.map_cons, List.nodup_cons] at hn
    simp only [look]
    rcases List.mem_cons.mp h with rfl | h
    · rw [if_pos rfl]
    · have : p.1 ≠ s := fun e => hn.1 (by rw [e]; exact List.mem_map.mpr ⟨_, h, rfl⟩)
      rw [if_neg this]
      exact look_of hn.2 h
theorem look_no {s : Sx} : ∀ {d : AL}, look d s = none → s ∉ d.map Prod.fst
  | [], _ => by simp
  | p :: d, h => by
    simp only [look] at h
    by_cases e : p.1 = s
    · rw [if_pos e] at h; cases h
    · rw [if_neg e] at h
      simp only [List.map_cons, List.mem_cons, not_or]
      exact ⟨fun z => e z.symm, look_no h⟩
theorem put_same {s : Sx} {t : MV} : ∀ {d : AL}, look d s = some t → (d.map Prod.fst).Nodup → dPutK (aK d) (.inr s) = aK d ∧ dPutV (aK d) (aV d) (.inr s) t = aV d := by
  intro d h hn
  unfold dPutK dPutV
  rw [any_al, h]
  refine ⟨rfl, ?_⟩
  simp only [Option.isSome_some, if_true]
  have gen : ∀ d : AL, (d.map Prod.fst).Nodup → (∀ p ∈ d, p.1 = s → p.2 = t) → List.zipWith (fun k' m' => if k' = Sum.inr s then t else m') (aK d) (aV d) = aV d := by
    intro d
    induction d with
    | nil => intro _ _; rfl
    | cons p d ih =>
      intro hn hh
      rw [List.map_cons, List.nodup_cons] at hn
      simp only [aK, aV, List.map_cons, List.zipWith_cons_cons]
      congr 1
      · by_cases e : p.1 = s
        · rw [if_pos (by rw [e])]; exact (hh p List.mem_cons_self e).symm
        · rw [if_neg (by intro z; exact e (Sum.inr.inj z))]
      · exact ih hn.2 fun q hq => hh q (List.mem_cons_of_mem _ hq)
  refine gen d hn fun p hp e => ?_
  have h2 := look_of hn (s := p.1) (t := p.2) hp
  rw [e, h] at h2
  exact (Option.some.inj h2).symm
/-- d holds just the pairs of L -/
structure Rpr (d L : AL) : Prop where
  nd : (d.map Prod.fst).Nodup
  mem : ∀ p, p ∈ d ↔ p ∈ L
/-- no name with two values -/
def Con (L : AL) : Prop := ∀ s t t', (s, t) ∈ L → (s, t') ∈ L → t = t'
theorem Rpr.con {d L : AL} (h : Rpr d L) : Con L := fun s t t' h1 h2 => by
  have e1 := look_of h.nd ((h.mem _).mpr h1)
  have e2 := look_of h.nd ((h.mem _).mpr h2)
  rw [e1] at e2
  exact Option.some.inj e2
theorem Rpr.same {d L : AL} {s : Sx} {t : MV} (h : Rpr d L) (e : look d s = some t) : Rpr d (L ++ [(s, t)]) := ⟨h.nd, fun p => by
  rw [List.mem_append, List.mem_singleton, h.mem]
  constructor
  · exact .inl
  · rintro (z | rfl)
    · exact z
    · exact (h.mem _).mp (look_mem e)⟩
theorem Rpr.new {d L : AL} {s : Sx} {t : MV} (h : Rpr d L) (e : look d s = none) : Rpr (d ++ [(s, t)]) (L ++ [(s, t)]) := by
  refine ⟨?_, fun p => by rw [List.mem_append, List.mem_append, h.mem]⟩
  rw [List.map_append]
  refine List.nodup_append.mpr ⟨h.nd, by simp, fun a ha b hb => ?_⟩
  simp at hb
  subst hb
  exact fun z => look_no e (by rw [← z]; exact ha)
theorem Rpr.clash {d L L2 : AL} {s : Sx} {t t' : MV} (h : Rpr d L) (e : look d s = some t') (hne : t' ≠ t) (hm : (s, t) ∈ L2) : ¬ Con (L ++ L2) := fun c =>
  hne (c s t' t (List.mem_append_left _ ((h.mem _).mp (look_mem e))) (List.mem_append_right _ hm))
theorem Rpr.congr {d L L' : AL} (h : Rpr d L) (e : ∀ p, p ∈ L ↔ p ∈ L') : Rpr d L' := ⟨h.nd, fun p => (h.mem p).trans (e p)⟩
theorem Con.congr {L L' : AL} (h : Con L) (e : ∀ p, p ∈ L' → p ∈ L) : Con L' := fun s t t' h1 h2 => h s t t' (e _ h1) (e _ h2)
/-- two dicts with the same pairs are equal -/
theorem eqKs_al {d e : AL} (he : (e.map Prod.fst).Nodup) : ∀ (d' : AL), (∀ p ∈ d', p ∈ e ∧ eqT p.2 p.2 = true) → eqKs (aV d') (aK d') (aK e) (aV e) = true
  | [], _ => by unfold aV eqKs; rfl
  | p :: d', h => by
    obtain ⟨h1, h2⟩ := h p List.mem_cons_self
    have h3 := eqKs_al (d := d) he d' fun q hq => h q (List.mem_cons_of_mem _ hq)
    simp only [aV, aK, List.map_cons] at h3 ⊢
    unfold eqKs
    rw [show dLook (e.map fun p => (Sum.inr p.1 : MKey)) (e.map Prod.snd) (Sum.inr p.1) = some p.2 from (dLook_al p.1 e).trans (look_of he h1)]
    simp only [h2, Bool.true_and]
    exact h3
theorem len_eq {d e : AL} (hd : (d.map Prod.fst).Nodup) (he : (e.map Prod.fst).Nodup) (h : ∀ p, p ∈ d ↔ p ∈ e) : d.length = e.length := by
  have nd : ∀ {x : AL}, (x.map Prod.fst).Nodup → x.Nodup := fun {x} h => List.Pairwise.of_map Prod.fst (fun a b hne hab => hne (by rw [hab])) h
  exact ((List.perm_ext_iff_of_nodup (nd hd) (nd he)).mpr h).length_eq
theorem eqT_al {d e L : AL} (hd : Rpr d L) (he : Rpr e L) (hv : ∀ p ∈ d, eqT p.2 p.2 = true) : eqT (.dct (aK d) (aV d)) (.dct (aK e) (aV e)) = true := by
  unfold eqT
  rw [eqKs_al (d := d) he.nd d fun p hp => ⟨(he.mem p).mpr ((hd.mem p).mp hp), hv p hp⟩]
  have := len_eq hd.nd he.nd fun p => (hd.mem p).trans (he.mem p).symm
  rw [aK_len, aK_len, decide_eq_true this]
  rfl
mutual
theorem eqT_tm : ∀ t : MV, tm t = true → dat t = true → eqT t t = true
  | .str s, _, h => by
    unfold eqT
    rw [okD_str h, show eqD (.str s) (.str s) = true from eqD_refl _ h]
    simp [toD, PyData.depth]
  | .tup xs, h, d => by
    unfold eqT
    exact eqTs_tm xs (tms_of_tm h) (by unfold dat at d; exact d)
  | .non, h, _ => by simp [tm] at h
  | .bl _, h, _ => by simp [tm] at h
  | .int _, h, _ => by simp [tm] at h
  | .fn _, h, _ => by simp [tm] at h
  | .lst _, h, _ => by simp [tm] at h
  | .loc _, h, _ => by simp [tm] at h
  | .dct _ _, h, _ => by simp [tm] at h
  | .scr _, h, _ => by simp [tm] at h
theorem eqTs_tm : ∀ xs : List MV, tms xs = true → dats xs = true → eqTs xs xs = true
  | [], _, _ => by unfold eqTs; rfl
  | x :: xs, h, d => by
    simp only [tms, Bool.and_eq_true] at h
    simp only [dats, Bool.and_eq_true] at d
    unfold eqTs
    rw [eqT_tm x h.1 d.1, eqTs_tm xs h.2 d.2]
    rfl
end
mutual
theorem hgt_tm : ∀ t : MV, tm t = true → hgt t ≤ dep t
  | .str s, _ => by simp [hgt]
  | .tup xs, h => by
    have := hgts_tm xs (tms_of_tm h)
    simp only [hgt, dep]
    omega
  | .non, h => by simp [tm] at h
  | .bl _, h => by simp [tm] at h
  | .int _, h => by simp [tm] at h
  | .fn _, h => by simp [tm] at h
  | .lst _, h => by simp [tm] at h
  | .loc _, h => by simp [tm] at h
  | .dct _ _, h => by simp [tm] at h
  | .scr _, h => by simp [tm] at h
theorem hgts_tm : ∀ xs : List MV, tms xs = true → hgts xs ≤ deps xs
  | [], _ => by simp [hgts]
  | x :: xs, h => by
    simp only [tms, Bool.and_eq_true] at h
    have := hgt_tm x h.1
    have := hgts_tm xs h.2
    simp only [hgts, deps]
    omega
end
/-- the comprehension of a dict, its body kept whole -/
theorem ev_dcompq {C : CallF} {base : Nat} {ρ : Env} {mh : MHp} {tg : Tg} {own : List Nat} {it cond k e : ME} : ev C base (.dcomp tg own it cond k e) ρ mh = match evI C base it ρ mh with
  | none => none
  | some (J, mh1) => if J.items.length ≤ line then (match compGo J (dcompF C base tg own cond k e ρ) J.items mh1 with
    | none => none
    | some (ys, mh5) => match ys.mapM pairK with
      | some ps => some (.dct (dFold ps [] []).1 (dFold ps [] []).2, mh5)
      | none => none) else none := by
  simp only [ev]
  rfl
theorem pairs_al : ∀ d : AL, (d.map fun p => MV.tup [.str p.1, p.2]).mapM pairK = some (d.map fun p => ((.inr p.1 : MKey), p.2))
  | [] => rfl
  | p :: d => by
    rw [List.map_cons, List.mapM_cons, pairs_al d]
    rfl
theorem dFold_al : ∀ (d e : AL), ((e ++ d).map Prod.fst).Nodup → dFold (d.map fun p => ((.inr p.1 : MKey), p.2)) (aK e) (aV e) = (aK (e ++ d), aV (e ++ d))
  | [], e, _ => by simp [dFold]
  | p :: d, e, h => by
    have hn : look e p.1 = none := by
      cases q : look e p.1 with
      | none => rfl
      | some t =>
        exfalso
        have hm := look_mem q
        rw [List.map_append, List.nodup_append] at h
        exact h.2.2 p.1 (List.mem_map.mpr ⟨_, hm, rfl⟩) p.1 (by simp) rfl
    obtain ⟨e1, e2⟩ := put_new (t := p.2) hn
    rw [List.map_cons, dFold]
    simp only
    rw [e1, e2, dFold_al d (e ++ [p]) (by simpa using h)]
    simp
theorem sortS_perm (xs : List Sx) : (sortS xs).Perm xs := List.mergeSort_perm _ _
theorem sortS_idem (xs : List Sx) : sortS (sortS xs) = sortS xs :=
  List.Perm.eq_of_pairwise (le := (· ≤ ·)) (fun a b _ _ x y => sx_le_anti x y) (sortS_pair _) (sortS_pair xs) (sortS_perm _)
theorem mapM_strOf : ∀ ss : List Sx, (ss.map MV.str).mapM strOf = some ss
  | [] => rfl
  | s :: ss => by rw [List.map_cons, List.mapM_cons, mapM_strOf ss]; rfl
end L2.Mi

set_option Elab.async false
set_option linter.all false
set_option maxRecDepth 100000
set_option maxHeartbeats 4000000
/-! Ev7: loops as folds, comprehensions as maps, texts and rows of texts. -/
namespace L2.Mi
open PySem PySem.Spec PyProof.Rows
theorem ex_go {C : CallF} {base : Nat} {s : MS} {ss : List MS} {ρ ρ1 : Env} {mh mh1 : MHp} {r : Option (Fl × Env × MHp)} (h : ex C base s ρ mh = some (.nx, ρ1, mh1)) (h2 : exs C base ss ρ1 mh1 = r) : exs C base (s :: ss) ρ mh = r := by
  rw [exs, h]; exact h2
theorem ex_end {C : CallF} {base : Nat} {s : MS} {ss : List MS} {ρ ρ1 : Env} {mh mh1 : MHp} {v : MV} (h : ex C base s ρ mh = some (.rt v, ρ1, mh1)) : exs C base (s :: ss) ρ mh = some (.rt v, ρ1, mh1) := by
  rw [exs, h]
theorem ex_iteT {C : CallF} {base : Nat} {c : ME} {x y : List MS} {ρ : Env} {mh mh1 : MHp} (h : ev C base c ρ mh = some (.bl true, mh1)) : ex C base (.ite c x y) ρ mh = exs C base x ρ mh1 := by rw [ex, h]
theorem ex_iteF {C : CallF} {base : Nat} {c : ME} {x y : List MS} {ρ : Env} {mh mh1 : MHp} (h : ev C base c ρ mh = some (.bl false, mh1)) : ex C base (.ite c x y) ρ mh = exs C base y ρ mh1 := by rw [ex, h]
theorem ex_if {C : CallF} {base : Nat} {c : ME} {x y : List MS} {ρ : Env} {mh mh1 : MHp} {b : Bool} {r : Option (Fl × Env × MHp)} (h : ev C base c ρ mh = some (.bl b, mh1)) (ht : b = true → exs C base x ρ mh1 = r) (hf : b = false → exs C base y ρ mh1 = r) : ex C base (.ite c x y) ρ mh = r := by
  cases b with
  | true => rw [ex_iteT h, ht rfl]
  | false => rw [ex_iteF h, hf rfl]
theorem ev_andB {C : CallF} {base : Nat} {x y : ME} {ρ : Env} {mh mh1 : MHp} {a b : Bool} (h : ev C base x ρ mh = some (.bl a, mh1)) (h2 : a = true → ev C base y ρ mh1 = some (.bl b, mh1)) : ev C base (.and x y) ρ mh = some (.bl (a && b), mh1) := by
  cases a with
  | true => rw [ev, h]; exact h2 rfl
  | false => rw [ev, h]; rfl
theorem ev_orB {C : CallF} {base : Nat} {x y : ME} {ρ : Env} {mh mh1 : MHp} {a b : Bool} (h : ev C base x ρ mh = some (.bl a, mh1)) (h2 : a = false → ev C base y ρ mh1 = some (.bl b, mh1)) : ev C base (.or x y) ρ mh = some (.bl (a || b), mh1) := by
  cases a with
  | false => rw [ev, h]; exact h2 rfl
  | true => rw [ev, h]; rfl
theorem ev_notB {C : CallF} {base : Nat} {x : ME} {ρ : Env} {mh mh1 : MHp} {a : Bool} (h : ev C base x ρ mh = some (.bl a, mh1)) : ev C base (.not x) ρ mh = some (.bl (!a), mh1) := by rw [ev, h]
theorem ex_done {C : CallF} {base : Nat} {ρ : Env} {mh : MHp} : exs C base [] ρ mh = some (.nx, ρ, mh) := by rw [exs]
theorem Its.ok_none {J : Its} (h : J.src = none) (mh : MHp) : J.ok mh := by unfold Its.ok; rw [h]; trivial
section
variable {J : Its} {f : MV → Env → MHp → Option (Fl × Env × MHp)}
theorem forGo_cons_ok {x : MV} {xs : List MV} {ρ : Env} {mh : MHp} (ok : J.ok mh) : forGo J f (x :: xs) ρ mh = match f x ρ mh with
    | none => none
    | some (.nx, ρ1, mh1) => forGo J f xs ρ1 mh1
    | some (.ct, ρ1, mh1) => forGo J f xs ρ1 mh1
    | some (.bk, ρ1, mh1) => some (.nx, ρ1, mh1)
    | some (.rt v, ρ1, mh1) => some (.rt v, ρ1, mh1) := by
  rw [forGo, if_pos ok] <;> rfl
theorem forGo_nil_ok {ρ : Env} {mh : MHp} (ok : J.ok mh) : forGo J f [] ρ mh = some (.nx, ρ, mh) := by
  rw [forGo, if_pos ok]
/-- a for that goes through is a fold -/
theorem forGo_fold {α β : Type} {emb : α → MV} {env : β → Env} {hp : β → MHp} {g : β → α → β} (P : β → Prop) (hok : ∀ s, P s → J.ok (hp s)) : ∀ (xs : List α), (∀ x ∈ xs, ∀ s, P s → f (emb x) (env s) (hp s) = some (.nx, env (g s x), hp (g s x)) ∧ P (g s x)) →
    ∀ s, P s → forGo J f (xs.map emb) (env s) (hp s) = some (.nx, env (xs.foldl g s), hp (xs.foldl g s)) ∧ P (xs.foldl g s)
  | [], _, s, p => ⟨forGo_nil_ok (hok s p), p⟩
  | x :: xs, h, s, p => by
    obtain ⟨e, p1⟩ := h x List.mem_cons_self s p
    rw [List.map_cons, forGo_cons_ok (hok s p), e]
    exact forGo_fold P hok xs (fun y hy => h y (List.mem_cons_of_mem _ hy)) _ p1
/-- a for whose body may go on (ct) or fall through -/
theorem forGo_foldc {α β : Type} {emb : α → MV} {env : β → Env} {hp : β → MHp} {g : β → α → β} (P : β → Prop) (hok : ∀ s, P s → J.ok (hp s)) : ∀ (xs : List α), (∀ x ∈ xs, ∀ s, P s → (f (emb x) (env s) (hp s) = some (.nx, env (g s x), hp (g s x)) ∨ f (emb x) (env s) (hp s) = some (.ct, env (g s x), hp (g s x))) ∧ P (g s x)) →
    ∀ s, P s → forGo J f (xs.map emb) (env s) (hp s) = some (.nx, env (xs.foldl g s), hp (xs.foldl g s)) ∧ P (xs.foldl g s)
  | [], _, s, p => ⟨forGo_nil_ok (hok s p), p⟩
  | x :: xs, h, s, p => by
    obtain ⟨e, p1⟩ := h x List.mem_cons_self s p
    rw [List.map_cons, forGo_cons_ok (hok s p)]
    rcases e with e | e <;> rw [e] <;> exact forGo_foldc P hok xs (fun y hy => h y (List.mem_cons_of_mem _ hy)) _ p1
/-- what a for with an early return comes to: the state behind, or the value -/
def stopF {α β γ : Type} (g : β → α → β ⊕ γ) : List α → β → β ⊕ γ
  | [], s => .inl s
  | x :: xs, s => match g s x with
    | .inl s' => stopF g xs s'
    | .inr v => .inr v
theorem forGo_stop {α β : Type} {emb : α → MV} {env : β → Env} {hp : β → MHp} {g : β → α → β ⊕ (MV × Env × MHp)} (P : β → Prop) (hok : ∀ s, P s → J.ok (hp s)) : ∀ (xs : List α), (∀ x ∈ xs, ∀ s, P s → match g s x with
      | .inl s' => f (emb x) (env s) (hp s) = some (.nx, env s', hp s') ∧ P s'
      | .inr (v, ρ, mh) => f (emb x) (env s) (hp s) = some (.rt v, ρ, mh)) →
    ∀ s, P s → match stopF g xs s with
      | .inl s' => forGo J f (xs.map emb) (env s) (hp s) = some (.nx, env s', hp s') ∧ P s'
      | .inr (v, ρ, mh) => forGo J f (xs.map emb) (env s) (hp s) = some (.rt v, ρ, mh)
  | [], _, s, p => ⟨forGo_nil_ok (hok s p), p⟩
  | x :: xs, h, s, p => by
    have h1 := h x List.mem_cons_self s p
    rw [List.map_cons, forGo_cons_ok (hok s p), stopF]
    cases e : g s x with
    | inl s' =>
      rw [e] at h1
      obtain ⟨e1, p1⟩ := h1
      rw [e1]
      exact forGo_stop P hok xs (fun y hy => h y (List.mem_cons_of_mem _ hy)) _ p1
    | inr r =>
      obtain ⟨v, ρ, mh⟩ := r
      rw [e] at h1
      simp only at h1
      rw [h1]
end
section
variable {J : Its} {f : MV → Env → MHp → Option (Fl × Env × MHp)}
/-- a for that goes through, told by a relation of states -/
theorem for_rel {α σ : Type} {emb : α → MV} {g : σ → α → σ} (Rel : σ → Env → MHp → Prop) (hok : ∀ s ρ mh, Rel s ρ mh → J.ok mh) : ∀ (xs : List α), (∀ x ∈ xs, ∀ s ρ mh, Rel s ρ mh → ∃ ρ' mh', f (emb x) ρ mh = some (.nx, ρ', mh') ∧ Rel (g s x) ρ' mh') →
    ∀ s ρ mh, Rel s ρ mh → ∃ ρ' mh', forGo J f (xs.map emb) ρ mh = some (.nx, ρ', mh') ∧ Rel (xs.foldl g s) ρ' mh'
  | [], _, s, ρ, mh, p => ⟨ρ, mh, forGo_nil_ok (hok s ρ mh p), p⟩
  | x :: xs, h, s, ρ, mh, p => by
    obtain ⟨ρ1, mh1, e, p1⟩ := h x List.mem_cons_self s ρ mh p
    obtain ⟨ρ2, mh2, e2, p2⟩ := for_rel Rel hok xs (fun y hy => h y (List.mem_cons_of_mem _ hy)) _ ρ1 mh1 p1
    refine ⟨ρ2, mh2, ?_, p2⟩
    rw [List.map_cons, forGo_cons_ok (hok s ρ mh p), e]
    exact e2
/-- a for with an early return, told by a relation of states -/
theorem for_relS {α σ τ : Type} {emb : α → MV} {g : σ → α → σ ⊕ τ} (Rel : σ → Env → MHp → Prop) (Out : τ → MV → MHp → Prop) (hok : ∀ s ρ mh, Rel s ρ mh → J.ok mh) : ∀ (xs : List α), (∀ x ∈ xs, ∀ s ρ mh, Rel s ρ mh → match g s x with
      | .inl s' => ∃ ρ' mh', f (emb x) ρ mh = some (.nx, ρ', mh') ∧ Rel s' ρ' mh'
      | .inr t => ∃ v ρ' mh', f (emb x) ρ mh = some (.rt v, ρ', mh') ∧ Out t v mh') →
    ∀ s ρ mh, Rel s ρ mh → match stopF g xs s with
      | .inl s' => ∃ ρ' mh', forGo J f (xs.map emb) ρ mh = some (.nx, ρ', mh') ∧ Rel s' ρ' mh'
      | .inr t => ∃ v ρ' mh', forGo J f (xs.map emb) ρ mh = some (.rt v, ρ', mh') ∧ Out t v mh'
  | [], _, s, ρ, mh, p => ⟨ρ, mh, forGo_nil_ok (hok s ρ mh p), p⟩
  | x :: xs, h, s, ρ, mh, p => by
    have h1 := h x List.mem_cons_self s ρ mh p
    rw [stopF]
    cases e : g s x with
    | inl s' =>
      rw [e] at h1
      obtain ⟨ρ1, mh1, e1, p1⟩ := h1
      have h2 := for_relS Rel Out hok xs (fun y hy => h y (List.mem_cons_of_mem _ hy)) s' ρ1 mh1 p1
      rw [List.map_cons, forGo_cons_ok (hok s ρ mh p), e1]
      exact h2
    | inr t =>
      rw [e] at h1
      obtain ⟨v, ρ1, mh1, e1, p1⟩ := h1
      refine ⟨v, ρ1, mh1, ?_, p1⟩
      rw [List.map_cons, forGo_cons_ok (hok s ρ mh p), e1]
/-- rows are put behind a row -/
theorem for_flat {α β : Type} {emb : α → MV} {F : α → List β} {N : Nat} (Rel : List β → Env → MHp → Prop) (hok : ∀ s ρ mh, Rel s ρ mh → J.ok mh) : ∀ (xs : List α), (∀ x ∈ xs, ∀ s ρ mh, Rel s ρ mh → s.length + (F x).length ≤ N → ∃ ρ' mh', f (emb x) ρ mh = some (.nx, ρ', mh') ∧ Rel (s ++ F x) ρ' mh') →
    ∀ s ρ mh, Rel s ρ mh → s.length + (xs.flatMap F).length ≤ N → ∃ ρ' mh', forGo J f (xs.map emb) ρ mh = some (.nx, ρ', mh') ∧ Rel (s ++ xs.flatMap F) ρ' mh'
  | [], _, s, ρ, mh, p, _ => ⟨ρ, mh, forGo_nil_ok (hok s ρ mh p), by simpa using p⟩
  | x :: xs, h, s, ρ, mh, p, l => by
    simp only [List.flatMap_cons, List.length_append] at l
    obtain ⟨ρ1, mh1, e, p1⟩ := h x List.mem_cons_self s ρ mh p (by omega)
    obtain ⟨ρ2, mh2, e2, p2⟩ := for_flat Rel hok xs (fun y hy => h y (List.mem_cons_of_mem _ hy)) _ ρ1 mh1 p1 (by rw [List.length_append]; omega)
    refine ⟨ρ2, mh2, ?_, ?_⟩
    · rw [List.map_cons, forGo_cons_ok (hok s ρ mh p), e]
      exact e2
    · rw [List.flatMap_cons, ← List.append_assoc]
      exact p2
end
section
variable {c : Env → MHp → Option (Bool × MHp)} {f : Env → MHp → Option (Fl × Env × MHp)} {ρ ρ1 : Env} {mh mh1 mh2 : MHp} {r : Fl × Env × MHp}
theorem while_stop (h : c ρ mh = some (false, mh1)) : whileM c f ρ mh = some (.nx, ρ, mh1) := whileM_eq (n := 1) (by rw [whileN, h])
theorem while_go (h : c ρ mh = some (true, mh1)) (h1 : f ρ mh1 = some (.nx, ρ1, mh2)) (h2 : whileM c f ρ1 mh2 = some r) : whileM c f ρ mh = some r := by
  obtain ⟨n, e⟩ := whileM_of h2
  exact whileM_eq (n := n + 1) (by rw [whileN, h]; simp only [h1, e])
theorem while_ct (h : c ρ mh = some (true, mh1)) (h1 : f ρ mh1 = some (.ct, ρ1, mh2)) (h2 : whileM c f ρ1 mh2 = some r) : whileM c f ρ mh = some r := by
  obtain ⟨n, e⟩ := whileM_of h2
  exact whileM_eq (n := n + 1) (by rw [whileN, h]; simp only [h1, e])
theorem while_bk (h : c ρ mh = some (true, mh1)) (h1 : f ρ mh1 = some (.bk, ρ1, mh2)) : whileM c f ρ mh = some (.nx, ρ1, mh2) := whileM_eq (n := 1) (by rw [whileN, h]; simp only [h1])
theorem while_rt {v : MV} (h : c ρ mh = some (true, mh1)) (h1 : f ρ mh1 = some (.rt v, ρ1, mh2)) : whileM c f ρ mh = some (.rt v, ρ1, mh2) := whileM_eq (n := 1) (by rw [whileN, h]; simp only [h1])
end
/-! ### comprehensions -/
theorem compGo_map {α : Type} {J : Its} {f : MV → MHp → Option (Option MV × MHp)} {mh : MHp} (ok : J.ok mh) {emb : α → MV} {c : α → Bool} {h : α → MV} : ∀ {xs : List α}, (∀ x ∈ xs, f (emb x) mh = some (if c x = true then some (h x) else none, mh)) → compGo J f (xs.map emb) mh = some ((xs.filter c).map h, mh)
  | [], _ => by
    rw [List.map_nil, compGo, if_pos ok]
    rfl
  | x :: xs, q => by
    rw [List.map_cons, compGo, if_pos ok, q x List.mem_cons_self]
    simp only
    rw [compGo_map ok fun y hy => q y (List.mem_cons_of_mem _ hy)]
    simp only
    cases e : c x <;> simp [List.filter_cons, e]
section
variable {C : CallF} {base : Nat} {ρ : Env} {mh : MHp} {tg : Tg} {own : List Nat} {it cond e : ME}
theorem ev_compS {α : Type} {emb : α → MV} {c : α → Bool} {h : α → MV} {xs : List α} {s : Option Nat} (hi : evI C base it ρ mh = some (⟨xs.map emb, s⟩, mh)) (ok : Its.ok ⟨xs.map emb, s⟩ mh) (hl : xs.length ≤ line)
    (hf : ∀ x ∈ xs, compF C base tg own cond e ρ (emb x) mh = some (if c x = true then some (h x) else none, mh)) : ev C base (.comp tg own it cond e) ρ mh = some (.lst ((xs.filter c).map h), mh) := by
  rw [ev_compq, hi]
  simp only [List.length_map, hl, if_true, compGo_map ok hf]
theorem ev_compF {α : Type} {emb : α → MV} {c : α → Bool} {h : α → MV} {xs : List α} (hi : evI C base it ρ mh = some (⟨xs.map emb, none⟩, mh)) (hl : xs.length ≤ line)
    (hf : ∀ x ∈ xs, compF C base tg own cond e ρ (emb x) mh = some (if c x = true then some (h x) else none, mh)) : ev C base (.comp tg own it cond e) ρ mh = some (.lst ((xs.filter c).map h), mh) := ev_compS hi (Its.ok_none rfl _) hl hf
theorem ev_compM {α : Type} {emb : α → MV} {h : α → MV} {xs : List α} (hi : evI C base it ρ mh = some (⟨xs.map emb, none⟩, mh)) (hl : xs.length ≤ line)
    (hf : ∀ x ∈ xs, compF C base tg own cond e ρ (emb x) mh = some (some (h x), mh)) : ev C base (.comp tg own it cond e) ρ mh = some (.lst (xs.map h), mh) := by
  have := ev_compF (c := fun _ => true) (h := h) hi hl fun x hx => by rw [hf x hx]; rfl
  rwa [List.filter_eq_self.mpr fun _ _ => rfl] at this
theorem compF_T {x y : MV} {ρ' : Env} {mh1 : MHp} (ha : asg mh tg x (wipeE ρ own) = some ρ') (hc : ev C base cond ρ' mh = some (.bl true, mh)) (he : ev C base e ρ' mh = some (y, mh1)) : compF C base tg own cond e ρ x mh = some (some y, mh1) := by
  unfold compF
  rw [ha]
  simp only [hc, he]
theorem compF_F {x : MV} {ρ' : Env} {mh1 : MHp} (ha : asg mh tg x (wipeE ρ own) = some ρ') (hc : ev C base cond ρ' mh = some (.bl false, mh1)) : compF C base tg own cond e ρ x mh = some (none, mh1) := by
  unfold compF
  rw [ha]
  simp only [hc]
theorem compF_B {x y : MV} {ρ' : Env} {c : Bool} (ha : asg mh tg x (wipeE ρ own) = some ρ') (hc : ev C base cond ρ' mh = some (.bl c, mh)) (he : c = true → ev C base e ρ' mh = some (y, mh)) : compF C base tg own cond e ρ x mh = some (if c = true then some y else none, mh) := by
  cases c with
  | true => rw [compF_T ha hc (he rfl)]; rfl
  | false => rw [compF_F ha hc]; rfl
theorem evI_rng1 {a : ME} {m : Nat} (h : ev C base a ρ mh = some (.int (m : Int), mh)) (hm : m < 4000000000000000000) : evI C base (.rng1 a) ρ mh = some (⟨(List.range m).map fun (k : Nat) => .int (k : Int), none⟩, mh) := by
  have b1 : (-4611686018427387904 : Int) ≤ m := by omega
  have b2 : (m : Int) < 4611686018427387904 := by omega
  simp [evI, h, b1, b2]
theorem evI_rng2 {a b : ME} {i j : Nat} (h : ev C base a ρ mh = some (.int (i : Int), mh)) (h' : ev C base b ρ mh = some (.int (j : Int), mh)) (hi : i < 4000000000000000000) (hj : j < 4000000000000000000) : evI C base (.rng2 a b) ρ mh = some (⟨(List.range' i (j - i)).map fun (k : Nat) => .int (k : Int), none⟩, mh) := by
  have b1 : (-4611686018427387904 : Int) ≤ i := by omega
  have b2 : (i : Int) < 4611686018427387904 := by omega
  have b3 : (-4611686018427387904 : Int) ≤ j := by omega
  have b4 : (j : Int) < 4611686018427387904 := by omega
  have e : ((j : Int) - (i : Int)).toNat = j - i := by omega
  simp [evI, h, h', b1, b2, b3, b4, e, List.range'_eq_map_range]
theorem evI_var {i : Nat} {xs : List MV} {v : MV} (hv : ρ[i]? = some (some v)) (h : itsOf mh v = some ⟨xs, none⟩) : evI C base (.var i) ρ mh = some (⟨xs, none⟩, mh) := by
  simp [evI, ev, hv, h]
end
/-! ### bounds -/
theorem line_le {n : Nat} (h : n ≤ 16777216) : n ≤ line := h
theorem line_lt {n : Nat} (h : n < 16777216) : n < line := h
theorem idx_get {α : Type} {xs : List α} {j : Nat} (h : j < xs.length) : idx xs (j : Int) = some xs[j] := idx_nat (List.getElem?_eq_getElem h)
/-! ### texts -/
theorem dat_str {w : Sx} (h1 : w.length ≤ 1000) (h2 : ∀ c ∈ w, c < 1114112) : dat (.str w) = true := by
  unfold dat
  rw [Bool.and_eq_true]
  exact ⟨decide_eq_true h1, List.all_eq_true.mpr fun c hc => decide_eq_true (h2 c hc)⟩
theorem dat_str_len {w : Sx} (h : dat (.str w) = true) : w.length ≤ 1000 := by
  unfold dat at h
  rw [Bool.and_eq_true] at h
  exact of_decide_eq_true h.1
theorem dat_str_chr {w : Sx} (h : dat (.str w) = true) : ∀ c ∈ w, c < 1114112 := by
  unfold dat at h
  rw [Bool.and_eq_true] at h
  exact fun c hc => of_decide_eq_true (List.all_eq_true.mp h.2 c hc)
theorem dat_sub {w u : Sx} (h : dat (.str w) = true) (hl : u.length ≤ 1000) (hs : ∀ c ∈ u, c ∈ w) : dat (.str u) = true := dat_str hl fun c hc => dat_str_chr h c (hs c hc)
theorem dat_take {w : Sx} (n : Nat) (h : dat (.str w) = true) : dat (.str (w.take n)) = true := dat_sub h (by have := dat_str_len h; simp; omega) fun c hc => List.mem_of_mem_take hc
theorem dat_drop {w : Sx} (n : Nat) (h : dat (.str w) = true) : dat (.str (w.drop n)) = true := dat_sub h (by have := dat_str_len h; simp; omega) fun c hc => List.mem_of_mem_drop hc
theorem dat_appS {w u : Sx} (h : dat (.str w) = true) (h' : dat (.str u) = true) (hl : w.length + u.length ≤ 1000) : dat (.str (w ++ u)) = true := dat_str (by simpa using hl) fun c hc => (List.mem_append.mp hc).elim (dat_str_chr h c) (dat_str_chr h' c)
theorem dat_chr {w : Sx} {c : Nat} (h : dat (.str w) = true) (hc : c ∈ w) : dat (.str [c]) = true := dat_sub h (by simp) fun d hd => by simp at hd; subst hd; exact hc
theorem slc_take {mh : MHp} {w : Sx} {k : Nat} (h : w.length ≤ 1000) : slcV mh (.str w) none (some (k : Int)) = some (.str (w.take k)) := by
  have : w.length ≤ line := line_le (by omega)
  simp only [slcV, this, if_true, cut_take]
theorem slc_drop {mh : MHp} {w : Sx} {k : Nat} (h : w.length ≤ 1000) : slcV mh (.str w) (some (k : Int)) none = some (.str (w.drop k)) := by
  have : w.length ≤ line := line_le (by omega)
  simp only [slcV, this, if_true, cut_drop]
theorem cut_mid {α : Type} {xs : List α} {i j : Nat} : cut xs (some (i : Int)) (some (j : Int)) = (xs.drop i).take (j - i) := by
  unfold cut
  rw [HT.sIx_nat, HT.sIx_nat]
  by_cases h : i ≤ xs.length
  · rw [Nat.min_eq_left h]
    by_cases h2 : j ≤ xs.length
    · rw [Nat.min_eq_left h2]
    · rw [Nat.min_eq_right (by omega), List.take_of_length_le (by rw [List.length_drop]; omega), List.take_of_length_le (by rw [List.length_drop]; omega)]
  · rw [List.drop_eq_nil_of_le (show xs.length ≤ min i xs.length by omega), List.drop_eq_nil_of_le (show xs.length ≤ i by omega)]
    simp
theorem slc_mid {mh : MHp} {w : Sx} {i j : Nat} (h : w.length ≤ 1000) : slcV mh (.str w) (some (i : Int)) (some (j : Int)) = some (.str ((w.drop i).take (j - i))) := by
  have : w.length ≤ line := line_le (by omega)
  simp only [slcV, this, if_true, cut_mid]
/-! ### == and in for plain data -/
mutual
/-- values of which == tells all -/
def pln : MV → Bool
  | .non => true
  | .int _ => true
  | .str _ => true
  | .tup xs => plns xs
  | .lst xs => plns xs
  | _ => false
def plns : List MV → Bool
  | [] => true
  | x :: xs => pln x && plns xs
end
mutual
theorem eqD_pln : ∀ t u : MV, pln t = true → pln u = true → PyData.eqv (toD t) (toD u) = true → t = u
  | .non, .non, _, _, _ => rfl
  | .int a, .int b, _, _, h => by unfold toD PyData.eqv at h; simp at h; rw [h]
  | .str a, .str b, _, _, h => by unfold toD PyData.eqv at h; simp at h; rw [h]
  | .tup xs, .tup ys, h1, h2, h => by
    unfold pln at h1 h2
    unfold toD PyData.eqv at h
    rw [eqDs_pln xs ys h1 h2 h]
  | .lst xs, .lst ys, h1, h2, h => by
    unfold pln at h1 h2
    unfold toD PyData.eqv at h
    rw [eqDs_pln xs ys h1 h2 h]
  | .non, .int _, _, _, h => by unfold toD PyData.eqv at h; cases h
  | .non, .str _, _, _, h => by unfold toD PyData.eqv at h; cases h
  | .non, .tup _, _, _, h => by unfold toD PyData.eqv at h; cases h
  | .non, .lst _, _, _, h => by unfold toD PyData.eqv at h; cases h
  | .int _, .non, _, _, h => by unfold toD PyData.eqv at h; cases h
  | .int _, .str _, _, _, h => by unfold toD PyData.eqv at h; cases h
  | .int _, .tup _, _, _, h => by unfold toD PyData.eqv at h; cases h
  | .int _, .lst _, _, _, h => by unfold toD PyData.eqv at h; cases h
  | .str _, .non, _, _, h => by unfold toD PyData.eqv at h; cases h
  | .str _, .int _, _, _, h => by unfold toD PyData.eqv at h; cases h
  | .str _, .tup _, _, _, h => by unfold toD PyData.eqv at h; cases h
  | .str _, .lst _, _, _, h => by unfold toD PyData.eqv at h; cases h
  | .tup _, .non, _, _, h => by unfold toD PyData.eqv at h; cases h
  | .tup _, .int _, _, _, h => by unfold toD PyData.eqv at h; cases h
  | .tup _, .str _, _, _, h => by unfold toD PyData.eqv at h; cases h
  | .tup _, .lst _, _, _, h => by unfold toD PyData.eqv at h; cases h
  | .lst _, .non, _, _, h => by unfold toD PyData.eqv at h; cases h
  | .lst _, .int _, _, _, h => by unfold toD PyData.eqv at h; cases h
  | .lst _, .str _, _, _, h => by unfold toD PyData.eqv at h; cases h
  | .lst _, .tup _, _, _, h => by unfold toD PyData.eqv at h; cases h
  | .bl _, _, h, _, _ => by simp [pln] at h
  | .fn _, _, h, _, _ => by simp [pln] at h
  | .loc _, _, h, _, _ => by simp [pln] at h
  | .dct _ _, _, h, _, _ => by simp [pln] at h
  | .scr _, _, h, _, _ => by simp [pln] at h
  | _, .bl _, _, h, _ => by simp [pln] at h
  | _, .fn _, _, h, _ => by simp [pln] at h
  | _, .loc _, _, h, _ => by simp [pln] at h
  | _, .dct _ _, _, h, _ => by simp [pln] at h
  | _, .scr _, _, h, _ => by simp [pln] at h
theorem eqDs_pln : ∀ xs ys : List MV, plns xs = true → plns ys = true → PyData.eqvAll (toDs xs) (toDs ys) = true → xs = ys
  | [], [], _, _, _ => rfl
  | [], _ :: _, _, _, h => by unfold toDs PyData.eqvAll at h; cases h
  | _ :: _, [], _, _, h => by unfold toDs PyData.eqvAll at h; cases h
  | x :: xs, y :: ys, h1, h2, h => by
    simp only [plns, Bool.and_eq_true] at h1 h2
    unfold toDs PyData.eqvAll at h
    rw [Bool.and_eq_true] at h
    rw [eqD_pln x y h1.1 h2.1 h.1, eqDs_pln xs ys h1.2 h2.2 h.2]
end
theorem eqD_pln' {x y : MV} (p1 : pln x = true) (d1 : dat x = true) (p2 : pln y = true) (d2 : dat y = true) : (eqD x y = true) = (x = y) := by
  apply propext
  constructor
  · exact eqD_pln x y p1 p2
  · rintro rfl
    exact eqD_refl x d1
theorem plns_iff : ∀ {xs : List MV}, plns xs = true ↔ ∀ x ∈ xs, pln x = true
  | [] => by simp [plns]
  | x :: xs => by simp [plns, plns_iff (xs := xs)]
/-- good for == : plain data, without bools, not deep -/
structure Pd (x : MV) : Prop where
  dat : dat x = true
  pln : pln x = true
  dep : dep x ≤ 40
open Classical in
theorem eqV_pd (mh : MHp) {x y : MV} (hx : Pd x) (hy : Pd y) : eqV mh x y = some (decide (x = y)) := by
  unfold eqV
  rw [frz_dat x hx.dat, frz_dat y hy.dat]
  simp only [okD_dat hx.dat (by have := hx.dep; omega), okD_dat hy.dat (by have := hy.dep; omega), and_self, if_true]
  congr 1
  by_cases h : x = y
  · rw [decide_eq_true h]; subst h; exact eqD_refl x hx.dat
  · rw [decide_eq_false h]
    cases e : eqD x y with
    | false => rfl
    | true => exact absurd (eqD_pln x y hx.pln hy.pln e) h
open Classical in
theorem eqV_b (mh : MHp) {x y : MV} {b : Bool} (hx : Pd x) (hy : Pd y) (hb : b = true ↔ x = y) : eqV mh x y = some b := by
  rw [eqV_pd mh hx hy]
  congr 1
  apply Bool.eq_iff_iff.mpr
  rw [decide_eq_true_iff, hb]
theorem eqV_fz (mh : MHp) {x y x' y' : MV} {b : Bool} (ex : frz 0 mh 8 x = some x') (ey : frz 0 mh 8 y = some y') (hx : Pd x') (hy : Pd y') (hb : b = true ↔ x' = y') : eqV mh x y = some b := by
  have h1 := eqV_b mh hx hy hb
  unfold eqV at h1 ⊢
  rw [frz_dat x' hx.dat, frz_dat y' hy.dat] at h1
  rw [ex, ey]
  exact h1
theorem Pd.str {w : Sx} (h : L2.Mi.dat (.str w) = true) : Pd (.str w) := ⟨h, rfl, by simp [L2.Mi.dep]⟩
theorem Pd.int (i : Int) : Pd (.int i) := ⟨rfl, rfl, by simp [L2.Mi.dep]⟩
theorem Pd.non : Pd .non := ⟨rfl, rfl, by simp [L2.Mi.dep]⟩
theorem Pd.tup {n : Nat} {xs : List MV} (hn : n ≤ 39) (h : ∀ x ∈ xs, L2.Mi.dat x = true ∧ L2.Mi.pln x = true ∧ L2.Mi.dep x ≤ n) : Pd (.tup xs) := by
  refine ⟨by unfold L2.Mi.dat; exact dats_iff.mpr fun x hx => (h x hx).1, by unfold L2.Mi.pln; exact plns_iff.mpr fun x hx => (h x hx).2.1, ?_⟩
  have := deps_le (b := n) fun x hx => (h x hx).2.2
  simp only [L2.Mi.dep]
  omega
theorem Pd.lst {n : Nat} {xs : List MV} (hn : n ≤ 39) (h : ∀ x ∈ xs, L2.Mi.dat x = true ∧ L2.Mi.pln x = true ∧ L2.Mi.dep x ≤ n) : Pd (.lst xs) := by
  refine ⟨by unfold L2.Mi.dat; exact dats_iff.mpr fun x hx => (h x hx).1, by unfold L2.Mi.pln; exact plns_iff.mpr fun x hx => (h x hx).2.1, ?_⟩
  have := deps_le (b := n) fun x hx => (h x hx).2.2
  simp only [L2.Mi.dep]
  omega
open Classical in
theorem mem_lst (mh : MHp) {x y : MV} {ys : List MV} (hx : Pd x) (hy : frz 0 mh 8 y = some (.lst ys)) (hs : ∀ c t, ¬ (x = .str [c] ∧ y = .str t)) (hys : Pd (.lst ys)) : memV mh x y = some (decide (x ∈ ys)) := by
  have e : memV mh x y = if okD x = true ∧ okD (.lst ys) = true then some (ys.any fun z => eqD z x) else none := by
    unfold memV
    split
    · rename_i c t
      exact absurd ⟨rfl, rfl⟩ (hs c t)
    · rw [frz_dat x hx.dat, hy]
  rw [e, if_pos ⟨okD_dat hx.dat (by have := hx.dep; omega), okD_dat hys.dat (by have := hys.dep; omega)⟩]
  congr 1
  apply Bool.eq_iff_iff.mpr
  rw [List.any_eq_true, decide_eq_true_iff]
  have hd : dats ys = true := by have := hys.dat; unfold L2.Mi.dat at this; exact this
  have hp : plns ys = true := by have := hys.pln; unfold L2.Mi.pln at this; exact this
  constructor
  · rintro ⟨z, hz, h⟩
    rw [eqD_pln' (plns_iff.mp hp z hz) (dats_iff.mp hd z hz) hx.pln hx.dat] at h
    subst h
    exact hz
  · intro h
    exact ⟨x, h, eqD_refl x hx.dat⟩
open Classical in
theorem mem_tup (mh : MHp) {x y : MV} {ys : List MV} (hx : Pd x) (hy : frz 0 mh 8 y = some (.tup ys)) (hs : ∀ c t, ¬ (x = .str [c] ∧ y = .str t)) (hys : Pd (.tup ys)) : memV mh x y = some (decide (x ∈ ys)) := by
  have e : memV mh x y = if okD x = true ∧ okD (.tup ys) = true then some (ys.any fun z => eqD z x) else none := by
    unfold memV
    split
    · rename_i c t
      exact absurd ⟨rfl, rfl⟩ (hs c t)
    · rw [frz_dat x hx.dat, hy]
  rw [e, if_pos ⟨okD_dat hx.dat (by have := hx.dep; omega), okD_dat hys.dat (by have := hys.dep; omega)⟩]
  congr 1
  apply Bool.eq_iff_iff.mpr
  rw [List.any_eq_true, decide_eq_true_iff]
  have hd : dats ys = true := by have := hys.dat; unfold L2.Mi.dat at this; exact this
  have hp : plns ys = true := by have := hys.pln; unfold L2.Mi.pln at this; exact this
  constructor
  · rintro ⟨z, hz, h⟩
    rw [eqD_pln' (plns_iff.mp hp z hz) (dats_iff.mp hd z hz) hx.pln hx.dat] at h
    subst h
    exact hz
  · intro h
    exact ⟨x, h, eqD_refl x hx.dat⟩
open Classical in
theorem memV_b (mh : MHp) {x y : MV} {ys : List MV} {b : Bool} (hx : Pd x) (hy : frz 0 mh 8 y = some (.lst ys)) (hs : ∀ c t, ¬ (x = .str [c] ∧ y = .str t)) (hys : Pd (.lst ys)) (hb : b = true ↔ x ∈ ys) : memV mh x y = some b := by
  rw [mem_lst mh hx hy hs hys]
  congr 1
  apply Bool.eq_iff_iff.mpr
  rw [decide_eq_true_iff, hb]
open Classical in
theorem memV_bt (mh : MHp) {x y : MV} {ys : List MV} {b : Bool} (hx : Pd x) (hy : frz 0 mh 8 y = some (.tup ys)) (hs : ∀ c t, ¬ (x = .str [c] ∧ y = .str t)) (hys : Pd (.tup ys)) (hb : b = true ↔ x ∈ ys) : memV mh x y = some b := by
  rw [mem_tup mh hx hy hs hys]
  congr 1
  apply Bool.eq_iff_iff.mpr
  rw [decide_eq_true_iff, hb]
/-! ### operations -/
theorem add_str {mh : MHp} {a b : Sx} (ha : a.length ≤ 1000000) (hb : b.length ≤ 1000000) : addV mh (.str a) (.str b) = some (.str (a ++ b)) := by
  have : a.length + b.length ≤ line := line_le (by omega)
  simp only [addV, this, if_true]
theorem add_lst {mh : MHp} {a b : List MV} (h : a.length + b.length ≤ 16777216) : addV mh (.lst a) (.lst b) = some (.lst (a ++ b)) := by
  have : a.length + b.length ≤ line := h
  simp only [addV, getL, this, if_true]
theorem add_tup {mh : MHp} {a b : List MV} (h : a.length + b.length ≤ 16777216) : addV mh (.tup a) (.tup b) = some (.tup (a ++ b)) := by
  have : a.length + b.length ≤ line := h
  simp only [addV, this, if_true]
theorem add_int {mh : MHp} {a b : Int} : addV mh (.int a) (.int b) = some (.int (a + b)) := rfl
theorem dat_t2 {x y : MV} (hx : dat x = true) (hy : dat y = true) : dat (.tup [x, y]) = true := by rw [dat, dats, dats, dats, hx, hy]; rfl
theorem dat_t3 {x y z : MV} (hx : dat x = true) (hy : dat y = true) (hz : dat z = true) : dat (.tup [x, y, z]) = true := by rw [dat, dats, dats, dats, dats, hx, hy, hz]; rfl
theorem idx_last {α : Type} {xs : List α} {x : α} : idx (xs ++ [x]) (-1) = some x := L2.atI_last xs x
theorem len_str {mh : MHp} {a : Sx} (h : a.length ≤ 1000000) : lenV mh (.str a) = some (.int (a.length : Int)) := by
  have : a.length ≤ line := line_le (by omega)
  simp only [lenV, this, if_true]
theorem lt_pair {mh : MHp} {a b : Int} {x y : Sx} (hx : dat (.str x) = true) (hy : dat (.str y) = true) : cmpV mh .lt (.tup [.int a, .str x]) (.tup [.int b, .str y]) = some (decide (a < b ∨ a = b ∧ x < y)) := by
  have d1 : dat (.tup [.int a, .str x]) = true := by simp only [dat, dats, Bool.true_and, Bool.and_true]; exact hx
  have d2 : dat (.tup [.int b, .str y]) = true := by simp only [dat, dats, Bool.true_and, Bool.and_true]; exact hy
  show ltD mh _ _ = _
  unfold ltD
  rw [frz_dat _ d1, frz_dat _ d2]
  have o1 := okD_dat d1 (by simp [dep, deps])
  have o2 := okD_dat d2 (by simp [dep, deps])
  have al : PySem.W.alike (toD (.tup [.int a, .str x])) (toD (.tup [.int b, .str y])) = true := by simp [toD, toDs, PySem.W.alike, PySem.W.alikeAll]
  have nn : notNon (.tup [.int a, .str x]) = true := rfl
  simp only [o1, o2, al, nn, and_self, if_true]
  congr 1
  have e1 : toD (.tup [.int a, .str x]) = .tuple [.int a, .str ⟨x.toArray⟩] := by simp [toD, toDs]
  have e2 : toD (.tup [.int b, .str y]) = .tuple [.int b, .str ⟨y.toArray⟩] := by simp [toD, toDs]
  rw [e1, e2, PySem.W.dataLt_tuple]
  simp only [PySem.W.keyToksAll, PySem.W.keyToks, List.singleton_append]
  rw [PyProof.Rows.lex_self]
  by_cases h : a = b
  · subst h
    rw [PyProof.Rows.lex_self, PyProof.Rows.lex_self]
    by_cases h2 : x = y
    · subst h2
      rw [PyProof.Rows.lex_self, PyProof.Rows.lex_self]
      simp [PyProof.Rows.lexLt, List.lt_irrefl]
    · rw [PyProof.Rows.lex_diff (by simpa using h2)]
      have : PyProof.Rows.itemOrd.blt (Sum.inr x) (Sum.inr y) = decide (x < y) := rfl
      rw [show (PyProof.Rows.itemOrd.blt (Sum.inr x.toArray.toList) (Sum.inr y.toArray.toList)) = decide (x < y) from rfl]
      simp
  · rw [PyProof.Rows.lex_diff (by simpa using h)]
    rw [show (PyProof.Rows.itemOrd.blt (Sum.inl a) (Sum.inl b)) = decide (a < b) from rfl]
    simp [h]
/-- a list read out of the heap -/
theorem frz_loc {n l k : Nat} {mh : MHp} {xs : List MV} (h : mh[l]? = some (some (.lst xs))) (hd : dats xs = true) (hn : n ≤ l) : frz n mh (k + 1) (.loc l) = some (.lst xs) := by
  unfold frz
  rw [if_neg (by omega)]
  simp only [h, frzs_dat xs hd]
  rfl
/-- a call that hands out a live list of its own -/
theorem run_own {C : CallF} {d : Df} {args : List MV} {mh mh1 : MHp} {fl : Fl} {ρ : Env} {l : Nat} {xs : List MV} (hl : args.length = d.np) (hv : d.live = false) (e : exs C mh.length d.body (args.map some ++ List.replicate (d.ns - d.np) none) mh = some (fl, ρ, mh1))
    (he : endV fl = some (.loc l)) (hx : mh1[l]? = some (some (.lst xs))) (hd : dats xs = true) (hn : mh.length ≤ l) (hm : mh1.take mh.length = mh) : runD C d args mh = some (.lst xs, mh) := by
  rw [run_frz2 hl hv e he (frz_loc hx hd hn), hm]
section
variable {T : List Df} {k f : Nat} {args : List MV} {mh mh1 : MHp} {np ns : Nat} {body : List MS} {ρ0 ρ : Env} {fl : Fl} {v : MV}
/-- a call that leaves the heap as it was -/
theorem call_v (hT : T[f]? = some ⟨np, ns, false, body⟩) (h0 : args.map some ++ List.replicate (ns - np) none = ρ0) (e : exs (callM T k) mh.length body ρ0 mh = some (fl, ρ, mh1)) (he : endV fl = some v) (hd : dat2 v = true) (hm : mh1.take mh.length = mh) (hl : args.length = np := by rfl) : callM T (k + 1) f args mh = some (v, mh) := by
  subst h0
  rw [callM_eq hT, run_of2 hl rfl e he hd, hm]
/-- a call that hands out a live list of its own -/
theorem call_own {l : Nat} {xs : List MV} (hT : T[f]? = some ⟨np, ns, false, body⟩) (h0 : args.map some ++ List.replicate (ns - np) none = ρ0) (e : exs (callM T k) mh.length body ρ0 mh = some (.rt (.loc l), ρ, mh1)) (hx : mh1[l]? = some (some (.lst xs))) (hd : dats xs = true) (hn : mh.length ≤ l) (hm : mh1.take mh.length = mh) (hl : args.length = np := by rfl) : callM T (k + 1) f args mh = some (.lst xs, mh) := by
  subst h0
  rw [callM_eq hT, run_own hl rfl e rfl hx hd hn hm]
/-- a call that draws: the heap behind has as many objects -/
theorem call_st (hT : T[f]? = some ⟨np, ns, false, body⟩) (h0 : args.map some ++ List.replicate (ns - np) none = ρ0) (e : exs (callM T k) mh.length body ρ0 mh = some (fl, ρ, mh1)) (he : endV fl = some v) (hd : dat2 v = true) (hl : args.length = np := by rfl) : callM T (k + 1) f args mh = some (v, mh1.take mh.length) := by
  subst h0
  rw [callM_eq hT, run_of2 hl rfl e he hd]
end
theorem take_app {mh : MHp} (x : MHp) : (mh ++ x).take mh.length = mh := List.take_left
theorem get_app0 {mh : MHp} {o : Option MO} {r : MHp} : (mh ++ o :: r)[mh.length]? = some o := by
  rw [List.getElem?_append_right (Nat.le_refl _), Nat.sub_self]; rfl
theorem get_app1 {mh : MHp} {o o1 : Option MO} {r : MHp} : (mh ++ o :: o1 :: r)[mh.length + 1]? = some o1 := by
  rw [List.getElem?_append_right (by omega)]; simp
theorem set_app0 {mh : MHp} {o o' : Option MO} {r : MHp} : (mh ++ o :: r).set mh.length o' = mh ++ o' :: r := by
  rw [List.set_append_right _ _ (Nat.le_refl _), Nat.sub_self]; rfl
theorem set_app1 {mh : MHp} {o o1 o' : Option MO} {r : MHp} : (mh ++ o :: o1 :: r).set (mh.length + 1) o' = mh ++ o :: o' :: r := by
  rw [List.set_append_right _ _ (by omega)]; simp
section
variable {C : CallF} {b : Nat} {ρ : Env} {mh : MHp}
/-- found.append(e), found the live list l -/
theorem ex_app {i l : Nat} {e : ME} {acc : List MV} {v : MV} {m m1 : MHp} (hi : ρ[i]? = some (some (.loc l))) (h0 : (liveL m (.loc l)).isSome = true) (he : ev C b e ρ m = some (v, m1)) (hl : m1[l]? = some (some (.lst acc))) (hw : wr b l v = true) (hn : acc.length < 16777216) : ex C b (.ex (.meth .append (.var i) [e])) ρ m = some (.nx, ρ, m1.set l (some (.lst (acc ++ [v])))) := by
  have hn : acc.length < line := hn
  have h1 : liveL m1 (.loc l) = some (l, acc) := by simp only [liveL, hl]
  simp only [ex, ev, hi, tyM, h0, if_true, evs, he, methV, appV, h1, hw, hn, and_self]
theorem wr_own {b l : Nat} {v : MV} (h : b ≤ l) : wr b l v = true := by simp [wr, h]
theorem live0 {acc : List MV} {r : MHp} : liveL (mh ++ some (.lst acc) :: r) (.loc mh.length) = some (mh.length, acc) := by simp only [liveL, get_app0]
/-- the same where the list stands just above the frame's heap -/
theorem ex_app0 {i : Nat} {e : ME} {acc : List MV} {v : MV} (hi : ρ[i]? = some (some (.loc mh.length))) (he : ev C mh.length e ρ (mh ++ [some (.lst acc)]) = some (v, mh ++ [some (.lst acc)])) (hn : acc.length < 16777216) : ex C mh.length (.ex (.meth .append (.var i) [e])) ρ (mh ++ [some (.lst acc)]) = some (.nx, ρ, mh ++ [some (.lst (acc ++ [v]))]) := by
  rw [ex_app hi (by rw [live0]; rfl) he get_app0 (wr_own (Nat.le_refl _)) hn, set_app0]
theorem evI_rng1Z {a : ME} {z : Int} (h : ev C b a ρ mh = some (.int z, mh)) (h1 : -4000000000000000000 < z) (h2 : z < 4000000000000000000) : evI C b (.rng1 a) ρ mh = some (⟨(List.range z.toNat).map fun (k : Nat) => .int (k : Int), none⟩, mh) := by
  have b1 : (-4611686018427387904 : Int) ≤ z := by omega
  have b2 : z < 4611686018427387904 := by omega
  simp [evI, h, b1, b2]
end
theorem cut_negL {α : Type} {xs : List α} {m : Nat} (h1 : 1 ≤ m) (h2 : m ≤ xs.length) : cut xs (some (-(m : Int))) none = xs.drop (xs.length - m) := by
  have e : HT.sIx xs.length 0 (some (-(m : Int))) = xs.length - m := by
    show (if (-(m : Int)) < 0 then (-(m : Int) + (xs.length : Int)).toNat else min (-(m : Int)).toNat xs.length) = _
    rw [if_pos (by omega)]
    omega
  unfold cut
  rw [e, HT.sIx_none, List.take_of_length_le (by rw [List.length_drop]; omega)]
theorem cut_negH {α : Type} {xs : List α} {m : Nat} (h1 : 1 ≤ m) (h2 : m ≤ xs.length) : cut xs none (some (-(m : Int))) = xs.take (xs.length - m) := by
  have e : HT.sIx xs.length xs.length (some (-(m : Int))) = xs.length - m := by
    show (if (-(m : Int)) < 0 then (-(m : Int) + (xs.length : Int)).toNat else min (-(m : Int)).toNat xs.length) = _
    rw [if_pos (by omega)]
    omega
  unfold cut
  rw [e, HT.sIx_none]
  simp
theorem slc_negL {mh : MHp} {w : Sx} {m : Nat} (h : w.length ≤ 1000) (h1 : 1 ≤ m) (h2 : m ≤ w.length) : slcV mh (.str w) (some (-(m : Int))) none = some (.str (w.drop (w.length - m))) := by
  have : w.length ≤ line := line_le (by omega)
  simp only [slcV, this, if_true, cut_negL h1 h2]
theorem slc_negH {mh : MHp} {w : Sx} {m : Nat} (h : w.length ≤ 1000) (h1 : 1 ≤ m) (h2 : m ≤ w.length) : slcV mh (.str w) none (some (-(m : Int))) = some (.str (w.take (w.length - m))) := by
  have : w.length ≤ line := line_le (by omega)
  simp only [slcV, this, if_true, cut_negH h1 h2]
theorem fm_flat {α β : Type} (f : α → Option β) : ∀ xs : List α, xs.filterMap f = xs.flatMap fun a => (f a).toList
  | [] => rfl
  | x :: xs => by
    rw [List.filterMap_cons, List.flatMap_cons, fm_flat f xs]
    cases f x <;> rfl
theorem stopF_find {α σ : Type} (p : α → Bool) : ∀ (xs : List α) (s : σ), stopF (fun s x => if p x = true then .inr x else .inl s) xs s = match xs.find? p with
    | none => .inl s
    | some x => .inr x
  | [], s => rfl
  | x :: xs, s => by
    rw [stopF, List.find?_cons]
    cases h : p x with
    | true => simp
    | false =>
      simp only [Bool.false_eq_true, if_false]
      exact stopF_find p xs s
theorem fold_rev_find {α σ : Type} (p : α → Bool) (f : α → σ) (d : σ) : ∀ xs : List α, xs.reverse.foldl (fun s x => if p x = true then f x else s) d = match xs.find? p with
    | none => d
    | some x => f x
  | [] => rfl
  | x :: xs => by
    rw [List.reverse_cons, List.foldl_append, List.foldl_cons, List.foldl_nil, fold_rev_find p f d xs, List.find?_cons]
    cases p x <;> simp
end L2.Mi

set_option Elab.async false
set_option linter.all false
set_option maxRecDepth 100000
set_option maxHeartbeats 4000000
/-! Ev8: drawing with live objects above the law's state; picks out of texts; is_whole. -/
namespace L2.Mi
open PySem PySem.Spec PyProof.Rows
theorem take_ex {T : List Df} {it : Nat} (hT : T[it]? = some takeD) (k : Nat) {l c : Nat} {i : Int} {cs : List Int} {mh : MHp} (h1 : mh[l]? = some (some (.lst [.int i, .loc c]))) (h2 : mh[c]? = some (some (.lst (cs.map .int)))) (h3 : cs ≠ []) (h4 : c ≠ l) (most : Int) (hm : most ≤ 1000000) : ∃ r mh', callM T (k + 1) it [.loc l, .int most] mh = some (.int r, mh') ∧ (mh' = mh ∨ (∃ i', mh' = mh.set l (some (.lst [.int i', .loc c]))) ∨ ∃ cs' : List Int, cs' ≠ [] ∧ mh' = mh.set c (some (.lst (cs'.map .int)))) ∧ 0 ≤ r ∧ (2 ≤ most → r < most) ∧ (most < 2 → r = 0) := by
  by_cases hlt : most < 2
  · refine ⟨0, mh, ?_, .inl rfl, by omega, by omega, fun _ => rfl⟩
    rw [callM_eq hT]
    refine run_of' rfl rfl (ρ := [some (.loc l), some (.int most), none, none, none, none]) (fl := .rt (.int 0)) ?_ rfl rfl rfl
    simp [takeD, exs, ex, ev, cmpV, ordV, hlt]
  · have hlen : 0 < (cs.length : Int) := by
      have : 0 < cs.length := List.length_pos_iff.mpr h3
      omega
    have a0 : 0 ≤ i.fmod cs.length := Int.fmod_nonneg_of_pos i hlen
    have a1 : i.fmod cs.length < cs.length := Int.fmod_lt_of_pos i hlen
    obtain ⟨x, hx, ex1⟩ := idx_int (cs := cs) a0 a1
    have hne : ¬ ((cs.length : Int) = 0) := by omega
    have hne' : ¬ (cs.length = 0) := by omega
    have b0 : idx [MV.int i, MV.loc c] 0 = some (.int i) := atI0
    have b1 : idx [MV.int i, MV.loc c] 1 = some (.loc c) := atI1
    have e1 : exs (callM T k) mh.length [(.ite (.cmp .lt (.var 1) (.c (.int (2)))) [(.ret (.c (.int (0))))] []), (.set (.nm 2) (.sub (.var 0) (.c (.int (1))))), (.set (.nm 3) (.bin .mod (.bi .int [(.sub (.var 0) (.c (.int (0))))]) (.bi .len [(.var 2)]))), (.set (.nm 4) (.sub (.var 2) (.var 3)))] [some (.loc l), some (.int most), none, none, none, none] mh = some (.nx, [some (.loc l), some (.int most), some (.loc c), some (.int (i.fmod cs.length)), some (.int x), none], mh) := by
      simp [exs, ex, ev, evs, cmpV, ordV, hlt, subV, getL, h1, h2, b0, b1, asg, biV, one1, intV1, lenV, binV, intV, hne', ex1]
    have mp : 0 < most := by omega
    have mne : ¬ most = 0 := by omega
    have mab : most.natAbs < 1073741824 := by omega
    have spl : ∀ {ss ss' : List MS} {ρ ρ' : Env} {m : MHp} {C : CallF}, exs C mh.length ss ρ mh = some (.nx, ρ', m) → exs C mh.length (ss ++ ss') ρ mh = exs C mh.length ss' ρ' m := fun {ss ss' ρ ρ' m C} h => by
      clear e1
      have gen : ∀ (ss : List MS) (ρ : Env) (m0 : MHp), exs C mh.length ss ρ m0 = some (.nx, ρ', m) → exs C mh.length (ss ++ ss') ρ m0 = exs C mh.length ss' ρ' m := by
        intro ss
        induction ss with
        | nil => intro ρ m0 h; simp only [exs] at h; cases h; rfl
        | cons s ss ih =>
          intro ρ m0 h
          rcases exs_cons h with ⟨ρ1, m1, e, h'⟩ | ⟨_, hn⟩
          · rw [List.cons_append, exs, e]; exact ih ρ1 m1 h'
          · exact absurd rfl hn
      exact gen ss ρ mh h
    rw [callM_eq hT]
    by_cases hbig : x < 1000000000000000000
    · -- the mixed way
      have key : ∀ r : Int, r = (((((x * 48271 + (i + 1) * 69621).fmod 2147483647) * 16807 + (i + 1) * 7919).fmod 1000000007).fdiv 7).fmod most → ∃ ρ, exs (callM T k) mh.length takeD.body [some (.loc l), some (.int most), none, none, none, none] mh = some (.rt (.int r), ρ, mh.set l (some (.lst [.int (i + 1), .loc c]))) := fun r hr => by
        have g1 : (mh.set l (some (.lst [.int (i + 1), .loc c])))[l]? = some (some (.lst [.int (i + 1), .loc c])) := get_set_eq h1
        have g2 : (mh.set l (some (.lst [.int (i + 1), .loc c])))[c]? = some (some (.lst (cs.map .int))) := by rw [get_set_ne (Ne.symm h4)]; exact h2
        have b0' : idx [MV.int (i + 1), MV.loc c] 0 = some (.int (i + 1)) := atI0
        have ix : L2.ixN 2 0 = some 0 := rfl
        have w1 : wr mh.length l (.int (i + 1)) = true := by simp [wr, bd]
        have := spl (ss' := [(.ite (.cmp .ge (.var 4) (.c (.int (1000000000000000000)))) [(.sti (.var 2) (.var 3) (.bin .fdiv (.var 4) (.var 1))), (.ret (.bin .mod (.bi .int [(.var 4)]) (.var 1)))] []), (.sti (.var 0) (.c (.int (0))) (.bin .add (.sub (.var 0) (.c (.int (0)))) (.c (.int (1))))), (.set (.nm 5) (.bin .mod (.bi .int [(.bin .add (.bin .mul (.var 4) (.c (.int (48271)))) (.bin .mul (.sub (.var 0) (.c (.int (0)))) (.c (.int (69621)))))]) (.c (.int (2147483647))))), (.set (.nm 5) (.bin .mod (.bi .int [(.bin .add (.bin .mul (.var 5) (.c (.int (16807)))) (.bin .mul (.sub (.var 0) (.c (.int (0)))) (.c (.int (7919)))))]) (.c (.int (1000000007))))), (.ret (.bin .mod (.bi .int [(.bin .fdiv (.var 5) (.c (.int (7))))]) (.var 1)))]) e1
        refine ⟨[some (.loc l), some (.int most), some (.loc c), some (.int (i.fmod cs.length)), some (.int x), some (.int ((((x * 48271 + (i + 1) * 69621).fmod 2147483647) * 16807 + (i + 1) * 7919).fmod 1000000007))], ?_⟩
        rw [hr]
        show exs (callM T k) mh.length ([(.ite (.cmp .lt (.var 1) (.c (.int (2)))) [(.ret (.c (.int (0))))] []), (.set (.nm 2) (.sub (.var 0) (.c (.int (1))))), (.set (.nm 3) (.bin .mod (.bi .int [(.sub (.var 0) (.c (.int (0))))]) (.bi .len [(.var 2)]))), (.set (.nm 4) (.sub (.var 2) (.var 3)))] ++ _) _ mh = _
        rw [this]
        simp [exs, ex, ev, evs, cmpV, ordV, hbig, subV, getL, h1, g1, b0, b0', asg, biV, one1, intV1, binV, intV, addV, mulV, mne, ix, w1]
      obtain ⟨ρ, e⟩ := key _ rfl
      refine ⟨_, _, run_of' rfl rfl e rfl rfl (by simp), .inr (.inl ⟨_, rfl⟩), Int.fmod_nonneg_of_pos _ mp, fun _ => Int.fmod_lt_of_pos _ mp, fun z => absurd z hlt⟩
    · have key : ∃ ρ, exs (callM T k) mh.length takeD.body [some (.loc l), some (.int most), none, none, none, none] mh = some (.rt (.int (x.fmod most)), ρ, mh.set c (some (.lst ((cs.set (i.fmod cs.length).toNat (x.fdiv most)).map .int)))) := by
        have ix : L2.ixN cs.length (i.fmod cs.length) = some (i.fmod cs.length).toNat := ixN_in a0 a1
        have w1 : wr mh.length c (.int (x.fdiv most)) = true := by simp [wr, bd]
        have := spl (ss' := [(.ite (.cmp .ge (.var 4) (.c (.int (1000000000000000000)))) [(.sti (.var 2) (.var 3) (.bin .fdiv (.var 4) (.var 1))), (.ret (.bin .mod (.bi .int [(.var 4)]) (.var 1)))] []), (.sti (.var 0) (.c (.int (0))) (.bin .add (.sub (.var 0) (.c (.int (0)))) (.c (.int (1))))), (.set (.nm 5) (.bin .mod (.bi .int [(.bin .add (.bin .mul (.var 4) (.c (.int (48271)))) (.bin .mul (.sub (.var 0) (.c (.int (0)))) (.c (.int (69621)))))]) (.c (.int (2147483647))))), (.set (.nm 5) (.bin .mod (.bi .int [(.bin .add (.bin .mul (.var 5) (.c (.int (16807)))) (.bin .mul (.sub (.var 0) (.c (.int (0)))) (.c (.int (7919)))))]) (.c (.int (1000000007))))), (.ret (.bin .mod (.bi .int [(.bin .fdiv (.var 5) (.c (.int (7))))]) (.var 1)))]) e1
        refine ⟨[some (.loc l), some (.int most), some (.loc c), some (.int (i.fmod cs.length)), some (.int x), none], ?_⟩
        show exs (callM T k) mh.length ([(.ite (.cmp .lt (.var 1) (.c (.int (2)))) [(.ret (.c (.int (0))))] []), (.set (.nm 2) (.sub (.var 0) (.c (.int (1))))), (.set (.nm 3) (.bin .mod (.bi .int [(.sub (.var 0) (.c (.int (0))))]) (.bi .len [(.var 2)]))), (.set (.nm 4) (.sub (.var 2) (.var 3)))] ++ _) _ mh = _
        rw [this]
        simp [exs, ex, ev, evs, cmpV, ordV, hbig, h2, asg, biV, one1, intV1, binV, intV, mne, mab, ix, w1, List.map_set]
      obtain ⟨ρ, e⟩ := key
      refine ⟨_, _, run_of' rfl rfl e rfl rfl (by simp), .inr (.inr ⟨_, by simp [h3], rfl⟩), Int.fmod_nonneg_of_pos _ mp, fun _ => Int.fmod_lt_of_pos _ mp, fun z => absurd z hlt⟩

theorem St.get {l n : Nat} {mh : MHp} (S : St l n mh) : l < n := by
  obtain ⟨hn, c, i, cs, h1, h2, h3, h4⟩ := S
  have := (List.getElem?_eq_some_iff.mp h1).1
  omega
/-- take, whatever stands above -/
theorem take_fr {T : List Df} {it : Nat} (hT : T[it]? = some takeD) (k : Nat) {l n : Nat} {hd : MHp} (tl : MHp) (S : St l n hd) (most : Int) (hm : most ≤ 1000000) : ∃ r hd', callM T (k + 1) it [.loc l, .int most] (hd ++ tl) = some (.int r, hd' ++ tl) ∧ St l n hd' ∧ 0 ≤ r ∧ (2 ≤ most → r < most) ∧ (most < 2 → r = 0) := by
  obtain ⟨hn, c, i, cs, h1, h2, h3, h4⟩ := S
  have a1 := (List.getElem?_eq_some_iff.mp h1).1
  have a2 := (List.getElem?_eq_some_iff.mp h2).1
  obtain ⟨r, mh', e, hm', r0, r1, r2⟩ := take_ex hT k (mh := hd ++ tl) (by rw [List.getElem?_append_left a1]; exact h1) (by rw [List.getElem?_append_left a2]; exact h2) h3 h4 most hm
  rcases hm' with rfl | ⟨i', rfl⟩ | ⟨cs', hc, rfl⟩
  · exact ⟨r, hd, e, ⟨hn, c, i, cs, h1, h2, h3, h4⟩, r0, r1, r2⟩
  · refine ⟨r, hd.set l (some (.lst [.int i', .loc c])), by rw [e, List.set_append_left _ _ a1], ⟨by simp [hn], c, i', cs, get_set_eq h1, by rw [get_set_ne (Ne.symm h4)]; exact h2, h3, h4⟩, r0, r1, r2⟩
  · refine ⟨r, hd.set c (some (.lst (cs'.map .int))), by rw [e, List.set_append_left _ _ a2], ⟨by simp [hn], c, i, cs', by rw [get_set_ne h4]; exact h1, get_set_eq h2, hc, h4⟩, r0, r1, r2⟩
/-- pick out of a list or a tuple -/
theorem pick_fr {T : List Df} {it ip : Nat} (hT : T[it]? = some takeD) (hP : T[ip]? = some (pickD it)) (k : Nat) {l n : Nat} {hd : MHp} (tl : MHp) (S : St l n hd) (row : List MV) {v : MV} (hv : v = .lst row ∨ v = .tup row) (h0 : row ≠ []) (hr : row.length ≤ 1000000) (hdd : ∀ y ∈ row, dat2 y = true) : ∃ y hd', y ∈ row ∧ callM T (k + 2) ip [.loc l, v] (hd ++ tl) = some (y, hd' ++ tl) ∧ St l n hd' := by
  have hp : 0 < row.length := List.length_pos_iff.mpr h0
  obtain ⟨r, hd', e, S', r0, r1, r2⟩ := take_fr hT k tl S (row.length : Int) (by omega)
  have hlt : r < (row.length : Int) := by
    by_cases h : 2 ≤ (row.length : Int)
    · exact r1 h
    · have := r2 (by omega); omega
  have hl : r.toNat < row.length := by omega
  have hi : idx row r = some row[r.toNat] := by
    have := L2.atI_nat (List.getElem?_eq_getElem hl)
    have e2 : ((r.toNat : Nat) : Int) = r := by omega
    rw [e2] at this
    exact this
  refine ⟨row[r.toNat], hd', List.getElem_mem hl, ?_, S'⟩
  have hlen : (hd' ++ tl).length = (hd ++ tl).length := by rw [List.length_append, List.length_append, S'.1, S.1]
  have := call_st (T := T) (k := k + 1) (f := ip) (args := [.loc l, v]) (mh := hd ++ tl) (mh1 := hd' ++ tl) (ρ0 := [some (.loc l), some v]) (ρ := [some (.loc l), some v]) (fl := .rt row[r.toNat]) (v := row[r.toNat]) hP rfl (by
    rcases hv with rfl | rfl <;> simp [exs, ex, ev, evs, biV, one1, lenV, getL, e, subV, hi]) rfl (hdd _ (List.getElem_mem hl))
  rw [this, ← hlen, List.take_length]
/-- pick a sign out of a text -/
theorem pick_frS {T : List Df} {it ip : Nat} (hT : T[it]? = some takeD) (hP : T[ip]? = some (pickD it)) (k : Nat) {l n : Nat} {hd : MHp} (tl : MHp) (S : St l n hd) {row : Sx} (h0 : row ≠ []) (hdr : dat (.str row) = true) : ∃ c hd', c ∈ row ∧ callM T (k + 2) ip [.loc l, .str row] (hd ++ tl) = some (.str [c], hd' ++ tl) ∧ St l n hd' := by
  have hp : 0 < row.length := List.length_pos_iff.mpr h0
  have hr := dat_str_len hdr
  obtain ⟨r, hd', e, S', r0, r1, r2⟩ := take_fr hT k tl S (row.length : Int) (by omega)
  have hlt : r < (row.length : Int) := by
    by_cases h : 2 ≤ (row.length : Int)
    · exact r1 h
    · have := r2 (by omega); omega
  have hl : r.toNat < row.length := by omega
  have hi : idx row r = some row[r.toNat] := by
    have := L2.atI_nat (List.getElem?_eq_getElem hl)
    have e2 : ((r.toNat : Nat) : Int) = r := by omega
    rw [e2] at this
    exact this
  have z : row.length ≤ line := line_le (by omega)
  refine ⟨row[r.toNat], hd', List.getElem_mem hl, ?_, S'⟩
  have hlen : (hd' ++ tl).length = (hd ++ tl).length := by rw [List.length_append, List.length_append, S'.1, S.1]
  have := call_st (T := T) (k := k + 1) (f := ip) (args := [.loc l, .str row]) (mh := hd ++ tl) (mh1 := hd' ++ tl) (ρ0 := [some (.loc l), some (.str row)]) (ρ := [some (.loc l), some (.str row)]) (fl := .rt (.str [row[r.toNat]])) (v := .str [row[r.toNat]]) hP rfl (by
    simp [exs, ex, ev, evs, biV, one1, lenV, e, subV, hi, z]) rfl (dat_dat2 _ (dat_chr hdr (List.getElem_mem hl)))
  rw [this, ← hlen, List.take_length]
/-- a for whose world is counted -/
theorem for_cnt {J : Its} {f : MV → Env → MHp → Option (Fl × Env × MHp)} (P : Nat → Env → MHp → Prop) (hJ : J.src = none) : ∀ (xs : List MV) (i : Nat), (∀ x ∈ xs, ∀ j ρ mh, P j ρ mh → j < i + xs.length → ∃ ρ' mh', f x ρ mh = some (.nx, ρ', mh') ∧ P (j + 1) ρ' mh') →
    ∀ ρ mh, P i ρ mh → ∃ ρ' mh', forGo J f xs ρ mh = some (.nx, ρ', mh') ∧ P (i + xs.length) ρ' mh'
  | [], i, _, ρ, mh, p => ⟨ρ, mh, forGo_nil_of hJ, p⟩
  | x :: xs, i, h, ρ, mh, p => by
    obtain ⟨ρ1, mh1, e, p1⟩ := h x List.mem_cons_self i ρ mh p (by simp only [List.length_cons]; omega)
    obtain ⟨ρ2, mh2, e2, p2⟩ := for_cnt P hJ xs (i + 1) (fun y hy j ρ mh q l => h y (List.mem_cons_of_mem _ hy) j ρ mh q (by simp only [List.length_cons]; omega)) ρ1 mh1 p1
    refine ⟨ρ2, mh2, ?_, ?_⟩
    · rw [forGo_cons_of hJ, e]
      exact e2
    · rw [List.length_cons, show i + (xs.length + 1) = i + 1 + xs.length by omega]
      exact p2
/-! ### join of signs -/
theorem join_app (a b : Str) : (a ++ b).cps.toList = a.cps.toList ++ b.cps.toList := by
  show (a.cps ++ b.cps).toList = _
  simp
theorem join_flat (ws : List Sx) : (Txt.join ⟨([] : Sx).toArray⟩ (ws.map fun t => ⟨t.toArray⟩)).cps.toList = ws.flatten := by
  rw [eq_of_beq (join_plain_closes ⟨([] : Sx).toArray⟩ (ws.map fun t => ⟨t.toArray⟩))]
  induction ws with
  | nil => rfl
  | cons w ws ih =>
    cases ws with
    | nil => simp [Str.join]
    | cons v ws =>
      simp only [List.map_cons, Str.join] at ih ⊢
      rw [join_app, join_app, ih]
      simp
theorem mapM_str : ∀ ws : List Sx, (ws.map MV.str).mapM strOf = some ws
  | [] => rfl
  | w :: ws => by rw [List.map_cons, List.mapM_cons, mapM_str ws]; rfl
theorem join_ok {mh : MHp} {ws : List Sx} (h : (ws.map List.length).sum ≤ 1000000) : joinV mh (.str []) [.lst (ws.map .str)] = some (.str ws.flatten, mh) := by
  have : (ws.map List.length).sum + ws.length * ([] : Sx).length ≤ line := line_le (by simp; omega)
  simp only [joinV, getL, mapM_str, this, if_true, join_flat]
/-! ### is_whole; kinds -/
def wholeD : Df := ⟨3, 3, false, [(.ret (.and (.isi (.var 0) .int) (.and (.not (.isi (.var 0) .bool)) (.chn .le .le (.var 1) (.var 0) (.var 2)))))]⟩
def isW : MV → Int → Int → Bool
  | .int i, lo, hi => decide (lo ≤ i) && decide (i ≤ hi)
  | _, _, _ => false
def isB : MV → Bool
  | .bl _ => true
  | _ => false
def isI : MV → Bool
  | .int _ => true
  | .bl _ => true
  | _ => false
def isT : MV → Bool
  | .tup _ => true
  | _ => false
def isL : MV → Bool
  | .lst _ => true
  | _ => false
def isDc : MV → Bool
  | .dct _ _ => true
  | _ => false
theorem isTy_strV {v : MV} {mh : MHp} (hd : dat2 v = true) : isTy v .str mh = some (isS v) := by
  cases v <;> first | (cases hd; done) | rfl
theorem isTy_boolV {v : MV} {mh : MHp} (hd : dat2 v = true) : isTy v .bool mh = some (isB v) := by
  cases v <;> first | (cases hd; done) | rfl
theorem isTy_intV {v : MV} {mh : MHp} (hd : dat2 v = true) : isTy v .int mh = some (isI v) := by
  cases v <;> first | (cases hd; done) | rfl
theorem isTy_tupV {v : MV} {mh : MHp} (hd : dat2 v = true) : isTy v .tuple mh = some (isT v) := by
  cases v <;> first | (cases hd; done) | rfl
theorem isTy_lstV {v : MV} {mh : MHp} (hd : dat2 v = true) : isTy v .list mh = some (isL v) := by
  cases v <;> first | (cases hd; done) | rfl
theorem isTy_dctV {v : MV} {mh : MHp} (hd : dat2 v = true) : isTy v .dict mh = some (isDc v) := by
  cases v <;> first | (cases hd; done) | rfl
theorem whole_ok {T : List Df} {f : Nat} (hT : T[f]? = some wholeD) (k : Nat) (v : MV) (lo hi : Int) (mh : MHp) (hd : dat2 v = true) : callM T (k + 1) f [v, .int lo, .int hi] mh = some (.bl (isW v lo hi), mh) := by
  refine call_v (ρ0 := [some v, some (.int lo), some (.int hi)]) (ρ := [some v, some (.int lo), some (.int hi)]) (mh1 := mh) (fl := .rt (.bl (isW v lo hi))) hT rfl ?_ rfl rfl List.take_length
  cases v with
  | int i =>
    by_cases h : i < lo
    · have h' : ¬ lo ≤ i := by omega
      simp [exs, ex, ev, evs, isTy, isW, cmpV, ordV, h, h']
    · have h' : lo ≤ i := by omega
      by_cases h2 : hi < i
      · have h2' : ¬ i ≤ hi := by omega
        simp [exs, ex, ev, evs, isTy, isW, cmpV, ordV, h, h', h2, h2']
      · have h2' : i ≤ hi := by omega
        simp [exs, ex, ev, evs, isTy, isW, cmpV, ordV, h, h', h2, h2']
  | fn _ => cases hd
  | loc _ => cases hd
  | scr _ => cases hd
  | _ => simp [exs, ex, ev, evs, isTy, isW]
end L2.Mi

set_option Elab.async false
set_option linter.all false
set_option maxRecDepth 100000
set_option maxHeartbeats 4000000
/-! Ev9: terms drawn with live objects above. -/
namespace L2.Mi
open PySem PySem.Spec PyProof.Rows
/-- the state below, live objects above -/
def Sf (l n : Nat) (tl : MHp) (mh : MHp) : Prop := ∃ hd, mh = hd ++ tl ∧ St l n hd
theorem Sf.len {l n : Nat} {tl mh : MHp} (h : Sf l n tl mh) : mh.length = n + tl.length := by
  obtain ⟨hd, rfl, S⟩ := h
  rw [List.length_append, S.1]
theorem take_f {T : List Df} {it : Nat} (hT : T[it]? = some takeD) (k : Nat) {l n : Nat} {tl mh : MHp} (S : Sf l n tl mh) (most : Int) (hm : most ≤ 1000000) : ∃ r mh', callM T (k + 1) it [.loc l, .int most] mh = some (.int r, mh') ∧ Sf l n tl mh' ∧ 0 ≤ r ∧ (2 ≤ most → r < most) ∧ (most < 2 → r = 0) := by
  obtain ⟨hd, rfl, S⟩ := S
  obtain ⟨r, hd', e, S', x⟩ := take_fr hT k tl S most hm
  exact ⟨r, hd' ++ tl, e, ⟨hd', rfl, S'⟩, x⟩
theorem pick_f {T : List Df} {it ip : Nat} (hT : T[it]? = some takeD) (hP : T[ip]? = some (pickD it)) (k : Nat) {l n : Nat} {tl mh : MHp} (S : Sf l n tl mh) (row : List MV) (h0 : row ≠ []) (hr : row.length ≤ 1000000) (hd : dats row = true) : ∃ y mh', y ∈ row ∧ callM T (k + 2) ip [.loc l, .lst row] mh = some (y, mh') ∧ Sf l n tl mh' := by
  obtain ⟨hd0, rfl, S⟩ := S
  obtain ⟨y, hd', hy, e, S'⟩ := pick_fr hT hP k tl S row (.inl rfl) h0 hr (fun y hy => dat_dat2 _ (dats_iff.mp hd y hy))
  exact ⟨y, hd' ++ tl, hy, e, ⟨hd', rfl, S'⟩⟩
theorem term_bodyF {T : List Df} {it ip im : Nat} (hT : T[it]? = some takeD) (hPk : T[ip]? = some (pickD it)) {P0 : MV → Prop} {l n : Nat} {tl : MHp} {ps : List MV} (hps : TokG ps) (hP0 : ∀ s (i : Nat) ys, pr s i ∈ ps → ys.length = i → (∀ y ∈ ys, P0 y) → P0 (.tup (.str s :: ys))) {names : List MV} (hnl : names.length ≤ 1000) (hnd : dats names = true) (hng : ∀ x ∈ names, ∃ s, x = .str s ∧ P0 (.str s))
    {k : Nat} {M : Int} {b e : Nat} {mh : MHp} (hM : 1 ≤ M) (S : Sf l n tl mh)
    (rec : 1 < M → ∀ mh, Sf l n tl mh → ∃ t mh', callM T (k + 2) im [.loc l, .tup ps, .lst names, .int (M - 1)] mh = some (t, mh') ∧ Sf l n tl mh' ∧ DrawnG P0 b e t) :
    ∃ t ρ mh', exs (callM T (k + 2)) mh.length (termD it ip im).body (mEnv l ps names M none none none) mh = some (.rt t, ρ, mh') ∧ Sf l n tl mh' ∧ DrawnG P0 (1 + 3 * b) (e + 1) t := by
  have z2 : 2 ≤ line := by unfold line; omega
  have hc1 : ∃ b mh1, ev (callM T (k + 2)) mh.length (.and (.cmp .gt (.bi .len [(.var 2)]) (.c (.int (0)))) (.cmp .eq (.call it [(.var 0), (.ite (.cmp .gt (.var 3) (.c (.int (1)))) (.c (.int (3))) (.c (.int (2))))]) (.c (.int (0))))) (mEnv l ps names M none none none) mh = some (.bl b, mh1) ∧ Sf l n tl mh1 ∧ (b = true → names ≠ []) := by
    by_cases hn0 : names = []
    · refine ⟨false, mh, ?_, S, fun h => by cases h⟩
      subst hn0
      simp [mEnv, ev, evs, biV, one1, lenV, getL, cmpV, ordV]
    · have hnl0 : 0 < names.length := List.length_pos_iff.mpr hn0
      obtain ⟨r, mh1, e1, S1, r0, _, _⟩ := take_f hT (k + 1) S (if 1 < M then 3 else 2) (by split <;> omega)
      refine ⟨decide (r = 0), mh1, ?_, S1, fun _ => hn0⟩
      by_cases h : 1 < M
      · rw [if_pos h] at e1
        have e1 : callM T (k + 2) it [.loc l, .int 3] mh = _ := e1
        simp [mEnv, ev, evs, biV, one1, lenV, getL, cmpV, ordV, hnl0, h, e1, eqV_int]
      · rw [if_neg h] at e1
        have e1 : callM T (k + 2) it [.loc l, .int 2] mh = _ := e1
        simp [mEnv, ev, evs, biV, one1, lenV, getL, cmpV, ordV, hnl0, h, e1, eqV_int]
  obtain ⟨bb, mh1, c1, S1, hbn⟩ := hc1
  cases bb with
  | true =>
    obtain ⟨y, mh2, hy, e2, S2⟩ := pick_f hT hPk k S1 names (hbn rfl) (by omega) hnd
    obtain ⟨s, rfl, hs⟩ := hng y hy
    refine ⟨.str s, mEnv l ps names M none none none, mh2, ?_, S2, ⟨hs, by simp only [cnt]; omega, by simp only [dep]; omega, dats_iff.mp hnd _ hy⟩⟩
    rw [termD, exs]
    simp only [ex, c1]
    simp [exs, ex, ev, evs, mEnv, e2]
  | false =>
    -- a pair is drawn
    let P : MV → Bool := fun p => decide (1 < M) || isZ p
    have hg : ev (callM T (k + 2)) mh.length (.comp (.nm 7) [7] (.var 1) (.or (.cmp .gt (.var 3) (.c (.int (1)))) (.cmp .eq (.sub (.var 7) (.c (.int (1)))) (.c (.int (0))))) (.var 7)) (mEnv l ps names M none none none) mh1 = some (.lst (ps.filter P), mh1) := by
      have ei : evI (callM T (k + 2)) mh.length (.var 1) (mEnv l ps names M none none none) mh1 = some (⟨ps, none⟩, mh1) := by simp [evI, ev, itsOf, mEnv]
      have hz : ps.length ≤ line := by have := hps.l4; unfold line; omega
      rw [ev_compq, ei]
      simp only [hz, if_true]
      rw [compGo_pure rfl (g := fun p => if P p = true then some p else none)]
      · simp only
        rw [fm_filter]
      · intro p hp
        obtain ⟨s, i, rfl, hi, _⟩ := hps.each p hp
        by_cases h : 1 < M
        · simp [compF, asg, wipeE, ev, mEnv, cmpV, ordV, h, P]
        · by_cases hi0 : (i : Int) = 0
          · simp [compF, asg, wipeE, ev, mEnv, cmpV, ordV, h, P, subV, atI1, eqV_int, isZ, hi0]
          · have hi0' : ¬ (i = 0) := by omega
            simp [compF, asg, wipeE, ev, mEnv, cmpV, ordV, h, P, subV, atI1, eqV_int, isZ, hi0, hi0']
    have hne : ps.filter P ≠ [] := by
      have hz := hps.zero
      intro z
      apply hz
      rw [List.filter_eq_nil_iff] at z ⊢
      intro p hp q
      exact z p hp (by
        have : isZ p = true := q
        simp [P, this])
    have hfl : (ps.filter P).length ≤ 1000 := Nat.le_trans (List.length_filter_le _ _) (by have := hps.l4; omega)
    have hfd : dats (ps.filter P) = true := dats_iff.mpr fun x hx => dats_iff.mp hps.dat x ((List.mem_filter.mp hx).1)
    obtain ⟨y, mh2, hy, e2, S2⟩ := pick_f hT hPk k S1 (ps.filter P) hne (by omega) hfd
    have hyp := (List.mem_filter.mp hy).1
    obtain ⟨s, i, rfl, hi, hds⟩ := hps.each y hyp
    have hi1 : ¬ 1 < M → i = 0 := fun h => by
      have := (List.mem_filter.mp hy).2
      simp [P, h, isZ] at this
      exact this
    -- the parts
    have hpart : ∃ ys mh3, ev (callM T (k + 2)) mh.length (.comp (.nm 8) [8] (.rng1 (.var 6)) (.c (.bl true)) (.call im [(.var 0), (.var 1), (.var 2), (.bin .sub (.var 3) (.c (.int (1))))])) (mEnv l ps names M (some (.lst (ps.filter P))) (some (.str s)) (some (.int i))) mh2 = some (.lst ys, mh3) ∧ Sf l n tl mh3 ∧ ys.length = i ∧ ∀ y ∈ ys, DrawnG P0 b e y := by
      have ei : evI (callM T (k + 2)) mh.length (.rng1 (.var 6)) (mEnv l ps names M (some (.lst (ps.filter P))) (some (.str s)) (some (.int i))) mh2 = some (⟨(List.range i).map fun (k : Nat) => .int (k : Int), none⟩, mh2) := by
        have b1 : (-4611686018427387904 : Int) ≤ i := by omega
        have b2 : (i : Int) < 4611686018427387904 := by omega
        simp [evI, ev, mEnv, b1, b2]
      obtain ⟨ys, mh3, q1, q2, q3, q4⟩ := compGo_st (J := ⟨(List.range i).map fun (k : Nat) => MV.int (k : Int), none⟩) rfl (f := compF (callM T (k + 2)) mh.length (.nm 8) [8] (.c (.bl true)) (.call im [(.var 0), (.var 1), (.var 2), (.bin .sub (.var 3) (.c (.int (1))))]) (mEnv l ps names M (some (.lst (ps.filter P))) (some (.str s)) (some (.int i)))) (P := Sf l n tl) (R := DrawnG P0 b e) (xs := (List.range i).map fun (k : Nat) => MV.int (k : Int)) S2 (fun x hx m1 Sm => by
        obtain ⟨j, hj, rfl⟩ := List.mem_map.mp hx
        have hj' := List.mem_range.mp hj
        have h1 : 1 < M := Classical.byContradiction fun z => by have := hi1 z; omega
        obtain ⟨t, m2, t1, t2, t3⟩ := rec h1 m1 Sm
        refine ⟨t, m2, ?_, t2, t3⟩
        simp [compF, asg, wipeE, ev, evs, mEnv, binV, intV, t1])
      refine ⟨ys, mh3, ?_, q2, by simpa using q3, q4⟩
      rw [ev_compq, ei]
      have hz : i ≤ line := by unfold line; omega
      simp only [List.length_map, List.length_range, hz, if_true, q1]
    obtain ⟨ys, mh3, e3, S3, hl, hy3⟩ := hpart
    have hdd : dats ys = true := dats_iff.mpr fun x hx => (hy3 x hx).dat
    have hcc : cnts ys ≤ i * b := by rw [← hl]; exact cnts_le fun x hx => (hy3 x hx).cnt
    have hib : i * b ≤ 3 * b := Nat.mul_le_mul_right b hi
    refine ⟨.tup (.str s :: ys), mEnv l ps names M (some (.lst (ps.filter P))) (some (.str s)) (some (.int i)), mh3, ?_, S3, ⟨?_, ?_, ?_, ?_⟩⟩
    · have hz : 1 ≤ line := by unfold line; omega
      have hz2 : 1 + ys.length ≤ line := by unfold line; omega
      rw [termD, exs]
      simp only [ex, c1, exs, hg]
      simp only [asg, mEnv, List.length_cons, List.length_nil, List.set, Nat.reduceAdd, Nat.reduceLT, if_true]
      simp only [mEnv] at e3
      simp [ev, evs, e2, asg, asgs, e3, exs, ex, hz, biV, one1, tupV, getL, binV, addV, hz2]
    · exact hP0 s i ys hyp hl fun y hy => (hy3 y hy).good
    · simp only [cnt, cntT]; omega
    · have := deps_le fun x hx => (hy3 x hx).dep
      simp only [dep, deps]
      omega
    · unfold dat dats; rw [hds, hdd]; rfl
theorem term_fr {T : List Df} {it ip im : Nat} (hT : T[it]? = some takeD) (hPk : T[ip]? = some (pickD it)) (hM : T[im]? = some (termD it ip im)) {P0 : MV → Prop} {l n : Nat} {tl : MHp} {ps : List MV} (hps : TokG ps) (hP0 : ∀ s (i : Nat) ys, pr s i ∈ ps → ys.length = i → (∀ y ∈ ys, P0 y) → P0 (.tup (.str s :: ys))) {names : List MV} (hnl : names.length ≤ 1000) (hnd : dats names = true) (hng : ∀ x ∈ names, ∃ s, x = .str s ∧ P0 (.str s)) :
    ∀ (m k : Nat) {mh : MHp}, Sf l n tl mh → ∃ t mh', callM T (k + m + 3) im [.loc l, .tup ps, .lst names, .int ((m + 1 : Nat) : Int)] mh = some (t, mh') ∧ Sf l n tl mh' ∧ DrawnG P0 (bnd m) (m + 1) t := by
  intro m
  induction m with
  | zero =>
    intro k mh S
    obtain ⟨t, ρ, mh', e, S', d⟩ := term_bodyF hT hPk hps hP0 hnl hnd hng (k := k) (M := ((0 + 1 : Nat) : Int)) (b := 0) (e := 0) (mh := mh) (by omega) S (fun h => by exfalso; omega)
    refine ⟨t, mh', ?_, S', d⟩
    rw [callM_eq hM]
    exact run_of' rfl rfl e rfl d.dat (by rw [S'.len, S.len])
  | succ m ih =>
    intro k mh S
    obtain ⟨t, ρ, mh', e, S', d⟩ := term_bodyF hT hPk hps hP0 hnl hnd hng (k := k + m + 1) (M := ((m + 1 + 1 : Nat) : Int)) (b := bnd m) (e := m + 1) (mh := mh) (by omega) S (fun h mh1 S1 => by
      obtain ⟨t, mh2, q, r⟩ := ih k S1
      have e2 : ((m + 1 + 1 : Nat) : Int) - 1 = ((m + 1 : Nat) : Int) := by omega
      rw [e2]
      exact ⟨t, mh2, q, r⟩)
    refine ⟨t, mh', ?_, S', d⟩
    rw [show k + (m + 1) + 3 = (k + m + 1 + 2) + 1 by omega, callM_eq hM]
    exact run_of' rfl rfl e rfl d.dat (by rw [S'.len, S.len])
end L2.Mi

set_option Elab.async false
set_option linter.all false
set_option maxRecDepth 100000
set_option maxHeartbeats 4000000
namespace L2.Mi.k04
open PySem PySem.Spec PyProof.Rows L2.Mi
theorem hTake : T[17]? = some takeD := rfl
theorem hPick : T[18]? = some (pickD 17) := rfl
theorem hTongue : T[19]? = some (tongueD 18) := rfl
theorem hTerm : T[20]? = some (termD 17 18 20) := rfl
theorem hState : T[16]? = some stateD := rfl
theorem sp_isvar (k : Nat) (v : MV) (mh : MHp) (hd : dat v = true) : callM T (k + 1) 4 [v] mh = some (.bl (isS v), mh) := by
  rw [callM_eq (d := d_is_var) rfl]
  refine run_of' rfl rfl (ρ := [some v]) (fl := .rt (.bl (isS v))) ?_ rfl rfl rfl
  cases v <;> first | (cases hd; done) | simp [d_is_var, exs, ex, ev, isTy, isS]
def hasV (acc : List MV) (x : MV) : Bool := acc.any fun z => eqD z x
mutual
/-- the names of a term, each once, in order -/
def vars : MV → List MV
  | .str s => [.str s]
  | .tup xs => varsT xs
  | _ => []
def varsT : List MV → List MV
  | [] => []
  | _ :: xs => varsL [] xs
def varsL : List MV → List MV → List MV
  | acc, [] => acc
  | acc, x :: xs => varsL (acc ++ (vars x).filter fun n => !hasV acc n) xs
end
def AllS (xs : List MV) : Prop := ∀ x ∈ xs, ∃ s, x = .str s ∧ dat x = true
theorem AllS.app {a b : List MV} (h : AllS a) (h' : AllS b) : AllS (a ++ b) := fun x hx => (List.mem_append.mp hx).elim (h x) (h' x)
theorem AllS.filter {a : List MV} {p : MV → Bool} (h : AllS a) : AllS (a.filter p) := fun x hx => h x (List.mem_filter.mp hx).1
theorem AllS.dats {a : List MV} (h : AllS a) : dats a = true := dats_iff.mpr fun x hx => (h x hx).elim fun _ z => z.2
theorem AllS.ok {a : List MV} (h : AllS a) : okD (.lst a) = true := okD_dat (by unfold dat; exact h.dats) (by
  have : deps a ≤ 0 := deps_le fun x hx => by obtain ⟨s, rfl, _⟩ := h x hx; simp [dep]
  simp only [dep]; omega)
mutual
theorem vars_all : ∀ t, tm t = true → dat t = true → AllS (vars t) ∧ (vars t).length ≤ cnt t
  | .str s, h, d => ⟨fun x hx => by simp [vars] at hx; subst hx; exact ⟨s, rfl, d⟩, by simp [vars, cnt]⟩
  | .tup [], h, d => by simp [tm, tmT] at h
  | .tup (y :: xs), h, d => by
    simp only [tm, tmT, Bool.and_eq_true] at h
    have hx : dats xs = true := by unfold dat dats at d; rw [Bool.and_eq_true] at d; exact d.2
    obtain ⟨a, b⟩ := varsL_all [] xs h.2 hx (fun x hx => by simp at hx)
    refine ⟨by simp only [vars, varsT]; exact a, ?_⟩
    simp only [vars, varsT, cnt, cntT]
    simp at b
    omega
  | .non, h, _ => by simp [tm] at h
  | .bl _, h, _ => by simp [tm] at h
  | .int _, h, _ => by simp [tm] at h
  | .fn _, h, _ => by simp [tm] at h
  | .lst _, h, _ => by simp [tm] at h
  | .loc _, h, _ => by simp [tm] at h
  | .dct _ _, h, _ => by simp [tm] at h
  | .scr _, h, _ => by simp [tm] at h
theorem varsL_all : ∀ acc xs, tms xs = true → dats xs = true → AllS acc → AllS (varsL acc xs) ∧ (varsL acc xs).length ≤ acc.length + cnts xs
  | acc, [], h, d, ha => by simp only [varsL]; exact ⟨ha, by simp [cnts]⟩
  | acc, x :: xs, h, d, ha => by
    simp only [tms, Bool.and_eq_true] at h
    simp only [dats, Bool.and_eq_true] at d
    obtain ⟨a, b⟩ := vars_all x h.1 d.1
    obtain ⟨a2, b2⟩ := varsL_all (acc ++ (vars x).filter fun n => !hasV acc n) xs h.2 d.2 (ha.app a.filter)
    have hf := List.length_filter_le (fun n => !hasV acc n) (vars x)
    refine ⟨by simp only [varsL]; exact a2, ?_⟩
    simp only [varsL, cnts]
    rw [List.length_append] at b2
    omega
end
theorem mem_str {mh : MHp} {acc : List MV} {x : MV} (ha : AllS acc) (hx : ∃ s, x = .str s ∧ dat x = true) : memV mh x (.lst acc) = some (hasV acc x) := by
  obtain ⟨s, rfl, hd⟩ := hx
  have e1 : frz 0 mh 8 (.str s) = some (.str s) := frz_dat _ hd
  have e2 : frz 0 mh 8 (.lst acc) = some (.lst acc) := frz_dat _ (by unfold dat; exact ha.dats)
  have o1 := okD_str hd
  have o2 := ha.ok
  unfold memV
  split
  · rename_i h; cases h
  · simp only [e1, e2, o1, o2, and_self, if_true]
    rfl
abbrev nmBody : List MS := [(.set (.nm 1) (.bin .add (.var 1) (.comp (.nm 3) [3] (.call 22 [(.var 2)]) (.cmp .nmem (.var 3) (.var 1)) (.var 3))))]
theorem names_loop {C : CallF} {b : Nat} {t : Option MV} {mh : MHp} {J : Its} (hJ : J.src = none) : ∀ (xs acc : List MV) (o : Option MV), (∀ x ∈ xs, C 22 [x] mh = some (.lst (vars x), mh)) → tms xs = true → dats xs = true → AllS acc → acc.length + cnts xs ≤ 2000 →
    ∃ o', forGo J (forF C b (.nm 2) nmBody) xs [t, some (.lst acc), o, none] mh = some (.nx, [t, some (.lst (varsL acc xs)), o', none], mh)
  | [], acc, o, _, _, _, _, _ => ⟨o, by simp only [varsL]; exact forGo_nil_of hJ⟩
  | x :: xs, acc, o, hC, ht, hd, ha, hl => by
    simp only [tms, Bool.and_eq_true] at ht
    simp only [dats, Bool.and_eq_true] at hd
    simp only [cnts] at hl
    obtain ⟨va, vl⟩ := vars_all x ht.1 hd.1
    have hc := hC x (by simp)
    have hcomp : ev C b (.comp (.nm 3) [3] (.call 22 [(.var 2)]) (.cmp .nmem (.var 3) (.var 1)) (.var 3)) [t, some (.lst acc), some x, none] mh = some (.lst ((vars x).filter fun n => !hasV acc n), mh) := by
      have ei : evI C b (.call 22 [(.var 2)]) [t, some (.lst acc), some x, none] mh = some (⟨vars x, none⟩, mh) := by
        simp [evI, ev, evs, hc, itsOf]
      have hz : (vars x).length ≤ line := by unfold line; omega
      rw [ev_compq, ei]
      simp only [hz, if_true]
      rw [compGo_pure rfl (g := fun n => if (!hasV acc n) = true then some n else none)]
      · simp only
        rw [fm_filter]
      · intro n hn
        have hm := mem_str (mh := mh) ha (va n hn)
        cases hb : hasV acc n <;> rw [hb] at hm <;> simp [compF, asg, wipeE, ev, cmpV, hm]
    have hf := List.length_filter_le (fun n => !hasV acc n) (vars x)
    obtain ⟨F, hF⟩ : ∃ F, F = (vars x).filter fun n => !hasV acc n := ⟨_, rfl⟩
    rw [← hF] at hcomp hf
    have hz2 : acc.length + F.length ≤ line := by unfold line; omega
    have st : forF C b (.nm 2) nmBody x [t, some (.lst acc), o, none] mh = some (.nx, [t, some (.lst (acc ++ F)), some x, none], mh) := by
      simp [forF, asg, exs, ex, ev, ↓hcomp, binV, addV, getL, hz2]
    rw [forGo_cons_of hJ, st]
    obtain ⟨o', e⟩ := names_loop hJ xs (acc ++ F) (some x) (fun y hy => hC y (List.mem_cons_of_mem _ hy)) ht.2 hd.2 (ha.app (by rw [hF]; exact va.filter)) (by rw [List.length_append]; omega)
    refine ⟨o', ?_⟩
    simp only [varsL]
    rw [← hF]
    exact e
theorem sp_names : ∀ (N k : Nat) (t : MV) (mh : MHp), dep t ≤ N → cnt t ≤ 1000 → tm t = true → dat t = true → callM T (k + N + 1) 22 [t] mh = some (.lst (vars t), mh) := by
  have leaf : ∀ (k : Nat) (s : Sx) (mh : MHp), dat (.str s) = true → callM T (k + 1) 22 [.str s] mh = some (.lst (vars (.str s)), mh) := fun k s mh hd => by
    rw [callM_eq (d := d_l_names) rfl]
    refine run_of' rfl rfl (ρ := [some (.str s), none, none, none]) (fl := .rt (.lst (vars (.str s)))) ?_ rfl (by simp only [vars, dat, dats, Bool.and_true]; exact hd) rfl
    have z1 : 1 ≤ line := by unfold line; omega
    simp [d_l_names, exs, ex, ev, evs, isTy, vars, z1]
  intro N
  induction N with
  | zero =>
    intro k t mh hD hc ht hd
    rcases tm_cases ht hd with ⟨s, rfl⟩ | ⟨s, xs, rfl, hds, hx⟩
    · exact leaf k s mh hd
    · simp [dep] at hD
  | succ N ih =>
    intro k t mh hD hc ht hd
    rcases tm_cases ht hd with ⟨s, rfl⟩ | ⟨s, xs, rfl, hds, hx⟩
    · exact leaf (k + (N + 1)) s mh hd
    · rw [show k + (N + 1) + 1 = (k + N + 1) + 1 by omega, callM_eq (d := d_l_names) rfl]
      have hva := (vars_all _ ht hd).1
      have hdv : dat (.lst (vars (.tup (.str s :: xs)))) = true := by unfold dat; exact hva.dats
      simp only [cnt, cntT] at hc
      obtain ⟨o', e⟩ := names_loop (C := callM T (k + N + 1)) (b := mh.length) (t := some (.tup (.str s :: xs))) (mh := mh) (J := ⟨xs, none⟩) rfl xs [] none (fun x hxm => ih k x mh (by have := dep_mem (h := .str s) hxm; omega) (by have := cnt_le hxm; omega) (hx x hxm).1 (hx x hxm).2) (tms_iff.mpr fun x hxm => (hx x hxm).1) (dats_iff.mpr fun x hxm => (hx x hxm).2) (fun x hx => by simp at hx) (by simp; omega)
      refine run_of' rfl rfl (ρ := [some (.tup (.str s :: xs)), some (.lst (varsL [] xs)), o', none]) (fl := .rt (.lst (varsL [] xs))) ?_ (by simp [endV, vars, varsT]) (by have := hdv; simp only [vars, varsT] at this; exact this) rfl
      simp [d_l_names, exs, ex, ↓ex_for, ev, evs, evI, isTy, asg, slcV, cut1, itsOf, e]
theorem top_get {mh : MHp} {o : MO} : (mh ++ [some o])[mh.length]? = some (some o) := by
  rw [List.getElem?_append_right (Nat.le_refl _)]; simp
theorem top_set {mh : MHp} {o o' : MO} : (mh ++ [some o]).set mh.length (some o') = mh ++ [some o'] := by
  rw [List.set_append_right _ _ (Nat.le_refl _)]; simp
theorem take_top {mh : MHp} {o : MO} : (mh ++ [some o]).take mh.length = mh := by simp
abbrev nHp (mh : MHp) (w : List MV) : MHp := mh ++ [some (.lst w)]
theorem frz_top {n : Nat} {mh : MHp} {acc : List MV} (hn : n ≤ mh.length) (hd : dats acc = true) : frz n (nHp mh acc) 8 (.loc mh.length) = some (.lst acc) := by
  unfold frz
  rw [if_neg (by omega)]
  simp only [nHp, top_get]
  rw [frzs_dat acc hd]
  rfl
theorem run_frz {C : CallF} {d : Df} {args : List MV} {mh mh1 : MHp} {fl : Fl} {ρ : Env} {v w : MV} (hl : args.length = d.np) (hv : d.live = false) (e : exs C mh.length d.body (args.map some ++ List.replicate (d.ns - d.np) none) mh = some (fl, ρ, mh1))
    (he : endV fl = some v) (hf : frz mh.length mh1 8 v = some w) : runD C d args mh = some (w, mh1.take mh.length) := by
  unfold runD
  rw [if_pos hl, e]
  simp only [he, hv]
  rw [hf]
  rfl
theorem mem_loc {mh : MHp} {acc : List MV} {x : MV} (ha : AllS acc) (hx : ∃ s, x = .str s ∧ dat x = true) : memV (nHp mh acc) x (.loc mh.length) = some (hasV acc x) := by
  obtain ⟨s, rfl, hd⟩ := hx
  have e1 : frz 0 (nHp mh acc) 8 (.str s) = some (.str s) := frz_dat _ hd
  have e2 := frz_top (n := 0) (mh := mh) (Nat.zero_le _) ha.dats
  have o1 := okD_str hd
  have o2 := ha.ok
  unfold memV
  split
  · rename_i h; cases h
  · simp only [e1, e2, o1, o2, and_self, if_true]
    rfl
abbrev vrBody : List MS := [(.ex (.meth .extend (.var 1) [(.comp (.nm 3) [3] (.call 7 [(.var 2)]) (.cmp .nmem (.var 3) (.var 1)) (.var 3))]))]
theorem vars_loop {C : CallF} {t : Option MV} {mh : MHp} {J : Its} (hJ : J.src = none) : ∀ (xs acc : List MV) (o : Option MV), (∀ x ∈ xs, ∀ mh, C 7 [x] mh = some (.lst (vars x), mh)) → tms xs = true → dats xs = true → AllS acc → acc.length + cnts xs ≤ 2000 →
    ∃ o', forGo J (forF C mh.length (.nm 2) vrBody) xs [t, some (.loc mh.length), o, none] (nHp mh acc) = some (.nx, [t, some (.loc mh.length), o', none], nHp mh (varsL acc xs))
  | [], acc, o, _, _, _, _, _ => ⟨o, by simp only [varsL]; exact forGo_nil_of hJ⟩
  | x :: xs, acc, o, hC, ht, hd, ha, hl => by
    simp only [tms, Bool.and_eq_true] at ht
    simp only [dats, Bool.and_eq_true] at hd
    simp only [cnts] at hl
    obtain ⟨va, vl⟩ := vars_all x ht.1 hd.1
    have hc := hC x (by simp) (nHp mh acc)
    have hcomp : ev C mh.length (.comp (.nm 3) [3] (.call 7 [(.var 2)]) (.cmp .nmem (.var 3) (.var 1)) (.var 3)) [t, some (.loc mh.length), some x, none] (nHp mh acc) = some (.lst ((vars x).filter fun n => !hasV acc n), nHp mh acc) := by
      have ei : evI C mh.length (.call 7 [(.var 2)]) [t, some (.loc mh.length), some x, none] (nHp mh acc) = some (⟨vars x, none⟩, nHp mh acc) := by
        simp [evI, ev, evs, hc, itsOf]
      have hz : (vars x).length ≤ line := by unfold line; omega
      rw [ev_compq, ei]
      simp only [hz, if_true]
      rw [compGo_pure rfl (g := fun n => if (!hasV acc n) = true then some n else none)]
      · simp only
        rw [fm_filter]
      · intro n hn
        have hm := mem_loc (mh := mh) ha (va n hn)
        cases hb : hasV acc n <;> rw [hb] at hm <;> simp [compF, asg, wipeE, ev, cmpV, hm]
    have hf := List.length_filter_le (fun n => !hasV acc n) (vars x)
    obtain ⟨F, hF⟩ : ∃ F, F = (vars x).filter fun n => !hasV acc n := ⟨_, rfl⟩
    rw [← hF] at hcomp hf
    have hz2 : acc.length + F.length ≤ line := by unfold line; omega
    have hw : ∀ y ∈ F, wr mh.length mh.length y = true := fun y hy => by simp [wr]
    have me : ev C mh.length (.meth .extend (.var 1) [(.comp (.nm 3) [3] (.call 7 [(.var 2)]) (.cmp .nmem (.var 3) (.var 1)) (.var 3))]) [t, some (.loc mh.length), some x, none] (nHp mh acc) = some (.non, nHp mh (acc ++ F)) := by
      have l1 : liveL (nHp mh acc) (.loc mh.length) = some (mh.length, acc) := by simp [liveL, nHp, top_get]
      have m1 : methV mh.length (nHp mh acc) .extend (.loc mh.length) [.lst F] = some (.non, nHp mh (acc ++ F)) := by
        simp only [methV, extV, l1, seqOf, getL]
        rw [if_pos ⟨List.all_eq_true.mpr hw, hz2⟩]
        simp only [nHp, top_set]
      have ty : tyM (nHp mh acc) .extend (.loc mh.length) = true := by simp [tyM, l1]
      have v1 : ev C mh.length (.var 1) [t, some (.loc mh.length), some x, none] (nHp mh acc) = some (.loc mh.length, nHp mh acc) := by simp [ev]
      have es : evs C mh.length [(.comp (.nm 3) [3] (.call 7 [(.var 2)]) (.cmp .nmem (.var 3) (.var 1)) (.var 3))] [t, some (.loc mh.length), some x, none] (nHp mh acc) = some ([.lst F], nHp mh acc) := by
        rw [evs, hcomp]; simp only [evs]
      rw [ev, v1]
      simp only [ty, if_true, es, m1]
    have st : forF C mh.length (.nm 2) vrBody x [t, some (.loc mh.length), o, none] (nHp mh acc) = some (.nx, [t, some (.loc mh.length), some x, none], nHp mh (acc ++ F)) := by
      have a0 : asg (nHp mh acc) (.nm 2) x [t, some (.loc mh.length), o, none] = some [t, some (.loc mh.length), some x, none] := by simp [asg]
      unfold forF
      rw [a0]
      simp only
      rw [vrBody, exs, ex, me]
      simp only [exs]
    rw [forGo_cons_of hJ, st]
    obtain ⟨o', e⟩ := vars_loop hJ xs (acc ++ F) (some x) (fun y hy => hC y (List.mem_cons_of_mem _ hy)) ht.2 hd.2 (ha.app (by rw [hF]; exact va.filter)) (by rw [List.length_append]; omega)
    refine ⟨o', ?_⟩
    simp only [varsL]
    rw [← hF]
    exact e
theorem sp_vars : ∀ (N k : Nat) (t : MV) (mh : MHp), dep t ≤ N → cnt t ≤ 1000 → tm t = true → dat t = true → callM T (k + N + 2) 7 [t] mh = some (.lst (vars t), mh) := by
  have leaf : ∀ (k : Nat) (s : Sx) (mh : MHp), dat (.str s) = true → callM T (k + 2) 7 [.str s] mh = some (.lst (vars (.str s)), mh) := fun k s mh hd => by
    have iv := sp_isvar k (.str s) mh hd
    rw [callM_eq (d := d_variables) rfl]
    refine run_of' rfl rfl (ρ := [some (.str s), none, none, none]) (fl := .rt (.lst (vars (.str s)))) ?_ rfl (by simp only [vars, dat, dats, Bool.and_true]; exact hd) rfl
    have z1 : 1 ≤ line := by unfold line; omega
    simp only [isS] at iv
    simp [d_variables, exs, ex, ev, evs, iv, vars, z1]
  intro N
  induction N with
  | zero =>
    intro k t mh hD hc ht hd
    rcases tm_cases ht hd with ⟨s, rfl⟩ | ⟨s, xs, rfl, hds, hx⟩
    · exact leaf k s mh hd
    · simp [dep] at hD
  | succ N ih =>
    intro k t mh hD hc ht hd
    rcases tm_cases ht hd with ⟨s, rfl⟩ | ⟨s, xs, rfl, hds, hx⟩
    · exact leaf (k + (N + 1)) s mh hd
    · rw [show k + (N + 1) + 2 = (k + N + 2) + 1 by omega, callM_eq (d := d_variables) rfl]
      have iv := sp_isvar (k + N + 1) (.tup (.str s :: xs)) mh hd
      have hva := (vars_all _ ht hd).1
      simp only [cnt, cntT] at hc
      simp only [isS] at iv
      simp only [vars, varsT] at hva
      obtain ⟨o', e⟩ := vars_loop (C := callM T (k + N + 2)) (t := some (.tup (.str s :: xs))) (mh := mh) (J := ⟨xs, none⟩) rfl xs [] none (fun x hxm mh => ih k x mh (by have := dep_mem (h := .str s) hxm; omega) (by have := cnt_le hxm; omega) (hx x hxm).1 (hx x hxm).2) (tms_iff.mpr fun x hxm => (hx x hxm).1) (dats_iff.mpr fun x hxm => (hx x hxm).2) (fun x hx => by simp at hx) (by simp; omega)
      have := run_frz (C := callM T (k + N + 2)) (d := d_variables) (args := [.tup (.str s :: xs)]) (mh := mh) (mh1 := nHp mh (varsL [] xs)) (fl := .rt (.loc mh.length)) (ρ := [some (.tup (.str s :: xs)), some (.loc mh.length), o', none]) (v := .loc mh.length) (w := .lst (varsL [] xs)) rfl rfl ?_ rfl (frz_top (Nat.le_refl _) hva.dats)
      · rw [take_top] at this
        simp only [vars, varsT]
        exact this
      · show exs (callM T (k + N + 2)) mh.length d_variables.body [some (.tup (.str s :: xs)), none, none, none] mh = _
        have s1 : ex (callM T (k + N + 2)) mh.length (.ite (.call 4 [(.var 0)]) [(.ret (.lst [(.var 0)]))] []) [some (.tup (.str s :: xs)), none, none, none] mh = some (.nx, [some (.tup (.str s :: xs)), none, none, none], mh) := by
          simp [ex, exs, ev, evs, iv]
        have s2 : ex (callM T (k + N + 2)) mh.length (.set (.nm 1) (.al (.lst []))) [some (.tup (.str s :: xs)), none, none, none] mh = some (.nx, [some (.tup (.str s :: xs)), some (.loc mh.length), none, none], nHp mh []) := by
          simp [ex, ev, evs, asg, nHp]
        have ei : evI (callM T (k + N + 2)) mh.length (.slcL (.var 0) (.c (.int (1)))) [some (.tup (.str s :: xs)), some (.loc mh.length), none, none] (nHp mh []) = some (⟨xs, none⟩, nHp mh []) := by
          simp [evI, ev, slcV, cut1, itsOf]
        rw [d_variables, exs, s1]
        simp only
        rw [exs, s2]
        simp only
        rw [exs, ex_for, ei]
        simp only
        rw [e]
        simp [exs, ex, ev]
end L2.Mi.k04

set_option Elab.async false
set_option linter.all false
set_option maxRecDepth 100000
set_option maxHeartbeats 4000000
namespace L2.Mi.k04
open PySem PySem.Spec PyProof.Rows L2.Mi
def lowd (c : Nat) : Bool := (decide (97 ≤ c) && decide (c ≤ 122)) || (decide (48 ≤ c) && decide (c ≤ 57))
def wordB (first : Sx) : MV → Bool
  | .str [] => false
  | .str (c :: s) => decide (s.length ≤ 7) && decide (c ∈ first) && s.all lowd
  | _ => false
theorem sp_signs (k : Nat) (v : MV) (first : Sx) (mh : MHp) (hd : dat v = true) : callM T (k + 1) 0 [v, .str first] mh = some (.bl (wordB first v), mh) := by
  rw [callM_eq (d := d_are_signs_of_text) rfl]
  have fals : ∀ {C : CallF}, isTy v .str mh = some false → exs C mh.length d_are_signs_of_text.body ([v, .str first].map some ++ List.replicate (3 - 2) none) mh = some (.rt (.bl false), [some v, some (.str first), none], mh) := fun {C} h => by
    simp [d_are_signs_of_text, exs, ex, ev, evs, h]
  cases v with
  | str s =>
    cases s with
    | nil =>
      refine run_of' rfl rfl (ρ := [some (.str []), some (.str first), none]) (fl := .rt (.bl false)) ?_ rfl rfl rfl
      simp [d_are_signs_of_text, exs, ex, ev, evs, isTy, biV, one1, lenV, cmpV, ordV]
    | cons c s =>
      have hl : s.length + 1 ≤ 1000 := by simp [dat] at hd; omega
      have hz : s.length + 1 ≤ line := by unfold line; omega
      have hn1 : ¬ ((s.length : Int) + 1 < 1) := by omega
      by_cases h7 : s.length ≤ 7
      · have hn2 : ¬ ((8 : Int) < (s.length : Int) + 1) := by omega
        by_cases hc : c ∈ first
        · have hg : ∀ C base, ev C base (.comp (.nm 2) [2] (.slcL (.var 0) (.c (.int (1)))) (.c (.bl true)) (.or (.chn .le .le (.c (.str [97])) (.var 2) (.c (.str [122]))) (.chn .le .le (.c (.str [48])) (.var 2) (.c (.str [57])))))
              [some (.str (c :: s)), some (.str first), none] mh = some (.lst ((s.map lowd).map .bl), mh) := fun C base => by
            have e1 : evI C base (.slcL (.var 0) (.c (.int (1)))) [some (.str (c :: s)), some (.str first), none] mh = some (⟨s.map fun c => .str [c], none⟩, mh) := by
              have := cut_drop (xs := c :: s) (k := 1)
              simp at this
              simp [evI, ev, slcV, hz, this, itsOf]
            have hs : s.length ≤ line := by omega
            simp only [ev, e1]
            rw [compGo_pure rfl (g := fun x => match x with | .str [c] => some (.bl (lowd c)) | _ => none)]
            · simp [List.filterMap_map, hs]
              rw [← List.filterMap_eq_map]
              rfl
            · intro x hx
              obtain ⟨a, _, rfl⟩ := List.mem_map.mp hx
              by_cases h1 : a < 97 <;> by_cases h2 : 122 < a <;> by_cases h3 : a < 48 <;> by_cases h4 : 57 < a <;> simp [asg, wipeE, ev, cmpV, ordV, lt1, lowd, h1, h2, h3, h4] <;> omega
          refine run_of' rfl rfl (ρ := [some (.str (c :: s)), some (.str first), none]) (fl := .rt (.bl (s.all lowd))) ?_ ?_ rfl rfl
          · simp [d_are_signs_of_text, exs, ex, ↓hg, ev, evs, isTy, biV, one1, lenV, cmpV, ordV, subV, memV, atI0, hc, hz, hn1, hn2, bls_map]
            rw [← List.map_map, bls_map]
            simp
          · simp [endV, wordB, h7, hc]
        · refine run_of' rfl rfl (ρ := [some (.str (c :: s)), some (.str first), none]) (fl := .rt (.bl false)) ?_ ?_ rfl rfl
          · simp [d_are_signs_of_text, exs, ex, ev, evs, isTy, biV, one1, lenV, cmpV, ordV, subV, memV, atI0, hc, hz, hn1, hn2]
          · simp [endV, wordB, hc]
      · have hn2 : ((8 : Int) < (s.length : Int) + 1) := by omega
        refine run_of' rfl rfl (ρ := [some (.str (c :: s)), some (.str first), none]) (fl := .rt (.bl false)) ?_ ?_ rfl rfl
        · simp [d_are_signs_of_text, exs, ex, ev, evs, isTy, biV, one1, lenV, cmpV, ordV, subV, memV, atI0, hz, hn1, hn2]
        · simp [endV, wordB, h7]
  | _ => first | (cases hd; done) | (exact run_of' rfl rfl (fals rfl) rfl rfl rfl)

/-! equality of small values -/
def lower : Sx := [97, 98, 99, 100, 101, 102, 103, 104, 105, 106, 107, 108, 109, 110, 111, 112, 113, 114, 115, 116, 117, 118, 119, 120, 121, 122]
def upper : Sx := [65, 66, 67, 68, 69, 70, 71, 72, 73, 74, 75, 76, 77, 78, 79, 80, 81, 82, 83, 84, 85, 86, 87, 88, 89, 90]
theorem sp_is_sign (k : Nat) (v : MV) (mh : MHp) (hd : dat v = true) : callM T (k + 2) 1 [v] mh = some (.bl (wordB lower v), mh) := by
  rw [callM_eq (d := d_is_sign) rfl]
  refine run_of' rfl rfl (ρ := [some v]) (fl := .rt (.bl (wordB lower v))) ?_ rfl rfl rfl
  have := sp_signs k v lower mh hd
  simp only [lower] at this
  simp [d_is_sign, exs, ex, ev, evs, this]
  rfl
theorem sp_is_var (k : Nat) (v : MV) (mh : MHp) (hd : dat v = true) : callM T (k + 2) 2 [v] mh = some (.bl (wordB upper v), mh) := by
  rw [callM_eq (d := d_is_variable) rfl]
  refine run_of' rfl rfl (ρ := [some v]) (fl := .rt (.bl (wordB upper v))) ?_ rfl rfl rfl
  have := sp_signs k v upper mh hd
  simp only [upper] at this
  simp [d_is_variable, exs, ex, ev, evs, this]
  rfl
def wholeB (lo hi : Int) : MV → Bool
  | .int i => decide (lo ≤ i) && decide (i ≤ hi)
  | _ => false
def pairB : MV → Bool
  | .tup [a, b] => wordB lower a && wholeB 0 4 b
  | _ => false
def fstS : MV → Sx
  | .tup (.str s :: _) => s
  | _ => []
def sndI : MV → MV
  | .tup [_, b] => b
  | _ => .non
/-- what places_of gives -/
def placesV : List MV → Sx → MV
  | [], _ => .non
  | p :: ps, s => if fstS p = s then sndI p else placesV ps s
theorem wordB_str {f : Sx} {v : MV} (h : wordB f v = true) : ∃ c s, v = .str (c :: s) := by
  unfold wordB at h
  split at h
  · cases h
  · exact ⟨_, _, rfl⟩
  · cases h
theorem wholeB_int {lo hi : Int} {v : MV} (h : wholeB lo hi v = true) : ∃ i : Int, v = .int i ∧ lo ≤ i ∧ i ≤ hi := by
  unfold wholeB at h
  split at h
  · rename_i i
    rw [Bool.and_eq_true, decide_eq_true_eq, decide_eq_true_eq] at h
    exact ⟨i, rfl, h.1, h.2⟩
  · cases h
theorem pairB_tup {p : MV} (h : pairB p = true) : ∃ (c : Nat) (s : Sx) (i : Int), p = .tup [.str (c :: s), .int i] ∧ wordB lower (.str (c :: s)) = true ∧ 0 ≤ i ∧ i ≤ 4 := by
  unfold pairB at h
  split at h
  · rw [Bool.and_eq_true] at h
    obtain ⟨c, s, rfl⟩ := wordB_str h.1
    obtain ⟨i, rfl, h1, h2⟩ := wholeB_int h.2
    exact ⟨c, s, i, rfl, h.1, h1, h2⟩
  · cases h
theorem placesV_cases {ps : List MV} (hp : ∀ p ∈ ps, pairB p = true) (s : Sx) : placesV ps s = .non ∨ ∃ i : Int, placesV ps s = .int i := by
  induction ps with
  | nil => exact .inl rfl
  | cons p ps ih =>
    obtain ⟨c, t, i, rfl, _⟩ := pairB_tup (hp p (by simp))
    unfold placesV
    split
    · exact .inr ⟨i, rfl⟩
    · exact ih fun q hq => hp q (List.mem_cons_of_mem _ hq)
theorem pair_dat {p : MV} {c : Nat} {t : Sx} {i : Int} (h : dat (.tup [.str (c :: t), .int i]) = true) : dat (.str (c :: t)) = true := by
  unfold dat at h
  exact dats_iff.mp h _ (by simp)
theorem places_loop {f : MV → Env → MHp → Option (Fl × Env × MHp)} {s : Sx} {a b : Option MV} {mh : MHp} {J : Its} (hJ : J.src = none) :
    ∀ (qs : List MV) (o1 o2 : Option MV), (∀ p ∈ qs, ∀ o1 o2, f p [a, b, o1, o2] mh = some (if fstS p = s then .rt (sndI p) else .nx, [a, b, some (.str (fstS p)), some (sndI p)], mh)) →
    ∃ ρ1, (forGo J f qs [a, b, o1, o2] mh = some (.nx, ρ1, mh) ∧ placesV qs s = .non ∧ ρ1.length = 4) ∨ forGo J f qs [a, b, o1, o2] mh = some (.rt (placesV qs s), ρ1, mh)
  | [], o1, o2, _ => ⟨_, .inl ⟨forGo_nil_of hJ, rfl, rfl⟩⟩
  | p :: qs, o1, o2, h => by
    rw [forGo_cons_of hJ, h p (by simp) o1 o2]
    unfold placesV
    by_cases e : fstS p = s
    · rw [if_pos e, if_pos e]
      exact ⟨_, .inr rfl⟩
    · rw [if_neg e, if_neg e]
      exact places_loop hJ qs _ _ fun q hq => h q (List.mem_cons_of_mem _ hq)
theorem sp_places (k : Nat) (ps : List MV) (s : Sx) (mh : MHp) (hp : ∀ p ∈ ps, pairB p = true) (hd : dats ps = true) (hs : dat (.str s) = true) : callM T (k + 1) 3 [.tup ps, .str s] mh = some (placesV ps s, mh) := by
  rw [callM_eq (d := d_places_of) rfl]
  have hv : dat (placesV ps s) = true := by
    rcases placesV_cases hp s with e | ⟨i, e⟩ <;> rw [e] <;> rfl
  obtain ⟨ρ1, h⟩ := places_loop (f := forF (callM T k) mh.length (.tp [(.nm 2), (.nm 3)]) [(.ite (.cmp .eq (.var 2) (.var 1)) [(.ret (.var 3))] [])]) (s := s) (a := some (.tup ps)) (b := some (.str s)) (mh := mh) (J := ⟨ps, none⟩) rfl ps none none (fun p hm o1 o2 => by
    obtain ⟨c, t, i, rfl, _⟩ := pairB_tup (hp p hm)
    have hdt : dat (.str (c :: t)) = true := pair_dat (p := .non) (dats_iff.mp hd _ hm)
    by_cases e : c :: t = s
    · subst e
      simp [forF, asg, asgs, exs, ex, ev, cmpV, eqV_str _ _ _ hdt hdt, fstS, sndI]
    · simp [forF, asg, asgs, exs, ex, ev, cmpV, eqV_str _ _ _ hdt hs, e, fstS, sndI])
  rcases h with ⟨e, e2, hl⟩ | e
  · refine run_of' rfl rfl (ρ := ρ1) (fl := .rt .non) ?_ (by rw [e2]; rfl) hv rfl
    simp [d_places_of, exs, ↓ex_for, evI, ev, itsOf, e, ex]
  · refine run_of' rfl rfl (ρ := ρ1) (fl := .rt (placesV ps s)) ?_ rfl hv rfl
    simp [d_places_of, exs, ↓ex_for, evI, ev, itsOf, e, ex]
/-! ### is_tongue -/
mutual
def shape : MV → Bool
  | .str _ => true
  | .tup xs => shapeT xs
  | _ => false
def shapeT : List MV → Bool
  | [] => false
  | _ :: xs => shapes xs
def shapes : List MV → Bool
  | [] => true
  | x :: xs => shape x && shapes xs
end
theorem shapes_app (xs ys : List MV) : shapes (xs ++ ys) = (shapes xs && shapes ys) := by
  induction xs with
  | nil => simp [shapes]
  | cons x xs ih => simp only [List.cons_append, shapes, ih, Bool.and_assoc]
theorem cnts_pos {w : List MV} (h : w ≠ []) : 1 ≤ cnts w := by
  cases w with
  | nil => exact absurd rfl h
  | cons x xs => have := cnt_pos x; simp only [cnts]; omega
abbrev nC : ME := (.cmp .gt (.bi .len [(.var 1)]) (.c (.int (0))))
abbrev nB : List MS := [(.set (.nm 3) (.meth .pop (.var 1) [])), (.aug 2 .add (.c (.int (1)))), (.ite (.and (.isi (.var 3) .tuple) (.cmp .gt (.bi .len [(.var 3)]) (.c (.int (0))))) [(.ex (.meth .extend (.var 1) [(.slcL (.var 3) (.c (.int (1))))]))] [(.ite (.not (.isi (.var 3) .str)) [(.ret (.c .non))] [])]), (.ite (.cmp .gt (.var 2) (.c (.int (400)))) [(.ret (.var 2))] [])]
abbrev nEnv (v : MV) (mh : MHp) (found : Int) (o : Option MV) : Env := [some v, some (.loc mh.length), some (.int found), o]
theorem n_cond {C : CallF} {v : MV} {mh : MHp} {w : List MV} {found : Int} {o : Option MV} : whC C mh.length nC (nEnv v mh found o) (nHp mh w) = some (decide (0 < w.length), nHp mh w) := by
  simp [whC, nC, nEnv, nHp, ev, evs, biV, one1, lenV, getL, top_get, cmpV, ordV]
theorem last_get {w : List MV} {x : MV} : (w ++ [x])[(w ++ [x]).length - 1]? = some x := by simp
theorem n_pop {C : CallF} {v : MV} {mh : MHp} {w : List MV} {x : MV} {found : Int} {o : Option MV} : ev C mh.length (.meth .pop (.var 1) []) (nEnv v mh found o) (nHp mh (w ++ [x])) = some (x, nHp mh w) := by
  simp [nEnv, nHp, ev, evs, tyM, liveL, top_get, methV, popV, top_set]
theorem bd_dat {n : Nat} : ∀ x : MV, dat x = true → bd n x = true := by
  intro x
  induction x using MV.rec (motive_2 := fun xs => dats xs = true → bds n xs = true) with
  | non => intro _; rfl
  | bl => intro _; rfl
  | int => intro _; rfl
  | str => intro _; rfl
  | fn => intro _; rfl
  | tup xs ih => intro h; unfold dat at h; unfold bd; exact ih h
  | lst xs ih => intro h; unfold dat at h; unfold bd; exact ih h
  | loc l => intro h; unfold dat at h; cases h
  | dct ks vs ih => intro h; unfold dat at h; cases h
  | scr ns => intro _; rfl
  | nil => rfl
  | cons x xs h1 h2 =>
    rename_i h
    unfold dats at h
    rw [Bool.and_eq_true] at h
    unfold bds
    rw [h1 h.1, h2 h.2]; rfl
theorem n_ext {C : CallF} {v : MV} {mh : MHp} {w : List MV} {x : MV} {xs : List MV} {found : Int} (hz : w.length + xs.length ≤ line) : ev C mh.length (.meth .extend (.var 1) [(.slcL (.var 3) (.c (.int (1))))]) (nEnv v mh found (some (.tup (x :: xs)))) (nHp mh w) = some (.non, nHp mh (w ++ xs)) := by
  have hc := cut_drop (xs := x :: xs) (k := 1)
  simp at hc
  have hw : ∀ y ∈ xs, wr mh.length mh.length y = true := fun y hy => by simp [wr]
  simp [nEnv, nHp, ev, evs, tyM, liveL, top_get, methV, extV, top_set, slcV, hc, seqOf, hz, hw]
  exact hw
/-- one turn -/
theorem n_turn {C : CallF} {v : MV} {mh : MHp} {w : List MV} {x : MV} {found : Nat} {o : Option MV} (hf : found ≤ 400) (hd : dat x = true) (hz : w.length + cnt x ≤ line) :
    exs C mh.length nB (nEnv v mh (found : Int) o) (nHp mh (w ++ [x])) =
      match x with
      | .str s => if found = 400 then some (.rt (.int (401 : Int)), nEnv v mh ((found : Int) + 1) (some x), nHp mh w) else some (.nx, nEnv v mh ((found : Int) + 1) (some x), nHp mh w)
      | .tup (_ :: xs) => if found = 400 then some (.rt (.int (401 : Int)), nEnv v mh ((found : Int) + 1) (some x), nHp mh (w ++ xs)) else some (.nx, nEnv v mh ((found : Int) + 1) (some x), nHp mh (w ++ xs))
      | _ => some (.rt .non, nEnv v mh ((found : Int) + 1) (some x), nHp mh w) := by
  have s1 : ex C mh.length (.set (.nm 3) (.meth .pop (.var 1) [])) (nEnv v mh (found : Int) o) (nHp mh (w ++ [x])) = some (.nx, nEnv v mh (found : Int) (some x), nHp mh w) := by
    simp only [ex, n_pop]
    simp [asg, nEnv]
  have s2 : ex C mh.length (.aug 2 .add (.c (.int (1)))) (nEnv v mh (found : Int) (some x)) (nHp mh w) = some (.nx, nEnv v mh ((found : Int) + 1) (some x), nHp mh w) := by
    simp [ex, ev, nEnv]
  have s4 : ∀ w', ex C mh.length (.ite (.cmp .gt (.var 2) (.c (.int (400)))) [(.ret (.var 2))] []) (nEnv v mh ((found : Int) + 1) (some x)) (nHp mh w') = if found = 400 then some (.rt (.int (401 : Int)), nEnv v mh ((found : Int) + 1) (some x), nHp mh w') else some (.nx, nEnv v mh ((found : Int) + 1) (some x), nHp mh w') := fun w' => by
    by_cases h : found = 400
    · subst h
      simp [ex, exs, ev, nEnv, cmpV, ordV]
    · have : ¬ ((400 : Int) < (found : Int) + 1) := by omega
      simp [ex, exs, ev, nEnv, cmpV, ordV, this, h]
  have e4 : ∀ w', exs C mh.length [(.ite (.cmp .gt (.var 2) (.c (.int (400)))) [(.ret (.var 2))] [])] (nEnv v mh ((found : Int) + 1) (some x)) (nHp mh w') = if found = 400 then some (.rt (.int (401 : Int)), nEnv v mh ((found : Int) + 1) (some x), nHp mh w') else some (.nx, nEnv v mh ((found : Int) + 1) (some x), nHp mh w') := fun w' => by
    rw [exs, s4 w']
    by_cases h : found = 400
    · rw [if_pos h]
    · rw [if_neg h]; rfl
  rw [nB, exs, s1]
  simp only
  rw [exs, s2]
  simp only
  cases x with
  | str s =>
    rw [exs]
    have : ex C mh.length (.ite (.and (.isi (.var 3) .tuple) (.cmp .gt (.bi .len [(.var 3)]) (.c (.int (0))))) [(.ex (.meth .extend (.var 1) [(.slcL (.var 3) (.c (.int (1))))]))] [(.ite (.not (.isi (.var 3) .str)) [(.ret (.c .non))] [])]) (nEnv v mh ((found : Int) + 1) (some (.str s))) (nHp mh w) = some (.nx, nEnv v mh ((found : Int) + 1) (some (.str s)), nHp mh w) := by
      simp [ex, exs, ev, nEnv, isTy]
    rw [this]
    exact e4 w
  | tup ys =>
    cases ys with
    | nil =>
      rw [exs]
      have : ex C mh.length (.ite (.and (.isi (.var 3) .tuple) (.cmp .gt (.bi .len [(.var 3)]) (.c (.int (0))))) [(.ex (.meth .extend (.var 1) [(.slcL (.var 3) (.c (.int (1))))]))] [(.ite (.not (.isi (.var 3) .str)) [(.ret (.c .non))] [])]) (nEnv v mh ((found : Int) + 1) (some (.tup []))) (nHp mh w) = some (.rt .non, nEnv v mh ((found : Int) + 1) (some (.tup [])), nHp mh w) := by
        simp [ex, exs, ev, evs, nEnv, isTy, biV, one1, lenV, cmpV, ordV]
      rw [this]
    | cons y ys =>
      rw [exs]
      have hz' : w.length + ys.length ≤ line := by
        have : ys.length ≤ cnts ys := by
          clear hd hz s1 s2 s4 e4
          induction ys with
          | nil => simp
          | cons z zs ih => have := cnt_pos z; simp only [cnts, List.length_cons]; omega
        simp only [cnt, cntT] at hz
        omega
      have : ex C mh.length (.ite (.and (.isi (.var 3) .tuple) (.cmp .gt (.bi .len [(.var 3)]) (.c (.int (0))))) [(.ex (.meth .extend (.var 1) [(.slcL (.var 3) (.c (.int (1))))]))] [(.ite (.not (.isi (.var 3) .str)) [(.ret (.c .non))] [])]) (nEnv v mh ((found : Int) + 1) (some (.tup (y :: ys)))) (nHp mh w) = some (.nx, nEnv v mh ((found : Int) + 1) (some (.tup (y :: ys))), nHp mh (w ++ ys)) := by
        have c1 : ev C mh.length (.and (.isi (.var 3) .tuple) (.cmp .gt (.bi .len [(.var 3)]) (.c (.int (0))))) (nEnv v mh ((found : Int) + 1) (some (.tup (y :: ys)))) (nHp mh w) = some (.bl true, nHp mh w) := by
          have : (0 : Int) < (ys.length : Int) + 1 := by omega
          simp [ev, evs, nEnv, isTy, biV, one1, lenV, cmpV, ordV, this]
        simp only [ex, c1, exs, n_ext hz']
      rw [this]
      exact e4 (w ++ ys)
  | _ =>
    first
    | (cases hd; done)
    | (rw [exs]
       simp [ex, exs, ev, evs, nEnv, isTy])
theorem snoc_of {w : List MV} (h : w ≠ []) : ∃ w' x, w = w' ++ [x] := ⟨w.dropLast, w.getLast h, (List.dropLast_concat_getLast h).symm⟩
theorem n_condT {C : CallF} {v : MV} {mh : MHp} {w : List MV} {x : MV} {found : Int} {o : Option MV} : whC C mh.length nC (nEnv v mh found o) (nHp mh (w ++ [x])) = some (true, nHp mh (w ++ [x])) := by
  rw [n_cond]; simp
theorem n_condF {C : CallF} {v : MV} {mh : MHp} {found : Int} {o : Option MV} : whC C mh.length nC (nEnv v mh found o) (nHp mh []) = some (false, nHp mh []) := by
  rw [n_cond]; simp
/-- nodes's loop: where it ends -/
theorem n_loop {C : CallF} {v : MV} {mh : MHp} : ∀ (n : Nat) (w : List MV) (found : Nat) (o : Option MV), found + n = 400 → dats w = true → cnts w ≤ line →
    ∃ fl ρ' w', whileN (whC C mh.length nC) (exs C mh.length nB) (n + 1) (nEnv v mh (found : Int) o) (nHp mh w) = some (fl, ρ', nHp mh w') ∧
      ((shapes w = true ∧ found + cnts w ≤ 400 ∧ fl = .nx ∧ ∃ o', ρ' = nEnv v mh ((found + cnts w : Nat) : Int) o') ∨ ((shapes w = false ∨ 400 < found + cnts w) ∧ (fl = .rt .non ∨ fl = .rt (.int 401)))) := by
  intro n
  induction n with
  | zero =>
    intro w found o hf hd hz
    by_cases hw : w = []
    · subst hw
      refine ⟨.nx, nEnv v mh (found : Int) o, [], ?_, .inl ⟨rfl, by simp [cnts]; omega, rfl, o, by simp [cnts]⟩⟩
      rw [whileN, n_condF]
    · obtain ⟨w', x, rfl⟩ := snoc_of hw
      have h4 : found = 400 := by omega
      rw [cnts_app] at hz
      simp only [cnts, Nat.add_zero] at hz
      rw [dats_app] at hd
      simp only [dats, Bool.and_true, Bool.and_eq_true] at hd
      have hl := len_cnts w'
      have ht := n_turn (C := C) (v := v) (mh := mh) (w := w') (x := x) (found := found) (o := o) (by omega) hd.2 (by omega)
      have hbig : 400 < found + cnts (w' ++ [x]) := by
        have := cnt_pos x
        rw [cnts_app]; simp only [cnts]; omega
      rw [whileN, n_condT]
      simp only [ht]
      cases x with
      | str s => simp only [h4, if_true]; exact ⟨_, _, _, rfl, .inr ⟨.inr (by omega), .inr rfl⟩⟩
      | tup ys =>
        cases ys with
        | nil => exact ⟨_, _, _, rfl, .inr ⟨.inr hbig, .inl rfl⟩⟩
        | cons y ys => simp only [h4, if_true]; exact ⟨_, _, _, rfl, .inr ⟨.inr (by omega), .inr rfl⟩⟩
      | _ => exact ⟨_, _, _, rfl, .inr ⟨.inr hbig, .inl rfl⟩⟩
  | succ n ih =>
    intro w found o hf hd hz
    by_cases hw : w = []
    · subst hw
      refine ⟨.nx, nEnv v mh (found : Int) o, [], ?_, .inl ⟨rfl, by simp [cnts]; omega, rfl, o, by simp [cnts]⟩⟩
      rw [whileN, n_condF]
    · obtain ⟨w', x, rfl⟩ := snoc_of hw
      have h4 : ¬ found = 400 := by omega
      have hz0 := hz
      have hd0 := hd
      rw [cnts_app] at hz
      simp only [cnts, Nat.add_zero] at hz
      rw [dats_app] at hd
      simp only [dats, Bool.and_true, Bool.and_eq_true] at hd
      have hl := len_cnts w'
      have ht := n_turn (C := C) (v := v) (mh := mh) (w := w') (x := x) (found := found) (o := o) (by omega) hd.2 (by omega)
      have hc : cnts (w' ++ [x]) = cnts w' + cnt x := by rw [cnts_app]; simp only [cnts, Nat.add_zero]
      have hs : shapes (w' ++ [x]) = (shapes w' && shape x) := by rw [shapes_app]; simp only [shapes, Bool.and_true]
      rw [hc, hs, whileN, n_condT]
      simp only [ht]
      have e1 : ((found : Int) + 1) = ((found + 1 : Nat) : Int) := by omega
      cases x with
      | str s =>
        simp only [h4, if_false]
        rw [e1]
        obtain ⟨fl, ρ', w2, q1, q2⟩ := ih w' (found + 1) (some (.str s)) (by omega) hd.1 (by omega)
        refine ⟨fl, ρ', w2, q1, ?_⟩
        have a1 : found + (cnts w' + cnt (.str s)) = found + 1 + cnts w' := by simp only [cnt]; omega
        have a2 : shape (.str s) = true := rfl
        rw [a1, a2, Bool.and_true]
        exact q2
      | tup ys =>
        cases ys with
        | nil => exact ⟨_, _, _, rfl, .inr ⟨.inl (by simp [shape, shapeT]), .inl rfl⟩⟩
        | cons y ys =>
          simp only [h4, if_false]
          rw [e1]
          have hdy : dats ys = true := by
            have := hd.2
            unfold dat dats at this
            rw [Bool.and_eq_true] at this
            exact this.2
          obtain ⟨fl, ρ', w2, q1, q2⟩ := ih (w' ++ ys) (found + 1) (some (.tup (y :: ys))) (by omega) (by rw [dats_app, hd.1, hdy]; rfl) (by rw [cnts_app]; simp only [cnt, cntT] at hz; omega)
          refine ⟨fl, ρ', w2, q1, ?_⟩
          have a1 : found + (cnts w' + cnt (.tup (y :: ys))) = found + 1 + cnts (w' ++ ys) := by rw [cnts_app]; simp only [cnt, cntT]; omega
          have a2 : (shapes w' && shape (.tup (y :: ys))) = shapes (w' ++ ys) := by rw [shapes_app]; simp only [shape, shapeT]
          rw [a1, a2]
          exact q2
      | _ => exact ⟨_, _, _, rfl, .inr ⟨.inl (by simp [shape]), .inl rfl⟩⟩
theorem sp_nodes (k : Nat) (v : MV) (mh : MHp) (hd : dat v = true) (hz : cnt v ≤ line) : ∃ r, callM T (k + 1) 5 [v] mh = some (r, mh) ∧
    ((shape v = true ∧ cnt v ≤ 400 ∧ r = .int (cnt v)) ∨ ((shape v = false ∨ 400 < cnt v) ∧ (r = .non ∨ r = .int 401))) := by
  rw [callM_eq (d := d_nodes) rfl]
  have hc : cnts [v] = cnt v := by simp only [cnts, Nat.add_zero]
  have hs : shapes [v] = shape v := by simp only [shapes, Bool.and_true]
  obtain ⟨fl, ρ', w', q1, q2⟩ := n_loop (C := callM T k) (v := v) (mh := mh) 400 [v] 0 none (by omega) (by simp [dats, hd]) (by rw [hc]; exact hz)
  have q1' := whileM_eq q1
  rw [hc, hs, Nat.zero_add] at q2
  have hp : ex (callM T k) mh.length (.par 1 2 (.al (.lst [(.var 0)])) (.c (.int (0)))) [some v, none, none, none] mh = some (.nx, nEnv v mh ((0 : Nat) : Int) none, nHp mh [v]) := by
    have h1 : 1 ≤ line := by unfold line; omega
    simp [ex, ev, evs, nEnv, nHp, h1]
  rcases q2 with ⟨h1, h2, rfl, o', rfl⟩ | ⟨h1, h2⟩
  · refine ⟨.int (cnt v), ?_, .inl ⟨h1, h2, rfl⟩⟩
    have := run_of (C := callM T k) (d := d_nodes) (args := [v]) (mh := mh) (mh1 := nHp mh w') (fl := .rt (.int (cnt v))) (ρ := nEnv v mh ((cnt v : Nat) : Int) o') rfl rfl ?_ rfl rfl
    · rw [take_top] at this; exact this
    · show exs (callM T k) mh.length d_nodes.body [some v, none, none, none] mh = _
      rw [d_nodes, exs, hp]
      simp only
      rw [exs, ex_while, q1']
      simp [exs, ex, ev, nEnv]
  · have key : ∀ r, dat r = true → fl = .rt r → runD (callM T k) d_nodes [v] mh = some (r, mh) := fun r hr e => by
      subst e
      have := run_of (C := callM T k) (d := d_nodes) (args := [v]) (mh := mh) (mh1 := nHp mh w') (fl := .rt r) (ρ := ρ') rfl rfl ?_ rfl hr
      · rw [take_top] at this; exact this
      · show exs (callM T k) mh.length d_nodes.body [some v, none, none, none] mh = _
        rw [d_nodes, exs, hp]
        simp only
        rw [exs, ex_while, q1']
    rcases h2 with e | e
    · exact ⟨.non, key .non rfl e, .inr ⟨h1, .inl rfl⟩⟩
    · exact ⟨.int 401, key _ rfl e, .inr ⟨h1, .inr rfl⟩⟩
def isI (n : Nat) : MV → Bool
  | .int i => decide (i = (n : Int))
  | _ => false
def headB (ps : List MV) (h : MV) (n : Nat) : Bool := wordB lower h && match h with
  | .str s => isI n (placesV ps s)
  | _ => false
mutual
def good (ps : List MV) : MV → Bool
  | .str s => wordB upper (.str s)
  | .tup xs => goodT ps xs
  | _ => false
def goodT (ps : List MV) : List MV → Bool
  | [] => false
  | h :: xs => headB ps h xs.length && goods ps xs
def goods (ps : List MV) : List MV → Bool
  | [] => true
  | x :: xs => good ps x && goods ps xs
end
theorem goods_app (ps xs ys : List MV) : goods ps (xs ++ ys) = (goods ps xs && goods ps ys) := by
  induction xs with
  | nil => simp [goods]
  | cons x xs ih => simp only [List.cons_append, goods, ih, Bool.and_assoc]
mutual
theorem good_shape (ps : List MV) : ∀ x : MV, good ps x = true → shape x = true
  | .str s, _ => rfl
  | .tup [], h => by simp [good, goodT] at h
  | .tup (y :: xs), h => by
    simp only [good, goodT, Bool.and_eq_true] at h
    simp only [shape, shapeT]
    exact goods_shape ps xs h.2
  | .non, h => by simp [good] at h
  | .bl _, h => by simp [good] at h
  | .int _, h => by simp [good] at h
  | .fn _, h => by simp [good] at h
  | .lst _, h => by simp [good] at h
  | .loc _, h => by simp [good] at h
  | .dct _ _, h => by simp [good] at h
  | .scr _, h => by simp [good] at h
theorem goods_shape (ps : List MV) : ∀ xs : List MV, goods ps xs = true → shapes xs = true
  | [], _ => rfl
  | x :: xs, h => by
    simp only [goods, Bool.and_eq_true] at h
    simp only [shapes, Bool.and_eq_true]
    exact ⟨good_shape ps x h.1, goods_shape ps xs h.2⟩
end
abbrev tC : ME := (.cmp .gt (.bi .len [(.var 3)]) (.c (.int (0))))
abbrev tB : List MS := [(.set (.nm 4) (.meth .pop (.var 3) [])), (.ite (.isi (.var 4) .tuple) [(.ite (.or (.not (.call 1 [(.sub (.var 4) (.c (.int (0))))])) (.cmp .ne (.call 3 [(.var 1), (.sub (.var 4) (.c (.int (0))))]) (.bin .sub (.bi .len [(.var 4)]) (.c (.int (1)))))) [(.ret (.c (.bl false)))] []), (.ex (.meth .extend (.var 3) [(.slcL (.var 4) (.c (.int (1))))]))] [(.ite (.not (.call 2 [(.var 4)])) [(.ret (.c (.bl false)))] [])])]
abbrev tEnv (v : MV) (ps : List MV) (mh : MHp) (c : Int) (o : Option MV) : Env := [some v, some (.tup ps), some (.int c), some (.loc mh.length), o]
section
variable {k : Nat} {v : MV} {ps : List MV} {mh : MHp} {c : Int} {w : List MV} {x : MV} {o : Option MV}
theorem t_condT {C : CallF} : whC C mh.length tC (tEnv v ps mh c o) (nHp mh (w ++ [x])) = some (true, nHp mh (w ++ [x])) := by
  simp [whC, tC, tEnv, nHp, ev, evs, biV, one1, lenV, getL, top_get, cmpV, ordV]
theorem t_condF {C : CallF} : whC C mh.length tC (tEnv v ps mh c o) (nHp mh []) = some (false, nHp mh []) := by
  simp [whC, tC, tEnv, nHp, ev, evs, biV, one1, lenV, getL, top_get, cmpV, ordV]
theorem t_pop {C : CallF} : ex C mh.length (.set (.nm 4) (.meth .pop (.var 3) [])) (tEnv v ps mh c o) (nHp mh (w ++ [x])) = some (.nx, tEnv v ps mh c (some x), nHp mh w) := by
  simp [tEnv, nHp, ex, ev, evs, tyM, liveL, top_get, methV, popV, top_set, asg]
theorem t_ext {C : CallF} {xs : List MV} (hz : w.length + xs.length ≤ line) : ev C mh.length (.meth .extend (.var 3) [(.slcL (.var 4) (.c (.int (1))))]) (tEnv v ps mh c (some (.tup (x :: xs)))) (nHp mh w) = some (.non, nHp mh (w ++ xs)) := by
  have hc := cut_drop (xs := x :: xs) (k := 1)
  simp at hc
  have hw : ∀ y ∈ xs, wr mh.length mh.length y = true := fun y hy => by simp [wr]
  simp [tEnv, nHp, ev, evs, tyM, liveL, top_get, methV, extV, top_set, slcV, hc, seqOf, hz, hw]
  exact hw
theorem t_turnS {s : Sx} (hd : dat (.str s) = true) : exs (callM T (k + 2)) mh.length tB (tEnv v ps mh c o) (nHp mh (w ++ [.str s])) = some (if wordB upper (.str s) = true then .nx else .rt (.bl false), tEnv v ps mh c (some (.str s)), nHp mh w) := by
  rw [tB, exs, t_pop]
  have hv := sp_is_var k (.str s) (nHp mh w) hd
  cases e : wordB upper (.str s) <;> rw [e] at hv <;> simp [exs, ex, ev, evs, tEnv, isTy, hv]
theorem t_turnT {h : MV} {xs : List MV} (hp : ∀ p ∈ ps, pairB p = true) (hdp : dats ps = true) (hd : dats (h :: xs) = true) (hz : w.length + xs.length ≤ line) :
    ∃ w', exs (callM T (k + 2)) mh.length tB (tEnv v ps mh c o) (nHp mh (w ++ [.tup (h :: xs)])) = some (if headB ps h xs.length = true then .nx else .rt (.bl false), tEnv v ps mh c (some (.tup (h :: xs))), nHp mh w') ∧ (headB ps h xs.length = true → w' = w ++ xs) := by
  have hdh : dat h = true := dats_iff.mp hd h (by simp)
  have hs := sp_is_sign k h (nHp mh w) hdh
  rw [tB, exs, t_pop]
  cases e : wordB lower h with
  | false =>
    rw [e] at hs
    have hb : headB ps h xs.length = false := by simp [headB, e]
    refine ⟨w, ?_, fun z => by rw [hb] at z; cases z⟩
    rw [hb]
    simp [exs, ex, ev, evs, tEnv, isTy, subV, atI0, hs]
  | true =>
    rw [e] at hs
    obtain ⟨a, s, rfl⟩ := wordB_str e
    have hpl := sp_places (k + 1) ps (a :: s) (nHp mh w) hp hdp hdh
    have hb : headB ps (.str (a :: s)) xs.length = isI xs.length (placesV ps (a :: s)) := by simp [headB, e]
    rw [hb]
    have hl1 : ((xs.length : Int) + 1 - 1) = (xs.length : Int) := by omega
    have key : ∀ b, cmpV (nHp mh w) .ne (placesV ps (a :: s)) (.int (xs.length : Int)) = some (!b) → ev (callM T (k + 2)) mh.length (.or (.not (.call 1 [(.sub (.var 4) (.c (.int (0))))])) (.cmp .ne (.call 3 [(.var 1), (.sub (.var 4) (.c (.int (0))))]) (.bin .sub (.bi .len [(.var 4)]) (.c (.int (1)))))) (tEnv v ps mh c (some (.tup (.str (a :: s) :: xs)))) (nHp mh w) = some (.bl (!b), nHp mh w) := fun b hb => by
      simp [ev, evs, tEnv, isTy, subV, atI0, hs, hpl, biV, one1, lenV, binV, intV, hl1, hb]
    have hcm : cmpV (nHp mh w) .ne (placesV ps (a :: s)) (.int (xs.length : Int)) = some (!isI xs.length (placesV ps (a :: s))) := by
      rcases placesV_cases hp (a :: s) with q | ⟨i, q⟩
      · rw [q]; simp [cmpV, eqV_nonint, isI]
      · rw [q]; simp [cmpV, eqV_int, isI]
    have e2 := key _ hcm
    have it : ev (callM T (k + 2)) mh.length (.isi (.var 4) .tuple) (tEnv v ps mh c (some (.tup (.str (a :: s) :: xs)))) (nHp mh w) = some (.bl true, nHp mh w) := by simp [ev, tEnv, isTy]
    cases hi : isI xs.length (placesV ps (a :: s)) with
    | false =>
      rw [hi] at e2
      refine ⟨w, ?_, fun z => by cases z⟩
      simp only [exs, ex, it, e2, ev, Bool.not_false]
      rfl
    | true =>
      rw [hi] at e2
      refine ⟨w ++ xs, ?_, fun _ => rfl⟩
      simp only [exs, ex, it, e2, Bool.not_true, t_ext hz]
      rfl
theorem t_loop (hp : ∀ p ∈ ps, pairB p = true) (hdp : dats ps = true) : ∀ (n : Nat) (w : List MV) (o : Option MV), cnts w ≤ n → n ≤ line → dats w = true → shapes w = true →
    ∃ ρ' w', whileN (whC (callM T (k + 2)) mh.length tC) (exs (callM T (k + 2)) mh.length tB) (n + 1) (tEnv v ps mh c o) (nHp mh w) = some (if goods ps w = true then .nx else .rt (.bl false), ρ', nHp mh w') := by
  intro n
  induction n with
  | zero =>
    intro w o hc _ hd hs
    have hw : w = [] := by
      cases w with
      | nil => rfl
      | cons x w => have := cnt_pos x; simp only [cnts] at hc; omega
    subst hw
    refine ⟨tEnv v ps mh c o, [], ?_⟩
    rw [whileN, t_condF]
    rfl
  | succ n ih =>
    intro w o hc hn hd hs
    by_cases hw : w = []
    · subst hw
      refine ⟨tEnv v ps mh c o, [], ?_⟩
      rw [whileN, t_condF]
      rfl
    · obtain ⟨w', x, rfl⟩ := snoc_of hw
      rw [cnts_app] at hc
      simp only [cnts, Nat.add_zero] at hc
      rw [dats_app] at hd
      simp only [dats, Bool.and_true, Bool.and_eq_true] at hd
      rw [shapes_app] at hs
      simp only [shapes, Bool.and_true, Bool.and_eq_true] at hs
      have hl := len_cnts w'
      have hg : goods ps (w' ++ [x]) = (goods ps w' && good ps x) := by rw [goods_app]; simp only [goods, Bool.and_true]
      rw [hg, whileN, t_condT]
      cases x with
      | str s =>
        simp only [t_turnS hd.2]
        have a2 : good ps (.str s) = wordB upper (.str s) := by simp only [good]
        rw [a2]
        cases e : wordB upper (.str s) with
        | true =>
          simp only [if_true, Bool.and_true]
          have := cnt_pos (.str s)
          exact ih w' _ (by omega) (by omega) hd.1 hs.1
        | false =>
          simp only [Bool.and_false]
          exact ⟨_, w', rfl⟩
      | tup ys =>
        cases ys with
        | nil => have := hs.2; simp [shape, shapeT] at this
        | cons y ys =>
          have hdy : dats (y :: ys) = true := by have := hd.2; unfold dat at this; exact this
          have hcy := hc
          simp only [cnt, cntT] at hcy
          have hly := len_cnts ys
          obtain ⟨w2, e1, e2⟩ := t_turnT (k := k) (v := v) (mh := mh) (c := c) (w := w') (o := o) (h := y) (xs := ys) hp hdp hdy (by omega)
          simp only [e1]
          have a2 : good ps (.tup (y :: ys)) = (headB ps y ys.length && goods ps ys) := by simp only [good, goodT]
          rw [a2]
          cases e : headB ps y ys.length with
          | true =>
            rw [e2 e]
            simp only [if_true, Bool.true_and]
            have hdy2 : dats ys = true := by
              unfold dats at hdy
              rw [Bool.and_eq_true] at hdy
              exact hdy.2
            have hsy : shapes ys = true := by have := hs.2; simp only [shape, shapeT] at this; exact this
            rw [← goods_app]
            exact ih (w' ++ ys) _ (by rw [cnts_app]; omega) (by omega) (by rw [dats_app, hd.1, hdy2]; rfl) (by rw [shapes_app, hs.1, hsy]; rfl)
          | false =>
            simp only [Bool.false_and, Bool.and_false]
            exact ⟨_, w2, rfl⟩
      | _ => have := hs.2; simp [shape] at this
def termB (ps : List MV) (v : MV) : Bool := decide (cnt v ≤ 400) && good ps v
theorem sp_term (hp : ∀ p ∈ ps, pairB p = true) (hdp : dats ps = true) (hd : dat v = true) (hz : cnt v ≤ line) : callM T (k + 3) 6 [v, .tup ps] mh = some (.bl (termB ps v), mh) := by
  rw [callM_eq (d := d_is_term) rfl]
  have h1 : 1 ≤ line := by unfold line; omega
  obtain ⟨r, e1, hr⟩ := sp_nodes (k + 1) v mh hd hz
  have fin : ∀ (ρ : Env) (m1 : MHp), exs (callM T (k + 2)) mh.length d_is_term.body [some v, some (.tup ps), none, none, none] mh = some (.rt (.bl (termB ps v)), ρ, m1) → m1.take mh.length = mh → runD (callM T (k + 2)) d_is_term [v, .tup ps] mh = some (.bl (termB ps v), mh) := fun ρ m1 e em => by
    have := run_of (C := callM T (k + 2)) (d := d_is_term) (args := [v, .tup ps]) (mh := mh) rfl rfl e rfl rfl
    rw [em] at this
    exact this
  rcases hr with ⟨s1, s2, rfl⟩ | ⟨s1, s2⟩
  · have hc : cnts [v] = cnt v := by simp only [cnts, Nat.add_zero]
    obtain ⟨ρ', w', q1⟩ := t_loop (k := k) (v := v) (ps := ps) (mh := mh) (c := (cnt v : Int)) hp hdp (cnt v) [v] none (by rw [hc]; exact Nat.le_refl _) hz (by simp [dats, hd]) (by simp [shapes, s1])
    have q2 := whileM_eq q1
    have hg : goods ps [v] = termB ps v := by simp only [goods, Bool.and_true, termB, s2, decide_true, Bool.true_and]
    rw [hg] at q2
    have hn : ¬ ((400 : Int) < (cnt v : Int)) := by omega
    have pre : ∀ r, exs (callM T (k + 2)) mh.length [(.while tC tB), (.ret (.c (.bl true)))] (tEnv v ps mh (cnt v) none) (nHp mh [v]) = r → exs (callM T (k + 2)) mh.length d_is_term.body [some v, some (.tup ps), none, none, none] mh = r := fun r hr => by
      rw [← hr]
      simp only [d_is_term]
      rw [exs]
      have b1 : ex (callM T (k + 2)) mh.length (.set (.nm 2) (.call 5 [(.var 0)])) [some v, some (.tup ps), none, none, none] mh = some (.nx, [some v, some (.tup ps), some (.int (cnt v : Int)), none, none], mh) := by
        simp [ex, ev, evs, e1, asg]
      rw [b1]
      simp only
      rw [exs]
      have b2 : ex (callM T (k + 2)) mh.length (.ite (.or (.cmp .is (.var 2) (.c .non)) (.cmp .gt (.var 2) (.c (.int (400))))) [(.ret (.c (.bl false)))] []) [some v, some (.tup ps), some (.int (cnt v : Int)), none, none] mh = some (.nx, [some v, some (.tup ps), some (.int (cnt v : Int)), none, none], mh) := by
        simp [ex, exs, ev, cmpV, isV, ordV, hn]
      rw [b2]
      simp only
      rw [exs]
      have b3 : ex (callM T (k + 2)) mh.length (.set (.nm 3) (.al (.lst [(.var 0)]))) [some v, some (.tup ps), some (.int (cnt v : Int)), none, none] mh = some (.nx, tEnv v ps mh (cnt v) none, nHp mh [v]) := by
        simp [ex, ev, evs, h1, asg, tEnv, nHp]
      rw [b3]
    cases ht : termB ps v with
    | true =>
      rw [ht] at q2 fin
      refine fin ρ' (nHp mh w') (pre _ ?_) take_top
      rw [exs, ex_while, q2]
      simp [exs, ex, ev]
    | false =>
      rw [ht] at q2 fin
      refine fin ρ' (nHp mh w') (pre _ ?_) take_top
      rw [exs, ex_while, q2]
      rfl
  · have ht : termB ps v = false := by
      unfold termB
      rcases s1 with s1 | s1
      · cases hg : good ps v with
        | false => simp
        | true => rw [good_shape ps v hg] at s1; cases s1
      · have : ¬ cnt v ≤ 400 := by omega
        simp [this]
    rw [ht] at fin ⊢
    rcases s2 with rfl | rfl
    · refine fin [some v, some (.tup ps), some .non, none, none] mh ?_ (by simp)
      simp [d_is_term, exs, ex, ev, evs, e1, asg, cmpV, isV]
    · refine fin [some v, some (.tup ps), some (.int 401), none, none] mh ?_ (by simp)
      simp [d_is_term, exs, ex, ev, evs, e1, asg, cmpV, isV, ordV]
end
end L2.Mi.k04

set_option Elab.async false
set_option linter.all false
set_option maxRecDepth 100000
set_option maxHeartbeats 4000000
namespace L2.Mi.k04
open PySem PySem.Spec PyProof.Rows L2.Mi
theorem deps_leq {d : Nat} : ∀ {xs : List MV}, (∀ x ∈ xs, dep x ≤ d) → deps xs ≤ d
  | [], _ => by simp [deps]
  | x :: xs, h => by
    have := h x (by simp)
    have := deps_leq (xs := xs) fun y hy => h y (List.mem_cons_of_mem _ hy)
    simp only [deps]
    omega
theorem pV_dep (p : List Int) : dep (pV p) ≤ 1 := by
  have : deps (p.map MV.int) ≤ 0 := deps_leq fun y hy => by obtain ⟨i, _, rfl⟩ := List.mem_map.mp hy; simp [dep]
  simp only [dep]
  omega
theorem pV_deps2 (ps : List (List Int)) : dep (.lst (ps.map pV)) ≤ 2 := by
  have : deps (ps.map pV) ≤ 1 := deps_leq fun x hx => by
    obtain ⟨p, _, rfl⟩ := List.mem_map.mp hx
    exact pV_dep p
  simp only [dep]
  omega
section
variable {k : Nat} {p t : MV} {ar : Sx → Option Nat} {mh : MHp}
end
/-! ### parts put for names -/
mutual
def putF (d : AL) : MV → MV
  | .str s => (look d s).getD (.str s)
  | .tup xs => .tup (putT d xs)
  | x => x
def putT (d : AL) : List MV → List MV
  | [] => []
  | h :: xs => h :: putFs d xs
def putFs (d : AL) : List MV → List MV
  | [] => []
  | x :: xs => putF d x :: putFs d xs
end
theorem putFs_map (d : AL) : ∀ xs, putFs d xs = xs.map (putF d)
  | [] => rfl
  | x :: xs => by rw [putFs, putFs_map d xs]; rfl
/-- what a dict's values keep -/
structure VOk (ar : Sx → Option Nat) (c e : Nat) (d : AL) : Prop where
  tm : ∀ p ∈ d, tmA ar p.2 = true
  dat : ∀ p ∈ d, dat p.2 = true
  cnt : ∀ p ∈ d, cnt p.2 ≤ c
  dep : ∀ p ∈ d, dep p.2 ≤ e
theorem put_facts {ar : Sx → Option Nat} {c e : Nat} {d : AL} (hd : VOk ar c e d) (hc : 1 ≤ c) : ∀ (D : Nat) (t : MV), dep t ≤ D → tmA ar t = true → dat t = true → tmA ar (putF d t) = true ∧ dat (putF d t) = true ∧ cnt (putF d t) ≤ cnt t * c ∧ dep (putF d t) ≤ dep t + e := by
  intro D
  have leaf : ∀ s : Sx, dat (.str s) = true → tmA ar (putF d (.str s)) = true ∧ dat (putF d (.str s)) = true ∧ cnt (putF d (.str s)) ≤ cnt (.str s) * c ∧ dep (putF d (.str s)) ≤ dep (.str s) + e := fun s hs => by
    simp only [putF]
    cases q : look d s with
    | none => exact ⟨by simp [tmA], hs, by simp [cnt]; omega, by simp [dep]⟩
    | some v =>
      have hm := look_mem q
      exact ⟨hd.tm _ hm, hd.dat _ hm, by have := hd.cnt _ hm; simp only [Option.getD_some, L2.Mi.cnt] at this ⊢; omega, by have := hd.dep _ hm; simp only [Option.getD_some, L2.Mi.dep] at this ⊢; omega⟩
  induction D with
  | zero =>
    intro t hD ht hdt
    rcases tmA_cases ht hdt with ⟨s, rfl⟩ | ⟨s, xs, rfl, h1, h2, h3⟩
    · exact leaf s hdt
    · simp [dep] at hD
  | succ D ih =>
    intro t hD ht hdt
    rcases tmA_cases ht hdt with ⟨s, rfl⟩ | ⟨s, xs, rfl, h1, h2, h3⟩
    · exact leaf s hdt
    · have each : ∀ x ∈ xs, _ := fun x hx => ih x (by have := dep_mem (h := .str s) hx; omega) (h3 x hx).1 (h3 x hx).2
      have e0 : putF d (.tup (.str s :: xs)) = .tup (.str s :: xs.map (putF d)) := by simp only [putF, putT, putFs_map]
      rw [e0]
      refine ⟨tmA_tup (by rw [List.length_map]; exact h1) fun y hy => ?_, ?_, ?_, ?_⟩
      · obtain ⟨x, hx, rfl⟩ := List.mem_map.mp hy
        exact (each x hx).1
      · show dat (.tup (.str s :: xs.map (putF d))) = true
        rw [dat]
        refine dats_iff.mpr fun y hy => ?_
        rcases List.mem_cons.mp hy with rfl | hy
        · exact h2
        · obtain ⟨x, hx, rfl⟩ := List.mem_map.mp hy
          exact (each x hx).2.1
      · have : ∀ ys : List MV, (∀ x ∈ ys, L2.Mi.cnt (putF d x) ≤ L2.Mi.cnt x * c) → cnts (ys.map (putF d)) ≤ cnts ys * c := by
          intro ys
          induction ys with
          | nil => intro _; simp [cnts]
          | cons y ys ihy =>
            intro h
            have a := h y (by simp)
            have b := ihy fun x hx => h x (List.mem_cons_of_mem _ hx)
            simp only [List.map_cons, cnts, Nat.add_mul]
            omega
        have := this xs fun x hx => (each x hx).2.2.1
        simp only [L2.Mi.cnt, cntT, Nat.add_mul]
        omega
      · have : deps (xs.map (putF d)) ≤ deps xs + e := deps_leq fun y hy => by
          obtain ⟨x, hx, rfl⟩ := List.mem_map.mp hy
          have := (each x hx).2.2.2
          have := deps_mem hx
          omega
        simp only [L2.Mi.dep, deps]
        omega
/-! ### the names of a term, as often as they stand there -/
mutual
def occ : MV → List Sx
  | .str s => [s]
  | .tup xs => occT xs
  | _ => []
def occT : List MV → List Sx
  | [] => []
  | _ :: xs => occs xs
def occs : List MV → List Sx
  | [] => []
  | x :: xs => occ x ++ occs xs
end
theorem mem_occs {s : Sx} : ∀ {xs : List MV}, s ∈ occs xs ↔ ∃ x ∈ xs, s ∈ occ x
  | [] => by simp [occs]
  | x :: xs => by simp [occs, mem_occs (xs := xs)]
theorem occ_tup {h : MV} {xs : List MV} : occ (.tup (h :: xs)) = occs xs := rfl
/-! ### names -/
theorem hasV_iff {acc : List MV} {x : MV} (ha : AllS acc) (hx : ∃ s, x = .str s ∧ dat x = true) : hasV acc x = true ↔ x ∈ acc := by
  obtain ⟨s, rfl, hd⟩ := hx
  unfold hasV
  rw [List.any_eq_true]
  constructor
  · rintro ⟨z, hz, e⟩
    obtain ⟨u, rfl, hu⟩ := ha z hz
    rw [eqD_pln' rfl hu rfl hd] at e
    rw [← e]; exact hz
  · intro h
    exact ⟨_, h, eqD_refl _ hd⟩
theorem varsL_nd {acc : List MV} : ∀ {xs : List MV}, tms xs = true → dats xs = true → AllS acc → acc.Nodup → (∀ x ∈ xs, (vars x).Nodup) → (varsL acc xs).Nodup ∧ ∀ v, v ∈ varsL acc xs ↔ v ∈ acc ∨ ∃ x ∈ xs, v ∈ vars x := by
  intro xs
  induction xs generalizing acc with
  | nil => intro _ _ _ h _; simp only [varsL]; exact ⟨h, fun v => by simp⟩
  | cons x xs ih =>
    intro ht hd ha hn hx
    simp only [tms, Bool.and_eq_true] at ht
    simp only [dats, Bool.and_eq_true] at hd
    obtain ⟨va, _⟩ := vars_all x ht.1 hd.1
    have hf : ∀ v, v ∈ (vars x).filter (fun n => !hasV acc n) ↔ v ∈ vars x ∧ v ∉ acc := fun v => by
      rw [List.mem_filter]
      constructor
      · rintro ⟨h1, h2⟩
        refine ⟨h1, fun h3 => ?_⟩
        rw [(hasV_iff ha (va v h1)).mpr h3] at h2
        cases h2
      · rintro ⟨h1, h2⟩
        refine ⟨h1, ?_⟩
        cases e : hasV acc v with
        | false => rfl
        | true => exact absurd ((hasV_iff ha (va v h1)).mp e) h2
    have nd : (acc ++ (vars x).filter fun n => !hasV acc n).Nodup := by
      rw [List.nodup_append]
      refine ⟨hn, (hx x (by simp)).sublist List.filter_sublist, fun a h1 b h2 e => ?_⟩
      subst e
      exact ((hf a).mp h2).2 h1
    obtain ⟨i1, i2⟩ := ih (acc := acc ++ (vars x).filter fun n => !hasV acc n) ht.2 hd.2 (ha.app va.filter) nd fun y hy => hx y (List.mem_cons_of_mem _ hy)
    simp only [varsL]
    refine ⟨i1, fun v => ?_⟩
    rw [i2, List.mem_append, hf]
    constructor
    · rintro ((h | h) | ⟨y, hy, h⟩)
      · exact .inl h
      · exact .inr ⟨x, by simp, h.1⟩
      · exact .inr ⟨y, List.mem_cons_of_mem _ hy, h⟩
    · rintro (h | ⟨y, hy, h⟩)
      · exact .inl (.inl h)
      · rcases List.mem_cons.mp hy with rfl | hy
        · by_cases hm : v ∈ acc
          · exact .inl (.inl hm)
          · exact .inl (.inr ⟨h, hm⟩)
        · exact .inr ⟨y, hy, h⟩
theorem vars_occ : ∀ (D : Nat) (t : MV), dep t ≤ D → tm t = true → dat t = true → (vars t).Nodup ∧ ∀ v, v ∈ vars t ↔ ∃ s ∈ occ t, v = .str s := by
  intro D
  have leaf : ∀ s : Sx, (vars (.str s)).Nodup ∧ ∀ v, v ∈ vars (.str s) ↔ ∃ u ∈ occ (.str s), v = .str u := fun s => by
    simp [vars, occ]
  induction D with
  | zero =>
    intro t hD ht hd
    rcases tm_cases ht hd with ⟨s, rfl⟩ | ⟨s, xs, rfl, _, h⟩
    · exact leaf s
    · simp [dep] at hD
  | succ D ih =>
    intro t hD ht hd
    rcases tm_cases ht hd with ⟨s, rfl⟩ | ⟨s, xs, rfl, _, h⟩
    · exact leaf s
    · have each := fun x hx => ih x (by have := dep_mem (h := .str s) hx; omega) (h x hx).1 (h x hx).2
      obtain ⟨a, b⟩ := varsL_nd (acc := []) (xs := xs) (tms_iff.mpr fun x hx => (h x hx).1) (dats_iff.mpr fun x hx => (h x hx).2) (fun x hx => by simp at hx) (by simp) fun x hx => (each x hx).1
      simp only [vars, varsT, occ_tup]
      refine ⟨a, fun v => ?_⟩
      rw [b]
      constructor
      · rintro (h | ⟨x, hx, h⟩)
        · simp at h
        · obtain ⟨u, hu, rfl⟩ := ((each x hx).2 v).mp h
          exact ⟨u, mem_occs.mpr ⟨x, hx, hu⟩, rfl⟩
      · rintro ⟨u, hu, rfl⟩
        obtain ⟨x, hx, hu⟩ := mem_occs.mp hu
        exact .inr ⟨x, hx, ((each x hx).2 _).mpr ⟨u, hu, rfl⟩⟩
/-! the least common pattern, as a function -/
def dg (j : Nat) : Sx := (toString (j : Int) : Str).cps.toList
def name (j : Nat) : MV := .str (86 :: dg j)
theorem dg_all : (List.range 64).all (fun j => decide ((dg j).length ≤ 3) && (dg j).all (fun c => decide (48 ≤ c ∧ c < 58)) && (List.range 64).all (fun i => decide (i = j) || decide (dg i ≠ dg j))) = true := by decide +kernel
theorem dg_ok {j : Nat} (h : j < 64) : (dg j).length ≤ 3 ∧ (∀ c ∈ dg j, 48 ≤ c ∧ c < 58) ∧ ∀ i, i < 64 → dg i = dg j → i = j := by
  have := List.all_eq_true.mp dg_all j (List.mem_range.mpr h)
  rw [Bool.and_eq_true, Bool.and_eq_true] at this
  refine ⟨of_decide_eq_true this.1.1, fun c hc => of_decide_eq_true (List.all_eq_true.mp this.1.2 c hc), fun i hi e => ?_⟩
  have w := List.all_eq_true.mp this.2 i (List.mem_range.mpr hi)
  rw [Bool.or_eq_true] at w
  rcases w with w | w
  · exact of_decide_eq_true w
  · exact absurd e (of_decide_eq_true w)
theorem name_dat {j : Nat} (h : j < 64) : dat (name j) = true := by
  obtain ⟨a, b, _⟩ := dg_ok h
  refine dat_str (by simp; omega) fun c hc => ?_
  rcases List.mem_cons.mp hc with rfl | hc
  · omega
  · have := b c hc; omega
theorem strV_dg {j : Nat} (h : j < 64) : strV (.int (j : Int)) = some (.str (dg j)) := by
  have : ((j : Int)).natAbs.log2 < 1920 := by
    have h1 : (j : Int).natAbs = j := Int.natAbs_natCast j
    rw [h1]
    have := Nat.log2_self_le (n := j)
    by_cases hj : j = 0
    · subst hj; decide
    · have h2 := Nat.log2_self_le hj
      have : j.log2 < 2 ^ j.log2 := Nat.lt_two_pow_self
      omega
  simp only [strV, this, if_true]
  rfl
end L2.Mi.k04

set_option Elab.async false
set_option linter.all false
set_option maxRecDepth 100000
set_option maxHeartbeats 4000000
namespace L2.Mi.k04
open PySem PySem.Spec PyProof.Rows L2.Mi
/-! ### the tongues -/
def arOf (ps : List MV) (s : Sx) : Option Nat := match ps.find? fun p => (match p with | .tup [.str u, .int _] => decide (u = s) | _ => false) with
  | some (.tup [.str _, .int i]) => some i.toNat
  | _ => none
def tokOk (ps : List MV) : Bool := ps.all (fun p => match p with | .tup [.str s, .int i] => decide (arOf ps s = some i.toNat) && headB ps (.str s) i.toNat && decide (0 ≤ i) && decide (i ≤ 3) | _ => false) && ps.all pairB && !good ps (.tup [.str [102], .str [81]]) && !good ps (.tup [.str [122, 122, 122]]) && decide (ps.length ≤ 4) && decide (ps ≠ [])
theorem tok_all : tongues.all tokOk = true := by decide +kernel
structure TokP (ps : List MV) : Prop where
  ar : ∀ {s : Sx} {i : Nat}, pr s i ∈ ps → arOf ps s = some i ∧ headB ps (.str s) i = true ∧ i ≤ 3
  pair : ∀ p ∈ ps, pairB p = true
  fq : good ps (.tup [.str [102], .str [81]]) = false
  zz : good ps (.tup [.str [122, 122, 122]]) = false
theorem tokP_of {ps : List MV} (h : ps ∈ tongues) : TokP ps := by
  have h1 := List.all_eq_true.mp tok_all ps h
  unfold tokOk at h1
  simp only [Bool.and_eq_true] at h1
  obtain ⟨⟨⟨⟨⟨a1, a2⟩, a3⟩, a4⟩, a5⟩, a6⟩ := h1
  refine ⟨fun {s i} hp => ?_, fun p hp => List.all_eq_true.mp a2 p hp, by simpa using a3, by simpa using a4⟩
  have := List.all_eq_true.mp a1 _ hp
  simp [pr] at this
  exact ⟨this.1.1, this.1.2, by omega⟩
mutual
theorem good_tm {ps : List MV} : ∀ t, good ps t = true → tm t = true
  | .str _, _ => rfl
  | .tup [], h => by simp [good, goodT] at h
  | .tup (y :: xs), h => by
    simp only [good, goodT, Bool.and_eq_true] at h
    simp only [tm, tmT, Bool.and_eq_true]
    refine ⟨?_, goods_tms xs h.2⟩
    have h1 := h.1
    unfold headB at h1
    cases y with
    | str s => rfl
    | _ => simp at h1
  | .non, h => by simp [good] at h
  | .bl _, h => by simp [good] at h
  | .int _, h => by simp [good] at h
  | .fn _, h => by simp [good] at h
  | .lst _, h => by simp [good] at h
  | .loc _, h => by simp [good] at h
  | .dct _ _, h => by simp [good] at h
  | .scr _, h => by simp [good] at h
theorem goods_tms {ps : List MV} : ∀ xs, goods ps xs = true → tms xs = true
  | [], _ => rfl
  | x :: xs, h => by
    simp only [goods, Bool.and_eq_true] at h
    simp only [tms, Bool.and_eq_true]
    exact ⟨good_tm x h.1, goods_tms xs h.2⟩
end
theorem goods_iff {ps : List MV} : ∀ {xs : List MV}, goods ps xs = true ↔ ∀ x ∈ xs, good ps x = true
  | [] => by simp [goods]
  | x :: xs => by simp [goods, goods_iff (xs := xs)]
theorem varsL_mem : ∀ {xs acc : List MV} {v : MV}, v ∈ varsL acc xs → v ∈ acc ∨ ∃ x ∈ xs, v ∈ vars x
  | [], acc, v, h => by simp only [varsL] at h; exact .inl h
  | x :: xs, acc, v, h => by
    simp only [varsL] at h
    rcases varsL_mem h with h | ⟨y, hy, h⟩
    · rcases List.mem_append.mp h with h | h
      · exact .inl h
      · exact .inr ⟨x, by simp, (List.mem_filter.mp h).1⟩
    · exact .inr ⟨y, List.mem_cons_of_mem _ hy, h⟩
theorem vars_sub {s : Sx} {ys : List MV} {nl : List MV} (h : ∀ y ∈ ys, ∀ v ∈ vars y, v ∈ nl) : ∀ v ∈ vars (.tup (.str s :: ys)), v ∈ nl := fun v hv => by
  simp only [vars, varsT] at hv
  rcases varsL_mem hv with h1 | ⟨x, hx, h1⟩
  · simp at h1
  · exact h x hx v h1
theorem good_tup {ps : List MV} {s : Sx} {i : Nat} {ys : List MV} (hp : TokP ps) (h : pr s i ∈ ps) (hl : ys.length = i) (hy : ∀ y ∈ ys, good ps y = true) : good ps (.tup (.str s :: ys)) = true := by
  simp only [good, goodT, Bool.and_eq_true]
  exact ⟨by rw [hl]; exact (hp.ar h).2.1, goods_iff.mpr hy⟩
end L2.Mi.k04

set_option Elab.async false
set_option linter.all false
set_option maxRecDepth 100000
set_option maxHeartbeats 4000000
namespace L2.Mi.k04
open PySem PySem.Spec PyProof.Rows L2.Mi
structure Dr (ps : List MV) (V : List Sx) (c e : Nat) (t : MV) : Prop where
  tm : tmA (arOf ps) t = true
  sub : ∀ s ∈ occ t, s ∈ V
  gd : good ps t = true
  cnt : cnt t ≤ c
  dep : dep t ≤ e
  dat : dat t = true
theorem Dr.up {ps : List MV} {V : List Sx} {c e c' e' : Nat} {t : MV} (h : Dr ps V c e t) (h1 : c ≤ c') (h2 : e ≤ e') : Dr ps V c' e' t := ⟨h.tm, h.sub, h.gd, Nat.le_trans h.cnt h1, Nat.le_trans h.dep h2, h.dat⟩
section
variable {l n : Nat} {tl mh : MHp} {ps : List MV}
theorem draw (hps : ps ∈ tongues) {V : List Sx} (hnl : V.length ≤ 1000) (hnd : dats (V.map .str) = true) (hV : ∀ s ∈ V, wordB upper (.str s) = true) (m k : Nat) (S : Sf l n tl mh) : ∃ t mh', callM T (k + m + 3) 20 [.loc l, .tup ps, .lst (V.map .str), .int ((m + 1 : Nat) : Int)] mh = some (t, mh') ∧ Sf l n tl mh' ∧ Dr ps V (bnd m) (m + 1) t := by
  have hp := tokP_of hps
  obtain ⟨t, mh', e, S', d⟩ := term_fr hTake hPick hTerm (P0 := fun t => tmA (arOf ps) t = true ∧ (∀ s ∈ occ t, s ∈ V) ∧ good ps t = true) (tokG_of hps) (fun s i ys h1 h2 h3 => ⟨tmA_tup (by rw [(hp.ar h1).1, h2]) fun y hy => (h3 y hy).1, fun u hu => by
    rw [occ_tup] at hu
    obtain ⟨y, hy, hu⟩ := mem_occs.mp hu
    exact (h3 y hy).2.1 u hu, good_tup hp h1 h2 fun y hy => (h3 y hy).2.2⟩) (by rw [List.length_map]; exact hnl) hnd (fun x hx => by
    obtain ⟨s, hs, rfl⟩ := List.mem_map.mp hx
    exact ⟨s, rfl, by simp [tmA], (fun v hv => by simp only [occ, List.mem_singleton] at hv; subst hv; exact hs), by simp only [good]; exact hV s hs⟩) m k S
  exact ⟨t, mh', e, S', ⟨d.good.1, d.good.2.1, d.good.2.2, d.cnt, d.dep, d.dat⟩⟩
/-! ### an own list above the state -/
theorem _root_.L2.Mi.Sf.push (S : Sf l n tl mh) (o : Option MO) : Sf l n (tl ++ [o]) (mh ++ [o]) := by
  obtain ⟨hd, rfl, S⟩ := S
  exact ⟨hd, by rw [List.append_assoc], S⟩
theorem _root_.L2.Mi.Sf.top {o : Option MO} {m : MHp} (S : Sf l n (tl ++ [o]) m) : m[n + tl.length]? = some o := by
  obtain ⟨hd, rfl, S⟩ := S
  rw [← List.append_assoc, ← S.1, ← List.length_append]
  exact get_app0
theorem _root_.L2.Mi.Sf.setTop {o o' : Option MO} {m : MHp} (S : Sf l n (tl ++ [o]) m) : Sf l n (tl ++ [o']) (m.set (n + tl.length) o') := by
  obtain ⟨hd, rfl, S⟩ := S
  refine ⟨hd, ?_, S⟩
  rw [← List.append_assoc, ← S.1, ← List.length_append, ← List.append_assoc]
  exact set_app0
theorem _root_.L2.Mi.Sf.pop {o : Option MO} {m : MHp} (S : Sf l n (tl ++ [o]) m) : Sf l n tl (m.take (n + tl.length)) := by
  obtain ⟨hd, rfl, S⟩ := S
  refine ⟨hd, ?_, S⟩
  rw [← List.append_assoc, ← S.1, ← List.length_append, List.take_left]
end
end L2.Mi.k04

set_option Elab.async false
set_option linter.all false
set_option maxRecDepth 100000
set_option maxHeartbeats 4000000
namespace L2.Mi.k04
open PySem PySem.Spec PyProof.Rows L2.Mi
/-! ### put_for and the law's own -/
theorem sp_lput {ar : Sx → Option Nat} {c e : Nat} {d : AL} (hd : VOk ar c e d) (hc : 1 ≤ c) {v : MV} : ∀ (D k : Nat) (t : MV) (mh : MHp), dep t ≤ D → cnt t ≤ 1000000 → tmA ar t = true → dat t = true → getD mh v = some (aK d, aV d) → callM T (k + D + 1) 21 [t, v] mh = some (putF d t, mh) := by
  intro D
  have leaf : ∀ (k : Nat) (s : Sx) (mh : MHp), dat (.str s) = true → getD mh v = some (aK d, aV d) → callM T (k + 1) 21 [.str s, v] mh = some (putF d (.str s), mh) := fun k s mh hs hv => by
    have hf := (put_facts hd hc 0 (.str s) (by simp [dep]) (by simp [tmA]) hs).2.1
    rw [callM_eq (d := d_l_put) rfl]
    refine run_of' rfl rfl (ρ := [some (.str s), some v, none]) (fl := .rt (putF d (.str s))) ?_ rfl hf rfl
    have g : methV mh.length mh .get2 v [.str s, .str s] = some (putF d (.str s), mh) := by
      simp only [methV, getV, hv, kyV, Option.map_some, dLook_al, putF]
    have t : tyM mh .get2 v = true := by simp only [tyM, hv]; rfl
    simp [d_l_put, exs, ex, ev, evs, isTy, t, g]
  induction D with
  | zero =>
    intro k t mh hD hn ht hdt hv
    rcases tmA_cases ht hdt with ⟨s, rfl⟩ | ⟨s, xs, rfl, h1, h2, h3⟩
    · exact leaf k s mh hdt hv
    · simp [dep] at hD
  | succ D ih =>
    intro k t mh hD hn ht hdt hv
    rcases tmA_cases ht hdt with ⟨s, rfl⟩ | ⟨s, xs, rfl, h1, h2, h3⟩
    · exact leaf (k + (D + 1)) s mh hdt hv
    · have hf := (put_facts hd hc (D + 1) _ hD ht hdt).2.1
      have e0 : putF d (.tup (.str s :: xs)) = .tup (.str s :: xs.map (putF d)) := by simp only [putF, putT, putFs_map]
      rw [e0] at hf ⊢
      have hl := len_cnts xs
      simp only [cnt, cntT] at hn
      rw [show k + (D + 1) + 1 = (k + D + 1) + 1 by omega, callM_eq (d := d_l_put) rfl]
      have each : ∀ x ∈ xs, callM T (k + D + 1) 21 [x, v] mh = some (putF d x, mh) := fun x hx => ih k x mh (by have := dep_mem (h := .str s) hx; omega) (by have := cnt_le hx; omega) (h3 x hx).1 (h3 x hx).2 hv
      refine run_of' rfl rfl (ρ := [some (.tup (.str s :: xs)), some v, none]) (fl := .rt (.tup (.str s :: xs.map (putF d)))) ?_ rfl hf rfl
      have hcomp : ev (callM T (k + D + 1)) mh.length (.comp (.nm 2) [2] (.slcL (.var 0) (.c (.int (1)))) (.c (.bl true)) (.call 21 [(.var 2), (.var 1)])) [some (.tup (.str s :: xs)), some v, none] mh = some (.lst (xs.map (putF d)), mh) := by
        have ei : evI (callM T (k + D + 1)) mh.length (.slcL (.var 0) (.c (.int (1)))) [some (.tup (.str s :: xs)), some v, none] mh = some (⟨xs, none⟩, mh) := by simp [evI, ev, slcV, cut1, itsOf]
        have hz : xs.length ≤ line := by unfold line; omega
        rw [ev_compq, ei]
        simp only [hz, if_true]
        rw [compGo_pure rfl (g := fun v => some (putF d v))]
        · simp
        · intro y hy
          have := each y hy
          simp [compF, asg, wipeE, ev, evs, this]
      have z1 : 1 ≤ line := by unfold line; omega
      have z2 : 1 + xs.length ≤ line := by unfold line; omega
      show exs (callM T (k + D + 1)) mh.length d_l_put.body [some (.tup (.str s :: xs)), some v, none] mh = _
      simp [d_l_put, exs, ex, ev, evs, isTy, subV, atI0, ↓hcomp, biV, one1, tupV, getL, z1, binV, addV, z2]
theorem sp_put {ar : Sx → Option Nat} {c e : Nat} {d : AL} (hd : VOk ar c e d) (hc : 1 ≤ c) {v : MV} : ∀ (D k : Nat) (t : MV) (mh : MHp), dep t ≤ D → cnt t ≤ 1000000 → tmA ar t = true → dat t = true → getD mh v = some (aK d, aV d) → callM T (k + D + 2) 9 [t, v] mh = some (putF d t, mh) := by
  intro D
  have leaf : ∀ (k : Nat) (s : Sx) (mh : MHp), dat (.str s) = true → getD mh v = some (aK d, aV d) → callM T (k + 2) 9 [.str s, v] mh = some (putF d (.str s), mh) := fun k s mh hs hv => by
    have hf := (put_facts hd hc 0 (.str s) (by simp [dep]) (by simp [tmA]) hs).2.1
    rw [callM_eq (d := d_put_for) rfl]
    refine run_of' rfl rfl (ρ := [some (.str s), some v, none]) (fl := .rt (putF d (.str s))) ?_ rfl hf rfl
    have g : methV mh.length mh .get2 v [.str s, .str s] = some (putF d (.str s), mh) := by
      simp only [methV, getV, hv, kyV, Option.map_some, dLook_al, putF]
    have t : tyM mh .get2 v = true := by simp only [tyM, hv]; rfl
    have h4 : callM T (k + 1) 4 [.str s] mh = some (.bl true, mh) := sp_isvar k (.str s) mh hs
    simp [d_put_for, exs, ex, ev, evs, h4, t, g]
  induction D with
  | zero =>
    intro k t mh hD hn ht hdt hv
    rcases tmA_cases ht hdt with ⟨s, rfl⟩ | ⟨s, xs, rfl, h1, h2, h3⟩
    · exact leaf k s mh hdt hv
    · simp [dep] at hD
  | succ D ih =>
    intro k t mh hD hn ht hdt hv
    rcases tmA_cases ht hdt with ⟨s, rfl⟩ | ⟨s, xs, rfl, h1, h2, h3⟩
    · exact leaf (k + (D + 1)) s mh hdt hv
    · have hf := (put_facts hd hc (D + 1) _ hD ht hdt).2.1
      have e0 : putF d (.tup (.str s :: xs)) = .tup (.str s :: xs.map (putF d)) := by simp only [putF, putT, putFs_map]
      rw [e0] at hf ⊢
      have hl := len_cnts xs
      simp only [cnt, cntT] at hn
      rw [show k + (D + 1) + 2 = (k + D + 2) + 1 by omega, callM_eq (d := d_put_for) rfl]
      have each : ∀ x ∈ xs, callM T (k + D + 2) 9 [x, v] mh = some (putF d x, mh) := fun x hx => ih k x mh (by have := dep_mem (h := .str s) hx; omega) (by have := cnt_le hx; omega) (h3 x hx).1 (h3 x hx).2 hv
      refine run_of' rfl rfl (ρ := [some (.tup (.str s :: xs)), some v, none]) (fl := .rt (.tup (.str s :: xs.map (putF d)))) ?_ rfl hf rfl
      have hcomp : ev (callM T (k + D + 2)) mh.length (.comp (.nm 2) [2] (.slcL (.var 0) (.c (.int (1)))) (.c (.bl true)) (.call 9 [(.var 2), (.var 1)])) [some (.tup (.str s :: xs)), some v, none] mh = some (.lst (xs.map (putF d)), mh) := by
        have ei : evI (callM T (k + D + 2)) mh.length (.slcL (.var 0) (.c (.int (1)))) [some (.tup (.str s :: xs)), some v, none] mh = some (⟨xs, none⟩, mh) := by simp [evI, ev, slcV, cut1, itsOf]
        have hz : xs.length ≤ line := by unfold line; omega
        rw [ev_compq, ei]
        simp only [hz, if_true]
        rw [compGo_pure rfl (g := fun v => some (putF d v))]
        · simp
        · intro y hy
          have := each y hy
          simp [compF, asg, wipeE, ev, evs, this]
      have z1 : 1 ≤ line := by unfold line; omega
      have z2 : 1 + xs.length ≤ line := by unfold line; omega
      have h4 : callM T (k + D + 2) 4 [.tup (.str s :: xs)] mh = some (.bl false, mh) := sp_isvar (k + D + 1) _ mh hdt
      show exs (callM T (k + D + 2)) mh.length d_put_for.body [some (.tup (.str s :: xs)), some v, none] mh = _
      simp [d_put_for, exs, ex, ev, evs, h4, subV, atI0, ↓hcomp, biV, one1, tupV, getL, z1, binV, addV, z2]
/-! ### a dict made by stores -/
/-- d[s] = t -/
def alP (d : AL) (s : Sx) (t : MV) : AL := if (look d s).isSome = true then d.map fun p => if p.1 = s then (p.1, t) else p else d ++ [(s, t)]
theorem alP_put (d : AL) (s : Sx) (t : MV) : dPutK (aK d) (.inr s) = aK (alP d s t) ∧ dPutV (aK d) (aV d) (.inr s) t = aV (alP d s t) := by
  unfold dPutK dPutV alP
  rw [any_al]
  by_cases h : (look d s).isSome = true
  · simp only [h, if_true]
    clear h
    induction d with
    | nil => exact ⟨rfl, rfl⟩
    | cons p d ih =>
      simp only [aK, aV, List.map_cons, List.zipWith_cons_cons, List.cons.injEq] at ih ⊢
      refine ⟨⟨?_, ih.1⟩, ?_, ih.2⟩
      · split <;> rfl
      · by_cases e : p.1 = s
        · simp [e]
        · simp [e]
  · simp only [h]
    exact ⟨by simp [aK], by simp [aV]⟩
theorem alP_mem {d : AL} {s : Sx} {t : MV} {q : Sx × MV} (h : q ∈ alP d s t) : q ∈ d ∨ q = (s, t) := by
  unfold alP at h
  split at h
  · obtain ⟨p, hp, rfl⟩ := List.mem_map.mp h
    by_cases e : p.1 = s
    · rw [if_pos e]; exact .inr (by rw [e])
    · rw [if_neg e]; exact .inl hp
  · rcases List.mem_append.mp h with h | h
    · exact .inl h
    · exact .inr (by simpa using h)
theorem alP_len (d : AL) (s : Sx) (t : MV) : (alP d s t).length ≤ d.length + 1 := by
  unfold alP; split <;> simp
theorem dFold_alP : ∀ (ps : List (Sx × MV)) (d : AL), dFold (ps.map fun p => ((.inr p.1 : MKey), p.2)) (aK d) (aV d) = (aK (ps.foldl (fun d p => alP d p.1 p.2) d), aV (ps.foldl (fun d p => alP d p.1 p.2) d))
  | [], d => rfl
  | p :: ps, d => by
    rw [List.map_cons, dFold, (alP_put d p.1 p.2).1, (alP_put d p.1 p.2).2, dFold_alP ps]
    rfl
theorem fold_mem {q : Sx × MV} : ∀ {ps : List (Sx × MV)} {d : AL}, q ∈ ps.foldl (fun d p => alP d p.1 p.2) d → q ∈ d ∨ q ∈ ps
  | [], d, h => .inl h
  | p :: ps, d, h => by
    rcases fold_mem (ps := ps) h with h | h
    · rcases alP_mem h with h | h
      · exact .inl h
      · exact .inr (by subst h; simp)
    · exact .inr (List.mem_cons_of_mem _ h)
/-! ### the names V0, V1 .. for the names of a term -/
def sx : MV → Sx
  | .str s => s
  | _ => []
/-- which name each gets -/
def nmP (vs : List MV) : List (Sx × MV) := (List.range vs.length).map fun k => (sx (vs.getD k .non), name k)
def nmD (vs : List MV) : AL := (nmP vs).foldl (fun d p => alP d p.1 p.2) []
theorem nmD_mem {vs : List MV} {q : Sx × MV} (h : q ∈ nmD vs) : ∃ k, k < vs.length ∧ q.2 = name k := by
  rcases fold_mem h with h | h
  · simp at h
  · obtain ⟨k, hk, rfl⟩ := List.mem_map.mp h
    exact ⟨k, List.mem_range.mp hk, rfl⟩
theorem nmD_vok {ar : Sx → Option Nat} {vs : List MV} (h : vs.length ≤ 64) : VOk ar 1 0 (nmD vs) :=
  ⟨fun q hq => by obtain ⟨k, _, e⟩ := nmD_mem hq; rw [e]; simp [name, tmA],
   fun q hq => by obtain ⟨k, hk, e⟩ := nmD_mem hq; rw [e]; exact name_dat (by omega),
   fun q hq => by obtain ⟨k, _, e⟩ := nmD_mem hq; rw [e]; simp [name, cnt],
   fun q hq => by obtain ⟨k, _, e⟩ := nmD_mem hq; rw [e]; simp [name, dep]⟩
end L2.Mi.k04

set_option Elab.async false
set_option linter.all false
set_option maxRecDepth 100000
set_option maxHeartbeats 4000000
namespace L2.Mi.k04
open PySem PySem.Spec PyProof.Rows L2.Mi
abbrev dV (d : AL) : MV := .dct (aK d) (aV d)
/-- a list of pairs as a dict -/
def alF (ps : List (Sx × MV)) : AL := ps.foldl (fun d p => alP d p.1 p.2) []
theorem dFold_alF (ps : List (Sx × MV)) : dFold (ps.map fun p => ((.inr p.1 : MKey), p.2)) [] [] = (aK (alF ps), aV (alF ps)) := dFold_alP ps []
theorem ev_dcompW {C : CallF} {base : Nat} {ρ : Env} {mh : MHp} {tg : Tg} {own : List Nat} {it cond k e : ME} {α : Type} {emb : α → MV} {xs : List α} {s : Option Nat} {f : α → Sx × MV} {c : α → Bool} (hi : evI C base it ρ mh = some (⟨xs.map emb, s⟩, mh)) (ok : Its.ok ⟨xs.map emb, s⟩ mh) (hl : xs.length ≤ line)
    (hf : ∀ x ∈ xs, dcompF C base tg own cond k e ρ (emb x) mh = some (if c x = true then some (.tup [.str (f x).1, (f x).2]) else none, mh)) : ev C base (.dcomp tg own it cond k e) ρ mh = some (dV (alF ((xs.filter c).map f)), mh) := by
  have h1 := compGo_map (f := dcompF C base tg own cond k e ρ) (emb := emb) (xs := xs) (c := c) (h := fun x => MV.tup [.str (f x).1, (f x).2]) ok hf
  have h2 := pairs_al ((xs.filter c).map f)
  rw [List.map_map] at h2
  rw [ev_dcompq, hi]
  simp only [List.length_map, hl, if_true, h1]
  have e : (fun x => MV.tup [.str (f x).1, (f x).2]) = (fun p : Sx × MV => MV.tup [.str p.1, p.2]) ∘ f := rfl
  rw [e, h2]
  simp only [dFold_alF]
theorem look_app_none {d : AL} {s : Sx} (h : s ∉ d.map Prod.fst) : look d s = none := by
  cases q : look d s with
  | none => rfl
  | some t => exact absurd (List.mem_map.mpr ⟨_, look_mem q, rfl⟩) h
theorem alP_new {d : AL} {s : Sx} {t : MV} (h : s ∉ d.map Prod.fst) : alP d s t = d ++ [(s, t)] := by
  unfold alP; rw [look_app_none h]; rfl
theorem foldP_nd : ∀ (ps d : AL), ((d ++ ps).map Prod.fst).Nodup → ps.foldl (fun d p => alP d p.1 p.2) d = d ++ ps
  | [], d, _ => by simp
  | p :: ps, d, h => by
    have hp : p.1 ∉ d.map Prod.fst := fun z => by
      rw [List.map_append, List.map_cons, List.nodup_append] at h
      exact h.2.2 _ z _ (by simp) rfl
    rw [List.foldl_cons, alP_new hp, foldP_nd ps _ (by simpa using h)]
    simp
theorem alF_nd {ps : AL} (h : (ps.map Prod.fst).Nodup) : alF ps = ps := by
  unfold alF
  rw [foldP_nd ps [] (by simpa using h)]
  rfl
/-! ### any dict value -/
theorem getL_of_getD {mh : MHp} {v : MV} {r : List MKey × List MV} (h : getD mh v = some r) : getL mh v = none := by
  cases v with
  | loc l =>
    simp only [getD] at h
    simp only [getL]
    split at h
    · rename_i e; rw [e]
    · cases h
  | dct _ _ => rfl
  | _ => cases h
theorem sub_getD {mh : MHp} {v : MV} {d : AL} {s : Sx} (h : getD mh v = some (aK d, aV d)) : subV mh v (.str s) = look d s := by
  have e : subV mh v (.str s) = subD mh v (.str s) := by
    unfold subV
    split <;> first | rfl | (rename_i z; cases z)
  rw [e]
  simp only [subD, h, kyV, Option.bind_some, dLook_al]
/-! ### numbered, are_alike -/
section
variable {ar : Sx → Option Nat} {k : Nat} {mh : MHp}
theorem sp_numbered {N : Nat} {t : MV} (hp : tmA ar t = true) (hd : dat t = true) (hD : dep t ≤ N) (hc : cnt t ≤ 1000) (hv : (vars t).length ≤ 64) : callM T (k + N + 4) 13 [t] mh = some (putF (nmD (vars t)) t, mh) := by
  have ek : k + N + 3 = k + 1 + N + 2 := by omega
  have e1 : callM T (k + N + 3) 7 [t] mh = some (.lst (vars t), mh) := by rw [ek]; exact sp_vars N (k + 1) t mh hD hc (tmA_tm t hp) hd
  have e2 : callM T (k + N + 3) 9 [t, dV (nmD (vars t))] mh = some (putF (nmD (vars t)) t, mh) := by rw [ek]; exact sp_put (v := dV (nmD (vars t))) (nmD_vok (ar := ar) hv) (Nat.le_refl 1) N (k + 1) t mh hD (by omega) hp hd rfl
  have hf := (put_facts (nmD_vok (ar := ar) hv) (Nat.le_refl 1) N t hD hp hd).2.1
  have hA := (vars_all t (tmA_tm t hp) hd).1
  generalize hV : vars t = V at *
  have e3 : ev (callM T (k + N + 3)) mh.length (.dcomp (.nm 2) [2] (.rng1 (.bi .len [(.var 1)])) (.c (.bl true)) (.sub (.var 1) (.var 2)) (.bin .add (.c (.str [86])) (.bi .strI [(.var 2)]))) [some t, some (.lst V), none] mh = some (dV (nmD V), mh) := by
    have hi : evI (callM T (k + N + 3)) mh.length (.rng1 (.bi .len [(.var 1)])) [some t, some (.lst V), none] mh = some (⟨(List.range V.length).map fun (j : Nat) => .int (j : Int), none⟩, mh) := evI_rng1 (by simp [ev, evs, biV, one1, lenV, getL]) (by omega)
    have := ev_dcompW (k := .sub (.var 1) (.var 2)) (e := .bin .add (.c (.str [86])) (.bi .strI [(.var 2)])) (cond := .c (.bl true)) (tg := .nm 2) (own := [2]) (f := fun j => (sx (V.getD j .non), name j)) (c := fun _ => true) hi (Its.ok_none rfl _) (by rw [List.length_range]; exact line_le (by omega)) fun j hj => by
      have hj := List.mem_range.mp hj
      obtain ⟨s, hs, hds⟩ := hA V[j] (List.getElem_mem hj)
      have g1 : subV mh (.lst V) (.int (j : Int)) = some (.str s) := by
        simp only [subV, getL, idx_get hj, hs]
      have g2 : strV (.int (j : Int)) = some (.str (dg j)) := strV_dg (by omega)
      have g3 : addV mh (.str [86]) (.str (dg j)) = some (name j) := by
        rw [add_str (by simp) (by have := (dg_ok (j := j) (by omega)).1; omega)]
        rfl
      have g4 : s = sx (V[j]?.getD .non) := by rw [List.getElem?_eq_getElem hj, Option.getD_some, hs]; rfl
      simp [dcompF, asg, wipeE, ev, evs, biV, one1, g1, g2, binV, g3]
      exact g4
    rw [this]
    have e : (List.range V.length).filter (fun _ => true) = List.range V.length := List.filter_eq_self.mpr fun _ _ => rfl
    rw [e]
    rfl
  refine call_v (T := T) (np := 1) (ns := 3) (body := d_numbered.body) (ρ := [some t, some (.lst V), none]) (ρ0 := [some t, none, none]) (fl := .rt (putF (nmD V) t)) (mh1 := mh) rfl rfl ?_ rfl (dat_dat2 _ hf) (by simp)
  generalize nmD V = DD at *
  simp [d_numbered, exs, ex, ev, evs, e1, asg, ↓e3, e2]
theorem sp_alike {N : Nat} {t u : MV} (hp : tmA ar t = true) (hd : dat t = true) (hD : dep t ≤ N) (hc : cnt t ≤ 1000) (hv : (vars t).length ≤ 64) (hp' : tmA ar u = true) (hd' : dat u = true) (hD' : dep u ≤ N) (hc' : cnt u ≤ 1000) (hv' : (vars u).length ≤ 64) (hN : N ≤ 30) :
    ∃ b, callM T (k + N + 5) 14 [t, u] mh = some (.bl b, mh) ∧ (b = true ↔ putF (nmD (vars t)) t = putF (nmD (vars u)) u) := by
  have e1 : callM T (k + N + 4) 13 [t] mh = some (_, mh) := sp_numbered hp hd hD hc hv
  have e2 : callM T (k + N + 4) 13 [u] mh = some (_, mh) := sp_numbered hp' hd' hD' hc' hv'
  have f1 := put_facts (nmD_vok (ar := ar) hv) (Nat.le_refl 1) N t hD hp hd
  have f2 := put_facts (nmD_vok (ar := ar) hv') (Nat.le_refl 1) N u hD' hp' hd'
  generalize putF (nmD (vars t)) t = a at *
  generalize putF (nmD (vars u)) u = b at *
  obtain ⟨r, q1, q2⟩ := eqV_tm mh (t := a) (u := b) (tmA_tm _ f1.1) f1.2.1 (by have := f1.2.2.2; omega) (tmA_tm _ f2.1) f2.2.1 (by have := f2.2.2.2; omega)
  refine ⟨r, ?_, q2⟩
  refine call_v (T := T) (np := 2) (ns := 2) (body := d_are_alike.body) (ρ := [some t, some u]) (ρ0 := [some t, some u]) (fl := .rt (.bl r)) (mh1 := mh) rfl rfl ?_ rfl rfl (by simp)
  simp [d_are_alike, exs, ex, ev, evs, e1, e2, cmpV, q1]
end
end L2.Mi.k04

set_option Elab.async false
set_option linter.all false
set_option maxRecDepth 100000
set_option maxHeartbeats 4000000
namespace L2.Mi.k04
open PySem PySem.Spec PyProof.Rows L2.Mi
abbrev H1 (mh : MHp) (d : AL) : MHp := mh ++ [some (.dct (aK d) (aV d))]
section
variable {mh : MHp} {d d' : AL}
theorem h0 : (H1 mh d)[mh.length]? = some (some (.dct (aK d) (aV d))) := by
  rw [List.getElem?_append_right (Nat.le_refl _)]; simp
theorem hset : (H1 mh d).set mh.length (some (.dct (aK d') (aV d'))) = H1 mh d' := by
  rw [List.set_append_right _ _ (Nat.le_refl _)]; simp
theorem htake : (H1 mh d).take mh.length = mh := by simp
theorem hfrz {n : Nat} (hn : n ≤ mh.length) (hd : dats (aV d) = true) : frz n (H1 mh d) 8 (.loc mh.length) = some (.dct (aK d) (aV d)) := by
  unfold frz
  rw [if_neg (by omega)]
  simp only [h0]
  rw [frzs_dat _ hd]
  rfl
theorem hmem {s : Sx} (hs : dat (.str s) = true) (hd : dats (aV d) = true) : memV (H1 mh d) (.str s) (.loc mh.length) = some (look d s).isSome := by
  have e1 : frz 0 (H1 mh d) 8 (.str s) = some (.str s) := frz_dat _ hs
  have e2 := hfrz (Nat.zero_le mh.length) hd
  unfold memV
  split
  · rename_i h; cases h
  · simp only [e1, e2, kyV, Option.map_some, dLook_al]
theorem hget : getD (H1 mh d) (.loc mh.length) = some (aK d, aV d) := by
  simp only [getD, h0]
theorem dsub {H : MHp} {s : Sx} : subV H (.dct (aK d) (aV d)) (.str s) = look d s := by
  simp only [subV, subD, getD, kyV, Option.bind_some, dLook_al]
end
theorem kM_keys (d : AL) : (aK d).map kM = d.map fun q => MV.str q.1 := by simp [aK, kM]
theorem dats_al {d : AL} (h : ∀ p ∈ d, dat p.2 = true) : dats (aV d) = true := dats_iff.mpr fun x hx => by
  obtain ⟨p, hp, rfl⟩ := List.mem_map.mp hx
  exact h p hp
/-! ### plain -/
def isV (s : Sx) : MV → Bool
  | .str u => decide (u = s)
  | _ => false
theorem isV_iff {s : Sx} {t : MV} : isV s t = true ↔ t = .str s := by
  cases t <;> simp [isV]
def plD (d : AL) : AL := alF (((sortS (d.map Prod.fst)).filter fun s => !isV s ((look d s).getD .non)).map fun s => (s, (look d s).getD .non))
theorem srt_getD {mh : MHp} {v : MV} {d : AL} (hv : getD mh v = some (aK d, aV d)) (hl : d.length < 64) : sortedV mh v = some (.lst ((sortS (d.map Prod.fst)).map .str)) := by
  have e : (d.map fun q => MV.str q.1).mapM strOf = some (d.map Prod.fst) := by
    have := mapM_strOf (d.map Prod.fst)
    rw [List.map_map] at this
    exact this
  simp only [sortedV, getL_of_getD hv, hv, kM_keys, e, List.length_map, hl, if_true]
theorem mem_sortS {s : Sx} {xs : List Sx} : s ∈ sortS xs ↔ s ∈ xs := (sortS_perm xs).mem_iff
theorem look_some {d : AL} {s : Sx} (h : s ∈ d.map Prod.fst) : ∃ t, look d s = some t ∧ (s, t) ∈ d := by
  cases q : look d s with
  | none => exact absurd h (look_no q)
  | some t => exact ⟨t, rfl, look_mem q⟩
theorem plD_mem {d : AL} {q : Sx × MV} (h : q ∈ plD d) : q ∈ d := by
  rcases fold_mem h with h | h
  · simp at h
  · obtain ⟨s, hs, rfl⟩ := List.mem_map.mp h
    have := mem_sortS.mp (List.mem_filter.mp hs).1
    obtain ⟨t, e, hm⟩ := look_some this
    rw [e]; exact hm
theorem sp_plain {k : Nat} {mh : MHp} {v : MV} {d : AL} (hv : getD mh v = some (aK d, aV d)) (hl : d.length < 64) (hp : ∀ p ∈ d, Pd p.2 ∧ dat (.str p.1) = true) : callM T (k + 1) 10 [v] mh = some (dV (plD d), mh) := by
  have hs := srt_getD hv hl
  have e3 : ev (callM T k) mh.length (.dcomp (.nm 1) [1] (.bi .sorted [(.var 0)]) (.cmp .ne (.sub (.var 0) (.var 1)) (.var 1)) (.var 1) (.sub (.var 0) (.var 1))) [some v, none] mh = some (dV (plD d), mh) := by
    have hi : evI (callM T k) mh.length (.bi .sorted [(.var 0)]) [some v, none] mh = some (⟨(sortS (d.map Prod.fst)).map .str, none⟩, mh) := by simp [evI, ev, evs, biV, one1, hs, itsOf]
    refine ev_dcompW hi (Its.ok_none rfl _) ?_ fun s hm => ?_
    · rw [(sortS_perm _).length_eq, List.length_map]; exact line_le (by omega)
    · obtain ⟨t, q, hmem⟩ := look_some (mem_sortS.mp hm)
      have g1 : subV mh v (.str s) = some t := by rw [sub_getD hv, q]
      have g2 : eqV mh t (.str s) = some (isV s t) := eqV_b mh (hp _ hmem).1 (Pd.str (hp _ hmem).2) isV_iff
      rw [q, Option.getD_some]
      cases hc : isV s t <;> simp [dcompF, asg, wipeE, ev, g1, cmpV, g2, hc]
  refine call_v (T := T) (np := 1) (ns := 2) (body := d_plain.body) (ρ := [some v, none]) (ρ0 := [some v, none]) (fl := .rt (dV (plD d))) (mh1 := mh) rfl rfl ?_ rfl ?_ (by simp)
  · generalize plD d = D at *
    simp [d_plain, exs, ex, ↓e3]
  · have : dats (aV (plD d)) = true := dats_al fun p h => (hp p (plD_mem h)).1.dat
    simp only [dV, dat2]
    exact dats_dat2 _ this
end L2.Mi.k04

set_option Elab.async false
set_option linter.all false
set_option maxRecDepth 100000
set_option maxHeartbeats 4000000
namespace L2.Mi.k04
open PySem PySem.Spec PyProof.Rows L2.Mi
/-! ### the drawn puttings -/
def NM : List Sx := [[88], [89], [90], [87]]
abbrev dOf (n : Nat) (g : Sx → MV) : AL := (NM.take n).map fun s => (s, g s)
theorem look_map {g : Sx → MV} {s : Sx} : ∀ L : List Sx, look (L.map fun s => (s, g s)) s = if s ∈ L then some (g s) else none
  | [] => by simp [look]
  | x :: L => by
    rw [List.map_cons, look]
    by_cases e : x = s
    · subst e; simp
    · rw [if_neg e, look_map L]
      have : (s ∈ x :: L) ↔ s ∈ L := by simp [Ne.symm e]
      simp [this]
theorem nm_all : ((List.range 4).all fun i => (List.range 5).all fun m => decide (NM.getD i [] ∈ NM.take m) == decide (i < m)) = true := by decide
theorem nm_mem {i m : Nat} (hi : i < 4) (hm : m ≤ 4) : NM.getD i [] ∈ NM.take m ↔ i < m := by
  have := List.all_eq_true.mp (List.all_eq_true.mp nm_all i (List.mem_range.mpr hi)) m (List.mem_range.mpr (by omega))
  have := of_decide_eq_true (p := (decide (NM.getD i [] ∈ NM.take m)) = decide (i < m)) (by simpa using this)
  exact decide_eq_decide.mp this
theorem nm_succ {i : Nat} (hi : i < 4) : NM.take (i + 1) = NM.take i ++ [NM.getD i []] := by
  match i, hi with
  | 0, _ => rfl
  | 1, _ => rfl
  | 2, _ => rfl
  | 3, _ => rfl
theorem nm_nd (n : Nat) : (NM.take n).Nodup := (show NM.Nodup by decide).sublist (List.take_sublist _ _)
theorem nm_dat : ∀ s ∈ NM, dat (.str s) = true := by decide
theorem fst_map {g : Sx → MV} (L : List Sx) : (L.map fun s => (s, g s)).map Prod.fst = L := by
  rw [List.map_map]; exact List.map_id L
/-! ### behind -/
def gF (d2 : AL) (d : AL) (s : Sx) : AL := if (look d s).isSome = true then d else d ++ [(s, (look d2 s).getD .non)]
abbrev bB : List MS := [(.ite (.cmp .nmem (.var 3) (.var 2)) [(.sti (.var 2) (.var 3) (.sub (.var 1) (.var 3)))] [])]
theorem beh_loop {C : CallF} {mh : MHp} {d1 d2 : AL} {J : Its} (hJ : J.src = none) : ∀ (L : List Sx) (d : AL) (o : Option MV), (∀ s ∈ L, dat (.str s) = true ∧ ∃ t, look d2 s = some t ∧ dat t = true) → (∀ p ∈ d, dat p.2 = true) → d.length + L.length ≤ 1000 →
    ∃ o', forGo J (forF C mh.length (.nm 3) bB) (L.map .str) [some (dV d1), some (dV d2), some (.loc mh.length), o] (H1 mh d) = some (.nx, [some (dV d1), some (dV d2), some (.loc mh.length), o'], H1 mh (L.foldl (gF d2) d))
  | [], d, o, _, _, _ => ⟨o, forGo_nil_of hJ⟩
  | s :: L, d, o, h, hd, hl => by
    obtain ⟨hs, t, e, ht⟩ := h s (by simp)
    rw [List.length_cons] at hl
    have step : forF C mh.length (.nm 3) bB (.str s) [some (dV d1), some (dV d2), some (.loc mh.length), o] (H1 mh d) = some (.nx, [some (dV d1), some (dV d2), some (.loc mh.length), some (.str s)], H1 mh (gF d2 d s)) := by
      have m1 := hmem (mh := mh) hs (dats_al hd)
      have g1 : subV (H1 mh d) (dV d2) (.str s) = some t := by rw [dsub, e]
      have z := h0 (mh := mh) (d := d)
      have zl : (aK d).length < line := by rw [aK_len]; unfold line; omega
      cases q : look d s with
      | some u =>
        have hg : gF d2 d s = d := by unfold gF; rw [q]; rfl
        rw [hg]
        rw [q] at m1
        generalize hB : dV d2 = B2 at *
        generalize hB1 : dV d1 = B1 at *
        generalize H1 mh d = M at *
        simp [forF, asg, exs, ex, ev, cmpV, m1]
      | none =>
        rw [q] at m1
        have pk := (alP_put d s t).1
        have pv := (alP_put d s t).2
        have ee : alP d s t = d ++ [(s, t)] := by unfold alP; rw [q]; rfl
        rw [ee] at pk pv
        have hst : (H1 mh d).set mh.length (some (.dct (aK (d ++ [(s, t)])) (aV (d ++ [(s, t)])))) = H1 mh (d ++ [(s, t)]) := hset
        have hg : gF d2 d s = d ++ [(s, t)] := by unfold gF; rw [q, e]; rfl
        rw [hg]
        generalize hB : dV d2 = B2 at *
        generalize hB1 : dV d1 = B1 at *
        generalize hM' : H1 mh (d ++ [(s, t)]) = M' at *
        generalize hM : H1 mh d = M at *
        have w : wr mh.length mh.length t = true := wr_own (Nat.le_refl _)
        simp [forF, asg, exs, ex, ev, cmpV, m1, g1, z, w, zl, pk, pv, hst]
    have hd' : ∀ p ∈ gF d2 d s, dat p.2 = true := fun p hp => by
      unfold gF at hp
      split at hp
      · exact hd p hp
      · rcases List.mem_append.mp hp with hp | hp
        · exact hd p hp
        · rw [List.mem_singleton.mp hp, e]; exact ht
    have hl' : (gF d2 d s).length + L.length ≤ 1000 := by
      unfold gF
      split
      · omega
      · rw [List.length_append]; simp; omega
    obtain ⟨o', r⟩ := beh_loop hJ L (gF d2 d s) (some (.str s)) (fun u hu => h u (List.mem_cons_of_mem _ hu)) hd' hl'
    refine ⟨o', ?_⟩
    rw [List.map_cons, forGo_cons_of hJ, step]
    exact r
/-- both puttings, one behind the other, at a name -/
def hh (d1 d2 : AL) (s : Sx) : MV := putF d2 (putF d1 (.str s))
section
variable {n1 n2 : Nat} {g1 g2 : Sx → MV}
theorem put_in {n : Nat} {g : Sx → MV} {s : Sx} (h : s ∈ NM.take n) : putF (dOf n g) (.str s) = g s := by
  simp only [putF, dOf, look_map, if_pos h]; rfl
theorem put_out {n : Nat} {g : Sx → MV} {s : Sx} (h : s ∉ NM.take n) : putF (dOf n g) (.str s) = .str s := by
  simp only [putF, dOf, look_map, if_neg h]; rfl
theorem hh_in {s : Sx} (h : s ∈ NM.take n1) : hh (dOf n1 g1) (dOf n2 g2) s = putF (dOf n2 g2) (g1 s) := by
  unfold hh; rw [put_in h]
theorem hh_mid {s : Sx} (h : s ∉ NM.take n1) (h2 : s ∈ NM.take n2) : hh (dOf n1 g1) (dOf n2 g2) s = g2 s := by
  unfold hh; rw [put_out h, put_in h2]
theorem hh_out {s : Sx} (h : s ∉ NM.take n1) (h2 : s ∉ NM.take n2) : hh (dOf n1 g1) (dOf n2 g2) s = .str s := by
  unfold hh; rw [put_out h, put_out h2]
abbrev fnd (n1 n2 : Nat) (g1 g2 : Sx → MV) : AL := dOf (max n1 n2) (hh (dOf n1 g1) (dOf n2 g2))
theorem fold_fnd (h1 : n1 ≤ 4) : ∀ j, j ≤ n2 → n2 ≤ 4 → (NM.take j).foldl (gF (dOf n2 g2)) (dOf n1 (hh (dOf n1 g1) (dOf n2 g2))) = dOf (max n1 j) (hh (dOf n1 g1) (dOf n2 g2))
  | 0, _, _ => by rw [Nat.max_zero]; rfl
  | j + 1, hj, h2 => by
    rw [nm_succ (by omega), List.foldl_append, fold_fnd h1 j (by omega) h2]
    have hm := nm_mem (i := j) (m := max n1 j) (by omega) (by omega)
    have hn := nm_mem (i := j) (m := n2) (by omega) (by omega)
    have hn1 := nm_mem (i := j) (m := n1) (by omega) (by omega)
    simp only [List.foldl_cons, List.foldl_nil]
    unfold gF
    simp only [dOf, look_map]
    by_cases c : j < n1
    · have e : max n1 (j + 1) = max n1 j := by omega
      rw [if_pos (hm.mpr (by omega)), e]; rfl
    · have e : max n1 (j + 1) = max n1 j + 1 := by omega
      have e2 : max n1 j = j := by omega
      have nm : ¬ NM.getD j [] ∈ NM.take (max n1 j) := fun z => c (by have := hm.mp z; omega)
      rw [if_neg (fun z => by rw [if_neg nm] at z; cases z), e, e2, nm_succ (by omega), if_pos (hn.mpr (by omega))]
      simp only [Option.isSome_none, Bool.false_eq_true, if_false, Option.getD_some, List.map_append, List.map_cons, List.map_nil]
      have := hh_mid (g1 := g1) (g2 := g2) (fun z => c (hn1.mp z)) (hn.mpr (by omega))
      simp only [dOf] at this
      rw [this]

end
end L2.Mi.k04

set_option Elab.async false
set_option linter.all false
set_option maxRecDepth 100000
set_option maxHeartbeats 4000000
namespace L2.Mi.k04
open PySem PySem.Spec PyProof.Rows L2.Mi
theorem pln_tm : ∀ (D : Nat) (t : MV), dep t ≤ D → tm t = true → dat t = true → pln t = true := by
  intro D
  induction D with
  | zero =>
    intro t hD ht hd
    rcases tm_cases ht hd with ⟨s, rfl⟩ | ⟨s, xs, rfl, _, _⟩
    · rfl
    · simp [dep] at hD
  | succ D ih =>
    intro t hD ht hd
    rcases tm_cases ht hd with ⟨s, rfl⟩ | ⟨s, xs, rfl, _, h⟩
    · rfl
    · unfold pln
      refine plns_iff.mpr fun x hx => ?_
      rcases List.mem_cons.mp hx with rfl | hx
      · rfl
      · exact ih x (by have := dep_mem (h := .str s) hx; omega) (h x hx).1 (h x hx).2
theorem pd_of {ar : Sx → Option Nat} {N : Nat} {t : MV} (h1 : tmA ar t = true) (h2 : dat t = true) (h3 : dep t ≤ N) (hN : N ≤ 40) : Pd t := ⟨h2, pln_tm N t h3 (tmA_tm t h1) h2, by omega⟩
abbrev VA : List Sx := [[88], [89], [90], [87], [84], [86, 48], [85]]
structure Pu (ps : List MV) (n : Nat) (g : Sx → MV) : Prop where
  n4 : n ≤ 4
  dr : ∀ s ∈ NM.take n, Dr ps VA 13 3 (g s)
section
variable {ps : List MV} {n n1 n2 : Nat} {g g1 g2 : Sx → MV} {k : Nat} {mh : MHp}
theorem Pu.mem (h : Pu ps n g) {q : Sx × MV} (hq : q ∈ dOf n g) : Dr ps VA 13 3 q.2 ∧ q.1 ∈ NM.take n := by
  obtain ⟨s, hs, rfl⟩ := List.mem_map.mp hq
  exact ⟨h.dr s hs, hs⟩
theorem Pu.vok (h : Pu ps n g) : VOk (arOf ps) 13 3 (dOf n g) := ⟨fun q hq => (h.mem hq).1.tm, fun q hq => (h.mem hq).1.dat, fun q hq => (h.mem hq).1.cnt, fun q hq => (h.mem hq).1.dep⟩
theorem nm_sub {s : Sx} (h : s ∈ NM.take n) : s ∈ NM := List.mem_of_mem_take h
theorem hh_facts (P1 : Pu ps n1 g1) (P2 : Pu ps n2 g2) {s : Sx} (hs : dat (.str s) = true) : tmA (arOf ps) (hh (dOf n1 g1) (dOf n2 g2) s) = true ∧ dat (hh (dOf n1 g1) (dOf n2 g2) s) = true ∧ cnt (hh (dOf n1 g1) (dOf n2 g2) s) ≤ 169 ∧ dep (hh (dOf n1 g1) (dOf n2 g2) s) ≤ 6 := by
  have a := put_facts P1.vok (by omega) 0 (.str s) (by simp [dep]) (by simp [tmA]) hs
  simp only [cnt, dep] at a
  have b := put_facts P2.vok (by omega) 3 _ (by omega) a.1 a.2.1
  exact ⟨b.1, b.2.1, by unfold hh; have := b.2.2.1; have := a.2.2.1; omega, by unfold hh; have := b.2.2.2; omega⟩
theorem fnd_mem {q : Sx × MV} (hq : q ∈ fnd n1 n2 g1 g2) : q.1 ∈ NM ∧ q.2 = hh (dOf n1 g1) (dOf n2 g2) q.1 := by
  obtain ⟨s, hs, rfl⟩ := List.mem_map.mp hq
  exact ⟨nm_sub hs, rfl⟩
theorem fnd_ok (P1 : Pu ps n1 g1) (P2 : Pu ps n2 g2) : ∀ q ∈ fnd n1 n2 g1 g2, Pd q.2 ∧ dat (.str q.1) = true := fun q hq => by
  obtain ⟨h1, h2⟩ := fnd_mem hq
  have hs := nm_dat _ h1
  have f := hh_facts P1 P2 hs
  rw [h2]
  exact ⟨pd_of f.1 f.2.1 f.2.2.2 (by omega), hs⟩
theorem fnd_len (P1 : Pu ps n1 g1) (P2 : Pu ps n2 g2) : (fnd n1 n2 g1 g2).length ≤ 4 := by
  have : NM.length = 4 := rfl
  simp only [fnd, dOf, List.length_map, List.length_take]; omega
theorem its_al {d : AL} : itsOf mh (dV d) = some ⟨(d.map Prod.fst).map .str, none⟩ := by
  simp only [itsOf, kM_keys, List.map_map]; rfl
theorem sp_behind (P1 : Pu ps n1 g1) (P2 : Pu ps n2 g2) : callM T (k + 8) 11 [dV (dOf n1 g1), dV (dOf n2 g2)] mh = some (dV (plD (fnd n1 n2 g1 g2)), mh) := by
  have hv1 : ∀ s ∈ NM.take n1, subV mh (dV (dOf n1 g1)) (.str s) = some (g1 s) := fun s hs => by rw [dsub, dOf, look_map, if_pos hs]
  have hc1 : ∀ s ∈ NM.take n1, callM T (k + 7) 9 [g1 s, dV (dOf n2 g2)] mh = some (hh (dOf n1 g1) (dOf n2 g2) s, mh) := fun s hs => by
    rw [hh_in hs]
    have d := P1.dr s hs
    exact sp_put (v := dV (dOf n2 g2)) P2.vok (by omega) 3 (k + 2) (g1 s) mh d.dep (by have := d.cnt; omega) d.tm d.dat rfl
  have hi1 : itsOf mh (dV (dOf n1 g1)) = some ⟨(NM.take n1).map .str, none⟩ := by rw [its_al, fst_map]
  have hi2 : ∀ mh, itsOf mh (dV (dOf n2 g2)) = some ⟨(NM.take n2).map .str, none⟩ := fun mh => by rw [its_al, fst_map]
  have hlk : ∀ s ∈ NM.take n2, dat (.str s) = true ∧ ∃ t, look (dOf n2 g2) s = some t ∧ dat t = true := fun s hs => ⟨nm_dat _ (nm_sub hs), g2 s, by rw [dOf, look_map, if_pos hs], (P2.dr s hs).dat⟩
  have hnl : NM.length = 4 := rfl
  have hvals : ∀ p ∈ dOf n1 (hh (dOf n1 g1) (dOf n2 g2)), dat p.2 = true := fun p hp => by
    obtain ⟨s, hs, rfl⟩ := List.mem_map.mp hp
    exact (hh_facts P1 P2 (nm_dat _ (nm_sub hs))).2.1
  obtain ⟨o', hloop⟩ := beh_loop (C := callM T (k + 7)) (mh := mh) (d1 := dOf n1 g1) (d2 := dOf n2 g2) (J := ⟨(NM.take n2).map .str, none⟩) rfl (NM.take n2) (dOf n1 (hh (dOf n1 g1) (dOf n2 g2))) none hlk hvals (by simp only [dOf, List.length_map, List.length_take]; omega)
  rw [fold_fnd P1.n4 n2 (Nat.le_refl _) P2.n4] at hloop
  have hpl : callM T (k + 7) 10 [.loc mh.length] (H1 mh (fnd n1 n2 g1 g2)) = some (dV (plD (fnd n1 n2 g1 g2)), H1 mh (fnd n1 n2 g1 g2)) := sp_plain (k := k + 6) hget (by have := fnd_len P1 P2; omega) (fnd_ok P1 P2)
  have hdc : ev (callM T (k + 7)) mh.length (.al (.dcomp (.nm 3) [3] (.var 0) (.c (.bl true)) (.var 3) (.call 9 [(.sub (.var 0) (.var 3)), (.var 1)]))) [some (dV (dOf n1 g1)), some (dV (dOf n2 g2)), none, none] mh = some (.loc mh.length, H1 mh (dOf n1 (hh (dOf n1 g1) (dOf n2 g2)))) := by
    have hd : ev (callM T (k + 7)) mh.length (.dcomp (.nm 3) [3] (.var 0) (.c (.bl true)) (.var 3) (.call 9 [(.sub (.var 0) (.var 3)), (.var 1)])) [some (dV (dOf n1 g1)), some (dV (dOf n2 g2)), none, none] mh = some (dV (dOf n1 (hh (dOf n1 g1) (dOf n2 g2))), mh) := by
      have := ev_dcompW (C := callM T (k + 7)) (base := mh.length) (k := .var 3) (e := .call 9 [(.sub (.var 0) (.var 3)), (.var 1)]) (cond := .c (.bl true)) (tg := .nm 3) (own := [3]) (it := .var 0) (ρ := [some (dV (dOf n1 g1)), some (dV (dOf n2 g2)), none, none]) (mh := mh) (emb := MV.str) (xs := NM.take n1) (s := none) (f := fun s => (s, hh (dOf n1 g1) (dOf n2 g2) s)) (c := fun _ => true) (evI_var rfl hi1) (Its.ok_none rfl _) (by rw [List.length_take]; exact line_le (by omega)) fun s hs => by
        have a := hv1 s hs
        have b := hc1 s hs
        generalize dV (dOf n1 g1) = A1 at *
        generalize dV (dOf n2 g2) = A2 at *
        generalize hh (dOf n1 g1) (dOf n2 g2) s = r at *
        simp [dcompF, asg, wipeE, ev, evs, a, b]
      rw [this]
      have e : (NM.take n1).filter (fun _ => true) = NM.take n1 := List.filter_eq_self.mpr fun _ _ => rfl
      rw [e, alF_nd (by rw [fst_map]; exact nm_nd n1)]
    rw [ev, hd]
  have hd2 : dat2 (dV (plD (fnd n1 n2 g1 g2))) = true := by
    simp only [dV, dat2]
    exact dats_dat2 _ (dats_al fun p h => (fnd_ok P1 P2 p (plD_mem h)).1.dat)
  refine call_v (T := T) (np := 2) (ns := 4) (body := d_behind.body) (ρ := [some (dV (dOf n1 g1)), some (dV (dOf n2 g2)), some (.loc mh.length), o']) (ρ0 := [some (dV (dOf n1 g1)), some (dV (dOf n2 g2)), none, none]) (fl := .rt (dV (plD (fnd n1 n2 g1 g2)))) (mh1 := H1 mh (fnd n1 n2 g1 g2)) rfl rfl ?_ rfl hd2 htake
  have hi2' := hi2 (H1 mh (dOf n1 (hh (dOf n1 g1) (dOf n2 g2))))
  show exs _ _ [_, _, _] _ _ = _
  refine ex_go (ρ1 := [some (dV (dOf n1 g1)), some (dV (dOf n2 g2)), some (.loc mh.length), none]) (mh1 := H1 mh (dOf n1 (hh (dOf n1 g1) (dOf n2 g2)))) (by rw [ex, hdc]; rfl) ?_
  refine ex_go (ρ1 := [some (dV (dOf n1 g1)), some (dV (dOf n2 g2)), some (.loc mh.length), o']) (mh1 := H1 mh (fnd n1 n2 g1 g2)) ?_ ?_
  · rw [ex_for, evI_var rfl hi2']
    exact hloop
  · refine ex_end ?_
    rw [ex, ev, evs, ev]
    simp only [List.getElem?_cons_zero, List.getElem?_cons_succ, evs, hpl]
end
end L2.Mi.k04

set_option Elab.async false
set_option linter.all false
set_option maxRecDepth 100000
set_option maxHeartbeats 4000000
namespace L2.Mi.k04
open PySem PySem.Spec PyProof.Rows L2.Mi
/-! ### is_renaming -/
theorem ded_len : ∀ (ss σ : List Sx), (ss.foldl addX σ).length ≤ σ.length + ss.length ∧ ((ss.foldl addX σ).length = σ.length + ss.length ↔ ss.Nodup ∧ ∀ s ∈ ss, s ∉ σ)
  | [], σ => by simp
  | s :: ss, σ => by
    rw [List.foldl_cons]
    obtain ⟨i1, i2⟩ := ded_len ss (addX σ s)
    unfold addX at i1 i2 ⊢
    by_cases h : s ∈ σ
    · rw [if_pos h] at i1 i2 ⊢
      rw [List.length_cons]
      refine ⟨by omega, ⟨fun z => by omega, fun z => absurd h (z.2 s (by simp))⟩⟩
    · rw [if_neg h] at i1 i2 ⊢
      rw [List.length_append, List.length_singleton] at i1 i2
      rw [List.length_cons]
      refine ⟨by omega, ⟨fun z => ?_, fun z => ?_⟩⟩
      · obtain ⟨a, b⟩ := i2.mp (by omega)
        refine ⟨List.nodup_cons.mpr ⟨fun hs => b s hs (by simp), a⟩, fun u hu => ?_⟩
        rcases List.mem_cons.mp hu with rfl | hu
        · exact h
        · exact fun z => b u hu (by simp [z])
      · have := i2.mpr ⟨(List.nodup_cons.mp z.1).2, fun u hu z2 => ?_⟩
        · omega
        · rcases List.mem_append.mp z2 with z2 | z2
          · exact z.2 u (List.mem_cons_of_mem _ hu) z2
          · rw [List.mem_singleton.mp z2] at hu
            exact (List.nodup_cons.mp z.1).1 hu
theorem dedX_nd (ss : List Sx) : (dedX ss).length = ss.length ↔ ss.Nodup := by
  have := (ded_len ss []).2
  simpa [dedX] using this
theorem nodup_take {ss : List Sx} : ss.Nodup ↔ ∀ k (h : k < ss.length), ss[k] ∉ ss.take k := by
  rw [List.Nodup, List.pairwise_iff_getElem]
  constructor
  · intro h k hk hm
    obtain ⟨i, hi, e⟩ := List.mem_iff_getElem.mp hm
    rw [List.length_take] at hi
    rw [List.getElem_take] at e
    exact h i k (by omega) hk (by omega) e
  · intro h i j hi hj hij e
    refine h j hj (List.mem_iff_getElem.mpr ⟨i, by rw [List.length_take]; omega, ?_⟩)
    rw [List.getElem_take]; exact e
section
variable {ps : List MV} {n : Nat} {g : Sx → MV} {k : Nat} {mh : MHp}
/-- is_renaming -/
def renB (n : Nat) (g : Sx → MV) : Bool := ((NM.take n).all fun s => isS (g s)) && decide (((NM.take n).map fun s => sx (g s)).Nodup)
theorem isS_sx {t : MV} (h : isS t = true) : t = .str (sx t) := by
  cases t <;> first | rfl | cases h
theorem mapM_sx : ∀ {xs : List MV}, (∀ x ∈ xs, isS x = true) → xs.mapM strOf = some (xs.map sx)
  | [], _ => rfl
  | x :: xs, h => by
    have e := isS_sx (h x (by simp))
    rw [List.mapM_cons, mapM_sx fun y hy => h y (List.mem_cons_of_mem _ hy)]
    rw [e]; rfl
theorem sp_ren (P : Pu ps n g) : callM T (k + 3) 12 [dV (dOf n g)] mh = some (.bl (renB n g), mh) := by
  have hv1 : ∀ s ∈ NM.take n, subV mh (dV (dOf n g)) (.str s) = some (g s) := fun s hs => by rw [dsub, dOf, look_map, if_pos hs]
  have hi1 : itsOf mh (dV (dOf n g)) = some ⟨(NM.take n).map .str, none⟩ := by rw [its_al, fst_map]
  have hnl : NM.length = 4 := rfl
  have hl : (NM.take n).length ≤ 4 := by rw [List.length_take]; omega
  have hd := fun s hs => (P.dr s hs).dat
  generalize dV (dOf n g) = A at *
  unfold renB
  generalize NM.take n = L at *
  have c1 : ev (callM T (k + 2)) mh.length (.comp (.nm 2) [2] (.var 0) (.c (.bl true)) (.sub (.var 0) (.var 2))) [some A, none, none, none] mh = some (.lst (L.map g), mh) := by
    refine ev_compM (evI_var rfl hi1) (line_le (by omega)) fun s hs => ?_
    refine compF_T (ρ' := [some A, none, some (.str s), none]) rfl (by rw [ev]) ?_
    simp [ev, hv1 s hs]
  have c2 : ev (callM T (k + 2)) mh.length (.comp (.nm 3) [3] (.var 1) (.c (.bl true)) (.call 4 [(.var 3)])) [some A, some (.lst (L.map g)), none, none] mh = some (.lst (L.map fun s => .bl (isS (g s))), mh) := by
    refine ev_compM (evI_var (xs := L.map g) rfl rfl) (line_le (by omega)) fun s hs => ?_
    refine compF_T (ρ' := [some A, some (.lst (L.map g)), none, some (g s)]) rfl (by rw [ev]) ?_
    have := sp_isvar (k + 1) (g s) mh (hd s hs)
    simp [ev, evs, this]
  have e1 : ev (callM T (k + 2)) mh.length (.bi .all [(.comp (.nm 3) [3] (.var 1) (.c (.bl true)) (.call 4 [(.var 3)]))]) [some A, some (.lst (L.map g)), none, none] mh = some (.bl (L.all fun s => isS (g s)), mh) := by
    have := bls_map' (mh := mh) L fun s => isS (g s)
    simp only [ev, evs, c2, biV, one1, this, Option.map_some, List.all_map]
    rfl
  have e2 : (L.all fun s => isS (g s)) = true → ev (callM T (k + 2)) mh.length (.cmp .eq (.bi .lset [(.var 1)]) (.bi .len [(.var 1)])) [some A, some (.lst (L.map g)), none, none] mh = some (.bl (decide ((L.map fun s => sx (g s)).Nodup)), mh) := fun ha => by
    have hs : ∀ x ∈ L.map g, isS x = true := fun x hx => by
      obtain ⟨s, hs, rfl⟩ := List.mem_map.mp hx
      exact List.all_eq_true.mp ha s hs
    have m1 := mapM_sx hs
    have z : ((L.map g).map sx).length < 4000 := by simp; omega
    have q : lsetV mh (.lst (L.map g)) = some (.int ((dedX ((L.map g).map sx)).length : Nat)) := by
      simp only [lsetV, getL, Option.bind_some, m1, z, if_true]
    have q2 := eqV_int mh ((dedX ((L.map g).map sx)).length : Nat) ((L.map g).length : Nat)
    have e3 : (L.map g).map sx = L.map fun s => sx (g s) := by rw [List.map_map]; rfl
    have hq : decide ((((dedX ((L.map g).map sx)).length : Nat) : Int) = (((L.map g).length : Nat) : Int)) = decide ((L.map fun s => sx (g s)).Nodup) := by
      refine decide_eq_decide.mpr ?_
      rw [← e3, ← dedX_nd, List.length_map (as := L.map g)]
      omega
    rw [hq] at q2
    simp only [ev, evs, List.getElem?_cons_succ, List.getElem?_cons_zero, biV, one1, q, lenV, getL, Option.map_some, cmpV, q2]
  have e3 := ev_andB e1 e2
  refine call_v (T := T) (np := 1) (ns := 4) (body := d_is_renaming.body) (ρ := [some A, some (.lst (L.map g)), none, none]) (ρ0 := [some A, none, none, none]) (fl := .rt (.bl ((L.all fun s => isS (g s)) && decide ((L.map fun s => sx (g s)).Nodup)))) (mh1 := mh) rfl rfl ?_ rfl rfl (by simp)
  show exs _ _ [_, _] _ _ = _
  refine ex_go (ρ1 := [some A, some (.lst (L.map g)), none, none]) (mh1 := mh) (by rw [ex, c1]; rfl) ?_
  refine ex_end (v := .bl _) ?_
  rw [ex, e3]
end
end L2.Mi.k04

set_option Elab.async false
set_option linter.all false
set_option maxRecDepth 100000
set_option maxHeartbeats 4000000
namespace L2.Mi.k04
open PySem PySem.Spec PyProof.Rows L2.Mi
open Classical in
noncomputable def eqB (x y : MV) : Bool := decide (x = y)
theorem eqB_iff {x y : MV} : eqB x y = true ↔ x = y := by unfold eqB; simp
abbrev pV2 (p : MV × MV) : MV := .tup [p.1, p.2]
structure TmB (ps : List MV) (c e : Nat) (t : MV) : Prop where
  tm : tmA (arOf ps) t = true
  dat : dat t = true
  cnt : cnt t ≤ c
  dep : dep t ≤ e
theorem TmB.up {ps : List MV} {c e c' e' : Nat} {t : MV} (h : TmB ps c e t) (h1 : c ≤ c') (h2 : e ≤ e') : TmB ps c' e' t := ⟨h.tm, h.dat, Nat.le_trans h.cnt h1, Nat.le_trans h.dep h2⟩
theorem Dr.b {ps : List MV} {V : List Sx} {c e : Nat} {t : MV} (h : Dr ps V c e t) : TmB ps c e t := ⟨h.tm, h.dat, h.cnt, h.dep⟩
section
variable {ps : List MV} {n : Nat} {g : Sx → MV} {k c e : Nat} {mh : MHp}
theorem Pu.put (P : Pu ps n g) {t : MV} (h : TmB ps c e t) : TmB ps (c * 13) (e + 3) (putF (dOf n g) t) := by
  have := put_facts P.vok (by omega) e t h.dep h.tm h.dat
  exact ⟨this.1, this.2.1, Nat.le_trans this.2.2.1 (Nat.mul_le_mul_right _ h.cnt), by have := this.2.2.2; have := h.dep; omega⟩
theorem TmB.pd {t : MV} (h : TmB ps c e t) (he : e ≤ 40) : Pd t := pd_of h.tm h.dat h.dep he
theorem eq_b {t u : MV} {c' e' : Nat} (h : TmB ps c e t) (h' : TmB ps c' e' u) (he : e ≤ 40) (he' : e' ≤ 40) : eqV mh t u = some (eqB t u) := eqV_b mh (h.pd he) (h'.pd he') eqB_iff
/-- solves -/
theorem sp_solves (P : Pu ps n g) {L : List (MV × MV)} (hL : ∀ p ∈ L, TmB ps 7000 12 p.1 ∧ TmB ps 7000 12 p.2) (hl : L.length ≤ 100) : callM T (k + 15) 15 [dV (dOf n g), .lst (L.map pV2)] mh = some (.bl (L.all fun p => eqB (putF (dOf n g) p.1) (putF (dOf n g) p.2)), mh) := by
  have hc : ∀ t, TmB ps 7000 12 t → callM T (k + 14) 9 [t, dV (dOf n g)] mh = some (putF (dOf n g) t, mh) := fun t h => sp_put (v := dV (dOf n g)) P.vok (by omega) 12 k t mh h.dep (by have := h.cnt; omega) h.tm h.dat rfl
  have hq : ∀ p ∈ L, eqV mh (putF (dOf n g) p.1) (putF (dOf n g) p.2) = some (eqB (putF (dOf n g) p.1) (putF (dOf n g) p.2)) := fun p hp => eq_b (P.put (hL p hp).1) (P.put (hL p hp).2) (by omega) (by omega)
  generalize dV (dOf n g) = A at *
  generalize dOf n g = d at *
  have c1 : ev (callM T (k + 14)) mh.length (.comp (.tp [(.nm 2), (.nm 3)]) [2, 3] (.var 1) (.c (.bl true)) (.cmp .eq (.call 9 [(.var 2), (.var 0)]) (.call 9 [(.var 3), (.var 0)]))) [some A, some (.lst (L.map pV2)), none, none] mh = some (.lst (L.map fun p => .bl (eqB (putF d p.1) (putF d p.2))), mh) := by
    refine ev_compM (evI_var (xs := L.map pV2) rfl rfl) (line_le (by omega)) fun p hp => ?_
    refine compF_T (ρ' := [some A, some (.lst (L.map pV2)), some p.1, some p.2]) rfl (by rw [ev]) ?_
    have a := hc _ (hL p hp).1
    have b := hc _ (hL p hp).2
    simp [ev, evs, a, b, cmpV, hq p hp]
  have e1 : ev (callM T (k + 14)) mh.length (.bi .all [(.comp (.tp [(.nm 2), (.nm 3)]) [2, 3] (.var 1) (.c (.bl true)) (.cmp .eq (.call 9 [(.var 2), (.var 0)]) (.call 9 [(.var 3), (.var 0)])))]) [some A, some (.lst (L.map pV2)), none, none] mh = some (.bl (L.all fun p => eqB (putF d p.1) (putF d p.2)), mh) := by
    have := bls_map' (mh := mh) L fun p => eqB (putF d p.1) (putF d p.2)
    simp only [ev, evs, c1, biV, one1, this, Option.map_some, List.all_map]
    rfl
  refine call_v (T := T) (np := 2) (ns := 4) (body := d_solves.body) (ρ := [some A, some (.lst (L.map pV2)), none, none]) (ρ0 := [some A, some (.lst (L.map pV2)), none, none]) (fl := .rt (.bl (L.all fun p => eqB (putF d p.1) (putF d p.2)))) (mh1 := mh) rfl rfl ?_ rfl rfl (by simp)
  refine ex_end (v := .bl _) ?_
  rw [ex, e1]
/-! ### is_putting -/
theorem sp_isput {d : AL} (hp : ∀ p ∈ ps, pairB p = true) (hdp : dats ps = true) (hk : ∀ p ∈ d, dat (.str p.1) = true ∧ dat p.2 = true ∧ cnt p.2 ≤ line ∧ look d p.1 = some p.2) (hl : d.length ≤ 100) : callM T (k + 4) 8 [dV d, .tup ps] mh = some (.bl ((d.all fun p => wordB upper (.str p.1)) && d.all fun p => termB ps p.2), mh) := by
  have hi1 : itsOf mh (dV d) = some ⟨d.map fun p => .str p.1, none⟩ := by rw [its_al, List.map_map]; rfl
  have c1 : ev (callM T (k + 3)) mh.length (.comp (.nm 2) [2] (.var 0) (.c (.bl true)) (.call 2 [(.var 2)])) [some (dV d), some (.tup ps), none] mh = some (.lst (d.map fun p => .bl (wordB upper (.str p.1))), mh) := by
    refine ev_compM (evI_var rfl hi1) (line_le (by omega)) fun p hp => ?_
    refine compF_T (ρ' := [some (dV d), some (.tup ps), some (.str p.1)]) rfl (by rw [ev]) ?_
    have := sp_is_var (k + 1) (.str p.1) mh (hk p hp).1
    simp [ev, evs, this]
  have c2 : ev (callM T (k + 3)) mh.length (.comp (.nm 2) [2] (.var 0) (.c (.bl true)) (.call 6 [(.sub (.var 0) (.var 2)), (.var 1)])) [some (dV d), some (.tup ps), none] mh = some (.lst (d.map fun p => .bl (termB ps p.2)), mh) := by
    refine ev_compM (evI_var rfl hi1) (line_le (by omega)) fun p hpm => ?_
    refine compF_T (ρ' := [some (dV d), some (.tup ps), some (.str p.1)]) rfl (by rw [ev]) ?_
    have g1 : subV mh (dV d) (.str p.1) = some p.2 := by rw [dsub, (hk p hpm).2.2.2]
    have := sp_term (k := k) (mh := mh) hp hdp (hk p hpm).2.1 (hk p hpm).2.2.1
    simp [ev, evs, g1, this]
  have b1 := bls_map' (mh := mh) d fun p => wordB upper (.str p.1)
  have b2 := bls_map' (mh := mh) d fun p => termB ps p.2
  have t1 : isTy (dV d) .dict mh = some true := rfl
  generalize dV d = A at *
  have e1 : ev (callM T (k + 3)) mh.length (.or (.not (.isi (.var 0) .dict)) (.not (.bi .all [(.comp (.nm 2) [2] (.var 0) (.c (.bl true)) (.call 2 [(.var 2)]))]))) [some A, some (.tup ps), none] mh = some (.bl (!(d.all fun p => wordB upper (.str p.1))), mh) := by
    refine ev_orB (a := false) (by simp [ev, t1]) fun _ => ?_
    refine ev_notB ?_
    simp only [ev, evs, c1, biV, one1, b1, Option.map_some, List.all_map]
    rfl
  have e2 : ev (callM T (k + 3)) mh.length (.bi .all [(.comp (.nm 2) [2] (.var 0) (.c (.bl true)) (.call 6 [(.sub (.var 0) (.var 2)), (.var 1)]))]) [some A, some (.tup ps), none] mh = some (.bl (d.all fun p => termB ps p.2), mh) := by
    simp only [ev, evs, c2, biV, one1, b2, Option.map_some, List.all_map]
    rfl
  refine call_v (T := T) (np := 2) (ns := 3) (body := d_is_putting.body) (ρ := [some A, some (.tup ps), none]) (ρ0 := [some A, some (.tup ps), none]) (fl := .rt (.bl ((d.all fun p => wordB upper (.str p.1)) && d.all fun p => termB ps p.2))) (mh1 := mh) rfl rfl ?_ rfl rfl (by simp)
  show exs _ _ [_, _] _ _ = _
  cases q : d.all fun p => wordB upper (.str p.1) with
  | false =>
    rw [q] at e1
    refine ex_end (v := .bl _) ?_
    rw [ex_iteT e1]
    exact ex_end (by rw [ex, ev]; simp)
  | true =>
    rw [q] at e1
    refine ex_go (ρ1 := [some A, some (.tup ps), none]) (mh1 := mh) (by rw [ex_iteF e1]; exact ex_done) ?_
    refine ex_end (v := .bl _) ?_
    rw [ex, e2]
    rfl
/-- what is no dict -/
theorem sp_isputN {v : MV} (h : isTy v .dict mh = some false) : callM T (k + 4) 8 [v, .tup ps] mh = some (.bl false, mh) := by
  refine call_v (T := T) (np := 2) (ns := 3) (body := d_is_putting.body) (ρ := [some v, some (.tup ps), none]) (ρ0 := [some v, some (.tup ps), none]) (fl := .rt (.bl false)) (mh1 := mh) rfl rfl ?_ rfl rfl (by simp)
  simp [d_is_putting, exs, ex, ev, h]
theorem sp_isput5 : callM T (k + 4) 8 [.dct [.inl 5] [.str [88]], .tup ps] mh = some (.bl false, mh) := by
  have c1 : ev (callM T (k + 3)) mh.length (.comp (.nm 2) [2] (.var 0) (.c (.bl true)) (.call 2 [(.var 2)])) [some (.dct [.inl 5] [.str [88]]), some (.tup ps), none] mh = some (.lst ([()].map fun p => .bl false), mh) := by
    refine ev_compM (emb := fun _ : Unit => MV.int 5) (evI_var rfl rfl) (line_le (by simp)) fun p hp => ?_
    refine compF_T (ρ' := [some (.dct [.inl 5] [.str [88]]), some (.tup ps), some (.int 5)]) rfl (by rw [ev]) ?_
    have := sp_is_var (k + 1) (.int 5) mh rfl
    simp only [wordB] at this
    simp [ev, evs, this]
  refine call_v (T := T) (np := 2) (ns := 3) (body := d_is_putting.body) (ρ := [some (.dct [.inl 5] [.str [88]]), some (.tup ps), none]) (ρ0 := [some (.dct [.inl 5] [.str [88]]), some (.tup ps), none]) (fl := .rt (.bl false)) (mh1 := mh) rfl rfl ?_ rfl rfl (by simp)
  have b1 := bls_map' (mh := mh) [()] fun _ => false
  have e1 : ev (callM T (k + 3)) mh.length (.or (.not (.isi (.var 0) .dict)) (.not (.bi .all [(.comp (.nm 2) [2] (.var 0) (.c (.bl true)) (.call 2 [(.var 2)]))]))) [some (.dct [.inl 5] [.str [88]]), some (.tup ps), none] mh = some (.bl true, mh) := by
    refine ev_orB (a := false) (b := true) (by simp [ev, isTy]) fun _ => ?_
    refine ev_notB (a := false) ?_
    simp only [ev, evs, c1, biV, one1, b1, Option.map_some]
    rfl
  refine ex_end (v := .bl _) ?_
  rw [ex_iteT e1]
  exact ex_end (by rw [ex, ev])
end
end L2.Mi.k04

set_option Elab.async false
set_option linter.all false
set_option maxRecDepth 100000
set_option maxHeartbeats 4000000
namespace L2.Mi.k04
open PySem PySem.Spec PyProof.Rows L2.Mi
/-! ### a drawn putting -/
abbrev V4 : List Sx := [[88], [89], [86, 48], [85]]
abbrev V4L : ME := (.lst [(.c (.str [88])), (.c (.str [89])), (.c (.str [86, 48])), (.c (.str [85]))])
abbrev puE : ME := (.ite (.cmp .gt (.call 17 [(.var 0), (.c (.int (4)))]) (.c (.int (0)))) (.call 20 [(.var 0), (.var 1), V4L, (.c (.int (3)))]) (.var 3))
abbrev puB : List MS := [(.sti (.var 2) (.var 3) puE)]
abbrev puF : MS := (.for (.nm 3) (.slcH (.lst [(.c (.str [88])), (.c (.str [89])), (.c (.str [90])), (.c (.str [87]))]) (.call 17 [(.var 0), (.c (.int (5)))])) puB)
theorem pu_eq : d_l_putting = ⟨2, 4, false, [(.set (.nm 2) (.al .dnew)), puF, (.ret (.var 2))]⟩ := rfl
theorem nm_va : ∀ s ∈ NM, s ∈ VA ∧ wordB upper (.str s) = true ∧ dat (.str s) = true := by decide
section
variable {l n : Nat} {tl mh m : MHp} {ps : List MV} {k : Nat}
theorem dr_name {s : Sx} (h : s ∈ NM) : Dr ps VA 13 3 (.str s) := ⟨by simp [tmA], fun u hu => by simp only [occ, List.mem_singleton] at hu; subst hu; exact (nm_va u h).1, by simp only [good]; exact (nm_va s h).2.1, by simp [cnt], by simp [dep], (nm_va s h).2.2⟩
theorem pu_val (hps : ps ∈ tongues) {s : Sx} (hs : s ∈ NM) (S : Sf l n tl m) {b : Nat} {o2 : Option MV} : ∃ t m', ev (callM T (k + 6)) b puE [some (.loc l), some (.tup ps), o2, some (.str s)] m = some (t, m') ∧ Sf l n tl m' ∧ Dr ps VA 13 3 t := by
  obtain ⟨r, m1, e1, S1, r0, _, _⟩ := take_f hTake (k + 5) S 4 (by omega)
  by_cases h : 0 < r
  · obtain ⟨t, m2, e2, S2, d⟩ := draw hps (V := V4) (by decide) (by decide) (by decide) 2 (k + 1) S1
    have e2' : callM T (k + 6) 20 [.loc l, .tup ps, .lst [.str [88], .str [89], .str [86, 48], .str [85]], .int 3] m1 = some (t, m2) := e2
    have z : 4 ≤ line := by unfold line; omega
    refine ⟨t, m2, ?_, S2, ⟨d.tm, fun s hs => ?_, d.gd, d.cnt, d.dep, d.dat⟩⟩
    · have hc : ev (callM T (k + 6)) b (.cmp .gt (.call 17 [(.var 0), (.c (.int (4)))]) (.c (.int (0)))) [some (.loc l), some (.tup ps), o2, some (.str s)] m = some (.bl true, m1) := by
        simp [ev, evs, e1, cmpV, ordV, h]
      rw [ev, hc]
      simp [ev, evs, z, e2']
    · have := d.sub s hs
      revert this
      simp only [V4, VA, List.mem_cons, List.not_mem_nil, or_false]
      rintro (h | h | h | h) <;> simp [h]
  · refine ⟨.str s, m1, ?_, S1, dr_name hs⟩
    have hc : ev (callM T (k + 6)) b (.cmp .gt (.call 17 [(.var 0), (.c (.int (4)))]) (.c (.int (0)))) [some (.loc l), some (.tup ps), o2, some (.str s)] m = some (.bl false, m1) := by
      simp [ev, evs, e1, cmpV, ordV, h]
    rw [ev, hc]
    simp [ev]
theorem pu_loop (hps : ps ∈ tongues) {b : Nat} (hb : b ≤ n + tl.length) {J : Its} (hJ : J.src = none) : ∀ (L : List Sx) (d : AL) (o : Option MV) (m : MHp), (∀ s ∈ L, s ∈ NM) → (d.map Prod.fst ++ L).Nodup → d.length + L.length ≤ 1000 → (∀ q ∈ d, Dr ps VA 13 3 q.2) → Sf l n (tl ++ [some (.dct (aK d) (aV d))]) m →
    ∃ d' o' m', forGo J (forF (callM T (k + 6)) b (.nm 3) puB) (L.map .str) [some (.loc l), some (.tup ps), some (.loc (n + tl.length)), o] m = some (.nx, [some (.loc l), some (.tup ps), some (.loc (n + tl.length)), o'], m') ∧ Sf l n (tl ++ [some (.dct (aK d') (aV d'))]) m' ∧ d'.map Prod.fst = d.map Prod.fst ++ L ∧ ∀ q ∈ d', Dr ps VA 13 3 q.2
  | [], d, o, m, _, _, _, hd, S => ⟨d, o, m, forGo_nil_of hJ, S, by simp, hd⟩
  | s :: L, d, o, m, hL, hn, hl, hd, S => by
    obtain ⟨t, m1, e, S1, dr⟩ := pu_val (k := k) hps (hL s (by simp)) S (b := b) (o2 := some (.loc (n + tl.length)))
    have hns : s ∉ d.map Prod.fst := fun z => by
      rw [List.nodup_append] at hn
      exact hn.2.2 _ z _ (by simp) rfl
    rw [List.length_cons] at hl
    have pk := (alP_put d s t).1
    have pv := (alP_put d s t).2
    rw [alP_new hns] at pk pv
    have S2 : Sf l n (tl ++ [some (.dct (aK (d ++ [(s, t)])) (aV (d ++ [(s, t)])))]) (m1.set (n + tl.length) (some (.dct (aK (d ++ [(s, t)])) (aV (d ++ [(s, t)]))))) := S1.setTop
    have top := S1.top
    have zl : (aK d).length < line := by rw [aK_len]; unfold line; omega
    have w : wr b (n + tl.length) t = true := wr_own hb
    have step : forF (callM T (k + 6)) b (.nm 3) puB (.str s) [some (.loc l), some (.tup ps), some (.loc (n + tl.length)), o] m = some (.nx, [some (.loc l), some (.tup ps), some (.loc (n + tl.length)), some (.str s)], m1.set (n + tl.length) (some (.dct (aK (d ++ [(s, t)])) (aV (d ++ [(s, t)]))))) := by
      unfold forF
      simp only [asg, List.length_cons, List.length_nil, Nat.lt_add_one, if_true, List.set_cons_succ, List.set_cons_zero, exs]
      rw [ex, e]
      simp [ev, top, w, zl, pk, pv]
    obtain ⟨d', o', m', f1, f2, f3, f4⟩ := pu_loop hps hb hJ L (d ++ [(s, t)]) (some (.str s)) _ (fun u hu => hL u (List.mem_cons_of_mem _ hu)) (by simpa using hn) (by rw [List.length_append]; simp; omega) (fun q hq => by
      rcases List.mem_append.mp hq with hq | hq
      · exact hd q hq
      · rw [List.mem_singleton.mp hq]; exact dr) S2
    refine ⟨d', o', m', ?_, f2, by rw [f3]; simp, f4⟩
    rw [List.map_cons, forGo_cons_of hJ, step]
    exact f1
theorem al_eq {d : AL} (h : (d.map Prod.fst).Nodup) : d = (d.map Prod.fst).map fun s => (s, (look d s).getD .non) := by
  rw [List.map_map]
  conv => lhs; rw [← List.map_id d]
  refine List.map_congr_left fun q hq => ?_
  have := look_of h (s := q.1) (t := q.2) hq
  simp only [Function.comp, this, Option.getD_some, id]
theorem sp_lputting (hps : ps ∈ tongues) (S : Sf l n tl mh) : ∃ r g mh', callM T (k + 7) 23 [.loc l, .tup ps] mh = some (dV (dOf r g), mh') ∧ Sf l n tl mh' ∧ Pu ps r g := by
  have hml := S.len
  have S1 : Sf l n (tl ++ [some (.dct (aK []) (aV []))]) (mh ++ [some (.dct (aK []) (aV []))]) := S.push _
  obtain ⟨r, m2, e2, S2, r0, r5, _⟩ := take_f hTake (k + 5) S1 5 (by omega)
  have r5 := r5 (by omega)
  obtain ⟨j, rfl, hj⟩ : ∃ j : Nat, r = (j : Int) ∧ j ≤ 4 := ⟨r.toNat, by omega, by omega⟩
  have hnl : NM.length = 4 := rfl
  have s0 : ex (callM T (k + 6)) mh.length (.set (.nm 2) (.al .dnew)) [some (.loc l), some (.tup ps), none, none] mh = some (.nx, [some (.loc l), some (.tup ps), some (.loc (n + tl.length)), none], mh ++ [some (.dct (aK []) (aV []))]) := by
    simp [ex, ev, asg, hml, aK, aV]
  obtain ⟨d', o', m', f1, f2, f3, f4⟩ := pu_loop (k := k) hps (b := mh.length) (by omega) (J := ⟨(NM.take j).map .str, none⟩) rfl (NM.take j) [] none m2 (fun s hs => nm_sub hs) (by simpa using nm_nd j) (by simp; omega) (fun q hq => by simp at hq) S2
  have s1 : ex (callM T (k + 6)) mh.length puF [some (.loc l), some (.tup ps), some (.loc (n + tl.length)), none] (mh ++ [some (.dct (aK []) (aV []))]) = some (.nx, [some (.loc l), some (.tup ps), some (.loc (n + tl.length)), o'], m') := by
    have z : 4 ≤ line := by unfold line; omega
    have ei : evI (callM T (k + 6)) mh.length (.slcH (.lst [(.c (.str [88])), (.c (.str [89])), (.c (.str [90])), (.c (.str [87]))]) (.call 17 [(.var 0), (.c (.int (5)))])) [some (.loc l), some (.tup ps), some (.loc (n + tl.length)), none] (mh ++ [some (.dct (aK []) (aV []))]) = some (⟨(NM.take j).map .str, none⟩, m2) := by
      have hct : cut [MV.str [88], .str [89], .str [90], .str [87]] none (some (j : Int)) = (NM.take j).map .str := by
        rw [cut_take, List.map_take]; rfl
      simp [evI, ev, evs, z, e2, slcV, getL, hct, itsOf]
    rw [ex_for, ei]
    exact f1
  have f3' : d'.map Prod.fst = NM.take j := by rw [f3]; rfl
  have hde : d' = dOf j fun s => (look d' s).getD .non := by
    have := al_eq (d := d') (by rw [f3']; exact nm_nd j)
    rw [f3'] at this
    exact this
  refine ⟨j, fun s => (look d' s).getD .non, m'.take mh.length, ?_, by rw [hml]; exact f2.pop, hj, fun s hs => ?_⟩
  · rw [← hde]
    have hd : dats (aV d') = true := dats_al fun q hq => (f4 q hq).dat
    have hfz : frz mh.length m' 8 (.loc (n + tl.length)) = some (dV d') := by
      unfold frz
      rw [if_neg (by omega)]
      simp only [f2.top]
      rw [frzs_dat _ hd]
      rfl
    rw [callM_eq (d := d_l_putting) rfl]
    refine run_frz2 (fl := .rt (.loc (n + tl.length))) (ρ := [some (.loc l), some (.tup ps), some (.loc (n + tl.length)), o']) rfl rfl ?_ rfl hfz
    exact ex_go s0 (ex_go s1 (ex_end (by simp [ex, ev])))
  · have hm : s ∈ d'.map Prod.fst := by rw [f3']; exact hs
    obtain ⟨t, q1, q2⟩ := look_some hm
    show Dr ps VA 13 3 ((look d' s).getD .non)
    rw [q1]
    exact f4 _ q2
end
end L2.Mi.k04

set_option Elab.async false
set_option linter.all false
set_option maxRecDepth 100000
set_option maxHeartbeats 4000000
namespace L2.Mi.k04
open PySem PySem.Spec PyProof.Rows L2.Mi
/-! ### how long a repr is -/
theorem tup_len (ts : List Str) : (tupleText ts).length ≤ piled ts + 2 := by
  have e3 : (((if ts.length == 1 then ",)" else ")" : String) : Str)).length ≤ 2 := by split <;> decide +kernel
  have e1 : ((("(" : String) : Str)).length = 1 := rfl
  unfold tupleText
  rw [strLen_append, strLen_append, e1]
  by_cases h : ts = []
  · subst h
    decide +kernel
  · have := join_length_add ts h
    omega
theorem dict_len (ts : List Str) : (dictText ts).length ≤ piled ts + 2 := by
  have e1 : ((("{" : String) : Str)).length = 1 := rfl
  have e2 : ((("}" : String) : Str)).length = 1 := rfl
  unfold dictText
  rw [strLen_append, strLen_append, e1, e2]
  by_cases h : ts = []
  · subst h
    decide +kernel
  · have := join_length_add ts h
    omega
theorem str_len' {s : Sx} (h : dat (.str s) = true) : (reprText (⟨s.toArray⟩ : Str)).length ≤ 10002 := by
  have h1 := dat_str_len h
  have h2 := dat_str_chr h
  have := StrLaws.reprText_len (⟨s.toArray⟩ : Str) (fun c hc => by have := h2 c (by simpa using hc); omega)
  have e : (⟨s.toArray⟩ : Str).length = s.length := by simp [Str.length]
  omega
structure Rl (t : MV) (c e : Nat) : Prop where
  ok : okR t = true
  dep : PyData.depth (toR t) ≤ e
  len : (PyData.shown (toR t)).length + 4 ≤ 10010 * c
theorem rl_str {s : Sx} (h : dat (.str s) = true) : Rl (.str s) 1 0 := by
  have := str_len' h
  refine ⟨by unfold okR; rfl, by unfold toR; simp [PyData.depth], ?_⟩
  unfold toR
  simp only [PyData.shown]
  omega
theorem rl_list : ∀ {xs : List MV}, (∀ x ∈ xs, Rl x (cnt x) (dep x)) → okRs xs = true ∧ PyData.depthAll (toRs xs) ≤ deps xs ∧ piled (PyData.shownAll (toRs xs)) + 2 * xs.length ≤ 10010 * cnts xs
  | [], _ => by
    refine ⟨by unfold okRs; rfl, by unfold toRs; simp [PyData.depthAll], ?_⟩
    unfold toRs
    simp [PyData.shownAll, piled, cnts]
  | x :: xs, h => by
    obtain ⟨a, b, c⟩ := rl_list fun y hy => h y (List.mem_cons_of_mem _ hy)
    have hx := h x (by simp)
    have h1 := hx.dep
    have h2 := hx.len
    refine ⟨by unfold okRs; rw [hx.ok, a]; rfl, ?_, ?_⟩
    · unfold toRs
      simp only [PyData.depthAll, deps]
      omega
    · unfold toRs
      simp only [PyData.shownAll, piled_cons, cnts, List.length_cons]
      omega
theorem rl_tm : ∀ (D : Nat) (t : MV), dep t ≤ D → tm t = true → dat t = true → Rl t (cnt t) (dep t)
  | 0, t, hD, ht, hd => by
    rcases tm_cases ht hd with ⟨s, rfl⟩ | ⟨s, xs, rfl, _, h⟩
    · have := rl_str hd
      simp only [cnt, dep]; exact this
    · simp [dep] at hD
  | D + 1, t, hD, ht, hd => by
    rcases tm_cases ht hd with ⟨s, rfl⟩ | ⟨s, xs, rfl, hs, h⟩
    · have := rl_str hd
      simp only [cnt, dep]; exact this
    · obtain ⟨a, b, c⟩ := rl_list (xs := xs) fun x hx => rl_tm D x (by have := dep_mem (h := .str s) hx; omega) (h x hx).1 (h x hx).2
      have q := rl_str hs
      have q1 : (PyData.shown (toR (.str s))).length ≤ 10002 := by unfold toR; simp only [PyData.shown]; exact str_len' hs
      refine ⟨by unfold okR okRs; rw [q.ok, a]; rfl, ?_, ?_⟩
      · unfold toR toRs
        have := q.dep
        simp only [PyData.depth, PyData.depthAll, dep, deps]
        omega
      · unfold toR toRs
        simp only [PyData.shown, PyData.shownAll, cnt, cntT]
        have := tup_len (PyData.shown (toR (.str s)) :: PyData.shownAll (toRs xs))
        rw [piled_cons] at this
        omega
theorem rl_al : ∀ {d : AL}, (∀ p ∈ d, dat (.str p.1) = true ∧ tm p.2 = true ∧ dat p.2 = true ∧ cnt p.2 ≤ 13 ∧ dep p.2 ≤ 3) → okRs (aV d) = true ∧ (aK d).all txtK = true ∧ PyData.depthKv (((aK d).map keyD).zip (toRs (aV d))) ≤ 3 ∧ piled (PyData.shownKv (((aK d).map keyD).zip (toRs (aV d)))) ≤ 150000 * d.length
  | [], _ => by
    refine ⟨by unfold aV okRs; rfl, rfl, ?_, ?_⟩
    · unfold aV toRs; simp [aK, PyData.depthKv]
    · unfold aV toRs; simp [aK, PyData.shownKv, piled]
  | p :: d, h => by
    obtain ⟨a, b, c, e⟩ := rl_al (d := d) fun q hq => h q (List.mem_cons_of_mem _ hq)
    obtain ⟨h1, h2, h3, h4, h5⟩ := h p (by simp)
    have r := rl_tm 3 p.2 h5 h2 h3
    have rk := rl_str h1
    have k1 := rk.len
    have r1 := r.len
    have r2 := r.dep
    have ea : aV (p :: d) = p.2 :: aV d := rfl
    have ek : aK (p :: d) = .inr p.1 :: aK d := rfl
    rw [ea, ek]
    have e0 : toR (.str p.1) = keyD (.inr p.1) := by unfold toR; rfl
    rw [e0] at k1
    have e1 : PyData.depth (keyD (.inr p.1)) = 0 := by simp [keyD, PyData.depth]
    refine ⟨by unfold okRs; rw [r.ok, a]; rfl, by rw [List.all_cons, b]; rfl, ?_, ?_⟩
    · unfold toRs
      simp only [List.map_cons, List.zip_cons_cons, PyData.depthKv, e1]
      omega
    · unfold toRs
      simp only [List.map_cons, List.zip_cons_cons, PyData.shownKv, piled_cons, strLen_append, List.length_cons]
      have e2 : ((": " : String) : Str).length = 2 := rfl
      rw [e2]
      omega
theorem rl_dV {d : AL} (h : ∀ p ∈ d, dat (.str p.1) = true ∧ tm p.2 = true ∧ dat p.2 = true ∧ cnt p.2 ≤ 13 ∧ dep p.2 ≤ 3) (hl : d.length ≤ 4) : Rl (dV d) 100 4 := by
  obtain ⟨a, b, c, e⟩ := rl_al h
  refine ⟨?_, ?_, ?_⟩
  · unfold okR
    rw [a, b]
    simp [aK, aV]
  · unfold toR
    simp only [PyData.depth]
    omega
  · unfold toR
    simp only [PyData.shown]
    have := dict_len (PyData.shownKv (((aK d).map keyD).zip (toRs (aV d))))
    omega
theorem repr_ok {a b : MV} (ha : Rl a 100 4) (hb : Rl b 100 4) : ∃ R : Sx, reprV (.tup [a, b]) = some (.str R) := by
  have h1 : okRs [a, b] = true := by unfold okRs okRs okRs; rw [ha.ok, hb.ok]; rfl
  have h2 : PyData.depth (toR (.tup [a, b])) ≤ 40 := by
    have := ha.dep
    have := hb.dep
    unfold toR toRs toRs toRs
    simp only [PyData.depth, PyData.depthAll]
    omega
  have h3 : (PyData.shown (toR (.tup [a, b]))).length ≤ line := by
    have := ha.len
    have := hb.len
    unfold toR toRs toRs toRs
    simp only [PyData.shown, PyData.shownAll]
    have := tup_len [PyData.shown (toR a), PyData.shown (toR b)]
    simp only [piled_cons] at this
    have e : piled [] = 0 := rfl
    rw [e] at this
    unfold line
    omega
  exact ⟨(PyData.shown (toR (.tup [a, b]))).cps.toList, by simp only [reprV, h1, h2, h3, and_self, if_true]⟩
end L2.Mi.k04

set_option Elab.async false
set_option linter.all false
set_option maxRecDepth 100000
set_option maxHeartbeats 4000000
namespace L2.Mi.k04
open PySem PySem.Spec PyProof.Rows L2.Mi
/-! ### the signs of a repr -/
def CO (x : Str) : Prop := ∀ c ∈ x.cps.toList, c < 1114112
theorem CO.app {a b : Str} (h : CO a) (h' : CO b) : CO (a ++ b) := fun c hc => by
  rw [join_app] at hc
  exact (List.mem_append.mp hc).elim (h c) (h' c)
theorem co_join : ∀ ts : List Str, (∀ t ∈ ts, CO t) → CO (Str.join ", " ts)
  | [], _ => by
    show CO Str.empty
    intro c hc
    simp [Str.empty] at hc
  | [x], h => by
    show CO x
    exact h x (by simp)
  | x :: y :: r, h => by
    show CO (x ++ ", " ++ Str.join ", " (y :: r))
    exact (CO.app (CO.app (h x (by simp)) (by unfold CO; decide)) (co_join (y :: r) fun t ht => h t (List.mem_cons_of_mem _ ht)))
theorem co_tup {ts : List Str} (h : ∀ t ∈ ts, CO t) : CO (tupleText ts) := by
  unfold tupleText
  refine CO.app (CO.app (by unfold CO; decide) (co_join ts h)) ?_
  split <;> (unfold CO; decide)
theorem co_dict {ts : List Str} (h : ∀ t ∈ ts, CO t) : CO (dictText ts) := by
  unfold dictText
  exact CO.app (CO.app (by unfold CO; decide) (co_join ts h)) (by unfold CO; decide)
theorem chr_lt (c : Char) : c.toNat < 1114112 := by
  rcases c.valid with h | ⟨_, h⟩
  · have : c.toNat < 0xd800 := h
    omega
  · exact h
theorem co_chr {q c d : Nat} (hq : q < 1114112) (hc : c < 1114112) (h : d ∈ Builtin.Str.reprChar q c) : d < 1114112 := by
  have hex : ∀ n, d ∈ List.replicate n 48 ++ (Nat.toDigits 16 c).map Char.toNat → d < 1114112 := fun n hd => by
    rcases List.mem_append.mp hd with hd | hd
    · rw [(List.mem_replicate.mp hd).2]; omega
    · obtain ⟨x, _, rfl⟩ := List.mem_map.mp hd
      exact chr_lt x
  unfold Builtin.Str.reprChar at h
  dsimp only at h
  repeat' split at h
  all_goals first
    | (simp only [List.mem_cons, List.not_mem_nil, or_false] at h; omega)
    | (rcases List.mem_append.mp h with h | h
       · simp only [List.mem_cons, List.not_mem_nil, or_false] at h; omega
       · exact hex _ h)
theorem co_fold {q : Nat} (hq : q < 1114112) : ∀ (l : List Nat) (acc : Array Nat), (∀ c ∈ l, c < 1114112) → (∀ c ∈ acc.toList, c < 1114112) → ∀ c ∈ (l.foldl (fun out c => out ++ (Builtin.Str.reprChar q c).toArray) acc).toList, c < 1114112
  | [], acc, _, h => h
  | c :: r, acc, hl, h => by
    rw [List.foldl_cons]
    refine co_fold hq r _ (fun d hd => hl d (List.mem_cons_of_mem _ hd)) fun d hd => ?_
    rw [Array.toList_append] at hd
    rcases List.mem_append.mp hd with hd | hd
    · exact h d hd
    · exact co_chr hq (hl c (by simp)) hd
theorem co_quote (x : Str) : reprQuote x < 1114112 := by unfold reprQuote; split <;> omega
theorem co_repr {x : Str} (h : CO x) : CO (reprText x) := by
  unfold reprText CO
  show ∀ c ∈ ((x.cps.foldl (fun out c => out ++ (Builtin.Str.reprChar (reprQuote x) c).toArray) #[reprQuote x]).push (reprQuote x)).toList, c < 1114112
  intro c hc
  rw [Array.toList_push] at hc
  rcases List.mem_append.mp hc with hc | hc
  · rw [← Array.foldl_toList] at hc
    exact co_fold (co_quote x) x.cps.toList _ h (fun d hd => by simp at hd; rw [hd]; exact co_quote x) c hc
  · rw [List.mem_singleton.mp hc]; exact co_quote x
theorem co_str {s : Sx} (h : dat (.str s) = true) : CO (reprText (⟨s.toArray⟩ : Str)) := co_repr fun c hc => dat_str_chr h c (by simpa using hc)
theorem co_list : ∀ {xs : List MV}, (∀ x ∈ xs, CO (PyData.shown (toR x))) → ∀ t ∈ PyData.shownAll (toRs xs), CO t
  | [], _, t, ht => by unfold toRs at ht; simp [PyData.shownAll] at ht
  | x :: xs, h, t, ht => by
    unfold toRs at ht
    simp only [PyData.shownAll] at ht
    rcases List.mem_cons.mp ht with rfl | ht
    · exact h x (by simp)
    · exact co_list (fun y hy => h y (List.mem_cons_of_mem _ hy)) t ht
theorem co_tm : ∀ (D : Nat) (t : MV), dep t ≤ D → tm t = true → dat t = true → CO (PyData.shown (toR t)) := by
  have leaf : ∀ s, dat (.str s) = true → CO (PyData.shown (toR (.str s))) := fun s hs => by
    unfold toR; simp only [PyData.shown]; exact co_str hs
  intro D
  induction D with
  | zero =>
    intro t hD ht hd
    rcases tm_cases ht hd with ⟨s, rfl⟩ | ⟨s, xs, rfl, _, h⟩
    · exact leaf s hd
    · simp [dep] at hD
  | succ D ih =>
    intro t hD ht hd
    rcases tm_cases ht hd with ⟨s, rfl⟩ | ⟨s, xs, rfl, hs, h⟩
    · exact leaf s hd
    · have := co_list (xs := .str s :: xs) fun x hx => by
        rcases List.mem_cons.mp hx with rfl | hx
        · exact leaf s hs
        · exact ih x (by have := dep_mem (h := .str s) hx; omega) (h x hx).1 (h x hx).2
      unfold toR
      simp only [PyData.shown]
      exact co_tup this
theorem co_kv : ∀ {d : AL}, (∀ p ∈ d, dat (.str p.1) = true ∧ tm p.2 = true ∧ dat p.2 = true) → ∀ t ∈ PyData.shownKv (((aK d).map keyD).zip (toRs (aV d))), CO t
  | [], _, t, ht => by simp [aK, PyData.shownKv] at ht
  | p :: d, h, t, ht => by
    have ea : aV (p :: d) = p.2 :: aV d := rfl
    have ek : aK (p :: d) = .inr p.1 :: aK d := rfl
    obtain ⟨h1, h2, h3⟩ := h p (by simp)
    rw [ea, ek] at ht
    unfold toRs at ht
    simp only [List.map_cons, List.zip_cons_cons, PyData.shownKv] at ht
    rcases List.mem_cons.mp ht with rfl | ht
    · refine CO.app (CO.app ?_ (by unfold CO; decide)) (co_tm (dep p.2) p.2 (Nat.le_refl _) h2 h3)
      simp only [keyD, PyData.shown]
      exact co_str h1
    · exact co_kv (fun q hq => h q (List.mem_cons_of_mem _ hq)) t ht
theorem co_dV {d : AL} (h : ∀ p ∈ d, dat (.str p.1) = true ∧ tm p.2 = true ∧ dat p.2 = true) : CO (PyData.shown (toR (dV d))) := by
  unfold toR
  simp only [PyData.shown]
  exact co_dict (co_kv h)
theorem eq_text {R : Sx} (h : ∀ c ∈ R, c < 1114112) (mh : MHp) : eqV mh (.str R) (.str R) = some true := by
  have h0 : frz 0 mh 8 (.str R) = some (.str R) := by unfold frz; rfl
  have h1 : okD (.str R) = true := by
    show (PyData.canLay0 (.str ⟨R.toArray⟩) && decide (PyData.depth (.str ⟨R.toArray⟩) ≤ 64)) = true
    have e1 : PyData.depth (.str ⟨R.toArray⟩) = 0 := by unfold PyData.depth; rfl
    rw [e1]
    unfold PyData.canLay0 PySem.PyData.strOk
    simp
    intro i hi
    exact h _ hi
  unfold eqV
  rw [h0]
  simp only [h1, and_self, if_true]
  congr 1
  show PyData.eqv (.str ⟨R.toArray⟩) (.str ⟨R.toArray⟩) = true
  unfold PyData.eqv
  simp
/-- repr of the two puttings -/
theorem repr_two {d1 d2 : AL} (h1 : ∀ p ∈ d1, dat (.str p.1) = true ∧ tm p.2 = true ∧ dat p.2 = true ∧ cnt p.2 ≤ 13 ∧ dep p.2 ≤ 3) (l1 : d1.length ≤ 4) (h2 : ∀ p ∈ d2, dat (.str p.1) = true ∧ tm p.2 = true ∧ dat p.2 = true ∧ cnt p.2 ≤ 13 ∧ dep p.2 ≤ 3) (l2 : d2.length ≤ 4) :
    ∃ R : Sx, reprV (.tup [dV d1, dV d2]) = some (.str R) ∧ ∀ mh, eqV mh (.str R) (.str R) = some true := by
  have a := rl_dV h1 l1
  have b := rl_dV h2 l2
  have ca := co_dV fun p hp => ⟨(h1 p hp).1, (h1 p hp).2.1, (h1 p hp).2.2.1⟩
  have cb := co_dV fun p hp => ⟨(h2 p hp).1, (h2 p hp).2.1, (h2 p hp).2.2.1⟩
  generalize dV d1 = x at *
  generalize dV d2 = y at *
  obtain ⟨R, e⟩ := repr_ok a b
  refine ⟨R, e, fun mh => eq_text (fun c hc => ?_) mh⟩
  simp only [reprV] at e
  split at e
  · cases e
    have : CO (PyData.shown (toR (.tup [x, y]))) := by
      have := co_list (xs := [x, y]) fun z hz => by
        rcases List.mem_cons.mp hz with rfl | hz
        · exact ca
        · rw [List.mem_singleton.mp hz]; exact cb
      unfold toR
      simp only [PyData.shown]
      exact co_tup this
    exact this c hc
  · cases e
end L2.Mi.k04

set_option Elab.async false
set_option linter.all false
set_option maxRecDepth 100000
set_option maxHeartbeats 4000000
namespace L2.Mi.k04
open PySem PySem.Spec PyProof.Rows L2.Mi
noncomputable abbrev CC : CallF := callM T 100
abbrev LW0 : MS := (.set (.nm 1) (.call 16 [(.var 0)]))
abbrev LW1_0 : MS := (.set (.nm 3) (.call 19 [(.var 1)]))
abbrev LW1_1 : MS := (.set (.nm 4) (.call 20 [(.var 1), (.var 3), (.lst [(.c (.str [88])), (.c (.str [89])), (.c (.str [90])), (.c (.str [87])), (.c (.str [84]))]), (.c (.int (4)))]))
abbrev LW1_2 : MS := (.set (.tp [(.nm 18), (.nm 19)]) (.tup [(.call 23 [(.var 1), (.var 3)]), (.call 23 [(.var 1), (.var 3)])]))
abbrev LW1_3 : MS := (.set (.nm 5) (.bi .repr [(.tup [(.var 18), (.var 19)])]))
abbrev LW1_4 : MS := (.ite (.or (.cmp .ne (.call 9 [(.var 4), (.var 18)]) (.call 21 [(.var 4), (.var 18)])) (.cmp .ne (.bi .repr [(.tup [(.var 18), (.var 19)])]) (.var 5))) [(.ret (.c (.bl false)))] [])
abbrev LW1_5 : MS := (.set (.nm 6) (.call 11 [(.var 18), (.var 19)]))
abbrev LW1_6 : MS := (.set (.nm 7) (.al .dnew))
abbrev LW1_7_0 : MS := (.set (.nm 13) (.call 21 [(.call 21 [(.var 8), (.var 18)]), (.var 19)]))
abbrev LW1_7_1 : MS := (.ite (.cmp .ne (.var 13) (.var 8)) [(.sti (.var 7) (.var 8) (.var 13))] [])
abbrev LW1_7B : List MS := [LW1_7_0, LW1_7_1]
abbrev LW1_7 : MS := (.for (.nm 8) (.bi .sorted [(.lst [(.c (.str [88])), (.c (.str [89])), (.c (.str [90])), (.c (.str [87]))])]) LW1_7B)
abbrev LW1_8 : MS := (.ite (.or (.not (.isi (.var 6) .dict)) (.or (.cmp .ne (.bi .list [(.var 6)]) (.bi .sorted [(.var 7)])) (.or (.cmp .ne (.var 6) (.var 7)) (.cmp .ne (.call 21 [(.var 4), (.var 6)]) (.call 21 [(.call 21 [(.var 4), (.var 18)]), (.var 19)]))))) [(.ret (.c (.bl false)))] [])
abbrev LW1_9 : MS := (.set (.nm 9) (.call 22 [(.var 4)]))
abbrev LW1_10 : MS := (.set (.nm 10) (.al .dnew))
abbrev LW1_11_0 : MS := (.sti (.var 10) (.sub (.var 9) (.var 11)) (.bin .add (.c (.str [86])) (.bi .strI [(.var 11)])))
abbrev LW1_11B : List MS := [LW1_11_0]
abbrev LW1_11 : MS := (.for (.nm 11) (.rng1 (.bi .len [(.var 9)])) LW1_11B)
abbrev LW1_12 : MS := (.ite (.cmp .ne (.call 13 [(.var 4)]) (.call 21 [(.var 4), (.var 10)])) [(.ret (.c (.bl false)))] [])
abbrev LW1_13 : MS := (.set (.nm 12) (.call 21 [(.var 4), (.var 18)]))
abbrev LW1_14 : MS := (.set (.nm 13) (.al (.lst [])))
abbrev LW1_15_0 : MS := (.ex (.meth .append (.var 13) [(.bin .add (.c (.str [86])) (.bi .strI [(.bi .len [(.var 13)])]))]))
abbrev LW1_15B : List MS := [LW1_15_0]
abbrev LW1_15 : MS := (.for (.nm 8) (.call 22 [(.var 12)]) LW1_15B)
abbrev LW1_16 : MS := (.set (.nm 14) (.bi .dzip [(.call 22 [(.var 12)]), (.var 13)]))
abbrev LW1_17 : MS := (.ite (.cmp .ne (.call 14 [(.var 4), (.var 12)]) (.cmp .eq (.call 21 [(.var 12), (.var 14)]) (.call 21 [(.var 4), (.var 10)]))) [(.ret (.c (.bl false)))] [])
abbrev LW1_18 : MS := (.set (.nm 15) (.comp (.nm 8) [8] (.var 18) (.c (.bl true)) (.sub (.var 18) (.var 8))))
abbrev LW1_19 : MS := (.set (.nm 16) (.and (.cmp .eq (.bi .len [(.comp (.nm 20) [20] (.var 15) (.not (.isi (.var 20) .str)) (.var 20))]) (.c (.int (0)))) (.cmp .eq (.bi .len [(.comp (.nm 11) [11] (.rng1 (.bi .len [(.var 15)])) (.cmp .mem (.sub (.var 15) (.var 11)) (.slcH (.var 15) (.var 11))) (.var 11))]) (.c (.int (0))))))
abbrev LW1_20 : MS := (.ite (.cmp .ne (.call 12 [(.var 18)]) (.var 16)) [(.ret (.c (.bl false)))] [])
abbrev LW1_21 : MS := (.set (.nm 17) (.slcH (.lst [(.tup [(.var 4), (.var 12)]), (.tup [(.call 21 [(.var 4), (.var 18)]), (.call 21 [(.var 12), (.var 18)])])]) (.bin .add (.c (.int (1))) (.call 17 [(.var 1), (.c (.int (2)))]))))
abbrev LW1_22 : MS := (.ite (.cmp .ne (.call 15 [(.var 18), (.var 17)]) (.cmp .eq (.bi .len [(.comp (.nm 21) [21] (.var 17) (.cmp .ne (.call 21 [(.sub (.var 21) (.c (.int (0)))), (.var 18)]) (.call 21 [(.sub (.var 21) (.c (.int (1)))), (.var 18)])) (.var 21))]) (.c (.int (0))))) [(.ret (.c (.bl false)))] [])
abbrev LW1_23 : MS := (.ite (.or (.cmp .isn (.call 8 [(.var 18), (.var 3)]) (.c (.bl true))) (.or (.cmp .isn (.call 8 [(.disp1 (.c (.str [88])) (.tup [(.c (.str [122, 122, 122]))])), (.var 3)]) (.c (.bl false))) (.cmp .isn (.call 8 [(.disp1 (.c (.str [120])) (.c (.str [88]))), (.var 3)]) (.c (.bl false))))) [(.ret (.c (.bl false)))] [])
abbrev LW1_24 : MS := (.ite (.or (.cmp .isn (.call 8 [(.lst [(.tup [(.c (.str [88])), (.c (.str [89]))])]), (.var 3)]) (.c (.bl false))) (.or (.cmp .isn (.call 8 [(.c .non), (.var 3)]) (.c (.bl false))) (.or (.cmp .isn (.call 8 [(.disp1 (.c (.str [88])) (.c .non)), (.var 3)]) (.c (.bl false))) (.cmp .isn (.call 8 [(.disp1 (.c (.int (5))) (.c (.str [88]))), (.var 3)]) (.c (.bl false)))))) [(.ret (.c (.bl false)))] [])
abbrev LW1B : List MS := [LW1_0, LW1_1, LW1_2, LW1_3, LW1_4, LW1_5, LW1_6, LW1_7, LW1_8, LW1_9, LW1_10, LW1_11, LW1_12, LW1_13, LW1_14, LW1_15, LW1_16, LW1_17, LW1_18, LW1_19, LW1_20, LW1_21, LW1_22, LW1_23, LW1_24]
abbrev LW1 : MS := (.for (.nm 2) (.rng1 (.c (.int (4)))) LW1B)
abbrev LW2 : MS := (.ret (.c (.bl true)))
theorem LW_eq : d_law = ⟨1, 22, false, [LW0, LW1, LW2]⟩ := rfl
/-! ### what an environment keeps -/
def Kp (J : List Nat) (ρ ρ' : Env) : Prop := ρ'.length = ρ.length ∧ ∀ i, i ∉ J → ρ'[i]? = ρ[i]?
theorem Kp.refl (ρ : Env) : Kp [] ρ ρ := ⟨rfl, fun _ _ => rfl⟩
theorem Kp.trans {J J' : List Nat} {a b c : Env} (h : Kp J a b) (h' : Kp J' b c) : Kp (J ++ J') a c := ⟨h'.1.trans h.1, fun i hi => by
  rw [List.mem_append, not_or] at hi
  rw [h'.2 i hi.2, h.2 i hi.1]⟩
theorem Kp.set (ρ : Env) (i : Nat) (v : Option MV) : Kp [i] ρ (ρ.set i v) := ⟨by simp, fun j hj => List.getElem?_set_ne (fun z => hj (by simp [z]))⟩
theorem Kp.get {J : List Nat} {ρ ρ' : Env} {i : Nat} {v : MV} (k : Kp J ρ ρ') (h : ρ[i]? = some (some v)) (n : i ∉ J := by decide) : ρ'[i]? = some (some v) := by rw [k.2 i n, h]
theorem set_get {ρ : Env} {i : Nat} {v : Option MV} (h : i < ρ.length) : (ρ.set i v)[i]? = some v := by simp [h]
abbrev V5 : List Sx := [[88], [89], [90], [87], [84]]
section
variable {ρ : Env} {l n : Nat} {tl m : MHp} {ps : List MV} {t : MV} {n1 n2 : Nat} {g1 g2 : Sx → MV}
theorem w_0 (hl : ρ.length = 22) (h1 : ρ[1]? = some (some (.loc l))) (S : Sf l n tl m) : ∃ ps m', ps ∈ tongues ∧ ex CC 0 LW1_0 ρ m = some (.nx, ρ.set 3 (some (.tup ps)), m') ∧ Sf l n tl m' := by
  obtain ⟨y, m', hy, e, S'⟩ := pick_f hTake hPick 97 S (tongues.map .tup) (by simp [tongues]) (by simp [tongues]) (by decide +kernel)
  obtain ⟨ps, hps, rfl⟩ := List.mem_map.mp hy
  have e1 : callM T 100 19 [.loc l] m = some (.tup ps, m') := by
    rw [callM_eq hTongue]
    have hd : dat (.tup ps) = true := by unfold dat; exact (tokG_of hps).dat
    refine run_of' rfl rfl (ρ := [some (.loc l)]) (fl := .rt (.tup ps)) ?_ rfl hd (by rw [S'.len, S.len])
    have h1 : 2 ≤ line := by unfold line; omega
    have h2 : 3 ≤ line := by unfold line; omega
    have h3 : 4 ≤ line := by unfold line; omega
    simp only [tongues, pr, List.map] at e
    simp [tongueD, exs, ex, ev, evs, e, h1, h2, h3]
  refine ⟨ps, m', hps, ?_, S'⟩
  have i : 3 < ρ.length := by omega
  simp [ex, ev, evs, h1, e1, asg, i]
theorem w_1 (hl : ρ.length = 22) (h1 : ρ[1]? = some (some (.loc l))) (h3 : ρ[3]? = some (some (.tup ps))) (hps : ps ∈ tongues) (S : Sf l n tl m) : ∃ t m', Dr ps V5 40 4 t ∧ ex CC 0 LW1_1 ρ m = some (.nx, ρ.set 4 (some t), m') ∧ Sf l n tl m' := by
  obtain ⟨t, m', e, S', d⟩ := draw hps (V := V5) (by decide) (by decide) (by decide) 3 94 S
  have e' : callM T 100 20 [.loc l, .tup ps, .lst [.str [88], .str [89], .str [90], .str [87], .str [84]], .int 4] m = some (t, m') := e
  have z : 5 ≤ line := by unfold line; omega
  refine ⟨t, m', d, ?_, S'⟩
  have i : 4 < ρ.length := by omega
  simp [ex, ev, evs, h1, h3, z, e', asg, i]
theorem w_2 (hl : ρ.length = 22) (h1 : ρ[1]? = some (some (.loc l))) (h3 : ρ[3]? = some (some (.tup ps))) (hps : ps ∈ tongues) (S : Sf l n tl m) : ∃ n1 g1 n2 g2 m', Pu ps n1 g1 ∧ Pu ps n2 g2 ∧ ex CC 0 LW1_2 ρ m = some (.nx, (ρ.set 18 (some (dV (dOf n1 g1)))).set 19 (some (dV (dOf n2 g2))), m') ∧ Sf l n tl m' := by
  obtain ⟨n1, g1, m1, e1, S1, P1⟩ := sp_lputting (k := 93) hps S
  obtain ⟨n2, g2, m2, e2, S2, P2⟩ := sp_lputting (k := 93) hps S1
  have z : 2 ≤ line := by unfold line; omega
  refine ⟨n1, g1, n2, g2, m2, P1, P2, ?_, S2⟩
  generalize dV (dOf n1 g1) = A at *
  generalize dV (dOf n2 g2) = B at *
  have i : 18 < ρ.length := by omega
  have j : 19 < ρ.length := by omega
  simp [ex, ev, evs, h1, h3, e1, e2, z, asg, asgs, i, j]
theorem pu_rl (P : Pu ps n1 g1) : (∀ p ∈ dOf n1 g1, dat (.str p.1) = true ∧ tm p.2 = true ∧ dat p.2 = true ∧ cnt p.2 ≤ 13 ∧ dep p.2 ≤ 3) ∧ (dOf n1 g1).length ≤ 4 := by
  refine ⟨fun p hp => ?_, ?_⟩
  · obtain ⟨d, hs⟩ := P.mem hp
    exact ⟨nm_dat _ (nm_sub hs), tmA_tm _ d.tm, d.dat, d.cnt, d.dep⟩
  · have : NM.length = 4 := rfl
    simp only [dOf, List.length_map, List.length_take]; omega
theorem w_34 (hl : ρ.length = 22) (P1 : Pu ps n1 g1) (P2 : Pu ps n2 g2) (ht : TmB ps 40 4 t) (h4 : ρ[4]? = some (some t)) (h18 : ρ[18]? = some (some (dV (dOf n1 g1)))) (h19 : ρ[19]? = some (some (dV (dOf n2 g2)))) : ∃ R, ex CC 0 LW1_3 ρ m = some (.nx, ρ.set 5 (some R), m) ∧ ex CC 0 LW1_4 (ρ.set 5 (some R)) m = some (.nx, ρ.set 5 (some R), m) := by
  obtain ⟨R, e, q⟩ := repr_two (pu_rl P1).1 (pu_rl P1).2 (pu_rl P2).1 (pu_rl P2).2
  have c1 : callM T 100 9 [t, dV (dOf n1 g1)] m = some (putF (dOf n1 g1) t, m) := sp_put P1.vok (by omega) 4 94 t m ht.dep (by have := ht.cnt; omega) ht.tm ht.dat rfl
  have c2 : callM T 100 21 [t, dV (dOf n1 g1)] m = some (putF (dOf n1 g1) t, m) := sp_lput P1.vok (by omega) 4 95 t m ht.dep (by have := ht.cnt; omega) ht.tm ht.dat rfl
  have hu := P1.put ht
  have e1 := eq_b (mh := m) hu hu (by omega) (by omega)
  have e1' : eqB (putF (dOf n1 g1) t) (putF (dOf n1 g1) t) = true := eqB_iff.mpr rfl
  rw [e1'] at e1
  have qm := q m
  have z : 2 ≤ line := by unfold line; omega
  generalize dV (dOf n1 g1) = A at *
  generalize dV (dOf n2 g2) = B at *
  generalize putF (dOf n1 g1) t = u at *
  refine ⟨.str R, ?_, ?_⟩
  · have i : 5 < ρ.length := by omega
    simp [ex, ev, evs, h18, h19, z, biV, one1, e, asg, i]
  · have k := Kp.set ρ 5 (some (.str R))
    have h5 := set_get (ρ := ρ) (i := 5) (v := some (.str R)) (by omega)
    have h18' := k.get h18
    have h19' := k.get h19
    have h4' := k.get h4
    generalize ρ.set 5 (some (.str R)) = ρ' at *
    have b1 : ev CC 0 (.cmp .ne (.call 9 [(.var 4), (.var 18)]) (.call 21 [(.var 4), (.var 18)])) ρ' m = some (.bl false, m) := by
      simp [ev, evs, h4', h18', c1, c2, cmpV, e1]
    have b2 : ev CC 0 (.cmp .ne (.bi .repr [(.tup [(.var 18), (.var 19)])]) (.var 5)) ρ' m = some (.bl false, m) := by
      simp [ev, evs, h5, h18', h19', z, biV, one1, e, cmpV, qm]
    rw [ex_iteF (ev_orB b1 fun _ => b2)]
    exact ex_done
theorem w_5 (hl : ρ.length = 22) (P1 : Pu ps n1 g1) (P2 : Pu ps n2 g2) (h18 : ρ[18]? = some (some (dV (dOf n1 g1)))) (h19 : ρ[19]? = some (some (dV (dOf n2 g2)))) : ex CC 0 LW1_5 ρ m = some (.nx, ρ.set 6 (some (dV (plD (fnd n1 n2 g1 g2)))), m) := by
  have c := sp_behind (k := 92) (mh := m) P1 P2
  generalize dV (plD (fnd n1 n2 g1 g2)) = D at *
  generalize dV (dOf n1 g1) = A at *
  generalize dV (dOf n2 g2) = B at *
  have i : 6 < ρ.length := by omega
  simp [ex, ev, evs, h18, h19, c, asg, i]
theorem w_6 (hl : ρ.length = 22) (S : Sf l n tl m) : ex CC 0 LW1_6 ρ m = some (.nx, ρ.set 7 (some (.loc (n + tl.length))), m ++ [some (.dct (aK []) (aV []))]) := by
  have := S.len
  have i : 7 < ρ.length := by omega
  simp [ex, ev, asg, this, i, aK, aV]
end
end L2.Mi.k04

set_option Elab.async false
set_option linter.all false
set_option maxRecDepth 100000
set_option maxHeartbeats 4000000
namespace L2.Mi.k04
open PySem PySem.Spec PyProof.Rows L2.Mi
/-! ### what both puttings do, by the law -/
abbrev WX : List Sx := [[87], [88], [89], [90]]
theorem wx_pair : WX.Pairwise (· ≤ ·) := by decide
theorem sortS_of {xs ys : List Sx} (hp : xs.Perm ys) (hs : ys.Pairwise (· ≤ ·)) : sortS xs = ys :=
  List.Perm.eq_of_pairwise (le := (· ≤ ·)) (fun a b _ _ x y => sx_le_anti x y) (sortS_pair xs) hs ((sortS_perm xs).trans hp)
theorem srt_nm {m : Nat} (h : m ≤ 4) : sortS (NM.take m) = WX.filter fun s => decide (s ∈ NM.take m) := by
  refine sortS_of ?_ (wx_pair.sublist List.filter_sublist)
  have : ∀ j, j < 5 → ((NM.take j).isPerm (WX.filter fun s => decide (s ∈ NM.take j))) = true := by decide
  exact List.isPerm_iff.mp (this m (by omega))
def duL (d1 d2 : AL) : AL := (WX.filter fun s => !isV s (hh d1 d2 s)).map fun s => (s, hh d1 d2 s)
section
variable {ps : List MV} {n1 n2 : Nat} {g1 g2 : Sx → MV}
theorem plD_due (h1 : n1 ≤ 4) (h2 : n2 ≤ 4) : plD (fnd n1 n2 g1 g2) = duL (dOf n1 g1) (dOf n2 g2) := by
  have hm : max n1 n2 ≤ 4 := by omega
  unfold plD
  rw [show (fnd n1 n2 g1 g2).map Prod.fst = NM.take (max n1 n2) from fst_map _, srt_nm hm, List.filter_filter]
  have hlk : ∀ s ∈ NM.take (max n1 n2), look (fnd n1 n2 g1 g2) s = some (hh (dOf n1 g1) (dOf n2 g2) s) := fun s hs => by simp only [fnd, dOf, look_map]; rw [if_pos hs]
  have ef : (WX.filter fun s => (!isV s ((look (fnd n1 n2 g1 g2) s).getD .non)) && decide (s ∈ NM.take (max n1 n2))) = WX.filter fun s => !isV s (hh (dOf n1 g1) (dOf n2 g2) s) := by
    refine List.filter_congr fun s hs => ?_
    by_cases hin : s ∈ NM.take (max n1 n2)
    · rw [hlk s hin]; simp [hin]
    · have a1 : s ∉ NM.take n1 := fun z => hin (List.take_subset_take_left _ (by omega) z)
      have a2 : s ∉ NM.take n2 := fun z => hin (List.take_subset_take_left _ (by omega) z)
      rw [hh_out a1 a2]
      simp [hin, isV]
  rw [ef]
  have em : ((WX.filter fun s => !isV s (hh (dOf n1 g1) (dOf n2 g2) s)).map fun s => (s, (look (fnd n1 n2 g1 g2) s).getD .non)) = duL (dOf n1 g1) (dOf n2 g2) := by
    refine List.map_congr_left fun s hs => ?_
    have hs2 := (List.mem_filter.mp hs).2
    have hin : s ∈ NM.take (max n1 n2) := by
      by_cases hin : s ∈ NM.take (max n1 n2)
      · exact hin
      · have a1 : s ∉ NM.take n1 := fun z => hin (List.take_subset_take_left _ (by omega) z)
        have a2 : s ∉ NM.take n2 := fun z => hin (List.take_subset_take_left _ (by omega) z)
        rw [hh_out a1 a2] at hs2
        simp [isV] at hs2
    rw [hlk s hin]; rfl
  rw [em]
  refine alF_nd ?_
  unfold duL
  rw [fst_map]
  exact (show WX.Nodup by decide).sublist List.filter_sublist
theorem du_keys {d1 d2 : AL} : (duL d1 d2).map Prod.fst = WX.filter fun s => !isV s (hh d1 d2 s) := fst_map _
theorem du_nd {d1 d2 : AL} : ((duL d1 d2).map Prod.fst).Nodup := by
  rw [du_keys]; exact (show WX.Nodup by decide).sublist List.filter_sublist
theorem du_sort {d1 d2 : AL} : sortS ((duL d1 d2).map Prod.fst) = (duL d1 d2).map Prod.fst := by
  rw [du_keys]; exact sortS_of (List.Perm.refl _) (wx_pair.sublist List.filter_sublist)
theorem wx_dat : ∀ s ∈ WX, dat (.str s) = true := by decide
theorem du_mem {d1 d2 : AL} {q : Sx × MV} (h : q ∈ duL d1 d2) : q.1 ∈ WX ∧ q.2 = hh d1 d2 q.1 := by
  obtain ⟨s, hs, rfl⟩ := List.mem_map.mp h
  exact ⟨(List.mem_filter.mp hs).1, rfl⟩
theorem du_len {d1 d2 : AL} : (duL d1 d2).length ≤ 4 := by
  unfold duL
  rw [List.length_map]
  exact List.length_filter_le _ WX
theorem du_vok (P1 : Pu ps n1 g1) (P2 : Pu ps n2 g2) : VOk (arOf ps) 169 6 (duL (dOf n1 g1) (dOf n2 g2)) :=
  ⟨fun q hq => by rw [(du_mem hq).2]; exact (hh_facts P1 P2 (wx_dat _ (du_mem hq).1)).1,
   fun q hq => by rw [(du_mem hq).2]; exact (hh_facts P1 P2 (wx_dat _ (du_mem hq).1)).2.1,
   fun q hq => by rw [(du_mem hq).2]; exact (hh_facts P1 P2 (wx_dat _ (du_mem hq).1)).2.2.1,
   fun q hq => by rw [(du_mem hq).2]; exact (hh_facts P1 P2 (wx_dat _ (du_mem hq).1)).2.2.2⟩
/-- one putting behind the other does both -/
theorem du_str (s : Sx) : putF (duL (dOf n1 g1) (dOf n2 g2)) (.str s) = putF (dOf n2 g2) (putF (dOf n1 g1) (.str s)) := by
  show (look (duL (dOf n1 g1) (dOf n2 g2)) s).getD (.str s) = hh (dOf n1 g1) (dOf n2 g2) s
  unfold duL
  rw [look_map]
  by_cases hin : s ∈ WX.filter fun s => !isV s (hh (dOf n1 g1) (dOf n2 g2) s)
  · rw [if_pos hin]; rfl
  · rw [if_neg hin]
    by_cases hw : s ∈ WX
    · cases q : isV s (hh (dOf n1 g1) (dOf n2 g2) s) with
      | true => exact (isV_iff.mp q).symm
      | false => exact absurd (List.mem_filter.mpr ⟨hw, by rw [q]; rfl⟩) hin
    · have nm : ∀ n, s ∉ NM.take n := fun n z => hw (by
        have := nm_sub z
        revert this
        simp only [NM, WX, List.mem_cons, List.not_mem_nil, or_false]
        rintro (h | h | h | h) <;> simp [h])
      rw [hh_out (nm n1) (nm n2)]; rfl
theorem du_put : ∀ (D : Nat) (t : MV), dep t ≤ D → tm t = true → dat t = true → putF (duL (dOf n1 g1) (dOf n2 g2)) t = putF (dOf n2 g2) (putF (dOf n1 g1) t)
  | 0, t, hD, ht, hd => by
    rcases tm_cases ht hd with ⟨s, rfl⟩ | ⟨s, xs, rfl, _, h⟩
    · exact du_str s
    · simp [dep] at hD
  | D + 1, t, hD, ht, hd => by
    rcases tm_cases ht hd with ⟨s, rfl⟩ | ⟨s, xs, rfl, hs, h⟩
    · exact du_str s
    · simp only [putF, putT, putFs_map, List.map_map]
      refine congrArg MV.tup (congrArg _ (List.map_congr_left fun x hx => ?_))
      exact du_put D x (by have := dep_mem (h := .str s) hx; omega) (h x hx).1 (h x hx).2
end
/-! ### the law's loop -/
def duF (d1 d2 : AL) (d : AL) (s : Sx) : AL := if isV s (hh d1 d2 s) = true then d else alP d s (hh d1 d2 s)
theorem duF_fold {d1 d2 : AL} : ∀ (L : List Sx) (d : AL), L.foldl (duF d1 d2) d = ((L.filter fun s => !isV s (hh d1 d2 s)).map fun s => (s, hh d1 d2 s)).foldl (fun d p => alP d p.1 p.2) d
  | [], d => rfl
  | s :: L, d => by
    rw [List.foldl_cons, duF_fold L]
    unfold duF
    cases q : isV s (hh d1 d2 s) <;> simp [q]
theorem duF_all {d1 d2 : AL} : WX.foldl (duF d1 d2) [] = duL d1 d2 := by
  rw [duF_fold]
  exact alF_nd (ps := duL d1 d2) du_nd
section
variable {ρ : Env} {l n : Nat} {tl m : MHp} {ps : List MV} {t : MV} {n1 n2 : Nat} {g1 g2 : Sx → MV}
theorem Kp.sub {J J' : List Nat} {a b : Env} (h : Kp J a b) (hs : ∀ i ∈ J, i ∈ J' := by decide) : Kp J' a b := ⟨h.1, fun i hi => h.2 i fun z => hi (hs i z)⟩
theorem du_step {A B r1 r : MV} {s : Sx} {d : AL} {b : Bool} (hl : ρ.length = 22) (h7 : ρ[7]? = some (some (.loc (n + tl.length)))) (h18 : ρ[18]? = some (some A)) (h19 : ρ[19]? = some (some B)) (c1 : callM T 100 21 [.str s, A] m = some (r1, m)) (c2 : callM T 100 21 [r1, B] m = some (r, m)) (q : eqV m r (.str s) = some b) (hd : d.length ≤ 1000)
    (S : Sf l n (tl ++ [some (.dct (aK d) (aV d))]) m) : ∃ ρ' m', forF CC 0 (.nm 8) LW1_7B (.str s) ρ m = some (.nx, ρ', m') ∧ Kp [8, 13] ρ ρ' ∧ Sf l n (tl ++ [some (.dct (aK (if b = true then d else alP d s r)) (aV (if b = true then d else alP d s r)))]) m' := by
  have top := S.top
  have zl : (aK d).length < line := by rw [aK_len]; unfold line; omega
  have w : wr 0 (n + tl.length) r = true := wr_own (Nat.zero_le _)
  have pk := (alP_put d s r).1
  have pv := (alP_put d s r).2
  have ast : asg m (.nm 8) (.str s) ρ = some (ρ.set 8 (some (.str s))) := by
    have : 8 < ρ.length := by omega
    simp [asg, this]
  have k2 := Kp.set ρ 8 (some (.str s))
  have b8 := set_get (ρ := ρ) (i := 8) (v := some (.str s)) (by omega)
  have b7 := k2.get h7
  have b18 := k2.get h18
  have b19 := k2.get h19
  have bl : (ρ.set 8 (some (.str s))).length = 22 := by simp [hl]
  unfold forF
  rw [ast]
  simp only
  generalize ρ.set 8 (some (.str s)) = ρ2 at *
  have s0 : ex CC 0 LW1_7_0 ρ2 m = some (.nx, ρ2.set 13 (some r), m) := by
    have i : 13 < ρ2.length := by omega
    simp [ex, ev, evs, b8, b18, b19, c1, c2, asg, i]
  have k3 := Kp.set ρ2 13 (some r)
  have d13 := set_get (ρ := ρ2) (i := 13) (v := some r) (by omega)
  have d8 := k3.get b8
  have d7 := k3.get b7
  have hk : Kp [8, 13] ρ (ρ2.set 13 (some r)) := (k2.trans k3).sub
  generalize ρ2.set 13 (some r) = ρ3 at *
  cases b with
  | true =>
    refine ⟨ρ3, m, ex_go s0 (ex_go (ρ1 := ρ3) (mh1 := m) ?_ ex_done), hk, S⟩
    have : ev CC 0 (.cmp .ne (.var 13) (.var 8)) ρ3 m = some (.bl false, m) := by
      simp [ev, d13, d8, cmpV, q]
    rw [ex_iteF this]
    exact ex_done
  | false =>
    refine ⟨ρ3, m.set (n + tl.length) (some (.dct (aK (alP d s r)) (aV (alP d s r)))), ex_go s0 (ex_go (ρ1 := ρ3) ?_ ex_done), hk, S.setTop⟩
    have : ev CC 0 (.cmp .ne (.var 13) (.var 8)) ρ3 m = some (.bl true, m) := by
      simp [ev, d13, d8, cmpV, q]
    rw [ex_iteT this]
    refine ex_go (ρ1 := ρ3) ?_ ex_done
    simp [ex, ev, d13, d8, d7, top, w, zl, pk, pv]
theorem du_loop {d1 d2 : AL} {J : Its} (hJ : J.src = none) : ∀ (L : List Sx) (d : AL) (ρ : Env) (m : MHp), (∀ s ∈ L, ∀ m, callM T 100 21 [.str s, dV d1] m = some (putF d1 (.str s), m) ∧ callM T 100 21 [putF d1 (.str s), dV d2] m = some (hh d1 d2 s, m) ∧ eqV m (hh d1 d2 s) (.str s) = some (isV s (hh d1 d2 s))) → ρ.length = 22 → ρ[7]? = some (some (.loc (n + tl.length))) → ρ[18]? = some (some (dV d1)) → ρ[19]? = some (some (dV d2)) → d.length + L.length ≤ 1000 →
    Sf l n (tl ++ [some (.dct (aK d) (aV d))]) m → ∃ ρ' m', forGo J (forF CC 0 (.nm 8) LW1_7B) (L.map .str) ρ m = some (.nx, ρ', m') ∧ Kp [8, 13] ρ ρ' ∧ Sf l n (tl ++ [some (.dct (aK (L.foldl (duF d1 d2) d)) (aV (L.foldl (duF d1 d2) d)))]) m'
  | [], d, ρ, m, _, _, _, _, _, _, S => ⟨ρ, m, forGo_nil_of hJ, (Kp.refl ρ).sub, S⟩
  | s :: L, d, ρ, m, h, hl, h7, h18, h19, hd, S => by
    obtain ⟨c1, c2, q⟩ := h s (by simp) m
    rw [List.length_cons] at hd
    obtain ⟨ρ1, m1, e1, k1, S1⟩ := du_step hl h7 h18 h19 c1 c2 q (by omega) S
    have hd' : (duF d1 d2 d s).length + L.length ≤ 1000 := by
      unfold duF
      split
      · omega
      · have := alP_len d s (hh d1 d2 s); omega
    obtain ⟨ρ2, m2, e2, k2, S2⟩ := du_loop hJ L (duF d1 d2 d s) ρ1 m1 (fun u hu => h u (List.mem_cons_of_mem _ hu)) (by rw [k1.1, hl]) (k1.get h7) (k1.get h18) (k1.get h19) hd' S1
    refine ⟨ρ2, m2, ?_, (k1.trans k2).sub, S2⟩
    rw [List.map_cons, forGo_cons_of hJ, e1]
    exact e2
theorem hh_calls (P1 : Pu ps n1 g1) (P2 : Pu ps n2 g2) : ∀ s ∈ WX, ∀ m, callM T 100 21 [.str s, dV (dOf n1 g1)] m = some (putF (dOf n1 g1) (.str s), m) ∧ callM T 100 21 [putF (dOf n1 g1) (.str s), dV (dOf n2 g2)] m = some (hh (dOf n1 g1) (dOf n2 g2) s, m) ∧ eqV m (hh (dOf n1 g1) (dOf n2 g2) s) (.str s) = some (isV s (hh (dOf n1 g1) (dOf n2 g2) s)) := fun s hs m => by
  have hds := wx_dat s hs
  have f1 : TmB ps 1 0 (.str s) := ⟨by simp [tmA], hds, by simp [cnt], by simp [dep]⟩
  have f2 := P1.put f1
  have f3 := P2.put f2
  exact ⟨sp_lput P1.vok (by omega) 0 99 _ m f1.dep (by have := f1.cnt; omega) f1.tm f1.dat rfl,
    sp_lput P2.vok (by omega) 3 96 _ m (by have := f2.dep; omega) (by have := f2.cnt; omega) f2.tm f2.dat rfl, eqV_b m (f3.pd (by omega)) (Pd.str hds) isV_iff⟩
theorem w_7 (hl : ρ.length = 22) (P1 : Pu ps n1 g1) (P2 : Pu ps n2 g2) (h7 : ρ[7]? = some (some (.loc (n + tl.length)))) (h18 : ρ[18]? = some (some (dV (dOf n1 g1)))) (h19 : ρ[19]? = some (some (dV (dOf n2 g2)))) (S : Sf l n (tl ++ [some (.dct (aK []) (aV []))]) m) :
    ∃ ρ' m', ex CC 0 LW1_7 ρ m = some (.nx, ρ', m') ∧ Kp [8, 13] ρ ρ' ∧ Sf l n (tl ++ [some (.dct (aK (duL (dOf n1 g1) (dOf n2 g2))) (aV (duL (dOf n1 g1) (dOf n2 g2))))]) m' := by
  have z : 4 ≤ line := by unfold line; omega
  have hst : sortedV m (.lst [.str [88], .str [89], .str [90], .str [87]]) = some (.lst (WX.map .str)) := by
    have e : sortS [[88], [89], [90], [87]] = WX := sortS_of (List.isPerm_iff.mp (by decide)) wx_pair
    have h3 := mapM_strOf [[88], [89], [90], [87]]
    simp only [List.map_cons, List.map_nil] at h3
    simp [sortedV, getL, intOf, tupI, h3, e]
  have hi : evI CC 0 (.bi .sorted [(.lst [(.c (.str [88])), (.c (.str [89])), (.c (.str [90])), (.c (.str [87]))])]) ρ m = some (⟨WX.map .str, none⟩, m) := by
    simp [evI, ev, evs, z, biV, one1, hst, itsOf]
  obtain ⟨ρ', m', e, k, S'⟩ := du_loop (l := l) (n := n) (tl := tl) (J := ⟨WX.map .str, none⟩) rfl WX [] ρ m (hh_calls P1 P2) hl h7 h18 h19 (by simp) S
  refine ⟨ρ', m', ?_, k, ?_⟩
  · rw [ex_for, hi]; exact e
  · rw [duF_all] at S'; exact S'
/-! ### == of dicts -/
theorem eqV_two {d : AL} {x y : MV} {mh : MHp} {N : Nat} (hx : frz 0 mh 8 x = some (dV d)) (hy : frz 0 mh 8 y = some (dV d)) (hn : (d.map Prod.fst).Nodup) (hv : ∀ p ∈ d, tm p.2 = true ∧ dat p.2 = true ∧ dep p.2 ≤ N) (hN : N ≤ 50) : eqV mh x y = some true := by
  have h1 : okD (dV d) = false := by unfold okD SeqAt.shaped toD PyData.canLay0; rfl
  have h2 : eqT (dV d) (dV d) = true := eqT_al (L := d) ⟨hn, fun p => Iff.rfl⟩ ⟨hn, fun p => Iff.rfl⟩ fun p hp => eqT_tm _ (hv p hp).1 (hv p hp).2.1
  have h3 : hgt (dV d) ≤ 60 := by
    have a := hgts_tm (aV d) (tms_iff.mpr fun x hx => by
      obtain ⟨p, hp, rfl⟩ := List.mem_map.mp hx
      exact (hv p hp).1)
    have b := deps_le (b := N) (xs := aV d) fun x hx => by
      obtain ⟨p, hp, rfl⟩ := List.mem_map.mp hx
      exact (hv p hp).2.2
    simp only [hgt]
    omega
  unfold eqV
  rw [hx, hy]
  simp only [h1, Bool.false_eq_true, false_and, if_false, h2, notTup]
  rw [if_pos ⟨trivial, h3, trivial⟩]
theorem frz_at {d : AL} {a : Nat} (h : m[a]? = some (some (.dct (aK d) (aV d)))) (hd : dats (aV d) = true) : frz 0 m 8 (.loc a) = some (dV d) := by
  unfold frz
  rw [if_neg (by omega)]
  simp only [h]
  rw [frzs_dat _ hd]
  rfl
theorem get_at {d : AL} {a : Nat} (h : m[a]? = some (some (.dct (aK d) (aV d)))) : getD m (.loc a) = some (aK d, aV d) := by
  simp only [getD, h]
theorem w_8 (hl : ρ.length = 22) (P1 : Pu ps n1 g1) (P2 : Pu ps n2 g2) (ht : TmB ps 40 4 t) (h4 : ρ[4]? = some (some t)) (h6 : ρ[6]? = some (some (dV (duL (dOf n1 g1) (dOf n2 g2))))) (h7 : ρ[7]? = some (some (.loc (n + tl.length)))) (h18 : ρ[18]? = some (some (dV (dOf n1 g1)))) (h19 : ρ[19]? = some (some (dV (dOf n2 g2)))) (S : Sf l n (tl ++ [some (.dct (aK (duL (dOf n1 g1) (dOf n2 g2))) (aV (duL (dOf n1 g1) (dOf n2 g2))))]) m) :
    ex CC 0 LW1_8 ρ m = some (.nx, ρ, m) := by
  have v := du_vok P1 P2
  have top := S.top
  have u1 := P1.put ht
  have u2 := P2.put u1
  have c1 : callM T 100 21 [t, dV (duL (dOf n1 g1) (dOf n2 g2))] m = some (putF (duL (dOf n1 g1) (dOf n2 g2)) t, m) := sp_lput v (by omega) 4 95 t m ht.dep (by have := ht.cnt; omega) ht.tm ht.dat rfl
  have c2 : callM T 100 21 [t, dV (dOf n1 g1)] m = some (putF (dOf n1 g1) t, m) := sp_lput P1.vok (by omega) 4 95 t m ht.dep (by have := ht.cnt; omega) ht.tm ht.dat rfl
  have c3 : callM T 100 21 [putF (dOf n1 g1) t, dV (dOf n2 g2)] m = some (putF (dOf n2 g2) (putF (dOf n1 g1) t), m) := sp_lput P2.vok (by omega) 7 92 _ m (by have := u1.dep; omega) (by have := u1.cnt; omega) u1.tm u1.dat rfl
  rw [du_put 4 t ht.dep (tmA_tm _ ht.tm) ht.dat] at c1
  have q3 := eq_b (mh := m) u2 u2 (by omega) (by omega)
  rw [eqB_iff.mpr rfl] at q3
  have hdd : dats (aV (duL (dOf n1 g1) (dOf n2 g2))) = true := dats_al v.dat
  have hf1 : frz 0 m 8 (dV (duL (dOf n1 g1) (dOf n2 g2))) = some (dV (duL (dOf n1 g1) (dOf n2 g2))) := frz_dat2 _ (by rw [dat2]; exact dats_dat2 _ hdd)
  have hf2 := frz_at top hdd
  have q2 := eqV_two (N := 6) hf1 hf2 du_nd (fun p hp => ⟨tmA_tm _ (v.tm p hp), v.dat p hp, v.dep p hp⟩) (by omega)
  have k1 : lstV m (dV (duL (dOf n1 g1) (dOf n2 g2))) = some (.lst (((duL (dOf n1 g1) (dOf n2 g2)).map Prod.fst).map .str)) := by
    have e1 : getL m (dV (duL (dOf n1 g1) (dOf n2 g2))) = none := rfl
    simp only [lstV, dV, getL, getD, Option.map_some, kM_keys, List.map_map]
    rfl
  have k2 := srt_getD (get_at top) (by have := du_len (d1 := dOf n1 g1) (d2 := dOf n2 g2); omega)
  rw [du_sort] at k2
  have q1 := eqV_refl m (x := .lst (((duL (dOf n1 g1) (dOf n2 g2)).map Prod.fst).map .str)) (by
    unfold dat
    refine dats_iff.mpr fun x hx => ?_
    obtain ⟨s, hs, rfl⟩ := List.mem_map.mp hx
    obtain ⟨p, hp, rfl⟩ := List.mem_map.mp hs
    exact wx_dat _ (du_mem hp).1) (by
    have : deps (((duL (dOf n1 g1) (dOf n2 g2)).map Prod.fst).map MV.str) ≤ 0 := deps_le fun x hx => by
      obtain ⟨s, hs, rfl⟩ := List.mem_map.mp hx
      simp [dep]
    simp only [dep]; omega)
  have ty : isTy (dV (duL (dOf n1 g1) (dOf n2 g2))) .dict m = some true := rfl
  generalize ((duL (dOf n1 g1) (dOf n2 g2)).map Prod.fst).map MV.str = KS at *
  generalize dV (duL (dOf n1 g1) (dOf n2 g2)) = D at *
  generalize hA : dV (dOf n1 g1) = A at *
  generalize hB : dV (dOf n2 g2) = B at *
  generalize putF (dOf n2 g2) (putF (dOf n1 g1) t) = r2 at *
  generalize putF (dOf n1 g1) t = r1 at *
  have b0 : ev CC 0 (.not (.isi (.var 6) .dict)) ρ m = some (.bl false, m) := by simp [ev, h6, ty]
  have b1 : ev CC 0 (.cmp .ne (.bi .list [(.var 6)]) (.bi .sorted [(.var 7)])) ρ m = some (.bl false, m) := by
    simp [ev, evs, h6, h7, biV, one1, k1, k2, cmpV, q1]
  have b2 : ev CC 0 (.cmp .ne (.var 6) (.var 7)) ρ m = some (.bl false, m) := by
    simp [ev, h6, h7, cmpV, q2]
  have b3 : ev CC 0 (.cmp .ne (.call 21 [(.var 4), (.var 6)]) (.call 21 [(.call 21 [(.var 4), (.var 18)]), (.var 19)])) ρ m = some (.bl false, m) := by
    simp [ev, evs, h4, h6, h18, h19, c1, c2, c3, cmpV, q3]
  rw [ex_iteF (ev_orB b0 fun _ => ev_orB b1 fun _ => ev_orB b2 fun _ => b3)]
  exact ex_done
end
end L2.Mi.k04

set_option Elab.async false
set_option linter.all false
set_option maxRecDepth 100000
set_option maxHeartbeats 4000000
namespace L2.Mi.k04
open PySem PySem.Spec PyProof.Rows L2.Mi
/-! ### how many names -/
theorem nd_len {α : Type} : ∀ (d L : List α), d.Nodup → (∀ p ∈ d, p ∈ L) → d.length ≤ L.length
  | [], L, _, _ => by simp
  | p :: d, L, hn, h => by
    rw [List.nodup_cons] at hn
    obtain ⟨A, B, rfl⟩ := List.mem_iff_append.mp (h p List.mem_cons_self)
    have := nd_len d (A ++ B) hn.2 fun q hq => by
      have h1 := h q (List.mem_cons_of_mem _ hq)
      have hne : q ≠ p := fun e => hn.1 (by rw [← e]; exact hq)
      simp only [List.mem_append, List.mem_cons] at h1 ⊢
      rcases h1 with h1 | h1 | h1
      · exact .inl h1
      · exact absurd h1 hne
      · exact .inr h1
    simp only [List.length_append, List.length_cons] at this ⊢
    omega
theorem occ_put {d : AL} : ∀ (D : Nat) (t : MV), dep t ≤ D → tm t = true → dat t = true → ∀ s ∈ occ (putF d t), ∃ u ∈ occ t, s ∈ occ (putF d (.str u)) := by
  intro D
  induction D with
  | zero =>
    intro t hD ht hd s hs
    rcases tm_cases ht hd with ⟨u, rfl⟩ | ⟨a, xs, rfl, _, q3⟩
    · exact ⟨u, by simp [occ], hs⟩
    · simp [dep] at hD
  | succ D ih =>
    intro t hD ht hd s hs
    rcases tm_cases ht hd with ⟨u, rfl⟩ | ⟨a, xs, rfl, _, q3⟩
    · exact ⟨u, by simp [occ], hs⟩
    · have e0 : putF d (.tup (.str a :: xs)) = .tup (.str a :: xs.map (putF d)) := by simp only [putF, putT, putFs_map]
      rw [e0, occ_tup] at hs
      obtain ⟨y, hy, hs⟩ := mem_occs.mp hs
      obtain ⟨x, hx, rfl⟩ := List.mem_map.mp hy
      obtain ⟨u, hu, e⟩ := ih x (by have := dep_mem (h := .str a) hx; omega) (q3 x hx).1 (q3 x hx).2 s hs
      exact ⟨u, by rw [occ_tup]; exact mem_occs.mpr ⟨x, hx, hu⟩, e⟩
section
variable {ps : List MV} {n1 : Nat} {g1 : Sx → MV} {t : MV}
theorem few_of {u : MV} {D : Nat} (hD : dep u ≤ D) (ht : tm u = true) (hd : dat u = true) (h : ∀ s ∈ occ u, s ∈ VA) : (vars u).length ≤ 7 := by
  obtain ⟨a, b⟩ := vars_occ D u hD ht hd
  have := nd_len (vars u) (VA.map .str) a fun v hv => by
    obtain ⟨s, hs, rfl⟩ := (b v).mp hv
    exact List.mem_map.mpr ⟨s, h s hs, rfl⟩
  simpa using this
theorem v5_va : ∀ s ∈ V5, s ∈ VA := by decide
theorem occ_other (P1 : Pu ps n1 g1) (d : Dr ps V5 40 4 t) : ∀ s ∈ occ (putF (dOf n1 g1) t), s ∈ VA := fun s hs => by
  obtain ⟨u, hu, e⟩ := occ_put 4 t d.dep (tmA_tm _ d.tm) d.dat s hs
  by_cases h : u ∈ NM.take n1
  · rw [put_in h] at e
    exact (P1.dr u h).sub s e
  · rw [put_out h] at e
    simp only [occ, List.mem_singleton] at e
    subst e
    exact v5_va _ (d.sub _ hu)
theorem few_t (d : Dr ps V5 40 4 t) : (vars t).length ≤ 7 := few_of d.dep (tmA_tm _ d.tm) d.dat fun s hs => v5_va _ (d.sub s hs)
theorem few_o (P1 : Pu ps n1 g1) (d : Dr ps V5 40 4 t) : (vars (putF (dOf n1 g1) t)).length ≤ 7 := by
  have u := P1.put d.b
  exact few_of u.dep (tmA_tm _ u.tm) u.dat (occ_other P1 d)
end
/-! ### the law's plain names -/
section
variable {ρ : Env} {l n : Nat} {tl m : MHp} {ps : List MV} {t : MV} {n1 n2 : Nat} {g1 g2 : Sx → MV}
theorem w_9 (hl : ρ.length = 22) (ht : TmB ps 40 4 t) (h4 : ρ[4]? = some (some t)) : ex CC 0 LW1_9 ρ m = some (.nx, ρ.set 9 (some (.lst (vars t))), m) := by
  have c : callM T 100 22 [t] m = some (.lst (vars t), m) := sp_names 4 95 t m ht.dep (by have := ht.cnt; omega) (tmA_tm _ ht.tm) ht.dat
  generalize vars t = V at *
  have i : 9 < ρ.length := by omega
  simp [ex, ev, evs, h4, c, asg, i]
theorem w_10 (hl : ρ.length = 22) (S : Sf l n tl m) : ex CC 0 LW1_10 ρ m = some (.nx, ρ.set 10 (some (.loc (n + tl.length))), m ++ [some (.dct (aK []) (aV []))]) := by
  have := S.len
  have i : 10 < ρ.length := by omega
  simp [ex, ev, asg, this, i, aK, aV]
def nmG (vs : List MV) (d : AL) (k : Nat) : AL := alP d (sx (vs.getD k .non)) (name k)
theorem nm_fold (vs : List MV) : (List.range vs.length).foldl (nmG vs) [] = nmD vs := by
  unfold nmD nmP
  rw [List.foldl_map]
  rfl
theorem nm_loop {vs : List MV} {J : Its} (hJ : J.src = none) (hA : AllS vs) : ∀ (L : List Nat) (d : AL) (ρ : Env) (m : MHp), (∀ k ∈ L, k < vs.length ∧ k < 64) → ρ.length = 22 → ρ[9]? = some (some (.lst vs)) → ρ[10]? = some (some (.loc (n + tl.length))) → d.length + L.length ≤ 1000 →
    Sf l n (tl ++ [some (.dct (aK d) (aV d))]) m → ∃ ρ' m', forGo J (forF CC 0 (.nm 11) LW1_11B) (L.map fun (k : Nat) => .int (k : Int)) ρ m = some (.nx, ρ', m') ∧ Kp [11] ρ ρ' ∧ Sf l n (tl ++ [some (.dct (aK (L.foldl (nmG vs) d)) (aV (L.foldl (nmG vs) d)))]) m'
  | [], d, ρ, m, _, _, _, _, _, S => ⟨ρ, m, forGo_nil_of hJ, (Kp.refl ρ).sub, S⟩
  | k :: L, d, ρ, m, h, hl, h9, h10, hd, S => by
    obtain ⟨hk, h64⟩ := h k (by simp)
    rw [List.length_cons] at hd
    obtain ⟨s, hs, _⟩ := hA vs[k] (List.getElem_mem hk)
    have g1 : subV m (.lst vs) (.int (k : Int)) = some (.str s) := by simp only [subV, getL, idx_get hk, hs]
    have g2 : strV (.int (k : Int)) = some (.str (dg k)) := strV_dg h64
    have g3 : addV m (.str [86]) (.str (dg k)) = some (name k) := by
      rw [add_str (by simp) (by have := (dg_ok h64).1; omega)]; rfl
    have g4 : sx (vs.getD k .non) = s := by
      rw [List.getD_eq_getElem?_getD, List.getElem?_eq_getElem hk, Option.getD_some, hs]; rfl
    have top := S.top
    have zl : (aK d).length < line := by rw [aK_len]; unfold line; omega
    have w : wr 0 (n + tl.length) (name k) = true := wr_own (Nat.zero_le _)
    have pk := (alP_put d s (name k)).1
    have pv := (alP_put d s (name k)).2
    have ast : asg m (.nm 11) (.int (k : Int)) ρ = some (ρ.set 11 (some (.int (k : Int)))) := by
      have : 11 < ρ.length := by omega
      simp [asg, this]
    have k2 := Kp.set ρ 11 (some (.int (k : Int)))
    have b11 := set_get (ρ := ρ) (i := 11) (v := some (.int (k : Int))) (by omega)
    have b9 := k2.get h9
    have b10 := k2.get h10
    have step : forF CC 0 (.nm 11) LW1_11B (.int (k : Int)) ρ m = some (.nx, ρ.set 11 (some (.int (k : Int))), m.set (n + tl.length) (some (.dct (aK (nmG vs d k)) (aV (nmG vs d k))))) := by
      unfold forF nmG
      rw [ast, g4]
      simp only
      generalize ρ.set 11 (some (.int (k : Int))) = ρ2 at *
      refine ex_go (ρ1 := ρ2) ?_ ex_done
      generalize name k = nk at *
      simp [ex, ev, evs, b9, b10, b11, g1, g2, biV, one1, binV, g3, top, w, zl, pk, pv]
    have hd' : (nmG vs d k).length + L.length ≤ 1000 := by
      have := alP_len d (sx (vs.getD k .non)) (name k)
      unfold nmG; omega
    obtain ⟨ρ2, m2, e2, kk, S2⟩ := nm_loop hJ hA L (nmG vs d k) (ρ.set 11 (some (.int (k : Int)))) _ (fun u hu => h u (List.mem_cons_of_mem _ hu)) (by simp [hl]) b9 b10 hd' (S.setTop (o' := some (.dct (aK (nmG vs d k)) (aV (nmG vs d k)))))
    refine ⟨ρ2, m2, ?_, (k2.trans kk).sub, S2⟩
    rw [List.map_cons, forGo_cons_of hJ, step]
    exact e2
theorem w_11 (hl : ρ.length = 22) {vs : List MV} (hA : AllS vs) (hv : vs.length ≤ 7) (h9 : ρ[9]? = some (some (.lst vs))) (h10 : ρ[10]? = some (some (.loc (n + tl.length)))) (S : Sf l n (tl ++ [some (.dct (aK []) (aV []))]) m) :
    ∃ ρ' m', ex CC 0 LW1_11 ρ m = some (.nx, ρ', m') ∧ Kp [11] ρ ρ' ∧ Sf l n (tl ++ [some (.dct (aK (nmD vs)) (aV (nmD vs)))]) m' := by
  have hi : evI CC 0 (.rng1 (.bi .len [(.var 9)])) ρ m = some (⟨(List.range vs.length).map fun (k : Nat) => .int (k : Int), none⟩, m) := evI_rng1 (by simp [ev, evs, h9, biV, one1, lenV, getL]) (by omega)
  obtain ⟨ρ', m', e, k, S'⟩ := nm_loop (J := ⟨(List.range vs.length).map fun (k : Nat) => .int (k : Int), none⟩) rfl hA (List.range vs.length) [] ρ m (fun k hk => by have := List.mem_range.mp hk; omega) hl h9 h10 (by simp; omega) S
  refine ⟨ρ', m', ?_, k, ?_⟩
  · rw [ex_for, hi]; exact e
  · rw [nm_fold] at S'; exact S'
theorem w_12 (ht : TmB ps 40 4 t) (hv : (vars t).length ≤ 7) (h4 : ρ[4]? = some (some t)) (h10 : ρ[10]? = some (some (.loc (n + tl.length)))) (S : Sf l n (tl ++ [some (.dct (aK (nmD (vars t))) (aV (nmD (vars t))))]) m) : ex CC 0 LW1_12 ρ m = some (.nx, ρ, m) := by
  have hk := nmD_vok (ar := arOf ps) (vs := vars t) (by omega)
  have c1 : callM T 100 13 [t] m = some (putF (nmD (vars t)) t, m) := sp_numbered (k := 92) (N := 4) ht.tm ht.dat ht.dep (by have := ht.cnt; omega) (by omega)
  have c2 : callM T 100 21 [t, .loc (n + tl.length)] m = some (putF (nmD (vars t)) t, m) := sp_lput hk (Nat.le_refl 1) 4 95 t m ht.dep (by have := ht.cnt; omega) ht.tm ht.dat (get_at S.top)
  have f := put_facts hk (Nat.le_refl 1) 4 t ht.dep ht.tm ht.dat
  have q := eqV_refl m f.2.1 (by have := f.2.2.2; have := ht.dep; omega)
  generalize putF (nmD (vars t)) t = r at *
  have b : ev CC 0 (.cmp .ne (.call 13 [(.var 4)]) (.call 21 [(.var 4), (.var 10)])) ρ m = some (.bl false, m) := by
    simp [ev, evs, h4, h10, c1, c2, cmpV, q]
  rw [ex_iteF b]
  exact ex_done
theorem w_13 (hl : ρ.length = 22) (P1 : Pu ps n1 g1) (ht : TmB ps 40 4 t) (h4 : ρ[4]? = some (some t)) (h18 : ρ[18]? = some (some (dV (dOf n1 g1)))) : ex CC 0 LW1_13 ρ m = some (.nx, ρ.set 12 (some (putF (dOf n1 g1) t)), m) := by
  have c2 : callM T 100 21 [t, dV (dOf n1 g1)] m = some (putF (dOf n1 g1) t, m) := sp_lput P1.vok (by omega) 4 95 t m ht.dep (by have := ht.cnt; omega) ht.tm ht.dat rfl
  generalize putF (dOf n1 g1) t = r at *
  generalize dV (dOf n1 g1) = A at *
  have i : 12 < ρ.length := by omega
  simp [ex, ev, evs, h4, h18, c2, asg, i]
theorem w_14 (hl : ρ.length = 22) (S : Sf l n tl m) : ex CC 0 LW1_14 ρ m = some (.nx, ρ.set 13 (some (.loc (n + tl.length))), m ++ [some (.lst [])]) := by
  have := S.len
  have i : 13 < ρ.length := by omega
  simp [ex, ev, evs, asg, this, i]
abbrev nmL (j : Nat) : List MV := (List.range j).map name
theorem tol_loop {J : Its} (hJ : J.src = none) : ∀ (L : List MV) (j : Nat) (ρ : Env) (m : MHp), j + L.length ≤ 60 → ρ.length = 22 → ρ[13]? = some (some (.loc (n + tl.length))) →
    Sf l n (tl ++ [some (.lst (nmL j))]) m → ∃ ρ' m', forGo J (forF CC 0 (.nm 8) LW1_15B) L ρ m = some (.nx, ρ', m') ∧ Kp [8] ρ ρ' ∧ Sf l n (tl ++ [some (.lst (nmL (j + L.length)))]) m'
  | [], j, ρ, m, _, _, _, S => ⟨ρ, m, forGo_nil_of hJ, (Kp.refl ρ).sub, S⟩
  | x :: L, j, ρ, m, hj, hl, h13, S => by
    rw [List.length_cons] at hj
    have top := S.top
    have hlen : (nmL j).length = j := by simp [nmL]
    have g2 : strV (.int (j : Int)) = some (.str (dg j)) := strV_dg (by omega)
    have g3 : addV m (.str [86]) (.str (dg j)) = some (name j) := by
      rw [add_str (by simp) (by have := (dg_ok (j := j) (by omega)).1; omega)]; rfl
    have g1 : lenV m (.loc (n + tl.length)) = some (.int (j : Int)) := by
      simp only [lenV, getL, top, hlen]
    have ast : asg m (.nm 8) x ρ = some (ρ.set 8 (some x)) := by
      have : 8 < ρ.length := by omega
      simp [asg, this]
    have k2 := Kp.set ρ 8 (some x)
    have b13 := k2.get h13
    have e1 : nmL j ++ [name j] = nmL (j + 1) := by simp [nmL, List.range_succ]
    have step : forF CC 0 (.nm 8) LW1_15B x ρ m = some (.nx, ρ.set 8 (some x), m.set (n + tl.length) (some (.lst (nmL (j + 1))))) := by
      unfold forF
      rw [ast]
      simp only
      generalize ρ.set 8 (some x) = ρ2 at *
      refine ex_go (ρ1 := ρ2) ?_ ex_done
      rw [← e1]
      refine ex_app b13 (by simp only [liveL, top]; rfl) ?_ top (wr_own (Nat.zero_le _)) (by rw [hlen]; omega)
      generalize name j = nj at *
      simp [ev, evs, b13, biV, one1, g1, g2, binV, g3]
    obtain ⟨ρ2, m2, e2, kk, S2⟩ := tol_loop hJ L (j + 1) (ρ.set 8 (some x)) _ (by omega) (by simp [hl]) b13 (S.setTop (o' := some (.lst (nmL (j + 1)))))
    refine ⟨ρ2, m2, ?_, (k2.trans kk).sub, by rw [List.length_cons, show j + (L.length + 1) = j + 1 + L.length by omega]; exact S2⟩
    rw [forGo_cons_of hJ, step]
    exact e2
theorem w_15 (hl : ρ.length = 22) {u : MV} (hu : TmB ps 520 7 u) (hv : (vars u).length ≤ 7) (h12 : ρ[12]? = some (some u)) (h13 : ρ[13]? = some (some (.loc (n + tl.length)))) (S : Sf l n (tl ++ [some (.lst [])]) m) :
    ∃ ρ' m', ex CC 0 LW1_15 ρ m = some (.nx, ρ', m') ∧ Kp [8] ρ ρ' ∧ Sf l n (tl ++ [some (.lst (nmL (vars u).length))]) m' := by
  have c : callM T 100 22 [u] m = some (.lst (vars u), m) := sp_names 7 92 u m hu.dep (by have := hu.cnt; omega) (tmA_tm _ hu.tm) hu.dat
  generalize vars u = V at *
  have hi : evI CC 0 (.call 22 [(.var 12)]) ρ m = some (⟨V, none⟩, m) := by simp [evI, ev, evs, h12, c, itsOf]
  obtain ⟨ρ', m', e, k, S'⟩ := tol_loop (J := ⟨V, none⟩) rfl V 0 ρ m (by omega) hl h13 S
  rw [Nat.zero_add] at S'
  exact ⟨ρ', m', by rw [ex_for, hi]; exact e, k, S'⟩
end
end L2.Mi.k04

set_option Elab.async false
set_option linter.all false
set_option maxRecDepth 100000
set_option maxHeartbeats 4000000
namespace L2.Mi.k04
open PySem PySem.Spec PyProof.Rows L2.Mi
theorem _root_.L2.Mi.Sf.at {l n i : Nat} {tl m : MHp} {o : Option MO} (S : Sf l n tl m) (h : tl[i]? = some o) : m[n + i]? = some o := by
  obtain ⟨hd, rfl, S⟩ := S
  rw [← S.1, List.getElem?_append_right (Nat.le_add_right _ _), Nat.add_sub_cancel_left]
  exact h
theorem ky_all : ∀ {vs : List MV}, AllS vs → vs.mapM kyV = some (vs.map fun v => .inr (sx v))
  | [], _ => rfl
  | v :: vs, h => by
    obtain ⟨s, rfl, _⟩ := h v (by simp)
    rw [List.mapM_cons, ky_all fun u hu => h u (List.mem_cons_of_mem _ hu)]
    rfl
theorem zip_nm (vs : List MV) : (vs.map fun v => (.inr (sx v) : MKey)).zip (nmL vs.length) = (nmP vs).map fun p => ((.inr p.1 : MKey), p.2) := by
  refine List.ext_getElem (by simp [nmP]) fun i h1 h2 => ?_
  simp [nmP]
  have hi : i < vs.length := by simp [nmP] at h2; exact h2
  simp [hi]
section
variable {ρ : Env} {l n : Nat} {tl m : MHp} {ps : List MV} {t : MV} {n1 n2 : Nat} {g1 g2 : Sx → MV}
theorem w_16 (hl : ρ.length = 22) {u : MV} (hu : TmB ps 520 7 u) (hv : (vars u).length ≤ 7) (h12 : ρ[12]? = some (some u)) (h13 : ρ[13]? = some (some (.loc (n + tl.length)))) (S : Sf l n (tl ++ [some (.lst (nmL (vars u).length))]) m) :
    ex CC 0 LW1_16 ρ m = some (.nx, ρ.set 14 (some (dV (nmD (vars u)))), m) := by
  have c : callM T 100 22 [u] m = some (.lst (vars u), m) := sp_names 7 92 u m hu.dep (by have := hu.cnt; omega) (tmA_tm _ hu.tm) hu.dat
  have hA := (vars_all u (tmA_tm _ hu.tm) hu.dat).1
  have top := S.top
  have i : 14 < ρ.length := by omega
  have g : dzipV m [.lst (vars u), .loc (n + tl.length)] = some (dV (nmD (vars u))) := by
    have e1 : getL m (.loc (n + tl.length)) = some (nmL (vars u).length) := by simp only [getL, top]
    have e2 : (nmL (vars u).length).length = (vars u).length := by simp [nmL]
    have e3 : (vars u).length ≤ 1000000 := by omega
    have e4 := dFold_alP (nmP (vars u)) []
    have e5 := zip_nm (vars u)
    have e0 : getL m (.lst (vars u)) = some (vars u) := rfl
    simp only [dzipV, e0, e1, Option.bind_some, ky_all hA, e2, e3, and_self, if_true, e5]
    have e6 : dFold ((nmP (vars u)).map fun p => ((.inr p.1 : MKey), p.2)) [] [] = (aK (nmD (vars u)), aV (nmD (vars u))) := e4
    rw [e6]
  generalize dV (nmD (vars u)) = D at *
  generalize vars u = V at *
  simp [ex, ev, evs, h12, h13, c, biV, g, asg, i]
theorem w_17 (ht : TmB ps 40 4 t) (hvt : (vars t).length ≤ 7) {u : MV} (hu : TmB ps 520 7 u) (hv : (vars u).length ≤ 7) (h4 : ρ[4]? = some (some t)) (h12 : ρ[12]? = some (some u)) (h14 : ρ[14]? = some (some (dV (nmD (vars u))))) {a : Nat} (h10 : ρ[10]? = some (some (.loc a))) (ha : m[a]? = some (some (.dct (aK (nmD (vars t))) (aV (nmD (vars t)))))) :
    ex CC 0 LW1_17 ρ m = some (.nx, ρ, m) := by
  have hk := nmD_vok (ar := arOf ps) (vs := vars t) (by omega)
  have hk' := nmD_vok (ar := arOf ps) (vs := vars u) (by omega)
  have c2 : callM T 100 21 [t, .loc a] m = some (putF (nmD (vars t)) t, m) := sp_lput hk (Nat.le_refl 1) 4 95 t m ht.dep (by have := ht.cnt; omega) ht.tm ht.dat (get_at ha)
  have c3 : callM T 100 21 [u, dV (nmD (vars u))] m = some (putF (nmD (vars u)) u, m) := sp_lput hk' (Nat.le_refl 1) 7 92 u m hu.dep (by have := hu.cnt; omega) hu.tm hu.dat rfl
  obtain ⟨b, c1, hb⟩ := sp_alike (ar := arOf ps) (k := 88) (mh := m) (N := 7) ht.tm ht.dat (by have := ht.dep; omega) (by have := ht.cnt; omega) (by omega) hu.tm hu.dat hu.dep (by have := hu.cnt; omega) (by omega) (by omega)
  have f := put_facts hk (Nat.le_refl 1) 4 t ht.dep ht.tm ht.dat
  have f' := put_facts hk' (Nat.le_refl 1) 7 u hu.dep hu.tm hu.dat
  have q : eqV m (putF (nmD (vars u)) u) (putF (nmD (vars t)) t) = some b := eqV_b m (pd_of (N := 7) f'.1 f'.2.1 (by have := f'.2.2.2; have := hu.dep; omega) (by omega)) (pd_of (N := 4) f.1 f.2.1 (by have := f.2.2.2; have := ht.dep; omega) (by omega)) (hb.trans eq_comm)
  have qb := eqV_bl m b b
  have e : decide (b = b) = true := by simp
  rw [e] at qb
  generalize putF (nmD (vars t)) t = r at *
  generalize putF (nmD (vars u)) u = r' at *
  generalize dV (nmD (vars u)) = D at *
  have bb : ev CC 0 (.cmp .ne (.call 14 [(.var 4), (.var 12)]) (.cmp .eq (.call 21 [(.var 12), (.var 14)]) (.call 21 [(.var 4), (.var 10)]))) ρ m = some (.bl false, m) := by
    simp [ev, evs, h4, h12, h14, h10, c1, c2, c3, cmpV, q, qb]
  rw [ex_iteF bb]
  exact ex_done
theorem w_18 (hl : ρ.length = 22) (h18 : ρ[18]? = some (some (dV (dOf n1 g1)))) : ex CC 0 LW1_18 ρ m = some (.nx, ρ.set 15 (some (.lst ((NM.take n1).map g1))), m) := by
  have hv1 : ∀ s ∈ NM.take n1, subV m (dV (dOf n1 g1)) (.str s) = some (g1 s) := fun s hs => by rw [dsub, dOf, look_map, if_pos hs]
  have hi1 : itsOf m (dV (dOf n1 g1)) = some ⟨(NM.take n1).map .str, none⟩ := by rw [its_al, fst_map]
  have hnl : NM.length = 4 := rfl
  have hl2 : (NM.take n1).length ≤ 4 := by rw [List.length_take]; omega
  generalize dV (dOf n1 g1) = A at *
  generalize NM.take n1 = L at *
  have c : ev CC 0 (.comp (.nm 8) [8] (.var 18) (.c (.bl true)) (.sub (.var 18) (.var 8))) ρ m = some (.lst (L.map g1), m) := by
    refine ev_compM (evI_var h18 hi1) (line_le (by omega)) fun s hs => ?_
    have i : 8 < ρ.length := by omega
    refine compF_T (ρ' := (ρ.set 8 none).set 8 (some (.str s))) (by simp [asg, wipeE, i]) (by rw [ev]) ?_
    have k := (Kp.set ρ 8 none).trans (Kp.set (ρ.set 8 none) 8 (some (.str s)))
    have a := k.get h18
    have b := set_get (ρ := ρ.set 8 none) (i := 8) (v := some (.str s)) (by simp; omega)
    generalize (ρ.set 8 none).set 8 (some (.str s)) = ρ2 at *
    simp [ev, a, b, hv1 s hs]
  have i : 15 < ρ.length := by omega
  rw [ex, c]
  simp [asg, i]
end
end L2.Mi.k04

set_option Elab.async false
set_option linter.all false
set_option maxRecDepth 100000
set_option maxHeartbeats 4000000
namespace L2.Mi.k04
open PySem PySem.Spec PyProof.Rows L2.Mi
section
variable {ρ : Env} {l n : Nat} {tl m : MHp} {ps : List MV} {t : MV} {n1 n2 : Nat} {g1 g2 : Sx → MV}
theorem filt0 {α : Type} {p : α → Bool} {xs : List α} : (((xs.filter fun x => !p x).length : Nat) : Int) = 0 ↔ xs.all p = true := by
  rw [List.all_eq_true]
  constructor
  · intro h x hx
    have h0 : (xs.filter fun x => !p x) = [] := List.length_eq_zero_iff.mp (by omega)
    cases q : p x with
    | true => rfl
    | false =>
      have : x ∈ xs.filter fun x => !p x := List.mem_filter.mpr ⟨hx, by rw [q]; rfl⟩
      rw [h0] at this
      simp at this
  · intro h
    have h0 : (xs.filter fun x => !p x) = [] := List.filter_eq_nil_iff.mpr fun x hx => by rw [h x hx]; simp
    rw [h0]; rfl
theorem len0 {p : Bool} {α : Type} {xs : List α} {m : MHp} {ρ : Env} {c : ME} {f : α → MV} (h : ev CC 0 c ρ m = some (.lst (xs.map f), m)) (hp : ((xs.length : Nat) : Int) = 0 ↔ p = true) : ev CC 0 (.cmp .eq (.bi .len [c]) (.c (.int (0)))) ρ m = some (.bl p, m) := by
  have q := eqV_int m ((xs.length : Nat) : Int) 0
  have e : decide (((xs.length : Nat) : Int) = 0) = p := by
    cases p with
    | true => exact decide_eq_true (hp.mpr rfl)
    | false => exact decide_eq_false fun z => by have := hp.mp z; cases this
  rw [e] at q
  simp [ev, evs, h, biV, one1, lenV, getL, cmpV, q]
theorem w_19 (hl : ρ.length = 22) (P : Pu ps n1 g1) (h15 : ρ[15]? = some (some (.lst ((NM.take n1).map g1)))) : ex CC 0 LW1_19 ρ m = some (.nx, ρ.set 16 (some (.bl (renB n1 g1))), m) := by
  have hnl : NM.length = 4 := rfl
  have hl2 : (NM.take n1).length ≤ 4 := by rw [List.length_take]; omega
  have hd := fun s hs => (P.dr s hs).dat
  unfold renB
  generalize NM.take n1 = L at *
  have c1 : ev CC 0 (.comp (.nm 20) [20] (.var 15) (.not (.isi (.var 20) .str)) (.var 20)) ρ m = some (.lst ((L.filter fun s => !isS (g1 s)).map g1), m) := by
    refine ev_compF (emb := g1) (evI_var h15 rfl) (line_le (by omega)) fun s hs => ?_
    have i : 20 < ρ.length := by omega
    have b := set_get (ρ := ρ.set 20 none) (i := 20) (v := some (g1 s)) (by simp; omega)
    have ty := isTy_strV (v := g1 s) (mh := m) (dat_dat2 _ (hd s hs))
    refine compF_B (ρ' := (ρ.set 20 none).set 20 (some (g1 s))) (by simp [asg, wipeE, i]) ?_ fun _ => ?_
    · generalize (ρ.set 20 none).set 20 (some (g1 s)) = ρ2 at *
      simp [ev, b, ty]
    · generalize (ρ.set 20 none).set 20 (some (g1 s)) = ρ2 at *
      simp [ev, b]
  have b1 := len0 c1 (filt0 (p := fun s => isS (g1 s)) (xs := L))
  have b2 : (L.all fun s => isS (g1 s)) = true → ev CC 0 (.cmp .eq (.bi .len [(.comp (.nm 11) [11] (.rng1 (.bi .len [(.var 15)])) (.cmp .mem (.sub (.var 15) (.var 11)) (.slcH (.var 15) (.var 11))) (.var 11))]) (.c (.int (0)))) ρ m = some (.bl (decide ((L.map fun s => sx (g1 s)).Nodup)), m) := fun ha => by
    have er : L.map g1 = (L.map fun s => sx (g1 s)).map .str := by
      rw [List.map_map]
      refine List.map_congr_left fun s hs => isS_sx (List.all_eq_true.mp ha s hs)
    have hds : ∀ s ∈ L.map fun s => sx (g1 s), dat (.str s) = true := fun s hs => by
      obtain ⟨u, hu, rfl⟩ := List.mem_map.mp hs
      rw [← isS_sx (List.all_eq_true.mp ha u hu)]
      exact hd u hu
    rw [er] at h15
    have hls : (L.map fun s => sx (g1 s)).length ≤ 4 := by rw [List.length_map]; exact hl2
    generalize L.map (fun s => sx (g1 s)) = ss at *
    have hi : evI CC 0 (.rng1 (.bi .len [(.var 15)])) ρ m = some (⟨(List.range ss.length).map fun (k : Nat) => .int (k : Int), none⟩, m) := evI_rng1 (by simp [ev, evs, h15, biV, one1, lenV, getL]) (by omega)
    have c2 : ev CC 0 (.comp (.nm 11) [11] (.rng1 (.bi .len [(.var 15)])) (.cmp .mem (.sub (.var 15) (.var 11)) (.slcH (.var 15) (.var 11))) (.var 11)) ρ m = some (.lst (((List.range ss.length).filter fun k => !!decide (ss.getD k [] ∈ ss.take k)).map fun (k : Nat) => .int (k : Int)), m) := by
      refine ev_compF hi (by rw [List.length_range]; exact line_le (by omega)) fun k hk => ?_
      have hk := List.mem_range.mp hk
      have i : 11 < ρ.length := by omega
      have b := set_get (ρ := ρ.set 11 none) (i := 11) (v := some (.int (k : Int))) (by simp; omega)
      have kk := (Kp.set ρ 11 none).trans (Kp.set (ρ.set 11 none) 11 (some (.int (k : Int))))
      have a15 := kk.get h15
      have e1 : subV m (.lst (ss.map .str)) (.int (k : Int)) = some (.str (ss.getD k [])) := by
        have : k < (ss.map MV.str).length := by rw [List.length_map]; exact hk
        simp [subV, getL, idx_get this, hk]
      have e2 : slcV m (.lst (ss.map .str)) none (some (k : Int)) = some (.lst ((ss.take k).map .str)) := by
        simp only [slcV, getL, Option.map_some, cut_take, List.map_take]
      have hdk : dat (.str (ss.getD k [])) = true := hds _ (by rw [List.getD_eq_getElem?_getD, List.getElem?_eq_getElem hk]; exact List.getElem_mem hk)
      have pdl : Pd (.lst ((ss.take k).map .str)) := Pd.lst (n := 0) (by omega) fun x hx => by
        obtain ⟨s, hs, rfl⟩ := List.mem_map.mp hx
        exact ⟨hds s (List.mem_of_mem_take hs), rfl, by simp [dep]⟩
      have fz : frz 0 m 8 (.lst ((ss.take k).map .str)) = some (.lst ((ss.take k).map .str)) := frz_dat _ pdl.dat
      have e3 : memV m (.str (ss.getD k [])) (.lst ((ss.take k).map .str)) = some (decide (ss.getD k [] ∈ ss.take k)) := memV_b m (Pd.str hdk) fz (fun c t z => by cases z.2) pdl (by
        rw [decide_eq_true_iff]
        constructor
        · exact fun z => List.mem_map.mpr ⟨_, z, rfl⟩
        · intro z
          obtain ⟨s, hs, e⟩ := List.mem_map.mp z
          cases e
          exact hs)
      refine compF_B (ρ' := (ρ.set 11 none).set 11 (some (.int (k : Int)))) (by simp [asg, wipeE, i]) ?_ fun _ => ?_
      · generalize (ρ.set 11 none).set 11 (some (.int (k : Int))) = ρ2 at *
        rw [Bool.not_not]
        simp only [ev, b, a15, e1, e2, cmpV, e3, Option.map_some]
      · generalize (ρ.set 11 none).set 11 (some (.int (k : Int))) = ρ2 at *
        simp [ev, b]
    refine len0 c2 ?_
    rw [filt0 (p := fun k => !decide (ss.getD k [] ∈ ss.take k)), decide_eq_true_iff, nodup_take, List.all_eq_true]
    constructor
    · intro h k hk z
      have := h k (List.mem_range.mpr hk)
      rw [List.getD_eq_getElem?_getD, List.getElem?_eq_getElem hk] at this
      simp [z] at this
    · intro h k hk
      have hk := List.mem_range.mp hk
      have := h k hk
      rw [List.getD_eq_getElem?_getD, List.getElem?_eq_getElem hk]
      simp [this]
  have i : 16 < ρ.length := by omega
  rw [ex, ev_andB b1 b2]
  simp [asg, i]
theorem w_20 (P : Pu ps n1 g1) (h16 : ρ[16]? = some (some (.bl (renB n1 g1)))) (h18 : ρ[18]? = some (some (dV (dOf n1 g1)))) : ex CC 0 LW1_20 ρ m = some (.nx, ρ, m) := by
  have c := sp_ren (k := 97) (mh := m) P
  have q := eqV_bl m (renB n1 g1) (renB n1 g1)
  have e : decide (renB n1 g1 = renB n1 g1) = true := by simp
  rw [e] at q
  generalize renB n1 g1 = b at *
  generalize dV (dOf n1 g1) = A at *
  have bb : ev CC 0 (.cmp .ne (.call 12 [(.var 18)]) (.var 16)) ρ m = some (.bl false, m) := by
    simp [ev, evs, h16, h18, c, cmpV, q]
  rw [ex_iteF bb]
  exact ex_done
def prL (d : AL) (t u : MV) (r : Nat) : List (MV × MV) := [(t, u), (putF d t, putF d u)].take (1 + r)
theorem w_21 (hl : ρ.length = 22) (P : Pu ps n1 g1) (ht : TmB ps 40 4 t) {u : MV} (hu : TmB ps 520 7 u) (h1 : ρ[1]? = some (some (.loc l))) (h4 : ρ[4]? = some (some t)) (h12 : ρ[12]? = some (some u)) (h18 : ρ[18]? = some (some (dV (dOf n1 g1)))) (S : Sf l n tl m) : ∃ r m', ex CC 0 LW1_21 ρ m = some (.nx, ρ.set 17 (some (.lst ((prL (dOf n1 g1) t u r).map pV2))), m') ∧ Sf l n tl m' := by
  obtain ⟨r, m', e, S', r0, r2, _⟩ := take_f hTake 99 S 2 (by omega)
  have r2 := r2 (by omega)
  obtain ⟨j, rfl, hj⟩ : ∃ j : Nat, r = (j : Int) ∧ j ≤ 1 := ⟨r.toNat, by omega, by omega⟩
  have c1 : callM T 100 21 [t, dV (dOf n1 g1)] m = some (putF (dOf n1 g1) t, m) := sp_lput P.vok (by omega) 4 95 t m ht.dep (by have := ht.cnt; omega) ht.tm ht.dat rfl
  have c2 : callM T 100 21 [u, dV (dOf n1 g1)] m = some (putF (dOf n1 g1) u, m) := sp_lput P.vok (by omega) 7 92 u m hu.dep (by have := hu.cnt; omega) hu.tm hu.dat rfl
  refine ⟨j, m', ?_, S'⟩
  have ct : cut [MV.tup [t, u], .tup [putF (dOf n1 g1) t, putF (dOf n1 g1) u]] none (some (1 + (j : Int))) = (prL (dOf n1 g1) t u j).map pV2 := by
    rw [show (1 : Int) + (j : Int) = ((1 + j : Nat) : Int) by omega, cut_take]
    unfold prL
    rw [List.map_take]; rfl
  generalize (prL (dOf n1 g1) t u j).map pV2 = R at *
  generalize dV (dOf n1 g1) = A at *
  generalize putF (dOf n1 g1) t = x at *
  generalize putF (dOf n1 g1) u = y at *
  have z : 2 ≤ line := by unfold line; omega
  have i : 17 < ρ.length := by omega
  simp [ex, ev, evs, h1, h4, h12, h18, c1, c2, z, e, binV, add_int, slcV, getL, ct, asg, i]
theorem prL_b (P : Pu ps n1 g1) (ht : TmB ps 40 4 t) {u : MV} (hu : TmB ps 520 7 u) (r : Nat) : ∀ p ∈ prL (dOf n1 g1) t u r, TmB ps 7000 12 p.1 ∧ TmB ps 7000 12 p.2 := fun p hp => by
  have hp := List.mem_of_mem_take hp
  have a := P.put ht
  have b := P.put hu
  simp only [List.mem_cons, List.not_mem_nil, or_false] at hp
  rcases hp with rfl | rfl
  · exact ⟨ht.up (by omega) (by omega), hu.up (by omega) (by omega)⟩
  · exact ⟨a.up (by omega) (by omega), b.up (by omega) (by omega)⟩
theorem w_22 (hl : ρ.length = 22) (P : Pu ps n1 g1) (ht : TmB ps 40 4 t) {u : MV} (hu : TmB ps 520 7 u) {r : Nat} (h17 : ρ[17]? = some (some (.lst ((prL (dOf n1 g1) t u r).map pV2)))) (h18 : ρ[18]? = some (some (dV (dOf n1 g1)))) : ex CC 0 LW1_22 ρ m = some (.nx, ρ, m) := by
  have hL := prL_b P ht hu r
  have hll : (prL (dOf n1 g1) t u r).length ≤ 2 := by unfold prL; rw [List.length_take]; simp; omega
  generalize prL (dOf n1 g1) t u r = L at *
  have c := sp_solves (k := 85) (mh := m) P hL (by omega)
  have hc : ∀ x, TmB ps 7000 12 x → callM T 100 21 [x, dV (dOf n1 g1)] m = some (putF (dOf n1 g1) x, m) := fun x h => sp_lput P.vok (by omega) 12 87 x m h.dep (by have := h.cnt; omega) h.tm h.dat rfl
  have hq : ∀ p ∈ L, eqV m (putF (dOf n1 g1) p.1) (putF (dOf n1 g1) p.2) = some (eqB (putF (dOf n1 g1) p.1) (putF (dOf n1 g1) p.2)) := fun p hp => eq_b (P.put (hL p hp).1) (P.put (hL p hp).2) (by omega) (by omega)
  generalize dV (dOf n1 g1) = A at *
  generalize dOf n1 g1 = d at *
  have c1 : ev CC 0 (.comp (.nm 21) [21] (.var 17) (.cmp .ne (.call 21 [(.sub (.var 21) (.c (.int (0)))), (.var 18)]) (.call 21 [(.sub (.var 21) (.c (.int (1)))), (.var 18)])) (.var 21)) ρ m = some (.lst ((L.filter fun p => !eqB (putF d p.1) (putF d p.2)).map pV2), m) := by
    refine ev_compF (emb := pV2) (evI_var h17 rfl) (line_le (by omega)) fun p hp => ?_
    have i : 21 < ρ.length := by omega
    have b := set_get (ρ := ρ.set 21 none) (i := 21) (v := some (pV2 p)) (by simp; omega)
    have kk := (Kp.set ρ 21 none).trans (Kp.set (ρ.set 21 none) 21 (some (pV2 p)))
    have a18 := kk.get h18
    have x1 := hc _ (hL p hp).1
    have x2 := hc _ (hL p hp).2
    have s0 : subV m (.tup [p.1, p.2]) (.int 0) = some p.1 := by simp only [subV]; exact atI0
    have s1 : subV m (.tup [p.1, p.2]) (.int 1) = some p.2 := by simp only [subV]; exact atI1
    refine compF_B (ρ' := (ρ.set 21 none).set 21 (some (pV2 p))) (by simp [asg, wipeE, i]) ?_ fun _ => ?_
    · generalize (ρ.set 21 none).set 21 (some (pV2 p)) = ρ2 at *
      simp [ev, evs, b, a18, s0, s1, x1, x2, cmpV, hq p hp]
    · generalize (ρ.set 21 none).set 21 (some (pV2 p)) = ρ2 at *
      simp [ev, b]
  have b1 := len0 c1 (filt0 (p := fun p : MV × MV => eqB (putF d p.1) (putF d p.2)) (xs := L))
  have q := eqV_bl m (L.all fun p => eqB (putF d p.1) (putF d p.2)) (L.all fun p => eqB (putF d p.1) (putF d p.2))
  have e : decide ((L.all fun p => eqB (putF d p.1) (putF d p.2)) = (L.all fun p => eqB (putF d p.1) (putF d p.2))) = true := by simp
  rw [e] at q
  generalize (L.all fun p => eqB (putF d p.1) (putF d p.2)) = B at *
  have bb : ev CC 0 (.cmp .ne (.call 15 [(.var 18), (.var 17)]) (.cmp .eq (.bi .len [(.comp (.nm 21) [21] (.var 17) (.cmp .ne (.call 21 [(.sub (.var 21) (.c (.int (0)))), (.var 18)]) (.call 21 [(.sub (.var 21) (.c (.int (1)))), (.var 18)])) (.var 21))]) (.c (.int (0))))) ρ m = some (.bl false, m) := by
    have b0 : ev CC 0 (.call 15 [(.var 18), (.var 17)]) ρ m = some (.bl B, m) := by simp [ev, evs, h18, h17, c]
    rw [ev, b0]
    simp only [b1, cmpV, q]
    rfl
  rw [ex_iteF bb]
  exact ex_done
end
end L2.Mi.k04

set_option Elab.async false
set_option linter.all false
set_option maxRecDepth 100000
set_option maxHeartbeats 4000000
namespace L2.Mi.k04
open PySem PySem.Spec PyProof.Rows L2.Mi
section
variable {ρ : Env} {l n : Nat} {tl m : MHp} {ps : List MV} {t : MV} {n1 n2 : Nat} {g1 g2 : Sx → MV}
theorem isn_f (b c : Bool) (h : b = c) : cmpV m .isn (.bl b) (.bl c) = some false := by
  subst h
  simp [cmpV, L2.Mi.isV]
theorem put_yes (hps : ps ∈ tongues) (P : Pu ps n1 g1) : callM T 100 8 [dV (dOf n1 g1), .tup ps] m = some (.bl true, m) := by
  have hp := tokP_of hps
  have c := sp_isput (k := 96) (mh := m) (d := dOf n1 g1) hp.pair (tokG_of hps).dat (fun p hpm => by
    obtain ⟨d, hs⟩ := P.mem hpm
    refine ⟨nm_dat _ (nm_sub hs), d.dat, by have := d.cnt; unfold line; omega, ?_⟩
    obtain ⟨s, hs', rfl⟩ := List.mem_map.mp hpm
    rw [dOf, look_map, if_pos hs']) (by have := (pu_rl P).2; omega)
  have e : (((dOf n1 g1).all fun p => wordB upper (.str p.1)) && (dOf n1 g1).all fun p => termB ps p.2) = true := by
    rw [Bool.and_eq_true, List.all_eq_true, List.all_eq_true]
    refine ⟨fun p hpm => (nm_va _ (nm_sub (P.mem hpm).2)).2.1, fun p hpm => ?_⟩
    have d := (P.mem hpm).1
    unfold termB
    rw [d.gd]
    have := d.cnt
    simp; omega
  rw [e] at c
  exact c
theorem put_no (hps : ps ∈ tongues) {s : Sx} {v : MV} (hs : dat (.str s) = true) (hv : dat v = true) (hc : cnt v ≤ 400) (h : (wordB upper (.str s) && termB ps v) = false) : callM T 100 8 [dV [(s, v)], .tup ps] m = some (.bl false, m) := by
  have hp := tokP_of hps
  have c := sp_isput (k := 96) (mh := m) (d := [(s, v)]) hp.pair (tokG_of hps).dat (fun p hpm => by
    rw [List.mem_singleton.mp hpm]
    exact ⟨hs, hv, by show cnt v ≤ line; unfold line; omega, by simp [look]⟩) (by simp)
  simp only [List.all_cons, List.all_nil, Bool.and_true, h] at c
  exact c
theorem w_23 (hps : ps ∈ tongues) (P : Pu ps n1 g1) (h3 : ρ[3]? = some (some (.tup ps))) (h18 : ρ[18]? = some (some (dV (dOf n1 g1)))) : ex CC 0 LW1_23 ρ m = some (.nx, ρ, m) := by
  have c1 := put_yes (m := m) hps P
  have c2 := put_no (m := m) hps (s := [88]) (v := .tup [.str [122, 122, 122]]) (by decide) (by decide) (by simp [cnt, cntT, cnts]) (by unfold termB; rw [(tokP_of hps).zz]; simp)
  have c3 := put_no (m := m) hps (s := [120]) (v := .str [88]) (by decide) (by decide) (by simp [cnt]) (by
    have : wordB upper (.str [120]) = false := by decide
    rw [this]; rfl)
  have z : 1 ≤ line := by unfold line; omega
  generalize dV (dOf n1 g1) = A at *
  have b1 : ev CC 0 (.cmp .isn (.call 8 [(.var 18), (.var 3)]) (.c (.bl true))) ρ m = some (.bl false, m) := by
    simp [ev, evs, h3, h18, c1, isn_f]
  have b2 : ev CC 0 (.cmp .isn (.call 8 [(.disp1 (.c (.str [88])) (.tup [(.c (.str [122, 122, 122]))])), (.var 3)]) (.c (.bl false))) ρ m = some (.bl false, m) := by
    have c2' : callM T 100 8 [.dct [.inr [88]] [.tup [.str [122, 122, 122]]], .tup ps] m = some (.bl false, m) := c2
    simp [ev, evs, h3, z, kyV, c2', isn_f]
  have b3 : ev CC 0 (.cmp .isn (.call 8 [(.disp1 (.c (.str [120])) (.c (.str [88]))), (.var 3)]) (.c (.bl false))) ρ m = some (.bl false, m) := by
    have c3' : callM T 100 8 [.dct [.inr [120]] [.str [88]], .tup ps] m = some (.bl false, m) := c3
    simp [ev, evs, h3, kyV, c3', isn_f]
  rw [ex_iteF (ev_orB b1 fun _ => ev_orB b2 fun _ => b3)]
  exact ex_done
theorem w_24 (hps : ps ∈ tongues) (h3 : ρ[3]? = some (some (.tup ps))) : ex CC 0 LW1_24 ρ m = some (.nx, ρ, m) := by
  have c1 : callM T 100 8 [.lst [.tup [.str [88], .str [89]]], .tup ps] m = some (.bl false, m) := sp_isputN (k := 96) rfl
  have c2 : callM T 100 8 [.non, .tup ps] m = some (.bl false, m) := sp_isputN (k := 96) rfl
  have c3 := put_no (m := m) hps (s := [88]) (v := .non) (by decide) (by decide) (by simp [cnt]) (by simp [termB, good])
  have c4 : callM T 100 8 [.dct [.inl 5] [.str [88]], .tup ps] m = some (.bl false, m) := sp_isput5 (k := 96)
  have z : 1 ≤ line := by unfold line; omega
  have z2 : 2 ≤ line := by unfold line; omega
  have b1 : ev CC 0 (.cmp .isn (.call 8 [(.lst [(.tup [(.c (.str [88])), (.c (.str [89]))])]), (.var 3)]) (.c (.bl false))) ρ m = some (.bl false, m) := by
    simp [ev, evs, h3, z, z2, c1, isn_f]
  have b2 : ev CC 0 (.cmp .isn (.call 8 [(.c .non), (.var 3)]) (.c (.bl false))) ρ m = some (.bl false, m) := by
    simp [ev, evs, h3, c2, isn_f]
  have b3 : ev CC 0 (.cmp .isn (.call 8 [(.disp1 (.c (.str [88])) (.c .non)), (.var 3)]) (.c (.bl false))) ρ m = some (.bl false, m) := by
    have c3' : callM T 100 8 [.dct [.inr [88]] [.non], .tup ps] m = some (.bl false, m) := c3
    simp [ev, evs, h3, kyV, c3', isn_f]
  have b4 : ev CC 0 (.cmp .isn (.call 8 [(.disp1 (.c (.int (5))) (.c (.str [88]))), (.var 3)]) (.c (.bl false))) ρ m = some (.bl false, m) := by
    simp [ev, evs, h3, kyV, c4, isn_f]
  rw [ex_iteF (ev_orB b1 fun _ => ev_orB b2 fun _ => ev_orB b3 fun _ => b4)]
  exact ex_done
/-! ### one turn -/
theorem w_turn (x : MV) (hl : ρ.length = 22) (h1 : ρ[1]? = some (some (.loc l))) (S : Sf l n tl m) : ∃ tl' ρ' m', forF CC 0 (.nm 2) LW1B x ρ m = some (.nx, ρ', m') ∧ ρ'.length = 22 ∧ ρ'[1]? = some (some (.loc l)) ∧ Sf l n tl' m' := by
  have ha : asg m (.nm 2) x ρ = some (ρ.set 2 (some x)) := by
    have : 2 < ρ.length := by omega
    simp [asg, this]
  have K := Kp.set ρ 2 (some x)
  have f1 := K.get h1
  have L : (ρ.set 2 (some x)).length = 22 := by simp [hl]
  unfold forF
  rw [ha]
  simp only
  generalize ρ.set 2 (some x) = r at *
  clear ha K h1 hl
  -- 0
  obtain ⟨ps, m0, hps, e0, S0⟩ := w_0 L f1 S
  have K := Kp.set r 3 (some (.tup ps))
  have f3 := set_get (ρ := r) (i := 3) (v := some (.tup ps)) (by omega)
  have f1 := K.get f1
  have L : (r.set 3 (some (.tup ps))).length = 22 := by rw [K.1, L]
  refine (fun G => ?_ : (∃ tl' ρ' m', exs CC 0 (LW1B.drop 1) (r.set 3 (some (.tup ps))) m0 = some (.nx, ρ', m') ∧ ρ'.length = 22 ∧ ρ'[1]? = some (some (.loc l)) ∧ Sf l n tl' m') → _) ?_
  · obtain ⟨tl', ρ', m', e, g⟩ := G
    exact ⟨tl', ρ', m', ex_go e0 e, g⟩
  generalize r.set 3 (some (.tup ps)) = r at *
  -- 1
  obtain ⟨t, m1, dt, e1, S1⟩ := w_1 L f1 f3 hps S0
  have ht := dt.b
  have K := Kp.set r 4 (some t)
  have f4 := set_get (ρ := r) (i := 4) (v := some t) (by omega)
  have f1 := K.get f1
  have f3 := K.get f3
  have L : (r.set 4 (some t)).length = 22 := by rw [K.1, L]
  -- 2
  obtain ⟨n1, g1, n2, g2, m2, P1, P2, e2, S2⟩ := w_2 L f1 f3 hps S1
  have s1 := ex_go e1 (ex_go e2 (r := exs CC 0 (LW1B.drop 3) (((r.set 4 (some t)).set 18 (some (dV (dOf n1 g1)))).set 19 (some (dV (dOf n2 g2)))) m2) rfl)
  have K := Kp.set (r.set 4 (some t)) 18 (some (dV (dOf n1 g1)))
  have f18 := set_get (ρ := r.set 4 (some t)) (i := 18) (v := some (dV (dOf n1 g1))) (by omega)
  have f1 := K.get f1
  have f3 := K.get f3
  have f4 := K.get f4
  have L : ((r.set 4 (some t)).set 18 (some (dV (dOf n1 g1)))).length = 22 := by rw [K.1, L]
  have K := Kp.set ((r.set 4 (some t)).set 18 (some (dV (dOf n1 g1)))) 19 (some (dV (dOf n2 g2)))
  have f19 := set_get (ρ := (r.set 4 (some t)).set 18 (some (dV (dOf n1 g1)))) (i := 19) (v := some (dV (dOf n2 g2))) (by omega)
  have f1 := K.get f1
  have f3 := K.get f3
  have f4 := K.get f4
  have f18 := K.get f18
  have L : (((r.set 4 (some t)).set 18 (some (dV (dOf n1 g1)))).set 19 (some (dV (dOf n2 g2)))).length = 22 := by rw [K.1, L]
  refine (fun G => ?_ : (∃ tl' ρ' m', exs CC 0 (LW1B.drop 3) (((r.set 4 (some t)).set 18 (some (dV (dOf n1 g1)))).set 19 (some (dV (dOf n2 g2)))) m2 = some (.nx, ρ', m') ∧ ρ'.length = 22 ∧ ρ'[1]? = some (some (.loc l)) ∧ Sf l n tl' m') → _) ?_
  · obtain ⟨tl', ρ', m', e, g⟩ := G
    exact ⟨tl', ρ', m', s1.trans e, g⟩
  generalize ((r.set 4 (some t)).set 18 (some (dV (dOf n1 g1)))).set 19 (some (dV (dOf n2 g2))) = r at *
  -- 3, 4
  obtain ⟨R, e3, e4⟩ := w_34 (m := m2) L P1 P2 ht f4 f18 f19
  have K := Kp.set r 5 (some R)
  have f1 := K.get f1
  have f3 := K.get f3
  have f4 := K.get f4
  have f18 := K.get f18
  have f19 := K.get f19
  have L : (r.set 5 (some R)).length = 22 := by rw [K.1, L]
  -- 5
  have e5 := w_5 (m := m2) L P1 P2 f18 f19
  rw [plD_due P1.n4 P2.n4] at e5
  have s2 := ex_go e3 (ex_go e4 (ex_go e5 (r := exs CC 0 (LW1B.drop 6) ((r.set 5 (some R)).set 6 (some (dV (duL (dOf n1 g1) (dOf n2 g2))))) m2) rfl))
  have K := Kp.set (r.set 5 (some R)) 6 (some (dV (duL (dOf n1 g1) (dOf n2 g2))))
  have f6 := set_get (ρ := r.set 5 (some R)) (i := 6) (v := some (dV (duL (dOf n1 g1) (dOf n2 g2)))) (by omega)
  have f1 := K.get f1
  have f3 := K.get f3
  have f4 := K.get f4
  have f18 := K.get f18
  have f19 := K.get f19
  have L : ((r.set 5 (some R)).set 6 (some (dV (duL (dOf n1 g1) (dOf n2 g2))))).length = 22 := by rw [K.1, L]
  refine (fun G => ?_ : (∃ tl' ρ' m', exs CC 0 (LW1B.drop 6) ((r.set 5 (some R)).set 6 (some (dV (duL (dOf n1 g1) (dOf n2 g2))))) m2 = some (.nx, ρ', m') ∧ ρ'.length = 22 ∧ ρ'[1]? = some (some (.loc l)) ∧ Sf l n tl' m') → _) ?_
  · obtain ⟨tl', ρ', m', e, g⟩ := G
    exact ⟨tl', ρ', m', s2.trans e, g⟩
  generalize (r.set 5 (some R)).set 6 (some (dV (duL (dOf n1 g1) (dOf n2 g2)))) = r at *
  -- 6
  have e6 := w_6 L S2
  have S6 := S2.push (some (.dct (aK []) (aV [])))
  have K := Kp.set r 7 (some (.loc (n + tl.length)))
  have f7 := set_get (ρ := r) (i := 7) (v := some (.loc (n + tl.length))) (by omega)
  have f1 := K.get f1
  have f3 := K.get f3
  have f4 := K.get f4
  have f6 := K.get f6
  have f18 := K.get f18
  have f19 := K.get f19
  have L : (r.set 7 (some (.loc (n + tl.length)))).length = 22 := by rw [K.1, L]
  -- 7
  obtain ⟨r7, m7, e7, K, S7⟩ := w_7 L P1 P2 f7 f18 f19 S6
  have f1 := K.get f1
  have f3 := K.get f3
  have f4 := K.get f4
  have f6 := K.get f6
  have f7 := K.get f7
  have f18 := K.get f18
  have f19 := K.get f19
  have L : r7.length = 22 := by rw [K.1, L]
  -- 8
  have e8 := w_8 L P1 P2 ht f4 f6 f7 f18 f19 S7
  -- 9
  have e9 := w_9 (m := m7) L ht f4
  have hA := (vars_all t (tmA_tm _ ht.tm) ht.dat).1
  have hvt := few_t dt
  have s3 := ex_go e6 (ex_go e7 (ex_go e8 (ex_go e9 (r := exs CC 0 (LW1B.drop 10) (r7.set 9 (some (.lst (vars t)))) m7) rfl)))
  have K := Kp.set r7 9 (some (.lst (vars t)))
  have f9 := set_get (ρ := r7) (i := 9) (v := some (.lst (vars t))) (by omega)
  have f1 := K.get f1
  have f3 := K.get f3
  have f4 := K.get f4
  have f18 := K.get f18
  have L : (r7.set 9 (some (.lst (vars t)))).length = 22 := by rw [K.1, L]
  refine (fun G => ?_ : (∃ tl' ρ' m', exs CC 0 (LW1B.drop 10) (r7.set 9 (some (.lst (vars t)))) m7 = some (.nx, ρ', m') ∧ ρ'.length = 22 ∧ ρ'[1]? = some (some (.loc l)) ∧ Sf l n tl' m') → _) ?_
  · obtain ⟨tl', ρ', m', e, g⟩ := G
    exact ⟨tl', ρ', m', s3.trans e, g⟩
  generalize r7.set 9 (some (.lst (vars t))) = r at *
  generalize htl : tl ++ [some (MO.dct (aK (duL (dOf n1 g1) (dOf n2 g2))) (aV (duL (dOf n1 g1) (dOf n2 g2))))] = tl1 at *
  -- 10
  have e10 := w_10 L S7
  have S10 := S7.push (some (.dct (aK []) (aV [])))
  have K := Kp.set r 10 (some (.loc (n + tl1.length)))
  have f10 := set_get (ρ := r) (i := 10) (v := some (.loc (n + tl1.length))) (by omega)
  have f1 := K.get f1
  have f3 := K.get f3
  have f4 := K.get f4
  have f9 := K.get f9
  have f18 := K.get f18
  have L : (r.set 10 (some (.loc (n + tl1.length)))).length = 22 := by rw [K.1, L]
  -- 11
  obtain ⟨r11, m11, e11, K, S11⟩ := w_11 L hA hvt f9 f10 S10
  have f1 := K.get f1
  have f3 := K.get f3
  have f4 := K.get f4
  have f10 := K.get f10
  have f18 := K.get f18
  have L : r11.length = 22 := by rw [K.1, L]
  -- 12
  have e12 := w_12 ht hvt f4 f10 S11
  -- 13
  have e13 := w_13 (m := m11) L P1 ht f4 f18
  have hu := P1.put ht
  have hvu := few_o P1 dt
  have hu : TmB ps 520 7 (putF (dOf n1 g1) t) := hu.up (by omega) (by omega)
  have s4 := ex_go e10 (ex_go e11 (ex_go e12 (ex_go e13 (r := exs CC 0 (LW1B.drop 14) (r11.set 12 (some (putF (dOf n1 g1) t))) m11) rfl)))
  have K := Kp.set r11 12 (some (putF (dOf n1 g1) t))
  have f12 := set_get (ρ := r11) (i := 12) (v := some (putF (dOf n1 g1) t)) (by omega)
  have f1 := K.get f1
  have f3 := K.get f3
  have f4 := K.get f4
  have f10 := K.get f10
  have f18 := K.get f18
  have L : (r11.set 12 (some (putF (dOf n1 g1) t))).length = 22 := by rw [K.1, L]
  refine (fun G => ?_ : (∃ tl' ρ' m', exs CC 0 (LW1B.drop 14) (r11.set 12 (some (putF (dOf n1 g1) t))) m11 = some (.nx, ρ', m') ∧ ρ'.length = 22 ∧ ρ'[1]? = some (some (.loc l)) ∧ Sf l n tl' m') → _) ?_
  · obtain ⟨tl', ρ', m', e, g⟩ := G
    exact ⟨tl', ρ', m', s4.trans e, g⟩
  generalize r11.set 12 (some (putF (dOf n1 g1) t)) = r at *
  generalize hU : putF (dOf n1 g1) t = u at *
  have hat : (tl1 ++ [some (MO.dct (aK (nmD (vars t))) (aV (nmD (vars t))))])[tl1.length]? = some (some (.dct (aK (nmD (vars t))) (aV (nmD (vars t))))) := by simp
  generalize htl2 : tl1 ++ [some (MO.dct (aK (nmD (vars t))) (aV (nmD (vars t))))] = tl2 at *
  -- 14
  have e14 := w_14 L S11
  have S14 := S11.push (some (.lst []))
  have K := Kp.set r 13 (some (.loc (n + tl2.length)))
  have f13 := set_get (ρ := r) (i := 13) (v := some (.loc (n + tl2.length))) (by omega)
  have f1 := K.get f1
  have f3 := K.get f3
  have f4 := K.get f4
  have f10 := K.get f10
  have f12 := K.get f12
  have f18 := K.get f18
  have L : (r.set 13 (some (.loc (n + tl2.length)))).length = 22 := by rw [K.1, L]
  -- 15
  obtain ⟨r15, m15, e15, K, S15⟩ := w_15 L hu hvu f12 f13 S14
  have f1 := K.get f1
  have f3 := K.get f3
  have f4 := K.get f4
  have f10 := K.get f10
  have f12 := K.get f12
  have f13 := K.get f13
  have f18 := K.get f18
  have L : r15.length = 22 := by rw [K.1, L]
  -- 16
  have e16 := w_16 L hu hvu f12 f13 S15
  have K := Kp.set r15 14 (some (dV (nmD (vars u))))
  have f14 := set_get (ρ := r15) (i := 14) (v := some (dV (nmD (vars u)))) (by omega)
  have f1 := K.get f1
  have f3 := K.get f3
  have f4 := K.get f4
  have f10 := K.get f10
  have f12 := K.get f12
  have f18 := K.get f18
  have L : (r15.set 14 (some (dV (nmD (vars u))))).length = 22 := by rw [K.1, L]
  -- 17
  have ha : m15[n + tl1.length]? = some (some (.dct (aK (nmD (vars t))) (aV (nmD (vars t))))) := S15.at (by rw [List.getElem?_append_left (by rw [← htl2]; simp)]; exact hat)
  have e17 := w_17 (m := m15) ht hvt hu hvu f4 f12 f14 f10 ha
  -- 18
  have e18 := w_18 (m := m15) (n1 := n1) (g1 := g1) L f18
  have s5 := ex_go e14 (ex_go e15 (ex_go e16 (ex_go e17 (ex_go e18 (r := exs CC 0 (LW1B.drop 19) ((r15.set 14 (some (dV (nmD (vars u))))).set 15 (some (.lst ((NM.take n1).map g1)))) m15) rfl))))
  have K := Kp.set (r15.set 14 (some (dV (nmD (vars u))))) 15 (some (.lst ((NM.take n1).map g1)))
  have f15 := set_get (ρ := r15.set 14 (some (dV (nmD (vars u))))) (i := 15) (v := some (.lst ((NM.take n1).map g1))) (by omega)
  have f1 := K.get f1
  have f3 := K.get f3
  have f4 := K.get f4
  have f12 := K.get f12
  have f18 := K.get f18
  have L : ((r15.set 14 (some (dV (nmD (vars u))))).set 15 (some (.lst ((NM.take n1).map g1)))).length = 22 := by rw [K.1, L]
  refine (fun G => ?_ : (∃ tl' ρ' m', exs CC 0 (LW1B.drop 19) ((r15.set 14 (some (dV (nmD (vars u))))).set 15 (some (.lst ((NM.take n1).map g1)))) m15 = some (.nx, ρ', m') ∧ ρ'.length = 22 ∧ ρ'[1]? = some (some (.loc l)) ∧ Sf l n tl' m') → _) ?_
  · obtain ⟨tl', ρ', m', e, g⟩ := G
    exact ⟨tl', ρ', m', s5.trans e, g⟩
  generalize (r15.set 14 (some (dV (nmD (vars u))))).set 15 (some (.lst ((NM.take n1).map g1))) = r at *
  -- 19
  have e19 := w_19 (m := m15) L P1 f15
  have K := Kp.set r 16 (some (.bl (renB n1 g1)))
  have f16 := set_get (ρ := r) (i := 16) (v := some (.bl (renB n1 g1))) (by omega)
  have f1 := K.get f1
  have f3 := K.get f3
  have f4 := K.get f4
  have f12 := K.get f12
  have f18 := K.get f18
  have L : (r.set 16 (some (.bl (renB n1 g1)))).length = 22 := by rw [K.1, L]
  -- 20
  have e20 := w_20 (m := m15) P1 f16 f18
  -- 21
  obtain ⟨j, m21, e21, S21⟩ := w_21 L P1 ht hu f1 f4 f12 f18 S15
  have K := Kp.set (r.set 16 (some (.bl (renB n1 g1)))) 17 (some (.lst ((prL (dOf n1 g1) t u j).map pV2)))
  have f17 := set_get (ρ := r.set 16 (some (.bl (renB n1 g1)))) (i := 17) (v := some (.lst ((prL (dOf n1 g1) t u j).map pV2))) (by omega)
  have f1 := K.get f1
  have f3 := K.get f3
  have f18 := K.get f18
  have L : ((r.set 16 (some (.bl (renB n1 g1)))).set 17 (some (.lst ((prL (dOf n1 g1) t u j).map pV2)))).length = 22 := by rw [K.1, L]
  -- 22 .. 24
  have e22 := w_22 (m := m21) L P1 ht hu f17 f18
  have e23 := w_23 (m := m21) hps P1 f3 f18
  have e24 := w_24 (m := m21) hps f3
  exact ⟨_, _, m21, ex_go e19 (ex_go e20 (ex_go e21 (ex_go e22 (ex_go e23 (ex_go e24 ex_done))))), L, f1, S21⟩
end
theorem law_true (ns : List Int) : ∃ mh, callM T 101 24 [.scr ns] [] = some (.bl true, mh) := by
  obtain ⟨l, n, mh0, e0, S0⟩ := state_ok hState 99 ns
  have e0 : callM T 100 16 [.scr ns] [] = some (.loc l, mh0) := e0
  have a0 : ex CC 0 LW0 ((some (MV.scr ns) :: List.replicate 21 none : Env)) [] = some (.nx, ((some (MV.scr ns) :: List.replicate 21 none : Env)).set 1 (some (MV.loc l)), mh0) := by
    simp [ex, ev, evs, e0, asg]
  have f1 : (((some (MV.scr ns) :: List.replicate 21 none : Env)).set 1 (some (MV.loc l)))[1]? = some (some (.loc l)) := by simp
  have L : (((some (MV.scr ns) :: List.replicate 21 none : Env)).set 1 (some (MV.loc l))).length = 22 := by simp
  generalize hr : ((some (MV.scr ns) :: List.replicate 21 none : Env)).set 1 (some (MV.loc l)) = r at *
  have S1 : Sf l n [] mh0 := ⟨mh0, by simp, S0⟩
  obtain ⟨ρ', m', e, L', tl, _, S⟩ := forGo_st (J := ⟨(List.range 4).map fun (k : Nat) => .int (k : Int), none⟩) rfl (f := forF CC 0 (.nm 2) LW1B) (P := fun ρ mm => ρ.length = 22 ∧ ∃ tl, ρ[1]? = some (some (.loc l)) ∧ Sf l n tl mm) (xs := (List.range 4).map fun (k : Nat) => MV.int (k : Int)) (ρ := r) (mh := mh0) ⟨L, [], f1, S1⟩ (fun x hx ρ mm hP => by
    obtain ⟨L, tl, f1, S⟩ := hP
    obtain ⟨tl', ρ', m', e, L', f1', S'⟩ := w_turn x L f1 S
    exact ⟨ρ', m', e, L', tl', f1', S'⟩)
  have a1 : ex CC 0 LW1 r mh0 = some (.nx, ρ', m') := by
    rw [ex_for]
    have : evI CC 0 (.rng1 (.c (.int (4)))) r mh0 = some (⟨(List.range 4).map fun (k : Nat) => .int (k : Int), none⟩, mh0) := by simp [evI, ev]
    rw [this]
    exact e
  refine ⟨m'.take 0, ?_⟩
  rw [callM_eq (d := ⟨1, 22, false, [LW0, LW1, LW2]⟩) rfl]
  exact run_of (ρ := ρ') (mh1 := m') (fl := .rt (.bl true)) rfl rfl (ex_go a0 (ex_go a1 (ex_end (by simp [ex, ev])))) rfl rfl
end L2.Mi.k04

set_option Elab.async false
set_option linter.all false
set_option maxRecDepth 100000
set_option maxHeartbeats 4000000

namespace L2.Mi.k04
open PySem PySem.Spec PyProof.Rows L2.Mi L2
/-! the table -/
theorem bd_are_signs_of_text {P : Program} {w : World} {K : PySem.W.Frag} {mg : Str → Option Value} {base : Heap} {fd : FuncData} (F : FunD K "are_signs_of_text" "are_signs_of_text" (defArgs s_are_signs_of_text) (defBody s_are_signs_of_text) (defScope s_are_signs_of_text) [] [] (He.ga K "are_signs_of_text") fd) : Binds K fd P_are_signs_of_text [] := F.bindsN fun _ _ _ _ _ _ us hl => match us, hl with | [_, _], _ => rfl
theorem bd_is_sign {P : Program} {w : World} {K : PySem.W.Frag} {mg : Str → Option Value} {base : Heap} {fd : FuncData} (F : FunD K "is_sign" "is_sign" (defArgs s_is_sign) (defBody s_is_sign) (defScope s_is_sign) [] [] (He.ga K "is_sign") fd) : Binds K fd P_is_sign [] := F.bindsN fun _ _ _ _ _ _ us hl => match us, hl with | [_], _ => rfl
theorem bd_is_variable {P : Program} {w : World} {K : PySem.W.Frag} {mg : Str → Option Value} {base : Heap} {fd : FuncData} (F : FunD K "is_variable" "is_variable" (defArgs s_is_variable) (defBody s_is_variable) (defScope s_is_variable) [] [] (He.ga K "is_variable") fd) : Binds K fd P_is_variable [] := F.bindsN fun _ _ _ _ _ _ us hl => match us, hl with | [_], _ => rfl
theorem bd_places_of {P : Program} {w : World} {K : PySem.W.Frag} {mg : Str → Option Value} {base : Heap} {fd : FuncData} (F : FunD K "places_of" "places_of" (defArgs s_places_of) (defBody s_places_of) (defScope s_places_of) [] [] (He.ga K "places_of") fd) : Binds K fd P_places_of [] := F.bindsN fun _ _ _ _ _ _ us hl => match us, hl with | [_, _], _ => rfl
theorem bd_is_var {P : Program} {w : World} {K : PySem.W.Frag} {mg : Str → Option Value} {base : Heap} {fd : FuncData} (F : FunD K "is_var" "is_var" (defArgs s_is_var) (defBody s_is_var) (defScope s_is_var) [] [] (He.ga K "is_var") fd) : Binds K fd P_is_var [] := F.bindsN fun _ _ _ _ _ _ us hl => match us, hl with | [_], _ => rfl
theorem bd_nodes {P : Program} {w : World} {K : PySem.W.Frag} {mg : Str → Option Value} {base : Heap} {fd : FuncData} (F : FunD K "nodes" "nodes" (defArgs s_nodes) (defBody s_nodes) (defScope s_nodes) [] [] (He.ga K "nodes") fd) : Binds K fd P_nodes [] := F.bindsN fun _ _ _ _ _ _ us hl => match us, hl with | [_], _ => rfl
theorem bd_is_term {P : Program} {w : World} {K : PySem.W.Frag} {mg : Str → Option Value} {base : Heap} {fd : FuncData} (F : FunD K "is_term" "is_term" (defArgs s_is_term) (defBody s_is_term) (defScope s_is_term) [] [] (He.ga K "is_term") fd) : Binds K fd P_is_term [] := F.bindsN fun _ _ _ _ _ _ us hl => match us, hl with | [_, _], _ => rfl
theorem bd_variables {P : Program} {w : World} {K : PySem.W.Frag} {mg : Str → Option Value} {base : Heap} {fd : FuncData} (F : FunD K "variables" "variables" (defArgs s_variables) (defBody s_variables) (defScope s_variables) [] [] (He.ga K "variables") fd) : Binds K fd P_variables [] := F.bindsN fun _ _ _ _ _ _ us hl => match us, hl with | [_], _ => rfl
theorem bd_is_putting {P : Program} {w : World} {K : PySem.W.Frag} {mg : Str → Option Value} {base : Heap} {fd : FuncData} (F : FunD K "is_putting" "is_putting" (defArgs s_is_putting) (defBody s_is_putting) (defScope s_is_putting) [] [] (He.ga K "is_putting") fd) : Binds K fd P_is_putting [] := F.bindsN fun _ _ _ _ _ _ us hl => match us, hl with | [_, _], _ => rfl
theorem bd_put_for {P : Program} {w : World} {K : PySem.W.Frag} {mg : Str → Option Value} {base : Heap} {fd : FuncData} (F : FunD K "put_for" "put_for" (defArgs s_put_for) (defBody s_put_for) (defScope s_put_for) [] [] (He.ga K "put_for") fd) : Binds K fd P_put_for [] := F.bindsN fun _ _ _ _ _ _ us hl => match us, hl with | [_, _], _ => rfl
theorem bd_plain {P : Program} {w : World} {K : PySem.W.Frag} {mg : Str → Option Value} {base : Heap} {fd : FuncData} (F : FunD K "plain" "plain" (defArgs s_plain) (defBody s_plain) (defScope s_plain) [] [] (He.ga K "plain") fd) : Binds K fd P_plain [] := F.bindsN fun _ _ _ _ _ _ us hl => match us, hl with | [_], _ => rfl
theorem bd_behind {P : Program} {w : World} {K : PySem.W.Frag} {mg : Str → Option Value} {base : Heap} {fd : FuncData} (F : FunD K "behind" "behind" (defArgs s_behind) (defBody s_behind) (defScope s_behind) [] [] (He.ga K "behind") fd) : Binds K fd P_behind [] := F.bindsN fun _ _ _ _ _ _ us hl => match us, hl with | [_, _], _ => rfl
theorem bd_is_renaming {P : Program} {w : World} {K : PySem.W.Frag} {mg : Str → Option Value} {base : Heap} {fd : FuncData} (F : FunD K "is_renaming" "is_renaming" (defArgs s_is_renaming) (defBody s_is_renaming) (defScope s_is_renaming) [] [] (He.ga K "is_renaming") fd) : Binds K fd P_is_renaming [] := F.bindsN fun _ _ _ _ _ _ us hl => match us, hl with | [_], _ => rfl
theorem bd_numbered {P : Program} {w : World} {K : PySem.W.Frag} {mg : Str → Option Value} {base : Heap} {fd : FuncData} (F : FunD K "numbered" "numbered" (defArgs s_numbered) (defBody s_numbered) (defScope s_numbered) [] [] (He.ga K "numbered") fd) : Binds K fd P_numbered [] := F.bindsN fun _ _ _ _ _ _ us hl => match us, hl with | [_], _ => rfl
theorem bd_are_alike {P : Program} {w : World} {K : PySem.W.Frag} {mg : Str → Option Value} {base : Heap} {fd : FuncData} (F : FunD K "are_alike" "are_alike" (defArgs s_are_alike) (defBody s_are_alike) (defScope s_are_alike) [] [] (He.ga K "are_alike") fd) : Binds K fd P_are_alike [] := F.bindsN fun _ _ _ _ _ _ us hl => match us, hl with | [_, _], _ => rfl
theorem bd_solves {P : Program} {w : World} {K : PySem.W.Frag} {mg : Str → Option Value} {base : Heap} {fd : FuncData} (F : FunD K "solves" "solves" (defArgs s_solves) (defBody s_solves) (defScope s_solves) [] [] (He.ga K "solves") fd) : Binds K fd P_solves [] := F.bindsN fun _ _ _ _ _ _ us hl => match us, hl with | [_, _], _ => rfl
theorem bd_l_state {P : Program} {w : World} {K : PySem.W.Frag} {mg : Str → Option Value} {base : Heap} {fd : FuncData} (F : FunD K "_law_state" "_law_state" (defArgs s_l_state) (defBody s_l_state) (defScope s_l_state) [] [] (He.ga K "_law_state") fd) : Binds K fd P_l_state [] := F.bindsN fun _ _ _ _ _ _ us hl => match us, hl with | [_], _ => rfl
theorem bd_l_take {P : Program} {w : World} {K : PySem.W.Frag} {mg : Str → Option Value} {base : Heap} {fd : FuncData} (F : FunD K "_law_take" "_law_take" (defArgs s_l_take) (defBody s_l_take) (defScope s_l_take) [] [] (He.ga K "_law_take") fd) : Binds K fd P_l_take [] := F.bindsN fun _ _ _ _ _ _ us hl => match us, hl with | [_, _], _ => rfl
theorem bd_l_pick {P : Program} {w : World} {K : PySem.W.Frag} {mg : Str → Option Value} {base : Heap} {fd : FuncData} (F : FunD K "_law_pick" "_law_pick" (defArgs s_l_pick) (defBody s_l_pick) (defScope s_l_pick) [] [] (He.ga K "_law_pick") fd) : Binds K fd P_l_pick [] := F.bindsN fun _ _ _ _ _ _ us hl => match us, hl with | [_, _], _ => rfl
theorem bd_l_tongue {P : Program} {w : World} {K : PySem.W.Frag} {mg : Str → Option Value} {base : Heap} {fd : FuncData} (F : FunD K "_law_tongue" "_law_tongue" (defArgs s_l_tongue) (defBody s_l_tongue) (defScope s_l_tongue) [] [] (He.ga K "_law_tongue") fd) : Binds K fd P_l_tongue [] := F.bindsN fun _ _ _ _ _ _ us hl => match us, hl with | [_], _ => rfl
theorem bd_l_term {P : Program} {w : World} {K : PySem.W.Frag} {mg : Str → Option Value} {base : Heap} {fd : FuncData} (F : FunD K "_law_term" "_law_term" (defArgs s_l_term) (defBody s_l_term) (defScope s_l_term) [] [] (He.ga K "_law_term") fd) : Binds K fd P_l_term [] := F.bindsN fun _ _ _ _ _ _ us hl => match us, hl with | [_, _, _, _], _ => rfl
theorem bd_l_put {P : Program} {w : World} {K : PySem.W.Frag} {mg : Str → Option Value} {base : Heap} {fd : FuncData} (F : FunD K "_law_put" "_law_put" (defArgs s_l_put) (defBody s_l_put) (defScope s_l_put) [] [] (He.ga K "_law_put") fd) : Binds K fd P_l_put [] := F.bindsN fun _ _ _ _ _ _ us hl => match us, hl with | [_, _], _ => rfl
theorem bd_l_names {P : Program} {w : World} {K : PySem.W.Frag} {mg : Str → Option Value} {base : Heap} {fd : FuncData} (F : FunD K "_law_names" "_law_names" (defArgs s_l_names) (defBody s_l_names) (defScope s_l_names) [] [] (He.ga K "_law_names") fd) : Binds K fd P_l_names [] := F.bindsN fun _ _ _ _ _ _ us hl => match us, hl with | [_], _ => rfl
theorem bd_l_putting {P : Program} {w : World} {K : PySem.W.Frag} {mg : Str → Option Value} {base : Heap} {fd : FuncData} (F : FunD K "_law_putting" "_law_putting" (defArgs s_l_putting) (defBody s_l_putting) (defScope s_l_putting) [] [] (He.ga K "_law_putting") fd) : Binds K fd P_l_putting [] := F.bindsN fun _ _ _ _ _ _ us hl => match us, hl with | [_, _], _ => rfl
theorem bd_law {P : Program} {w : World} {K : PySem.W.Frag} {mg : Str → Option Value} {base : Heap} {fd : FuncData} (F : FunD K "law" "law" (defArgs s_law) (defBody s_law) (defScope s_law) [] [] (He.ga K "law") fd) : Binds K fd P_law [] := F.bindsN fun _ _ _ _ _ _ us hl => match us, hl with | [_], _ => rfl
abbrev DD (K : PySem.W.Frag) (x q : Str) (a : Addr) (st : Stmt) : Prop := ∃ fd, FunD K x q (defArgs st) (defBody st) (defScope st) [] [] a fd
structure DF (K : PySem.W.Frag) : Prop where
  d_are_signs_of_text : DD K "are_signs_of_text" "are_signs_of_text" (He.ga K "are_signs_of_text") s_are_signs_of_text
  d_is_sign : DD K "is_sign" "is_sign" (He.ga K "is_sign") s_is_sign
  d_is_variable : DD K "is_variable" "is_variable" (He.ga K "is_variable") s_is_variable
  d_places_of : DD K "places_of" "places_of" (He.ga K "places_of") s_places_of
  d_is_var : DD K "is_var" "is_var" (He.ga K "is_var") s_is_var
  d_nodes : DD K "nodes" "nodes" (He.ga K "nodes") s_nodes
  d_is_term : DD K "is_term" "is_term" (He.ga K "is_term") s_is_term
  d_variables : DD K "variables" "variables" (He.ga K "variables") s_variables
  d_is_putting : DD K "is_putting" "is_putting" (He.ga K "is_putting") s_is_putting
  d_put_for : DD K "put_for" "put_for" (He.ga K "put_for") s_put_for
  d_plain : DD K "plain" "plain" (He.ga K "plain") s_plain
  d_behind : DD K "behind" "behind" (He.ga K "behind") s_behind
  d_is_renaming : DD K "is_renaming" "is_renaming" (He.ga K "is_renaming") s_is_renaming
  d_numbered : DD K "numbered" "numbered" (He.ga K "numbered") s_numbered
  d_are_alike : DD K "are_alike" "are_alike" (He.ga K "are_alike") s_are_alike
  d_solves : DD K "solves" "solves" (He.ga K "solves") s_solves
  d_l_state : DD K "_law_state" "_law_state" (He.ga K "_law_state") s_l_state
  d_l_take : DD K "_law_take" "_law_take" (He.ga K "_law_take") s_l_take
  d_l_pick : DD K "_law_pick" "_law_pick" (He.ga K "_law_pick") s_l_pick
  d_l_tongue : DD K "_law_tongue" "_law_tongue" (He.ga K "_law_tongue") s_l_tongue
  d_l_term : DD K "_law_term" "_law_term" (He.ga K "_law_term") s_l_term
  d_l_put : DD K "_law_put" "_law_put" (He.ga K "_law_put") s_l_put
  d_l_names : DD K "_law_names" "_law_names" (He.ga K "_law_names") s_l_names
  d_l_putting : DD K "_law_putting" "_law_putting" (He.ga K "_law_putting") s_l_putting
  d_law : DD K "law" "law" (He.ga K "law") s_law
theorem table {P : Program} {w : World} {K : PySem.W.Frag} {mg : Str → Option Value} {base : Heap} (g : GF K mg) (D : DF K) : ∀ f a, (gb K).fa f = some a → DefOk2 P w K mg base (gb K) T f a := by
  intro f a h
  by_cases h0 : f = 0
  · subst h0
    have e : some (He.ga K "are_signs_of_text") = some a := h
    cases e
    obtain ⟨fd, F⟩ := D.d_are_signs_of_text
    exact ⟨d_are_signs_of_text, "are_signs_of_text", "are_signs_of_text", s_are_signs_of_text, fd, N_are_signs_of_text, P_are_signs_of_text, rfl, F, sc_are_signs_of_text, rfl, rfl, bd_are_signs_of_text (P := P) (w := w) (mg := mg) (base := base) F, fun k C cdv A outer s H E FF hr => b_are_signs_of_text g _ cdv A outer s H E FF hr⟩
  by_cases h1 : f = 1
  · subst h1
    have e : some (He.ga K "is_sign") = some a := h
    cases e
    obtain ⟨fd, F⟩ := D.d_is_sign
    exact ⟨d_is_sign, "is_sign", "is_sign", s_is_sign, fd, N_is_sign, P_is_sign, rfl, F, sc_is_sign, rfl, rfl, bd_is_sign (P := P) (w := w) (mg := mg) (base := base) F, fun k C cdv A outer s H E FF hr => b_is_sign g _ cdv A outer s H E FF hr⟩
  by_cases h2 : f = 2
  · subst h2
    have e : some (He.ga K "is_variable") = some a := h
    cases e
    obtain ⟨fd, F⟩ := D.d_is_variable
    exact ⟨d_is_variable, "is_variable", "is_variable", s_is_variable, fd, N_is_variable, P_is_variable, rfl, F, sc_is_variable, rfl, rfl, bd_is_variable (P := P) (w := w) (mg := mg) (base := base) F, fun k C cdv A outer s H E FF hr => b_is_variable g _ cdv A outer s H E FF hr⟩
  by_cases h3 : f = 3
  · subst h3
    have e : some (He.ga K "places_of") = some a := h
    cases e
    obtain ⟨fd, F⟩ := D.d_places_of
    exact ⟨d_places_of, "places_of", "places_of", s_places_of, fd, N_places_of, P_places_of, rfl, F, sc_places_of, rfl, rfl, bd_places_of (P := P) (w := w) (mg := mg) (base := base) F, fun k C cdv A outer s H E FF hr => b_places_of g _ cdv A outer s H E FF hr⟩
  by_cases h4 : f = 4
  · subst h4
    have e : some (He.ga K "is_var") = some a := h
    cases e
    obtain ⟨fd, F⟩ := D.d_is_var
    exact ⟨d_is_var, "is_var", "is_var", s_is_var, fd, N_is_var, P_is_var, rfl, F, sc_is_var, rfl, rfl, bd_is_var (P := P) (w := w) (mg := mg) (base := base) F, fun k C cdv A outer s H E FF hr => b_is_var g _ cdv A outer s H E FF hr⟩
  by_cases h5 : f = 5
  · subst h5
    have e : some (He.ga K "nodes") = some a := h
    cases e
    obtain ⟨fd, F⟩ := D.d_nodes
    exact ⟨d_nodes, "nodes", "nodes", s_nodes, fd, N_nodes, P_nodes, rfl, F, sc_nodes, rfl, rfl, bd_nodes (P := P) (w := w) (mg := mg) (base := base) F, fun k C cdv A outer s H E FF hr => b_nodes g _ cdv A outer s H E FF hr⟩
  by_cases h6 : f = 6
  · subst h6
    have e : some (He.ga K "is_term") = some a := h
    cases e
    obtain ⟨fd, F⟩ := D.d_is_term
    exact ⟨d_is_term, "is_term", "is_term", s_is_term, fd, N_is_term, P_is_term, rfl, F, sc_is_term, rfl, rfl, bd_is_term (P := P) (w := w) (mg := mg) (base := base) F, fun k C cdv A outer s H E FF hr => b_is_term g _ cdv A outer s H E FF hr⟩
  by_cases h7 : f = 7
  · subst h7
    have e : some (He.ga K "variables") = some a := h
    cases e
    obtain ⟨fd, F⟩ := D.d_variables
    exact ⟨d_variables, "variables", "variables", s_variables, fd, N_variables, P_variables, rfl, F, sc_variables, rfl, rfl, bd_variables (P := P) (w := w) (mg := mg) (base := base) F, fun k C cdv A outer s H E FF hr => b_variables g _ cdv A outer s H E FF hr⟩
  by_cases h8 : f = 8
  · subst h8
    have e : some (He.ga K "is_putting") = some a := h
    cases e
    obtain ⟨fd, F⟩ := D.d_is_putting
    exact ⟨d_is_putting, "is_putting", "is_putting", s_is_putting, fd, N_is_putting, P_is_putting, rfl, F, sc_is_putting, rfl, rfl, bd_is_putting (P := P) (w := w) (mg := mg) (base := base) F, fun k C cdv A outer s H E FF hr => b_is_putting g _ cdv A outer s H E FF hr⟩
  by_cases h9 : f = 9
  · subst h9
    have e : some (He.ga K "put_for") = some a := h
    cases e
    obtain ⟨fd, F⟩ := D.d_put_for
    exact ⟨d_put_for, "put_for", "put_for", s_put_for, fd, N_put_for, P_put_for, rfl, F, sc_put_for, rfl, rfl, bd_put_for (P := P) (w := w) (mg := mg) (base := base) F, fun k C cdv A outer s H E FF hr => b_put_for g _ cdv A outer s H E FF hr⟩
  by_cases h10 : f = 10
  · subst h10
    have e : some (He.ga K "plain") = some a := h
    cases e
    obtain ⟨fd, F⟩ := D.d_plain
    exact ⟨d_plain, "plain", "plain", s_plain, fd, N_plain, P_plain, rfl, F, sc_plain, rfl, rfl, bd_plain (P := P) (w := w) (mg := mg) (base := base) F, fun k C cdv A outer s H E FF hr => b_plain g _ cdv A outer s H E FF hr⟩
  by_cases h11 : f = 11
  · subst h11
    have e : some (He.ga K "behind") = some a := h
    cases e
    obtain ⟨fd, F⟩ := D.d_behind
    exact ⟨d_behind, "behind", "behind", s_behind, fd, N_behind, P_behind, rfl, F, sc_behind, rfl, rfl, bd_behind (P := P) (w := w) (mg := mg) (base := base) F, fun k C cdv A outer s H E FF hr => b_behind g _ cdv A outer s H E FF hr⟩
  by_cases h12 : f = 12
  · subst h12
    have e : some (He.ga K "is_renaming") = some a := h
    cases e
    obtain ⟨fd, F⟩ := D.d_is_renaming
    exact ⟨d_is_renaming, "is_renaming", "is_renaming", s_is_renaming, fd, N_is_renaming, P_is_renaming, rfl, F, sc_is_renaming, rfl, rfl, bd_is_renaming (P := P) (w := w) (mg := mg) (base := base) F, fun k C cdv A outer s H E FF hr => b_is_renaming g _ cdv A outer s H E FF hr⟩
  by_cases h13 : f = 13
  · subst h13
    have e : some (He.ga K "numbered") = some a := h
    cases e
    obtain ⟨fd, F⟩ := D.d_numbered
    exact ⟨d_numbered, "numbered", "numbered", s_numbered, fd, N_numbered, P_numbered, rfl, F, sc_numbered, rfl, rfl, bd_numbered (P := P) (w := w) (mg := mg) (base := base) F, fun k C cdv A outer s H E FF hr => b_numbered g _ cdv A outer s H E FF hr⟩
  by_cases h14 : f = 14
  · subst h14
    have e : some (He.ga K "are_alike") = some a := h
    cases e
    obtain ⟨fd, F⟩ := D.d_are_alike
    exact ⟨d_are_alike, "are_alike", "are_alike", s_are_alike, fd, N_are_alike, P_are_alike, rfl, F, sc_are_alike, rfl, rfl, bd_are_alike (P := P) (w := w) (mg := mg) (base := base) F, fun k C cdv A outer s H E FF hr => b_are_alike g _ cdv A outer s H E FF hr⟩
  by_cases h15 : f = 15
  · subst h15
    have e : some (He.ga K "solves") = some a := h
    cases e
    obtain ⟨fd, F⟩ := D.d_solves
    exact ⟨d_solves, "solves", "solves", s_solves, fd, N_solves, P_solves, rfl, F, sc_solves, rfl, rfl, bd_solves (P := P) (w := w) (mg := mg) (base := base) F, fun k C cdv A outer s H E FF hr => b_solves g _ cdv A outer s H E FF hr⟩
  by_cases h16 : f = 16
  · subst h16
    have e : some (He.ga K "_law_state") = some a := h
    cases e
    obtain ⟨fd, F⟩ := D.d_l_state
    exact ⟨d_l_state, "_law_state", "_law_state", s_l_state, fd, N_l_state, P_l_state, rfl, F, sc_l_state, rfl, rfl, bd_l_state (P := P) (w := w) (mg := mg) (base := base) F, fun k C cdv A outer s H E FF hr => b_l_state g _ cdv A outer s H E FF hr⟩
  by_cases h17 : f = 17
  · subst h17
    have e : some (He.ga K "_law_take") = some a := h
    cases e
    obtain ⟨fd, F⟩ := D.d_l_take
    exact ⟨d_l_take, "_law_take", "_law_take", s_l_take, fd, N_l_take, P_l_take, rfl, F, sc_l_take, rfl, rfl, bd_l_take (P := P) (w := w) (mg := mg) (base := base) F, fun k C cdv A outer s H E FF hr => b_l_take g _ cdv A outer s H E FF hr⟩
  by_cases h18 : f = 18
  · subst h18
    have e : some (He.ga K "_law_pick") = some a := h
    cases e
    obtain ⟨fd, F⟩ := D.d_l_pick
    exact ⟨d_l_pick, "_law_pick", "_law_pick", s_l_pick, fd, N_l_pick, P_l_pick, rfl, F, sc_l_pick, rfl, rfl, bd_l_pick (P := P) (w := w) (mg := mg) (base := base) F, fun k C cdv A outer s H E FF hr => b_l_pick g _ cdv A outer s H E FF hr⟩
  by_cases h19 : f = 19
  · subst h19
    have e : some (He.ga K "_law_tongue") = some a := h
    cases e
    obtain ⟨fd, F⟩ := D.d_l_tongue
    exact ⟨d_l_tongue, "_law_tongue", "_law_tongue", s_l_tongue, fd, N_l_tongue, P_l_tongue, rfl, F, sc_l_tongue, rfl, rfl, bd_l_tongue (P := P) (w := w) (mg := mg) (base := base) F, fun k C cdv A outer s H E FF hr => b_l_tongue g _ cdv A outer s H E FF hr⟩
  by_cases h20 : f = 20
  · subst h20
    have e : some (He.ga K "_law_term") = some a := h
    cases e
    obtain ⟨fd, F⟩ := D.d_l_term
    exact ⟨d_l_term, "_law_term", "_law_term", s_l_term, fd, N_l_term, P_l_term, rfl, F, sc_l_term, rfl, rfl, bd_l_term (P := P) (w := w) (mg := mg) (base := base) F, fun k C cdv A outer s H E FF hr => b_l_term g _ cdv A outer s H E FF hr⟩
  by_cases h21 : f = 21
  · subst h21
    have e : some (He.ga K "_law_put") = some a := h
    cases e
    obtain ⟨fd, F⟩ := D.d_l_put
    exact ⟨d_l_put, "_law_put", "_law_put", s_l_put, fd, N_l_put, P_l_put, rfl, F, sc_l_put, rfl, rfl, bd_l_put (P := P) (w := w) (mg := mg) (base := base) F, fun k C cdv A outer s H E FF hr => b_l_put g _ cdv A outer s H E FF hr⟩
  by_cases h22 : f = 22
  · subst h22
    have e : some (He.ga K "_law_names") = some a := h
    cases e
    obtain ⟨fd, F⟩ := D.d_l_names
    exact ⟨d_l_names, "_law_names", "_law_names", s_l_names, fd, N_l_names, P_l_names, rfl, F, sc_l_names, rfl, rfl, bd_l_names (P := P) (w := w) (mg := mg) (base := base) F, fun k C cdv A outer s H E FF hr => b_l_names g _ cdv A outer s H E FF hr⟩
  by_cases h23 : f = 23
  · subst h23
    have e : some (He.ga K "_law_putting") = some a := h
    cases e
    obtain ⟨fd, F⟩ := D.d_l_putting
    exact ⟨d_l_putting, "_law_putting", "_law_putting", s_l_putting, fd, N_l_putting, P_l_putting, rfl, F, sc_l_putting, rfl, rfl, bd_l_putting (P := P) (w := w) (mg := mg) (base := base) F, fun k C cdv A outer s H E FF hr => b_l_putting g _ cdv A outer s H E FF hr⟩
  exfalso
  have : faO K f = none := by
    unfold faO
    split <;> first | contradiction | rfl
  rw [show (gb K).fa f = faO K f from rfl, this] at h
  cases h
/-! the head -/
def h_are_signs_of_text : He.DefD := ⟨("are_signs_of_text", none), "are_signs_of_text", "are_signs_of_text", defArgs s_are_signs_of_text, defBody s_are_signs_of_text, defScope s_are_signs_of_text, [], []⟩
def h_is_sign : He.DefD := ⟨("is_sign", none), "is_sign", "is_sign", defArgs s_is_sign, defBody s_is_sign, defScope s_is_sign, [], []⟩
def h_is_variable : He.DefD := ⟨("is_variable", none), "is_variable", "is_variable", defArgs s_is_variable, defBody s_is_variable, defScope s_is_variable, [], []⟩
def h_places_of : He.DefD := ⟨("places_of", none), "places_of", "places_of", defArgs s_places_of, defBody s_places_of, defScope s_places_of, [], []⟩
def h_is_var : He.DefD := ⟨("is_var", none), "is_var", "is_var", defArgs s_is_var, defBody s_is_var, defScope s_is_var, [], []⟩
def h_nodes : He.DefD := ⟨("nodes", none), "nodes", "nodes", defArgs s_nodes, defBody s_nodes, defScope s_nodes, [], []⟩
def h_is_term : He.DefD := ⟨("is_term", none), "is_term", "is_term", defArgs s_is_term, defBody s_is_term, defScope s_is_term, [], []⟩
def h_variables : He.DefD := ⟨("variables", none), "variables", "variables", defArgs s_variables, defBody s_variables, defScope s_variables, [], []⟩
def h_is_putting : He.DefD := ⟨("is_putting", none), "is_putting", "is_putting", defArgs s_is_putting, defBody s_is_putting, defScope s_is_putting, [], []⟩
def h_put_for : He.DefD := ⟨("put_for", none), "put_for", "put_for", defArgs s_put_for, defBody s_put_for, defScope s_put_for, [], []⟩
def h_plain : He.DefD := ⟨("plain", none), "plain", "plain", defArgs s_plain, defBody s_plain, defScope s_plain, [], []⟩
def h_behind : He.DefD := ⟨("behind", none), "behind", "behind", defArgs s_behind, defBody s_behind, defScope s_behind, [], []⟩
def h_is_renaming : He.DefD := ⟨("is_renaming", none), "is_renaming", "is_renaming", defArgs s_is_renaming, defBody s_is_renaming, defScope s_is_renaming, [], []⟩
def h_numbered : He.DefD := ⟨("numbered", none), "numbered", "numbered", defArgs s_numbered, defBody s_numbered, defScope s_numbered, [], []⟩
def h_are_alike : He.DefD := ⟨("are_alike", none), "are_alike", "are_alike", defArgs s_are_alike, defBody s_are_alike, defScope s_are_alike, [], []⟩
def h_solves : He.DefD := ⟨("solves", none), "solves", "solves", defArgs s_solves, defBody s_solves, defScope s_solves, [], []⟩
def h_l_state : He.DefD := ⟨("_law_state", none), "_law_state", "_law_state", defArgs s_l_state, defBody s_l_state, defScope s_l_state, [], []⟩
def h_l_take : He.DefD := ⟨("_law_take", none), "_law_take", "_law_take", defArgs s_l_take, defBody s_l_take, defScope s_l_take, [], []⟩
def h_l_pick : He.DefD := ⟨("_law_pick", none), "_law_pick", "_law_pick", defArgs s_l_pick, defBody s_l_pick, defScope s_l_pick, [], []⟩
def h_l_tongue : He.DefD := ⟨("_law_tongue", none), "_law_tongue", "_law_tongue", defArgs s_l_tongue, defBody s_l_tongue, defScope s_l_tongue, [], []⟩
def h_l_term : He.DefD := ⟨("_law_term", none), "_law_term", "_law_term", defArgs s_l_term, defBody s_l_term, defScope s_l_term, [], []⟩
def h_l_put : He.DefD := ⟨("_law_put", none), "_law_put", "_law_put", defArgs s_l_put, defBody s_l_put, defScope s_l_put, [], []⟩
def h_l_names : He.DefD := ⟨("_law_names", none), "_law_names", "_law_names", defArgs s_l_names, defBody s_l_names, defScope s_l_names, [], []⟩
def h_l_putting : He.DefD := ⟨("_law_putting", none), "_law_putting", "_law_putting", defArgs s_l_putting, defBody s_l_putting, defScope s_l_putting, [], []⟩
def h_law : He.DefD := ⟨("law", none), "law", "law", defArgs s_law, defBody s_law, defScope s_law, [], []⟩
def fn : List He.DefD := [h_are_signs_of_text, h_is_sign, h_is_variable, h_places_of, h_is_var, h_nodes, h_is_term, h_variables, h_is_putting, h_put_for, h_plain, h_behind, h_is_renaming, h_numbered, h_are_alike, h_solves, h_l_state, h_l_take, h_l_pick, h_l_tongue, h_l_term, h_l_put, h_l_names, h_l_putting, h_law]
def fa : List He.Fa := [.free "abs", .free "all", .free "dict", .free "int", .free "isinstance", .free "len", .free "list", .free "range", .free "repr", .free "set", .free "sorted", .free "str", .free "tuple", .free "zip", .glo "_law_names", .glo "_law_pick", .glo "_law_put", .glo "_law_putting", .glo "_law_state", .glo "_law_take", .glo "_law_term", .glo "_law_tongue", .glo "are_alike", .glo "are_signs_of_text", .glo "behind", .glo "is_putting", .glo "is_renaming", .glo "is_sign", .glo "is_term", .glo "is_var", .glo "is_variable", .glo "nodes", .glo "numbered", .glo "places_of", .glo "plain", .glo "put_for", .glo "solves", .glo "variables", .int "MOST_LETTERS" (8), .int "MOST_NODES" (400), .glo "law"]
abbrev R : PySem.W.OpenRow := PySem.W.OpenLaw.row PySem.Challenge.rw_termwright_k04_puttings
abbrev hk : PySem.W.Hook := He.hookD 4 fa fn
def ob (s : PySem.W.SharedT) : He.AlD := He.obsDG 4 fa fn (HandSHeadRun.getT s)
theorem ob_eq (s : PySem.W.SharedT) : ob s = hk.obs s.abs := He.obsDG_eq (HandSHeadRun.getT_eq s)
theorem run (w : World) : HandSHeadRun.RunEq R (PySem.W.view R.prog [29]) hk ob 4000 (("MOST_NODES" : PySem.Str) :: ("MOST_LETTERS" : PySem.Str) :: ("are_signs_of_text" : PySem.Str) :: ("is_sign" : PySem.Str) :: ("is_variable" : PySem.Str) :: ("places_of" : PySem.Str) :: ("is_var" : PySem.Str) :: ("nodes" : PySem.Str) :: ("is_term" : PySem.Str) :: ("variables" : PySem.Str) :: ("is_putting" : PySem.Str) :: ("put_for" : PySem.Str) :: ("plain" : PySem.Str) :: ("behind" : PySem.Str) :: ("is_renaming" : PySem.Str) :: ("numbered" : PySem.Str) :: ("are_alike" : PySem.Str) :: ("solves" : PySem.Str) :: ("_law_state" : PySem.Str) :: ("_law_take" : PySem.Str) :: ("_law_pick" : PySem.Str) :: ("_law_tongue" : PySem.Str) :: ("_law_term" : PySem.Str) :: ("_law_put" : PySem.Str) :: ("_law_names" : PySem.Str) :: ("_law_putting" : PySem.Str) :: []) w := by
  intro os
  kernel_rfl
theorem facts {K : PySem.W.Frag} {h : Heap} {mg : Str → Option Value} (X : K.In h) (G : h.Ns mainGlobals mg) (c : He.SaysD fa fn K) : GF K mg ∧ DF K := by
  refine ⟨⟨He.free_ok X G (c.fact 0 (f := .free "abs") rfl), He.free_ok X G (c.fact 1 (f := .free "all") rfl), He.free_ok X G (c.fact 2 (f := .free "dict") rfl), He.free_ok X G (c.fact 3 (f := .free "int") rfl), He.free_ok X G (c.fact 4 (f := .free "isinstance") rfl), He.free_ok X G (c.fact 5 (f := .free "len") rfl), He.free_ok X G (c.fact 6 (f := .free "list") rfl), He.free_ok X G (c.fact 7 (f := .free "range") rfl), He.free_ok X G (c.fact 8 (f := .free "repr") rfl), He.free_ok X G (c.fact 9 (f := .free "set") rfl), He.free_ok X G (c.fact 10 (f := .free "sorted") rfl), He.free_ok X G (c.fact 11 (f := .free "str") rfl), He.free_ok X G (c.fact 12 (f := .free "tuple") rfl), He.free_ok X G (c.fact 13 (f := .free "zip") rfl), He.glo_ok X G (c.fact 14 (f := .glo "_law_names") rfl), He.glo_ok X G (c.fact 15 (f := .glo "_law_pick") rfl), He.glo_ok X G (c.fact 16 (f := .glo "_law_put") rfl), He.glo_ok X G (c.fact 17 (f := .glo "_law_putting") rfl), He.glo_ok X G (c.fact 18 (f := .glo "_law_state") rfl), He.glo_ok X G (c.fact 19 (f := .glo "_law_take") rfl), He.glo_ok X G (c.fact 20 (f := .glo "_law_term") rfl), He.glo_ok X G (c.fact 21 (f := .glo "_law_tongue") rfl), He.glo_ok X G (c.fact 22 (f := .glo "are_alike") rfl), He.glo_ok X G (c.fact 23 (f := .glo "are_signs_of_text") rfl), He.glo_ok X G (c.fact 24 (f := .glo "behind") rfl), He.glo_ok X G (c.fact 25 (f := .glo "is_putting") rfl), He.glo_ok X G (c.fact 26 (f := .glo "is_renaming") rfl), He.glo_ok X G (c.fact 27 (f := .glo "is_sign") rfl), He.glo_ok X G (c.fact 28 (f := .glo "is_term") rfl), He.glo_ok X G (c.fact 29 (f := .glo "is_var") rfl), He.glo_ok X G (c.fact 30 (f := .glo "is_variable") rfl), He.glo_ok X G (c.fact 31 (f := .glo "nodes") rfl), He.glo_ok X G (c.fact 32 (f := .glo "numbered") rfl), He.glo_ok X G (c.fact 33 (f := .glo "places_of") rfl), He.glo_ok X G (c.fact 34 (f := .glo "plain") rfl), He.glo_ok X G (c.fact 35 (f := .glo "put_for") rfl), He.glo_ok X G (c.fact 36 (f := .glo "solves") rfl), He.glo_ok X G (c.fact 37 (f := .glo "variables") rfl), He.int_ok X G (c.fact 38 (f := .int "MOST_LETTERS" (8)) rfl), He.int_ok X G (c.fact 39 (f := .int "MOST_NODES" (400)) rfl)⟩, ⟨c.def_ 0 (d := h_are_signs_of_text) rfl, c.def_ 1 (d := h_is_sign) rfl, c.def_ 2 (d := h_is_variable) rfl, c.def_ 3 (d := h_places_of) rfl, c.def_ 4 (d := h_is_var) rfl, c.def_ 5 (d := h_nodes) rfl, c.def_ 6 (d := h_is_term) rfl, c.def_ 7 (d := h_variables) rfl, c.def_ 8 (d := h_is_putting) rfl, c.def_ 9 (d := h_put_for) rfl, c.def_ 10 (d := h_plain) rfl, c.def_ 11 (d := h_behind) rfl, c.def_ 12 (d := h_is_renaming) rfl, c.def_ 13 (d := h_numbered) rfl, c.def_ 14 (d := h_are_alike) rfl, c.def_ 15 (d := h_solves) rfl, c.def_ 16 (d := h_l_state) rfl, c.def_ 17 (d := h_l_take) rfl, c.def_ 18 (d := h_l_pick) rfl, c.def_ 19 (d := h_l_tongue) rfl, c.def_ 20 (d := h_l_term) rfl, c.def_ 21 (d := h_l_put) rfl, c.def_ 22 (d := h_l_names) rfl, c.def_ 23 (d := h_l_putting) rfl, c.def_ 24 (d := h_law) rfl⟩⟩
theorem holds_of (LT : ∀ ns : List Int, ns.length ≤ 63 → ∃ mh, callM T 101 24 [.scr ns] [] = some (.bl true, mh)) : PySem.Challenge.rw_termwright_k04_puttings.Holds := by
  open PySem.W PySem.Calls in
  w_on; o_law
  refine HandSHeadRun.head_any (r := PySem.W.OpenLaw.row PySem.Challenge.rw_termwright_k04_puttings) (q := PySem.W.view (PySem.W.OpenLaw.row PySem.Challenge.rw_termwright_k04_puttings).prog [29]) (H := hk) (ob := ob) (M := 4000) (loose := (("MOST_NODES" : PySem.Str) :: ("MOST_LETTERS" : PySem.Str) :: ("are_signs_of_text" : PySem.Str) :: ("is_sign" : PySem.Str) :: ("is_variable" : PySem.Str) :: ("places_of" : PySem.Str) :: ("is_var" : PySem.Str) :: ("nodes" : PySem.Str) :: ("is_term" : PySem.Str) :: ("variables" : PySem.Str) :: ("is_putting" : PySem.Str) :: ("put_for" : PySem.Str) :: ("plain" : PySem.Str) :: ("behind" : PySem.Str) :: ("is_renaming" : PySem.Str) :: ("numbered" : PySem.Str) :: ("are_alike" : PySem.Str) :: ("solves" : PySem.Str) :: ("_law_state" : PySem.Str) :: ("_law_take" : PySem.Str) :: ("_law_pick" : PySem.Str) :: ("_law_tongue" : PySem.Str) :: ("_law_term" : PySem.Str) :: ("_law_put" : PySem.Str) :: ("_law_names" : PySem.Str) :: ("_law_putting" : PySem.Str) :: [])) (d := HandSHeadRun.topDef (PySem.W.OpenLaw.row PySem.Challenge.rw_termwright_k04_puttings).prog 29) (kwd := []) ob_eq
    (by kernel_rfl) (fun s => by kernel_rfl) run (by kernel_rfl) (by kernel_rfl) (by kernel_rfl) (by rfl) (by first | assumption | decide +kernel) (by decide +kernel) ⟨rfl, rfl, rfl, rfl, rfl, by decide +kernel⟩ ?hw ?hc
  case hw => w_witness2
  case hc =>
    refine L2.Mi.walk_at (l := PySem.Challenge.rw_termwright_k04_puttings) (n := 63) (x := "script") (CX := L2.CX0) rfl (by decide) (by kernel_rfl) ?F (fun _ _ _ _ z => z)
    intro w mg fa h Y G hmg0
    obtain ⟨K, KX, c⟩ := Y
    have hmg : mg ("law" : PySem.Str) = some (.ref fa) := by
      have e : (HandSHeadRun.topDef (PySem.W.OpenLaw.row PySem.Challenge.rw_termwright_k04_puttings).prog 29).name = ("law" : PySem.Str) := by kernel_rfl
      rw [← e]
      exact hmg0
    obtain ⟨g, D⟩ := facts KX G c
    have e := hmg.symm.trans (He.glo_ok KX G (c.fact 40 (f := .glo "law") rfl))
    cases e
    obtain ⟨fd, F⟩ := D.d_law
    have b := FunD.bindsA (ps := P_law) F fun _ _ _ _ _ _ us hl => match us, hl with | [_], _ => rfl
    refine ⟨K, fd, spC (gb K) (callM T 101) 24 1, KX, fun s v => b s [v] rfl, fun H a ns hl _ hS => ?_, fun base _ _ => ?_⟩
    · obtain ⟨mh, e⟩ := LT ns hl
      exact sp_law (G := gb K) e hS
    · exact runAt2 (fnB_of (by decide) (table g D) 100) rfl F sc_law rfl ⟨rfl, by decide, by decide⟩ fun k C cdv outer s H E FF hr => b_law g _ cdv callerA outer s H E FF rfl hr
end L2.Mi.k04

theorem PySem.Challenge.cw_termwright_k04_puttings_holds : PySem.Challenge.rw_termwright_k04_puttings.Holds := by
  exact L2.Mi.k04.holds_of fun ns _ => L2.Mi.k04.law_true ns
