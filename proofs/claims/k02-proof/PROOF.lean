import PyProof.Rows.All
import Wide.All
import OpenK.AllK
import Wide.FinOn
import KE.KStateDown
import HandS.ForMost
import HandS.IsInst
import HandS.Deep
import HandS.TupAny
import HandS.DictComp
import HandS.CallLocal
import HandS.Wide
import HandS.Defaults
import HandS.WordsExc
import HandS.Head0
import HandS.Head1
import HandS.Head2
import HandS.HeadEnd
import HandS.HeadHook1
import HandS.HeadHook2
import HandS.TupLe
import PyProof.AutoSeq1
import PyProof.ListStr
import HandS.Walk
import HandS.Comp
import HandS.Words
import HandS.List
import KE.KRevSl
import HandS.SortInts
import HandS.NamedTupSort
import HandS.SortRule
import PySem.Challenge.RW_termwright_k02_parts_of_terms
set_option Elab.async false
set_option linter.all false
set_option maxRecDepth 100000
set_option maxHeartbeats 4000000
/-! Mini1: tree values, the little heap, the evaluator of the little language. -/
namespace L2.Mi
open PySem PySem.Spec PyProof.Rows

abbrev Sx := List Nat
abbrev MKey := Sum Int Sx
/-- a value: a tree; loc: a live (changeable) object; fn: a def of the text; scr: the law's script -/
inductive MV where
  | non | bl (b : Bool) | int (i : Int) | str (s : Sx) | fn (f : Nat)
  | tup (xs : List MV) | lst (xs : List MV) | loc (l : Nat) | dct (ks : List MKey) (vs : List MV) | scr (ns : List Int)
inductive MO where
  | lst (xs : List MV) | dct (ks : List MKey) (vs : List MV)
abbrev MHp := List (Option MO)
abbrev Env := List (Option MV)

inductive Op | add | sub | mul | fdiv | mod
inductive Cop | eq | ne | lt | le | gt | ge | mem | nmem | is | isn
inductive Ty | int | bool | str | tuple | list | dict
inductive Bi | len | abs | int | strI | tuple | list | all | any | sum | max | min | sorted
inductive Me | append | extend | pop | popAt | upper | get2
inductive Tg | nm (i : Nat) | tp (ts : List Tg)
inductive ME where
  | var (i : Nat)
  | c (v : MV)
  | bin (o : Op) (a b : ME)
  | neg (a : ME)
  | cmp (o : Cop) (a b : ME)
  | chn (o o' : Cop) (a b c : ME)
  | and (a b : ME) | or (a b : ME) | not (a : ME) | ite (c a b : ME)
  | tup (es : List ME) | lst (es : List ME) | dnew
  | call (f : Nat) (es : List ME) | callv (i : Nat) (es : List ME)
  | bi (f : Bi) (es : List ME) | isi (e : ME) (t : Ty)
  | meth (m : Me) (o : ME) (es : List ME)
  | sub (a i : ME) | slcL (a lo : ME) | slcH (a hi : ME) | slcB (a lo hi : ME) | rev (a : ME)
  | comp (tg : Tg) (own : List Nat) (it : ME) (cond : ME) (e : ME)
  | dcomp (tg : Tg) (own : List Nat) (it : ME) (cond : ME) (k e : ME)
  | rng1 (a : ME) | rng2 (a b : ME) | zip (a b : ME)
  | al (e : ME)
inductive MS where
  | ex (e : ME)
  | set (t : Tg) (e : ME)
  | par (i j : Nat) (a b : ME)
  | ret (e : ME)
  | ite (c : ME) (a b : List MS)
  | for (t : Tg) (it : ME) (body : List MS)
  | while (c : ME) (body : List MS)
  | sti (o i e : ME)
  | aug (i : Nat) (o : Op) (e : ME)
  | pass | brk | cnt

/-- a call: the def's number, its arguments, the heap -/
abbrev CallF := Nat → List MV → MHp → Option (MV × MHp)

/-! ### values -/
abbrev line : Nat := 16777216
/-- the items of a list -/
def getL (mh : MHp) : MV → Option (List MV)
  | .lst xs => some xs
  | .loc l => match mh[l]? with
    | some (some (.lst xs)) => some xs
    | _ => none
  | _ => none
def getD (mh : MHp) : MV → Option (List MKey × List MV)
  | .dct ks vs => some (ks, vs)
  | .loc l => match mh[l]? with
    | some (some (.dct ks vs)) => some (ks, vs)
    | _ => none
  | _ => none
mutual
/-- live objects with numbers from n on are read out -/
def frz (n : Nat) (mh : MHp) : Nat → MV → Option MV
  | k, .tup xs => (frzs n mh k xs).map .tup
  | k, .lst xs => (frzs n mh k xs).map .lst
  | k, .dct ks vs => (frzs n mh k vs).map (.dct ks)
  | k, .loc l => if l < n then some (.loc l) else match k with
    | 0 => none
    | k + 1 => match mh[l]? with
      | some (some (.lst xs)) => (frzs n mh k xs).map .lst
      | some (some (.dct ks vs)) => (frzs n mh k vs).map (.dct ks)
      | _ => none
  | _, .non => some .non
  | _, .bl b => some (.bl b)
  | _, .int i => some (.int i)
  | _, .str s => some (.str s)
  | _, .fn f => some (.fn f)
  | _, .scr ns => some (.scr ns)
def frzs (n : Nat) (mh : MHp) : Nat → List MV → Option (List MV)
  | _, [] => some []
  | k, x :: xs => match frz n mh k x with
    | none => none
    | some y => (frzs n mh k xs).map (y :: ·)
end

mutual
/-- plain data -/
def toD : MV → PyData
  | .non => .none
  | .bl b => .bool b
  | .int i => .int i
  | .str s => .str ⟨s.toArray⟩
  | .tup xs => .tuple (toDs xs)
  | .lst xs => .list (toDs xs)
  | .scr ns => .list (ns.map .int)
  | .fn _ => .dict []
  | .loc _ => .dict []
  | .dct _ _ => .dict []
def toDs : List MV → List PyData
  | [] => []
  | x :: xs => toD x :: toDs xs
end
/-- data that == serves -/
def okD (x : MV) : Bool := SeqAt.shaped (toD x)
def eqD (x y : MV) : Bool := PyData.eqv (toD x) (toD y)
def idx {α : Type} (xs : List α) (i : Int) : Option α := L2.atI xs i
def cut {α : Type} (xs : List α) (lo hi : Option Int) : List α := (xs.drop (HT.sIx xs.length 0 lo)).take (HT.sIx xs.length xs.length hi - HT.sIx xs.length 0 lo)

/-! ### operations -/
def addV (mh : MHp) (x y : MV) : Option MV := match x, y with
  | .int i, .int j => some (.int (i + j))
  | .str s, .str t => if s.length + t.length ≤ line then some (.str (s ++ t)) else none
  | .tup xs, .tup ys => if xs.length + ys.length ≤ line then some (.tup (xs ++ ys)) else none
  | x, y => match getL mh x with
    | none => none
    | some xs => match getL mh y with
      | none => none
      | some ys => if xs.length + ys.length ≤ line then some (.lst (xs ++ ys)) else none
def mulV (x y : MV) : Option MV := match x, y with
  | .int i, .int j => if (-(2 ^ 64) < i ∧ i < 2 ^ 64) ∨ (-(2 ^ 64) < j ∧ j < 2 ^ 64) then some (.int (i * j)) else none
  | .str s, .int j => if 0 ≤ j ∧ j ≤ 1000000 ∧ s.length * j.toNat ≤ line then some (.str (List.replicate j.toNat s).flatten) else none
  | _, _ => none
def intV (f : Int → Int → Option Int) (x y : MV) : Option MV := match x, y with
  | .int i, .int j => (f i j).map .int
  | _, _ => none
def binV (mh : MHp) : Op → MV → MV → Option MV
  | .add, x, y => addV mh x y
  | .mul, x, y => mulV x y
  | .sub, x, y => intV (fun i j => some (i - j)) x y
  | .fdiv, x, y => intV (fun i j => if j ≠ 0 ∧ j.natAbs < 1073741824 then some (i.fdiv j) else none) x y
  | .mod, x, y => intV (fun i j => if j ≠ 0 then some (i.fmod j) else none) x y
def eqV (mh : MHp) (x y : MV) : Option Bool := match frz 0 mh 8 x with
  | none => none
  | some x' => match frz 0 mh 8 y with
    | none => none
    | some y' => if okD x' = true ∧ okD y' = true then some (eqD x' y') else none
def memV (mh : MHp) (x y : MV) : Option Bool := match x, y with
  | .str [c], .str t => some (decide (c ∈ t))
  | x, y => match frz 0 mh 8 x with
    | none => none
    | some x' => match frz 0 mh 8 y with
      | some (.lst ys) => if okD x' = true ∧ okD (.lst ys) = true then some (ys.any fun z => eqD z x') else none
      | _ => none
def ordV (x y : MV) : Option (Bool × Bool) := match x, y with
  | .int i, .int j => some (decide (i < j), decide (j < i))
  | .str s, .str t => some (decide (s < t), decide (t < s))
  | _, _ => none
def isV : MV → MV → Option Bool
  | .non, .non => some true
  | _, .non => some false
  | .bl a, .bl b => some (decide (a = b))
  | _, _ => none
def cmpV (mh : MHp) : Cop → MV → MV → Option Bool
  | .eq, x, y => eqV mh x y
  | .ne, x, y => (eqV mh x y).map (!·)
  | .mem, x, y => memV mh x y
  | .nmem, x, y => (memV mh x y).map (!·)
  | .lt, x, y => (ordV x y).map fun p => p.1
  | .gt, x, y => (ordV x y).map fun p => p.2
  | .le, x, y => (ordV x y).map fun p => !p.2
  | .ge, x, y => (ordV x y).map fun p => !p.1
  | .is, x, y => isV x y
  | .isn, x, y => (isV x y).map (!·)
def subV (mh : MHp) : MV → MV → Option MV
  | .tup xs, .int i => idx xs i
  | .str s, .int i => if s.length ≤ line then (idx s i).map fun c => .str [c] else none
  | x, .int i => match getL mh x with
    | some xs => idx xs i
    | none => none
  | _, _ => none
def slcV (mh : MHp) (x : MV) (lo hi : Option Int) : Option MV := match x with
  | .tup xs => some (.tup (cut xs lo hi))
  | .str s => if s.length ≤ line then some (.str (cut s lo hi)) else none
  | .scr ns => some (.lst (cut (ns.map .int) lo hi))
  | x => (getL mh x).map fun xs => .lst (cut xs lo hi)
def isTy : MV → Ty → MHp → Option Bool
  | .non, _, _ => some false
  | .bl _, t, _ => some (match t with | .bool => true | .int => true | _ => false)
  | .int _, t, _ => some (match t with | .int => true | _ => false)
  | .str _, t, _ => some (match t with | .str => true | _ => false)
  | .tup _, t, _ => some (match t with | .tuple => true | _ => false)
  | .lst _, t, _ => some (match t with | .list => true | _ => false)
  | .dct _ _, t, _ => some (match t with | .dict => true | _ => false)
  | .loc l, t, mh => match mh[l]? with
    | some (some (.lst _)) => some (match t with | .list => true | _ => false)
    | some (some (.dct _ _)) => some (match t with | .dict => true | _ => false)
    | _ => none
  | .fn _, _, _ => none
  | .scr _, _, _ => none
def blOf : MV → Option Bool
  | .bl b => some b
  | _ => none
def intOf : MV → Option Int
  | .int i => some i
  | _ => none
def one1 (f : MV → Option MV) : List MV → Option MV
  | [x] => f x
  | _ => none
def lenV (mh : MHp) (x : MV) : Option MV := match x with
  | .str s => if s.length ≤ line then some (.int s.length) else none
  | .tup xs => some (.int xs.length)
  | x => (getL mh x).map fun xs => .int xs.length
def absV (x : MV) : Option MV := match x with
  | .int i => some (.int (if i < 0 then -i else i))
  | _ => none
def intV1 (x : MV) : Option MV := match x with
  | .int i => some (.int i)
  | .bl b => some (.int (if b = true then 1 else 0))
  | _ => none
def strV (x : MV) : Option MV := match x with
  | .int i => if i.natAbs.log2 < 1920 then some (.str (toString i : Str).cps.toList) else none
  | _ => none
def tupV (mh : MHp) (x : MV) : Option MV := match x with
  | .tup xs => some (.tup xs)
  | x => (getL mh x).map .tup
def lstV (mh : MHp) (x : MV) : Option MV := match x with
  | .tup xs => some (.lst xs)
  | .str s => if s.length ≤ line then some (.lst (s.map fun c => .str [c])) else none
  | x => (getL mh x).map .lst
def bls (mh : MHp) (x : MV) : Option (List Bool) := (getL mh x).bind fun xs => xs.mapM blOf
def intsM (mh : MHp) (x : MV) : Option (List Int) := (getL mh x).bind fun xs => xs.mapM intOf
def tupI (x : MV) : Option (List Int) := match x with
  | .tup ys => ys.mapM intOf
  | _ => none
/-- sorted: whole numbers; or tuples of whole numbers that stand in order already, the first of them empty -/
def sortedV (mh : MHp) (x : MV) : Option MV := match getL mh x with
  | none => none
  | some xs => match xs.mapM intOf with
    | some ns => some (.lst ((ns.mergeSort fun a b => decide (a ≤ b)).map .int))
    | none => match xs.mapM tupI with
      | some nss => if nss.head? = some [] ∧ nss.Pairwise (fun a b => HT.lexLt b a = false) then some (.lst xs) else none
      | none => none
def biV (mh : MHp) : Bi → List MV → Option MV
  | .len, xs => one1 (lenV mh) xs
  | .abs, xs => one1 absV xs
  | .int, xs => one1 intV1 xs
  | .strI, xs => one1 strV xs
  | .tuple, xs => one1 (tupV mh) xs
  | .list, xs => one1 (lstV mh) xs
  | .all, xs => one1 (fun x => (bls mh x).map fun bs => .bl (bs.all id)) xs
  | .any, xs => one1 (fun x => (bls mh x).map fun bs => .bl (bs.any id)) xs
  | .sum, xs => one1 (fun x => (intsM mh x).map fun ns => .int ns.sum) xs
  | .max, xs => one1 (fun x => (intsM mh x).bind fun ns => ns.max?.map .int) xs
  | .min, xs => one1 (fun x => (intsM mh x).bind fun ns => ns.min?.map .int) xs
  | .sorted, xs => one1 (sortedV mh) xs
mutual
/-- all live objects within have numbers below n -/
def bd (n : Nat) : MV → Bool
  | .tup xs => bds n xs
  | .lst xs => bds n xs
  | .dct _ vs => bds n vs
  | .loc l => decide (l < n)
  | .non => true
  | .bl _ => true
  | .int _ => true
  | .str _ => true
  | .fn _ => true
  | .scr _ => true
def bds (n : Nat) : List MV → Bool
  | [] => true
  | x :: xs => bd n x && bds n xs
end
/-- what may be written into the object l while a frame that began at base runs -/
def wr (base l : Nat) (x : MV) : Bool := decide (base ≤ l) || bd l x
def upperC (s : Sx) : Sx := (Txt.upper ⟨s.toArray⟩).cps.toList
/-- the live list l -/
def liveL (mh : MHp) (x : MV) : Option (Nat × List MV) := match x with
  | .loc l => match mh[l]? with
    | some (some (.lst xs)) => some (l, xs)
    | _ => none
  | _ => none
/-- the receiver's kind, ahead of the arguments -/
def tyM (mh : MHp) : Me → MV → Bool
  | .upper, .str _ => true
  | .append, x => (liveL mh x).isSome
  | .extend, x => (liveL mh x).isSome
  | .pop, x => (liveL mh x).isSome
  | .popAt, x => (liveL mh x).isSome
  | _, _ => false
/-- the items of a list or a tuple -/
def seqOf (mh : MHp) (x : MV) : Option (List MV) := match x with
  | .tup ys => some ys
  | x => getL mh x
def appV (base : Nat) (mh : MHp) (o : MV) (es : List MV) : Option (MV × MHp) := match liveL mh o, es with
  | some (l, xs), [x] => if wr base l x = true ∧ xs.length < line then some (.non, mh.set l (some (.lst (xs ++ [x])))) else none
  | _, _ => none
def extV (base : Nat) (mh : MHp) (o : MV) (es : List MV) : Option (MV × MHp) := match liveL mh o, es with
  | some (l, xs), [x] => match seqOf mh x with
    | some ys => if (ys.all (wr base l)) = true ∧ xs.length + ys.length ≤ line then some (.non, mh.set l (some (.lst (xs ++ ys)))) else none
    | none => none
  | _, _ => none
def popV (mh : MHp) (o : MV) (es : List MV) : Option (MV × MHp) := match liveL mh o, es with
  | some (l, xs), [] => (xs[xs.length - 1]?).map fun y => (y, mh.set l (some (.lst xs.dropLast)))
  | _, _ => none
def popAtV (mh : MHp) (o : MV) (es : List MV) : Option (MV × MHp) := match liveL mh o, es with
  | some (l, xs), [.int i] => if -(2 ^ 63) ≤ i ∧ i < 2 ^ 63 then (match seqIndex? i xs.length with
      | none => none
      | some k => (xs[k]?).map fun y => (y, mh.set l (some (.lst (xs.eraseIdx k))))) else none
  | _, _ => none
def uppV (mh : MHp) (o : MV) (es : List MV) : Option (MV × MHp) := match o, es with
  | .str s, [] => if s.length ≤ 5592405 then some (.str (upperC s), mh) else none
  | _, _ => none
def methV (base : Nat) (mh : MHp) : Me → MV → List MV → Option (MV × MHp)
  | .append, o, es => appV base mh o es
  | .extend, o, es => extV base mh o es
  | .pop, o, es => popV mh o es
  | .popAt, o, es => popAtV mh o es
  | .upper, o, es => uppV mh o es
  | .get2, _, _ => none
mutual
def asg (mh : MHp) : Tg → MV → Env → Option Env
  | .nm i, v, ρ => if i < ρ.length then some (ρ.set i (some v)) else none
  | .tp ts, v, ρ => match v with
    | .tup xs => asgs mh ts xs ρ
    | _ => none
def asgs (mh : MHp) : List Tg → List MV → Env → Option Env
  | [], [], ρ => some ρ
  | t :: ts, x :: xs, ρ => match asg mh t x ρ with
    | none => none
    | some ρ' => asgs mh ts xs ρ'
  | _, _, _ => none
end
def wipeE (ρ : Env) : List Nat → Env
  | [] => ρ
  | v :: vs => (wipeE ρ vs).set v none
/-- what a loop walks: the items; the live list that they are read from -/
structure Its where
  items : List MV
  src : Option Nat := none
def Its.ok (J : Its) (mh : MHp) : Prop := match J.src with
  | none => True
  | some l => mh[l]? = some (some (.lst J.items))
def itsOf (mh : MHp) : MV → Option Its
  | .tup xs => some ⟨xs, none⟩
  | .lst xs => some ⟨xs, none⟩
  | .str s => some ⟨s.map fun c => .str [c], none⟩
  | .loc l => match mh[l]? with
    | some (some (.lst xs)) => some ⟨xs, some l⟩
    | _ => none
  | _ => none
open Classical in
noncomputable def compGo (J : Its) (f : MV → MHp → Option (Option MV × MHp)) : List MV → MHp → Option (List MV × MHp)
  | [], mh => if J.ok mh then some ([], mh) else none
  | x :: xs, mh => if J.ok mh then (match f x mh with
    | none => none
    | some (r, mh1) => match compGo J f xs mh1 with
      | none => none
      | some (rs, mh2) => some (r.toList ++ rs, mh2)) else none

inductive Fl where
  | nx | bk | ct | rt (v : MV)
open Classical in
noncomputable def forGo (J : Its) (f : MV → Env → MHp → Option (Fl × Env × MHp)) : List MV → Env → MHp → Option (Fl × Env × MHp)
  | [], ρ, mh => if J.ok mh then some (.nx, ρ, mh) else none
  | x :: xs, ρ, mh => if J.ok mh then (match f x ρ mh with
    | none => none
    | some (.nx, ρ1, mh1) => forGo J f xs ρ1 mh1
    | some (.ct, ρ1, mh1) => forGo J f xs ρ1 mh1
    | some (.bk, ρ1, mh1) => some (.nx, ρ1, mh1)
    | some (.rt v, ρ1, mh1) => some (.rt v, ρ1, mh1)) else none
def whileN (c : Env → MHp → Option (Bool × MHp)) (f : Env → MHp → Option (Fl × Env × MHp)) : Nat → Env → MHp → Option (Fl × Env × MHp)
  | 0, _, _ => none
  | n + 1, ρ, mh => match c ρ mh with
    | none => none
    | some (false, mh1) => some (.nx, ρ, mh1)
    | some (true, mh1) => match f ρ mh1 with
      | none => none
      | some (.nx, ρ1, mh2) => whileN c f n ρ1 mh2
      | some (.ct, ρ1, mh2) => whileN c f n ρ1 mh2
      | some (.bk, ρ1, mh2) => some (.nx, ρ1, mh2)
      | some (.rt v, ρ1, mh2) => some (.rt v, ρ1, mh2)
open Classical in
noncomputable def whileM (c : Env → MHp → Option (Bool × MHp)) (f : Env → MHp → Option (Fl × Env × MHp)) (ρ : Env) (mh : MHp) : Option (Fl × Env × MHp) :=
  if h : ∃ n, whileN c f n ρ mh ≠ none then whileN c f (Classical.choose h) ρ mh else none

/-! ### the evaluator -/
section
variable (C : CallF) (base : Nat)
mutual
noncomputable def ev : ME → Env → MHp → Option (MV × MHp)
  | .var i, ρ, mh => match ρ[i]? with
    | some (some v) => some (v, mh)
    | _ => none
  | .c v, _, mh => some (v, mh)
  | .bin o a b, ρ, mh => match ev a ρ mh with
    | none => none
    | some (x, mh1) => match ev b ρ mh1 with
      | none => none
      | some (y, mh2) => (binV mh2 o x y).map (·, mh2)
  | .neg a, ρ, mh => match ev a ρ mh with
    | some (.int i, mh1) => some (.int (-i), mh1)
    | _ => none
  | .cmp o a b, ρ, mh => match ev a ρ mh with
    | none => none
    | some (x, mh1) => match ev b ρ mh1 with
      | none => none
      | some (y, mh2) => (cmpV mh2 o x y).map (.bl ·, mh2)
  | .chn o o' a b c, ρ, mh => match ev a ρ mh with
    | none => none
    | some (x, mh1) => match ev b ρ mh1 with
      | none => none
      | some (y, mh2) => match cmpV mh2 o x y with
        | none => none
        | some false => some (.bl false, mh2)
        | some true => match ev c ρ mh2 with
          | none => none
          | some (z, mh3) => (cmpV mh3 o' y z).map (.bl ·, mh3)
  | .and a b, ρ, mh => match ev a ρ mh with
    | some (.bl true, mh1) => ev b ρ mh1
    | some (.bl false, mh1) => some (.bl false, mh1)
    | _ => none
  | .or a b, ρ, mh => match ev a ρ mh with
    | some (.bl false, mh1) => ev b ρ mh1
    | some (.bl true, mh1) => some (.bl true, mh1)
    | _ => none
  | .not a, ρ, mh => match ev a ρ mh with
    | some (.bl b, mh1) => some (.bl (!b), mh1)
    | _ => none
  | .ite c a b, ρ, mh => match ev c ρ mh with
    | some (.bl true, mh1) => ev a ρ mh1
    | some (.bl false, mh1) => ev b ρ mh1
    | _ => none
  | .tup es, ρ, mh => match evs es ρ mh with
    | none => none
    | some (xs, mh1) => if xs.length ≤ line then some (.tup xs, mh1) else none
  | .lst es, ρ, mh => match evs es ρ mh with
    | none => none
    | some (xs, mh1) => if xs.length ≤ line then some (.lst xs, mh1) else none
  | .dnew, _, mh => some (.dct [] [], mh)
  | .call f es, ρ, mh => match evs es ρ mh with
    | none => none
    | some (xs, mh1) => C f xs mh1
  | .callv i es, ρ, mh => match ρ[i]? with
    | some (some (.fn f)) => match evs es ρ mh with
      | none => none
      | some (xs, mh1) => C f xs mh1
    | _ => none
  | .bi f es, ρ, mh => match evs es ρ mh with
    | none => none
    | some (xs, mh1) => (biV mh1 f xs).map (·, mh1)
  | .isi e t, ρ, mh => match ev e ρ mh with
    | none => none
    | some (x, mh1) => (isTy x t mh1).map (.bl ·, mh1)
  | .meth m o es, ρ, mh => match ev o ρ mh with
    | none => none
    | some (x, mh1) => if tyM mh1 m x = true then (match evs es ρ mh1 with
      | none => none
      | some (xs, mh2) => methV base mh2 m x xs) else none
  | .sub a i, ρ, mh => match ev a ρ mh with
    | none => none
    | some (x, mh1) => match ev i ρ mh1 with
      | none => none
      | some (y, mh2) => (subV mh2 x y).map (·, mh2)
  | .slcL a lo, ρ, mh => match ev a ρ mh with
    | none => none
    | some (x, mh1) => match ev lo ρ mh1 with
      | some (.int l, mh2) => (slcV mh2 x (some l) none).map (·, mh2)
      | _ => none
  | .slcH a hi, ρ, mh => match ev a ρ mh with
    | none => none
    | some (x, mh1) => match ev hi ρ mh1 with
      | some (.int l, mh2) => (slcV mh2 x none (some l)).map (·, mh2)
      | _ => none
  | .slcB a lo hi, ρ, mh => match ev a ρ mh with
    | none => none
    | some (x, mh1) => match ev lo ρ mh1 with
      | some (.int l, mh2) => match ev hi ρ mh2 with
        | some (.int h, mh3) => (slcV mh3 x (some l) (some h)).map (·, mh3)
        | _ => none
      | _ => none
  | .rev a, ρ, mh => match ev a ρ mh with
    | some (.tup xs, mh1) => some (.tup xs.reverse, mh1)
    | _ => none
  | .comp tg own it cond e, ρ, mh => match evI it ρ mh with
    | none => none
    | some (J, mh1) => if J.items.length ≤ line then (match compGo J (fun x mh2 => match asg mh2 tg x (wipeE ρ own) with
        | none => none
        | some ρ' => match ev cond ρ' mh2 with
          | some (.bl true, mh3) => match ev e ρ' mh3 with
            | none => none
            | some (y, mh4) => some (some y, mh4)
          | some (.bl false, mh3) => some (none, mh3)
          | _ => none) J.items mh1 with
      | none => none
      | some (ys, mh5) => some (.lst ys, mh5)) else none
  | .al e, ρ, mh => match ev e ρ mh with
    | some (.lst xs, mh1) => some (.loc mh1.length, mh1 ++ [some (.lst xs)])
    | some (.dct ks vs, mh1) => some (.loc mh1.length, mh1 ++ [some (.dct ks vs)])
    | _ => none
  | .dcomp .., _, _ => none
  | .rng1 _, _, _ => none
  | .rng2 .., _, _ => none
  | .zip .., _, _ => none
noncomputable def evs : List ME → Env → MHp → Option (List MV × MHp)
  | [], _, mh => some ([], mh)
  | e :: es, ρ, mh => match ev e ρ mh with
    | none => none
    | some (x, mh1) => match evs es ρ mh1 with
      | none => none
      | some (xs, mh2) => some (x :: xs, mh2)
noncomputable def evI : ME → Env → MHp → Option (Its × MHp)
  | .rng1 a, ρ, mh => match ev a ρ mh with
    | some (.int n, mh1) => if -(2 ^ 62) ≤ n ∧ n < 2 ^ 62 then some (⟨(List.range n.toNat).map fun (k : Nat) => .int (k : Int), none⟩, mh1) else none
    | _ => none
  | .rng2 a b, ρ, mh => match ev a ρ mh with
    | some (.int i, mh1) => match ev b ρ mh1 with
      | some (.int j, mh2) => if -(2 ^ 62) ≤ i ∧ i < 2 ^ 62 ∧ -(2 ^ 62) ≤ j ∧ j < 2 ^ 62 then some (⟨(List.range (j - i).toNat).map fun (k : Nat) => .int (i + (k : Int)), none⟩, mh2) else none
      | _ => none
    | _ => none
  | e, ρ, mh => match ev e ρ mh with
    | none => none
    | some (v, mh1) => (itsOf mh1 v).map (·, mh1)
end
mutual
noncomputable def ex : MS → Env → MHp → Option (Fl × Env × MHp)
  | .ex e, ρ, mh => match ev C base e ρ mh with
    | none => none
    | some (_, mh1) => some (.nx, ρ, mh1)
  | .set t e, ρ, mh => match ev C base e ρ mh with
    | none => none
    | some (v, mh1) => match asg mh1 t v ρ with
      | none => none
      | some ρ' => some (.nx, ρ', mh1)
  | .par i j a b, ρ, mh => match ev C base a ρ mh with
    | none => none
    | some (x, mh1) => match ev C base b ρ mh1 with
      | none => none
      | some (y, mh2) => if i < ρ.length ∧ j < ρ.length then some (.nx, (ρ.set i (some x)).set j (some y), mh2) else none
  | .ret e, ρ, mh => match ev C base e ρ mh with
    | none => none
    | some (v, mh1) => some (.rt v, ρ, mh1)
  | .ite c a b, ρ, mh => match ev C base c ρ mh with
    | some (.bl true, mh1) => exs a ρ mh1
    | some (.bl false, mh1) => exs b ρ mh1
    | _ => none
  | .for t it body, ρ, mh => match evI C base it ρ mh with
    | none => none
    | some (J, mh1) => forGo J (fun x ρ1 mh2 => match asg mh2 t x ρ1 with
      | none => none
      | some ρ2 => exs body ρ2 mh2) J.items ρ mh1
  | .while c body, ρ, mh => whileM (fun ρ1 mh1 => match ev C base c ρ1 mh1 with
      | some (.bl b, mh2) => some (b, mh2)
      | _ => none) (fun ρ1 mh1 => exs body ρ1 mh1) ρ mh
  | .sti o i e, ρ, mh => match ev C base e ρ mh with
    | none => none
    | some (v, mh1) => match ev C base o ρ mh1 with
      | some (.loc l, mh2) => match ev C base i ρ mh2 with
        | some (.int k, mh3) => match mh3[l]? with
          | some (some (.lst xs)) => match L2.ixN xs.length k with
            | none => none
            | some j => if wr base l v = true then some (.nx, ρ, mh3.set l (some (.lst (xs.set j v)))) else none
          | _ => none
        | _ => none
      | _ => none
  | .aug i o e, ρ, mh => match ρ[i]? with
    | some (some (.int x)) => match ev C base e ρ mh with
      | some (.int y, mh1) => match o with
        | .add => some (.nx, ρ.set i (some (.int (x + y))), mh1)
        | .sub => some (.nx, ρ.set i (some (.int (x - y))), mh1)
        | _ => none
      | _ => none
    | _ => none
  | .pass, ρ, mh => some (.nx, ρ, mh)
  | .brk, ρ, mh => some (.bk, ρ, mh)
  | .cnt, ρ, mh => some (.ct, ρ, mh)
noncomputable def exs : List MS → Env → MHp → Option (Fl × Env × MHp)
  | [], ρ, mh => some (.nx, ρ, mh)
  | s :: ss, ρ, mh => match ex s ρ mh with
    | some (.nx, ρ1, mh1) => exs ss ρ1 mh1
    | r => r
end
end
/-- a def: its parameters' number, its names' number, whether what it makes stays live, its body -/
structure Df where
  np : Nat
  ns : Nat
  live : Bool
  body : List MS
def endV : Fl → Option MV
  | .nx => some .non
  | .rt v => some v
  | _ => none
noncomputable def runD (C : CallF) (d : Df) (args : List MV) (mh : MHp) : Option (MV × MHp) :=
  if args.length = d.np then
    match exs C mh.length d.body (args.map some ++ List.replicate (d.ns - d.np) none) mh with
    | none => none
    | some (fl, _, mh1) => match endV fl with
      | none => none
      | some v => if d.live = true then some (v, mh1) else (frz mh.length mh1 8 v).map (·, mh1.take mh.length)
  else none
noncomputable def callM (T : List Df) : Nat → CallF
  | 0, _, _, _ => none
  | k + 1, f, args, mh => match T[f]? with
    | none => none
    | some d => runD (callM T k) d args mh
end L2.Mi

set_option Elab.async false
set_option linter.all false
set_option maxRecDepth 100000
set_option maxHeartbeats 4000000
/-! Mini2: how values and the little heap stand for the layer's; what is kept. -/
namespace L2.Mi
open PySem PySem.Spec PyProof.Rows

structure Wd where
  H : Hp
  β : List Addr
  mh : MHp
  ex : List Addr
  bs : List Nat
def Wd.base (W : Wd) : Nat := W.bs.headD 0
structure Gb where
  K : PySem.W.Frag
  fa : Nat → Option Addr
def Wd.live (W : Wd) (a : Addr) : Prop := ∃ (l : Nat) (o : MO), W.mh[l]? = some (some o) ∧ W.β[l]? = some a
def kOf : MKey → Key
  | .inl i => .inl i
  | .inr s => .inr ⟨s.toArray⟩
abbrev noH : Hp := fun _ => none
mutual
def Rep (G : Gb) (W : Wd) : MV → V → Prop
  | .non, v => v = .non
  | .bl b, v => v = .bl b
  | .int i, v => v = .int i
  | .str s, v => v = .str ⟨s.toArray⟩
  | .fn f, v => ∃ a, G.fa f = some a ∧ v = .ref a
  | .tup xs, v => ∃ a vs, v = .ref a ∧ SqT G.K W.H a vs ∧ Reps G W xs vs
  | .lst xs, v => ∃ a vs, v = .ref a ∧ W.H a = some (.lst vs) ∧ (¬ W.live a ∧ a ∉ W.ex) ∧ Reps G W xs vs
  | .dct ks ms, v => ∃ a vs, v = .ref a ∧ W.H a = some (.dK ((ks.map kOf).zip vs)) ∧ (¬ W.live a ∧ a ∉ W.ex) ∧ ks.length = ms.length ∧ Reps G W ms vs
  | .loc l, v => ∃ a, v = .ref a ∧ W.β[l]? = some a
  | .scr ns, v => ∃ a, v = .ref a ∧ ((Rd W.H a (.lst (ns.map .int)) ∧ ¬ W.live a ∧ a ∉ W.ex) ∨ SqL G.K noH a (ns.map .int))
def Reps (G : Gb) (W : Wd) : List MV → List V → Prop
  | [], vs => vs = []
  | x :: xs, vs => ∃ v r, vs = v :: r ∧ Rep G W x v ∧ Reps G W xs r
end
def ORep (G : Gb) (W : Wd) : MO → Addr → Prop
  | .lst xs, a => ∃ vs, W.H a = some (.lst vs) ∧ Reps G W xs vs
  | .dct ks ms, a => ∃ vs, W.H a = some (.dK ((ks.map kOf).zip vs)) ∧ ks.length = ms.length ∧ Reps G W ms vs
def obd (n : Nat) : MO → Bool
  | .lst xs => bds n xs
  | .dct _ vs => bds n vs
def NoTup (u : HO) : Prop := (∀ xs, u ≠ .tup xs) ∧ ∀ o v, u ≠ .frz o v
structure Sim (G : Gb) (W : Wd) : Prop where
  len : W.β.length = W.mh.length
  ble : ∀ b ∈ W.bs, b ≤ W.mh.length
  top : ∀ b ∈ W.bs, b ≤ W.base
  obj : ∀ (l : Nat) (o : MO), W.mh[l]? = some (some o) → ∀ a, W.β[l]? = some a → ORep G W o a
  inj : ∀ (l l' : Nat) (a : Addr) (o o' : MO), W.mh[l]? = some (some o) → W.mh[l']? = some (some o') → W.β[l]? = some a → W.β[l']? = some a → l = l'
  exo : ∀ a ∈ W.ex, ∃ u, W.H a = some u ∧ NoTup u
  exl : ∀ a ∈ W.ex, ¬ W.live a
  bnd : ∀ b ∈ W.bs, ∀ (l : Nat) (o : MO), l < b → W.mh[l]? = some (some o) → obd b o = true
structure Keep (A B : Wd) : Prop where
  ex : ∀ a ∈ A.ex, a ∈ B.ex
  exn : ∀ a ∈ B.ex, a ∈ A.ex ∨ A.H a = none
  dom : ∀ a, A.H a ≠ none → B.H a ≠ none
  bs : B.bs = A.bs
  pre : ∃ t, B.β = A.β ++ t
  obj : ∀ a o, A.H a = some o → ¬ A.live a → B.H a = some o
  liv : ∀ a, B.live a → A.live a ∨ A.H a = none

theorem ORep.at {G : Gb} {W : Wd} {o : MO} {a : Addr} (h : ORep G W o a) : ∃ u, W.H a = some u ∧ NoTup u := by
  cases o with
  | lst xs => obtain ⟨vs, e, _⟩ := h; exact ⟨_, e, ⟨(fun _ z => nomatch z), (fun _ _ z => nomatch z)⟩⟩
  | dct ks ms => obtain ⟨vs, e, _⟩ := h; exact ⟨_, e, ⟨(fun _ z => nomatch z), (fun _ _ z => nomatch z)⟩⟩
theorem Sim.liveAt {G : Gb} {W : Wd} (S : Sim G W) {a : Addr} (h : W.live a) : ∃ u, W.H a = some u ∧ NoTup u := by
  obtain ⟨l, o, e1, e2⟩ := h
  exact (S.obj l o e1 a e2).at
theorem SqT_cases {K : PySem.W.Frag} {H H' : Hp} {a : Addr} {vs : List V} (h : SqT K H a vs) (k : ∀ u, H a = some u → ¬ NoTup u → H' a = some u) : SqT K H' a vs := by
  rcases h with (h | ⟨o, h⟩) | h
  · exact .inl (.inl (k _ h fun z => z.1 _ rfl))
  · exact .inl (.inr ⟨o, k _ h fun z => z.2 _ _ rfl⟩)
  · exact .inr h
theorem Keep.tup {G : Gb} {A B : Wd} (S : Sim G A) (k : Keep A B) {a : Addr} {vs : List V} (h : SqT G.K A.H a vs) : SqT G.K B.H a vs :=
  SqT_cases h fun u e n => k.obj a u e fun z => by
    obtain ⟨w, e', n'⟩ := S.liveAt z
    rw [e] at e'; cases e'
    exact n n'
theorem Keep.off {A B : Wd} (k : Keep A B) {a : Addr} {u : HO} (e : A.H a = some u) (n : ¬ A.live a ∧ a ∉ A.ex) : B.H a = some u ∧ ¬ B.live a ∧ a ∉ B.ex := by
  refine ⟨k.obj a u e n.1, fun z => ?_, fun z => (k.exn a z).elim n.2 fun z => by rw [e] at z; cases z⟩
  rcases k.liv a z with z | z
  · exact n.1 z
  · rw [e] at z; cases z
theorem pre_get {α : Type} {xs t : List α} {l : Nat} {a : α} (h : xs[l]? = some a) : (xs ++ t)[l]? = some a := by
  rw [List.getElem?_append_left (List.getElem?_eq_some_iff.mp h).1]; exact h
mutual
theorem Rep.keep {G : Gb} {A B : Wd} (S : Sim G A) (k : Keep A B) : ∀ (x : MV) (v : V), Rep G A x v → Rep G B x v
  | .non, v, h => h
  | .bl b, v, h => h
  | .int i, v, h => h
  | .str s, v, h => h
  | .fn f, v, h => h
  | .tup xs, v, h => by
    unfold Rep at h ⊢
    obtain ⟨a, vs, e, h1, h2⟩ := h
    exact ⟨a, vs, e, k.tup S h1, Reps.keep S k xs vs h2⟩
  | .lst xs, v, h => by
    unfold Rep at h ⊢
    obtain ⟨a, vs, e, h1, h2, h3⟩ := h
    obtain ⟨q1, q2⟩ := k.off h1 h2
    exact ⟨a, vs, e, q1, q2, Reps.keep S k xs vs h3⟩
  | .dct ks ms, v, h => by
    unfold Rep at h ⊢
    obtain ⟨a, vs, e, h1, h2, h3, h4⟩ := h
    obtain ⟨q1, q2⟩ := k.off h1 h2
    exact ⟨a, vs, e, q1, q2, h3, Reps.keep S k ms vs h4⟩
  | .loc l, v, h => by
    unfold Rep at h ⊢
    obtain ⟨a, e, h1⟩ := h
    obtain ⟨t, ht⟩ := k.pre
    exact ⟨a, e, by rw [ht]; exact pre_get h1⟩
  | .scr ns, v, h => by
    unfold Rep at h ⊢
    obtain ⟨a, e, h1⟩ := h
    refine ⟨a, e, ?_⟩
    rcases h1 with ⟨h1, h2⟩ | h1
    · rcases h1 with h1 | ⟨o, h1⟩
      · obtain ⟨q1, q2⟩ := k.off h1 h2
        exact .inl ⟨.inl q1, q2⟩
      · obtain ⟨q1, q2⟩ := k.off h1 h2
        exact .inl ⟨.inr ⟨o, q1⟩, q2⟩
    · exact .inr h1
theorem Reps.keep {G : Gb} {A B : Wd} (S : Sim G A) (k : Keep A B) : ∀ (xs : List MV) (vs : List V), Reps G A xs vs → Reps G B xs vs
  | [], vs, h => h
  | x :: xs, vs, h => by
    unfold Reps at h ⊢
    obtain ⟨v, r, e, h1, h2⟩ := h
    exact ⟨v, r, e, Rep.keep S k x v h1, Reps.keep S k xs r h2⟩
end
theorem Reps.len {G : Gb} {W : Wd} : ∀ {xs : List MV} {vs : List V}, Reps G W xs vs → xs.length = vs.length
  | [], vs, h => by unfold Reps at h; subst h; rfl
  | x :: xs, vs, h => by
    unfold Reps at h
    obtain ⟨v, r, rfl, _, h2⟩ := h
    rw [List.length_cons, List.length_cons, Reps.len h2]
theorem Reps.app {G : Gb} {W : Wd} : ∀ {xs ys : List MV} {vs ws : List V}, Reps G W xs vs → Reps G W ys ws → Reps G W (xs ++ ys) (vs ++ ws)
  | [], ys, vs, ws, h, h' => by unfold Reps at h; subst h; exact h'
  | x :: xs, ys, vs, ws, h, h' => by
    unfold Reps at h
    obtain ⟨v, r, rfl, h1, h2⟩ := h
    show Reps G W (x :: (xs ++ ys)) (v :: (r ++ ws))
    unfold Reps
    exact ⟨v, _, rfl, h1, Reps.app h2 h'⟩
theorem Reps.one {G : Gb} {W : Wd} {x : MV} {v : V} (h : Rep G W x v) : Reps G W [x] [v] := by
  unfold Reps
  exact ⟨v, [], rfl, h, by unfold Reps; rfl⟩
theorem Reps.get {G : Gb} {W : Wd} : ∀ {xs : List MV} {vs : List V} {i : Nat} {x : MV}, Reps G W xs vs → xs[i]? = some x → ∃ v, vs[i]? = some v ∧ Rep G W x v
  | [], vs, i, x, h, e => by simp at e
  | y :: xs, vs, i, x, h, e => by
    unfold Reps at h
    obtain ⟨v, r, rfl, h1, h2⟩ := h
    cases i with
    | zero => simp at e; subst e; exact ⟨v, rfl, h1⟩
    | succ i =>
      simp only [List.getElem?_cons_succ] at e ⊢
      exact Reps.get h2 e
theorem Reps.all {G : Gb} {W : Wd} : ∀ {xs : List MV} {vs : List V} (f : MV → MV → Prop), Reps G W xs vs → True := fun _ _ => trivial
theorem Reps.of {G : Gb} {W : Wd} : ∀ {xs : List MV} {vs : List V}, xs.length = vs.length → (∀ (i : Nat) x v, xs[i]? = some x → vs[i]? = some v → Rep G W x v) → Reps G W xs vs
  | [], vs, hl, _ => by
    unfold Reps
    cases vs with
    | nil => rfl
    | cons => simp at hl
  | x :: xs, [], hl, _ => by simp at hl
  | x :: xs, v :: vs, hl, h => by
    unfold Reps
    exact ⟨v, vs, rfl, h 0 x v rfl rfl, Reps.of (by simpa using hl) fun i x' v' e1 e2 => h (i + 1) x' v' (by simpa using e1) (by simpa using e2)⟩
theorem Reps.at {G : Gb} {W : Wd} {xs : List MV} {vs : List V} (h : Reps G W xs vs) {i : Nat} {x : MV} {v : V} (e1 : xs[i]? = some x) (e2 : vs[i]? = some v) : Rep G W x v := by
  obtain ⟨v', q, r⟩ := h.get e1
  have : v = v' := Option.some.inj (e2.symm.trans q)
  subst this
  exact r
theorem Reps.set {G : Gb} {W : Wd} {xs : List MV} {vs : List V} (h : Reps G W xs vs) {x : MV} {v : V} (r : Rep G W x v) (j : Nat) : Reps G W (xs.set j x) (vs.set j v) := by
  refine Reps.of (by rw [List.length_set, List.length_set]; exact h.len) fun i y w e1 e2 => ?_
  by_cases hij : j = i
  · subst hij
    have l1 := (List.getElem?_eq_some_iff.mp e1).1
    have l2 := (List.getElem?_eq_some_iff.mp e2).1
    rw [List.length_set] at l1 l2
    rw [List.getElem?_set_self l1] at e1
    rw [List.getElem?_set_self l2] at e2
    cases e1; cases e2; exact r
  · rw [List.getElem?_set_ne hij] at e1 e2
    exact h.at e1 e2
theorem Reps.take {G : Gb} {W : Wd} {xs : List MV} {vs : List V} (h : Reps G W xs vs) (n : Nat) : Reps G W (xs.take n) (vs.take n) := by
  refine Reps.of (by rw [List.length_take, List.length_take, h.len]) fun i y w e1 e2 => ?_
  rw [List.getElem?_take] at e1 e2
  by_cases hn : i < n
  · rw [if_pos hn] at e1 e2
    exact h.at e1 e2
  · rw [if_neg hn] at e1
    cases e1
theorem Reps.drop {G : Gb} {W : Wd} {xs : List MV} {vs : List V} (h : Reps G W xs vs) (n : Nat) : Reps G W (xs.drop n) (vs.drop n) := by
  refine Reps.of (by rw [List.length_drop, List.length_drop, h.len]) fun i y w e1 e2 => ?_
  rw [List.getElem?_drop] at e1 e2
  exact h.at e1 e2
theorem Reps.eraseIdx {G : Gb} {W : Wd} {xs : List MV} {vs : List V} (h : Reps G W xs vs) (n : Nat) : Reps G W (xs.eraseIdx n) (vs.eraseIdx n) := by
  rw [List.eraseIdx_eq_take_drop_succ, List.eraseIdx_eq_take_drop_succ]
  exact (h.take n).app (h.drop (n + 1))
theorem Reps.dropLast {G : Gb} {W : Wd} {xs : List MV} {vs : List V} (h : Reps G W xs vs) : Reps G W xs.dropLast vs.dropLast := by
  rw [List.dropLast_eq_take, List.dropLast_eq_take, h.len]
  exact h.take _

/-! ### what is kept -/
theorem Keep.refl (A : Wd) : Keep A A := ⟨fun _ h => h, fun _ h => .inl h, fun _ h => h, rfl, ⟨[], by simp⟩, fun _ _ h _ => h, fun _ h => .inl h⟩
theorem Keep.trans {A B C : Wd} (k : Keep A B) (k' : Keep B C) : Keep A C where
  ex := fun a h => k'.ex a (k.ex a h)
  exn := fun a h => (k'.exn a h).elim (fun h => k.exn a h) fun h => .inr (Classical.byContradiction fun n => k.dom a n h)
  dom := fun a h => k'.dom a (k.dom a h)
  bs := k'.bs.trans k.bs
  pre := by
    obtain ⟨t, e⟩ := k.pre
    obtain ⟨t', e'⟩ := k'.pre
    exact ⟨t ++ t', by rw [e', e, List.append_assoc]⟩
  obj := fun a o h n => k'.obj a o (k.obj a o h n) fun z => (k.liv a z).elim n fun z => by rw [h] at z; cases z
  liv := fun a z => (k'.liv a z).elim (fun z => k.liv a z) fun z => by
    cases e : A.H a with
    | none => exact .inr rfl
    | some o =>
      refine .inl (Classical.byContradiction fun n => ?_)
      have := k.obj a o e n
      rw [z] at this; cases this
abbrev Wd.up (W : Wd) (p : Addr) (o : HO) : Wd := { W with H := upd W.H p o }
theorem upd_dom {H : Hp} {p : Addr} {o : HO} : ∀ a, H a ≠ none → upd H p o a ≠ none := fun a h => by
  by_cases e : a = p
  · subst e; rw [upd_same]; exact fun z => nomatch z
  · rw [upd_ne e]; exact h
theorem keep_new {W : Wd} {p : Addr} {o : HO} (h : W.H p = none) : Keep W (W.up p o) :=
  ⟨fun _ h => h, fun _ h => .inl h, upd_dom, rfl, ⟨[], by simp⟩, fun a u e _ => by show upd W.H p o a = _; rw [upd_ne (ne_of_none e h)]; exact e, fun a z => .inl z⟩
theorem ORep.keep {G : Gb} {A B : Wd} (S : Sim G A) (k : Keep A B) {o : MO} {a : Addr} (h : ORep G A o a) (e : B.H a = A.H a) : ORep G B o a := by
  cases o with
  | lst xs => obtain ⟨vs, q, r⟩ := h; exact ⟨vs, e.trans q, Reps.keep S k _ _ r⟩
  | dct ks ms => obtain ⟨vs, q, l, r⟩ := h; exact ⟨vs, e.trans q, l, Reps.keep S k _ _ r⟩
theorem Sim.new {G : Gb} {W : Wd} (S : Sim G W) {p : Addr} {o : HO} (h : W.H p = none) : Sim G (W.up p o) where
  len := S.len
  ble := S.ble
  top := S.top
  obj := fun l u e a q => by
    have r := S.obj l u e a q
    refine r.keep S (keep_new h) ?_
    obtain ⟨v, e', _⟩ := r.at
    exact upd_ne (ne_of_none e' h)
  inj := S.inj
  exo := fun a ha => by
    obtain ⟨u, e, n⟩ := S.exo a ha
    exact ⟨u, by show upd W.H p o a = _; rw [upd_ne (ne_of_none e h)]; exact e, n⟩
  exl := S.exl
  bnd := S.bnd
theorem off_new {G : Gb} {W : Wd} (S : Sim G W) {p : Addr} (h : W.H p = none) : ¬ W.live p ∧ p ∉ W.ex :=
  ⟨(fun z => by obtain ⟨u, e, _⟩ := S.liveAt z; rw [h] at e; exact nomatch e), (fun z => by obtain ⟨u, e, _⟩ := S.exo p z; rw [h] at e; exact nomatch e)⟩
/-- a new tuple, a new list that never changes -/
theorem rep_tup {G : Gb} {W : Wd} (S : Sim G W) {p : Addr} {xs : List MV} {vs : List V} (h : W.H p = none) (r : Reps G W xs vs) : Rep G (W.up p (.tup vs)) (.tup xs) (.ref p) := by
  unfold Rep
  exact ⟨p, vs, rfl, .inl (.inl upd_same), Reps.keep S (keep_new h) _ _ r⟩
theorem rep_lst {G : Gb} {W : Wd} (S : Sim G W) {p : Addr} {xs : List MV} {vs : List V} (h : W.H p = none) (r : Reps G W xs vs) : Rep G (W.up p (.lst vs)) (.lst xs) (.ref p) := by
  unfold Rep
  exact ⟨p, vs, rfl, upd_same, off_new S h, Reps.keep S (keep_new h) _ _ r⟩
/-- the live object l is written -/
abbrev Wd.wr (W : Wd) (l : Nat) (a : Addr) (o : HO) (u : MO) : Wd := { W with H := upd W.H a o, mh := W.mh.set l (some u) }
theorem set_get {mh : MHp} {l l' : Nat} {u v : MO} (h : (mh.set l (some u))[l']? = some (some v)) : (l' = l ∧ v = u ∧ l < mh.length) ∨ (l' ≠ l ∧ mh[l']? = some (some v)) := by
  by_cases e : l = l'
  · subst e
    have l1 := (List.getElem?_eq_some_iff.mp h).1
    rw [List.length_set] at l1
    rw [List.getElem?_set_self l1] at h
    cases h; exact .inl ⟨rfl, rfl, l1⟩
  · rw [List.getElem?_set_ne e] at h
    exact .inr ⟨fun z => e z.symm, h⟩
theorem keep_wr {G : Gb} {W : Wd} {l : Nat} {a : Addr} {o : HO} {u v : MO} (S : Sim G W) (h1 : W.mh[l]? = some (some v)) (h2 : W.β[l]? = some a) : Keep W (W.wr l a o u) := by
  refine ⟨fun _ h => h, fun _ h => .inl h, upd_dom, rfl, ⟨[], by simp⟩, fun c w e n => ?_, fun c z => .inl ?_⟩
  · show upd W.H a o c = _
    rw [upd_ne fun z => n (by rw [z]; exact ⟨l, v, h1, h2⟩)]; exact e
  · obtain ⟨l', o', e1, e2⟩ := z
    rcases set_get e1 with ⟨rfl, _, _⟩ | ⟨_, e1⟩
    · rw [h2] at e2; cases e2; exact ⟨_, v, h1, h2⟩
    · exact ⟨l', o', e1, e2⟩
theorem Sim.wr {G : Gb} {W : Wd} {l : Nat} {a : Addr} {o : HO} {u v : MO} (S : Sim G W) (h1 : W.mh[l]? = some (some v)) (h2 : W.β[l]? = some a) (hr : ORep G (W.wr l a o u) u a) (nt : NoTup o) (hb : ∀ b ∈ W.bs, l < b → obd b u = true) : Sim G (W.wr l a o u) where
  len := by show W.β.length = (W.mh.set l (some u)).length; rw [List.length_set]; exact S.len
  ble := fun b hb => by show b ≤ (W.mh.set l (some u)).length; rw [List.length_set]; exact S.ble b hb
  top := S.top
  obj := fun l' w e c q => by
    rcases set_get e with ⟨rfl, rfl, _⟩ | ⟨ne, e⟩
    · have q' : W.β[l']? = some c := q
      rw [h2] at q'; cases q'; exact hr
    · have r := S.obj l' w e c q
      refine r.keep S (keep_wr S h1 h2) ?_
      exact upd_ne fun z => ne (S.inj l' l a w v e h1 (by rw [← z]; exact q) h2)
  inj := fun l1 l2 c o1 o2 e1 e2 q1 q2 => by
    have f : ∀ {l' o'}, (W.mh.set l (some u))[l']? = some (some o') → ∃ o'', W.mh[l']? = some (some o'') := fun {l' o'} e => by
      rcases set_get e with ⟨rfl, _, _⟩ | ⟨_, e⟩
      · exact ⟨v, h1⟩
      · exact ⟨_, e⟩
    obtain ⟨_, e1'⟩ := f e1
    obtain ⟨_, e2'⟩ := f e2
    exact S.inj l1 l2 c _ _ e1' e2' q1 q2
  exo := fun c hc => by
    obtain ⟨w, e, n⟩ := S.exo c hc
    have hn : c ≠ a := fun z => S.exl c hc (by rw [z]; exact ⟨l, v, h1, h2⟩)
    exact ⟨w, by show upd W.H a o c = _; rw [upd_ne hn]; exact e, n⟩
  exl := fun c hc z => S.exl c hc (by
    obtain ⟨l', o', e1, e2⟩ := z
    rcases set_get e1 with ⟨rfl, _, _⟩ | ⟨_, e1⟩
    · exact ⟨_, v, h1, e2⟩
    · exact ⟨l', o', e1, e2⟩)
  bnd := fun b hbs l' w hl e => by
    rcases set_get e with ⟨rfl, rfl, _⟩ | ⟨_, e⟩
    · exact hb b hbs hl
    · exact S.bnd b hbs l' w hl e
/-- a new live object -/
abbrev Wd.al (W : Wd) (p : Addr) (o : HO) (u : MO) : Wd := { W with H := upd W.H p o, β := W.β ++ [p], mh := W.mh ++ [some u] }
theorem app_get {α : Type} {xs : List α} {x y : α} {l : Nat} (h : (xs ++ [x])[l]? = some y) : xs[l]? = some y ∨ (l = xs.length ∧ y = x) := by
  by_cases hl : l < xs.length
  · rw [List.getElem?_append_left hl] at h; exact .inl h
  · rw [List.getElem?_append_right (by omega)] at h
    have : l - xs.length = 0 := by
      have := (List.getElem?_eq_some_iff.mp h).1
      simp at this; omega
    rw [this] at h
    simp at h
    exact .inr ⟨by omega, h.symm⟩
theorem keep_al {G : Gb} {W : Wd} (S : Sim G W) {p : Addr} {o : HO} {u : MO} (h : W.H p = none) : Keep W (W.al p o u) := by
  refine ⟨fun _ h => h, fun _ h => .inl h, upd_dom, rfl, ⟨[p], rfl⟩, fun c w e n => ?_, fun c z => ?_⟩
  · show upd W.H p o c = _
    rw [upd_ne (ne_of_none e h)]; exact e
  · obtain ⟨l, o', e1, e2⟩ := z
    rcases app_get e1 with e1 | ⟨rfl, _⟩
    · have hl : l < W.β.length := by rw [S.len]; exact (List.getElem?_eq_some_iff.mp e1).1
      have e2' : (W.β ++ [p])[l]? = some c := e2
      rw [List.getElem?_append_left hl] at e2'
      exact .inl ⟨l, o', e1, e2'⟩
    · have e2' : (W.β ++ [p])[W.mh.length]? = some c := e2
      rw [← S.len, List.getElem?_append_right (Nat.le_refl _)] at e2'
      simp at e2'
      subst e2'
      exact .inr h
theorem Sim.al {G : Gb} {W : Wd} (S : Sim G W) {p : Addr} {o : HO} {u : MO} (h : W.H p = none) (hr : ORep G (W.al p o u) u p) (nt : NoTup o) : Sim G (W.al p o u) where
  len := by show (W.β ++ [p]).length = (W.mh ++ [some u]).length; rw [List.length_append, List.length_append, S.len]; rfl
  ble := fun b hb => by show b ≤ (W.mh ++ [some u]).length; rw [List.length_append]; exact Nat.le_trans (S.ble b hb) (Nat.le_add_right _ _)
  top := S.top
  obj := fun l w e c q => by
    have q' : (W.β ++ [p])[l]? = some c := q
    rcases app_get e with e | ⟨rfl, e9⟩
    · have hl : l < W.β.length := by rw [S.len]; exact (List.getElem?_eq_some_iff.mp e).1
      rw [List.getElem?_append_left hl] at q'
      have r := S.obj l w e c q'
      refine r.keep S (keep_al S h) ?_
      obtain ⟨v, e', _⟩ := r.at
      exact upd_ne (ne_of_none e' h)
    · have e' : w = u := Option.some.inj e9
      subst e'
      rw [← S.len, List.getElem?_append_right (Nat.le_refl _)] at q'
      simp at q'
      subst q'
      exact hr
  inj := fun l1 l2 c o1 o2 e1 e2 q1 q2 => by
    have key : ∀ {l o'}, (W.mh ++ [some u])[l]? = some (some o') → (W.β ++ [p])[l]? = some c → (W.mh[l]? = some (some o') ∧ W.β[l]? = some c ∧ c ≠ p) ∨ (l = W.mh.length ∧ c = p) := fun {l o'} e q => by
      rcases app_get e with e | ⟨rfl, _⟩
      · have hl : l < W.β.length := by rw [S.len]; exact (List.getElem?_eq_some_iff.mp e).1
        rw [List.getElem?_append_left hl] at q
        refine .inl ⟨e, q, ?_⟩
        obtain ⟨v, e', _⟩ := (S.obj l _ e c q).at
        exact ne_of_none e' h
      · rw [← S.len, List.getElem?_append_right (Nat.le_refl _)] at q
        simp at q
        exact .inr ⟨rfl, q.symm⟩
    rcases key e1 q1 with ⟨a1, a2, a3⟩ | ⟨a1, a2⟩
    · rcases key e2 q2 with ⟨b1, b2, b3⟩ | ⟨b1, b2⟩
      · exact S.inj l1 l2 c _ _ a1 b1 a2 b2
      · exact absurd b2 a3
    · rcases key e2 q2 with ⟨b1, b2, b3⟩ | ⟨b1, b2⟩
      · exact absurd a2 b3
      · rw [a1, b1]
  exo := fun c hc => by
    obtain ⟨w, e, n⟩ := S.exo c hc
    exact ⟨w, by show upd W.H p o c = _; rw [upd_ne (ne_of_none e h)]; exact e, n⟩
  exl := fun c hc z => by
    rcases (keep_al S h).liv c z with z | z
    · exact S.exl c hc z
    · obtain ⟨w, e, n⟩ := S.exo c hc
      rw [z] at e; cases e
  bnd := fun b hbs l w hl e => by
    rcases app_get e with e | ⟨rfl, _⟩
    · exact S.bnd b hbs l w hl e
    · exact absurd (Nat.lt_of_lt_of_le hl (S.ble b hbs)) (Nat.lt_irrefl _)
/-! ### names -/
def Envs (G : Gb) (W : Wd) (ρ : Env) (σ : L2.St) : Prop := ρ.length = σ.length ∧ ∀ (i : Nat) (v : MV), ρ[i]? = some (some v) → ∃ x, σ[i]? = some (some x) ∧ Rep G W v x
theorem Envs.keep {G : Gb} {A B : Wd} {ρ : Env} {σ : St} (h : Envs G A ρ σ) (S : Sim G A) (k : Keep A B) : Envs G B ρ σ :=
  ⟨h.1, fun i v e => let ⟨x, q, r⟩ := h.2 i v e; ⟨x, q, Rep.keep S k _ _ r⟩⟩
theorem Envs.set {G : Gb} {W : Wd} {ρ : Env} {σ : St} (h : Envs G W ρ σ) {v : MV} {x : V} (r : Rep G W v x) (i : Nat) : Envs G W (ρ.set i (some v)) (σ.set i (some x)) := by
  refine ⟨by rw [List.length_set, List.length_set]; exact h.1, fun j u e => ?_⟩
  by_cases hij : i = j
  · subst hij
    have l1 := (List.getElem?_eq_some_iff.mp e).1
    rw [List.length_set] at l1
    rw [List.getElem?_set_self l1] at e
    cases e
    exact ⟨x, List.getElem?_set_self (by rw [← h.1]; exact l1), r⟩
  · rw [List.getElem?_set_ne hij] at e ⊢
    exact h.2 j u e
theorem Envs.wipe {G : Gb} {W : Wd} {ρ : Env} {σ : St} (h : Envs G W ρ σ) : ∀ vs : List Nat, Envs G W (wipeE ρ vs) (L2.wipe σ vs)
  | [] => h
  | v :: vs => by
    have ih := Envs.wipe h vs
    refine ⟨by unfold wipeE L2.wipe; rw [List.length_set, List.length_set]; exact ih.1, fun j u e => ?_⟩
    unfold wipeE at e
    unfold L2.wipe
    by_cases hij : v = j
    · subst hij
      have l1 := (List.getElem?_eq_some_iff.mp e).1
      rw [List.length_set] at l1
      rw [List.getElem?_set_self l1] at e
      cases e
    · rw [List.getElem?_set_ne hij] at e ⊢
      exact ih.2 j u e
end L2.Mi

set_option Elab.async false
set_option linter.all false
set_option maxRecDepth 100000
set_option maxHeartbeats 4000000
/-! Mini3: the operations of the evaluator are the layer's. -/
namespace L2.Mi
open PySem PySem.Spec PyProof.Rows

/-- what is wanted behind an evaluation that began in A -/
def Post (G : Gb) (A : Wd) (mh' : MHp) (v : MV) (Q : VK) : Prop := ∀ (B : Wd) (x : V), Keep A B → B.mh = mh' → Sim G B → Rep G B v x → Q x B.H
theorem Post.here {G : Gb} {A : Wd} {v : MV} {x : V} {Q : VK} (h : Post G A A.mh v Q) (S : Sim G A) (r : Rep G A v x) : Q x A.H := h A x (Keep.refl A) rfl S r
theorem Post.step {G : Gb} {A B : Wd} {mh' : MHp} {v : MV} {Q : VK} (h : Post G A mh' v Q) (k : Keep A B) : Post G B mh' v Q := fun C x k' e S r => h C x (k.trans k') e S r
theorem Post.newTup {G : Gb} {A : Wd} {xs : List MV} {vs : List V} {Q : VK} {p : Addr} (h : Post G A A.mh (.tup xs) Q) (S : Sim G A) (r : Reps G A xs vs) (hp : A.H p = none) : Q (.ref p) (upd A.H p (.tup vs)) :=
  h (A.up p (.tup vs)) (.ref p) (keep_new hp) rfl (S.new hp) (rep_tup S hp r)
theorem Post.newLst {G : Gb} {A : Wd} {xs : List MV} {vs : List V} {Q : VK} {p : Addr} (h : Post G A A.mh (.lst xs) Q) (S : Sim G A) (r : Reps G A xs vs) (hp : A.H p = none) : Q (.ref p) (upd A.H p (.lst vs)) :=
  h (A.up p (.lst vs)) (.ref p) (keep_new hp) rfl (S.new hp) (rep_lst S hp r)

theorem OpR.or {X : Cx} {f : Value → Value → Sem Value} {r r' : R2} (h : OpR X f r) (h' : OpR X f r') : OpR X f (fun x y H Q => r x y H Q ∨ r' x y H Q) := by
  intro pins s σ H x y v u Q I rx ry q
  rcases q with q | q
  · exact h pins s σ H x y v u Q I rx ry q
  · exact h' pins s σ H x y v u Q I rx ry q
theorem CallR.or {X : Cx} {f : Value} {r r' : List V → Hp → VK → Prop} (h : CallR X f r) (h' : CallR X f r') : CallR X f (fun xs H Q => r xs H Q ∨ r' xs H Q) := by
  intro pins s σ H xs us Q I r q
  rcases q with q | q
  · exact h pins s σ H xs us Q I r q
  · exact h' pins s σ H xs us Q I r q
theorem MtR.or' {X : Cx} {id : String} {r r' : V → List V → Hp → VK → Prop} (h : MtR X id r) (h' : MtR X id r') : MtR X id (fun x xs H Q => r x xs H Q ∨ r' x xs H Q) := MtR.or h h'

/-! ### shapes -/
section
variable {G : Gb} {A : Wd}
theorem Rep.int_ {i : Int} {v : V} (h : Rep G A (.int i) v) : v = .int i := by unfold Rep at h; exact h
theorem Rep.str_ {s : Sx} {v : V} (h : Rep G A (.str s) v) : v = .str ⟨s.toArray⟩ := by unfold Rep at h; exact h
theorem Rep.bl_ {b : Bool} {v : V} (h : Rep G A (.bl b) v) : v = .bl b := by unfold Rep at h; exact h
theorem Rep.non_ {v : V} (h : Rep G A .non v) : v = .non := by unfold Rep at h; exact h
theorem Rep.tup_ {xs : List MV} {v : V} (h : Rep G A (.tup xs) v) : ∃ a vs, v = .ref a ∧ SqT G.K A.H a vs ∧ Reps G A xs vs := by unfold Rep at h; exact h
theorem Rep.loc_ {l : Nat} {v : V} (h : Rep G A (.loc l) v) : ∃ a, v = .ref a ∧ A.β[l]? = some a := by unfold Rep at h; exact h
theorem rep_int (i : Int) : Rep G A (.int i) (.int i) := by unfold Rep; rfl
theorem rep_str (s : Sx) : Rep G A (.str s) (.str ⟨s.toArray⟩) := by unfold Rep; rfl
theorem rep_bl (b : Bool) : Rep G A (.bl b) (.bl b) := by unfold Rep; rfl
theorem rep_non : Rep G A .non .non := by unfold Rep; rfl
/-- a list that is read: its items -/
theorem getL_rep (S : Sim G A) {x : MV} {v : V} {xs : List MV} (e : getL A.mh x = some xs) (h : Rep G A x v) : ∃ a vs, v = .ref a ∧ A.H a = some (.lst vs) ∧ Reps G A xs vs := by
  cases x with
  | lst ys =>
    cases e
    unfold Rep at h
    obtain ⟨a, vs, e1, e2, _, r⟩ := h
    exact ⟨a, vs, e1, e2, r⟩
  | loc l =>
    simp only [getL] at e
    split at e
    · rename_i ys hl
      cases e
      obtain ⟨a, e1, e2⟩ := h.loc_
      obtain ⟨vs, e3, r⟩ := S.obj l _ hl a e2
      exact ⟨a, vs, e1, e3, r⟩
    · cases e
  | _ => exact absurd e (by simp [getL])
theorem Reps.map_int {ns : List Int} : Reps G A (ns.map .int) (ns.map .int) := by
  induction ns with
  | nil => unfold Reps; rfl
  | cons n ns ih => rw [List.map_cons, List.map_cons]; unfold Reps; exact ⟨_, _, rfl, rep_int n, ih⟩
theorem Reps.blOf : ∀ {xs : List MV} {vs : List V} {bs : List Bool}, Reps G A xs vs → xs.mapM blOf = some bs → vs = bs.map .bl
  | [], vs, bs, h, e => by
    unfold Reps at h
    simp at e
    subst e h
    rfl
  | x :: xs, vs, bs, h, e => by
    unfold Reps at h
    obtain ⟨v, r, rfl, h1, h2⟩ := h
    simp only [List.mapM_cons, Option.bind_eq_bind, Option.bind_eq_some_iff] at e
    obtain ⟨b, e1, cs, e2, e3⟩ := e
    cases x with
    | bl b' =>
      cases e1
      cases e3
      rw [h1.bl_, Reps.blOf h2 e2]
      rfl
    | _ => exact absurd e1 (by simp [Mi.blOf])
theorem Reps.intOf : ∀ {xs : List MV} {vs : List V} {bs : List Int}, Reps G A xs vs → xs.mapM intOf = some bs → vs = bs.map .int
  | [], vs, bs, h, e => by
    unfold Reps at h
    simp at e
    subst e h
    rfl
  | x :: xs, vs, bs, h, e => by
    unfold Reps at h
    obtain ⟨v, r, rfl, h1, h2⟩ := h
    simp only [List.mapM_cons, Option.bind_eq_bind, Option.bind_eq_some_iff] at e
    obtain ⟨b, e1, cs, e2, e3⟩ := e
    cases x with
    | int i' =>
      cases e1
      cases e3
      rw [h1.int_, Reps.intOf h2 e2]
      rfl
    | _ => exact absurd e1 (by simp [Mi.intOf])
theorem str_len (s : Sx) : (⟨s.toArray⟩ : Str).length = s.length := by simp [Str.length]
theorem str_app (s t : Sx) : (⟨s.toArray⟩ : Str) ++ ⟨t.toArray⟩ = ⟨(s ++ t).toArray⟩ := by
  show (Str.mk (s.toArray ++ t.toArray) : Str) = _
  rw [List.append_toArray]
end

/-! ### data -/
section
variable {G : Gb} {A : Wd}
theorem canLay_dct {xs : List MV} : PyData.canLay0 (.dict []) = false := rfl
mutual
theorem frz_dp (S : Sim G A) : ∀ (k : Nat) (x x' : MV) (v : V), frz 0 A.mh k x = some x' → PyData.canLay0 (toD x') = true → Rep G A x v → Dp G.K A.H v (toD x')
  | k, .non, x', v, e, c, h => by
    unfold frz at e; cases e; rw [h.non_]; unfold toD; exact .non
  | k, .bl b, x', v, e, c, h => by
    unfold frz at e; cases e; rw [h.bl_]; unfold toD; exact .bl b
  | k, .int i, x', v, e, c, h => by
    unfold frz at e; cases e; rw [h.int_]; unfold toD; exact .int i
  | k, .str s, x', v, e, c, h => by
    unfold frz at e; cases e; rw [h.str_]; unfold toD; exact .str _
  | k, .fn f, x', v, e, c, h => by
    unfold frz at e; cases e; unfold toD at c; exact absurd c (by decide)
  | k, .scr ns, x', v, e, c, h => by
    unfold frz at e; cases e
    unfold Rep at h
    obtain ⟨a, rfl, h⟩ := h
    unfold toD
    have sq : SqL G.K A.H a (ns.map .int) := by
      rcases h with ⟨h, _⟩ | (h | h)
      · exact .inl h
      · rcases h with h | ⟨o, h⟩ <;> exact nomatch h
      · exact .inr h
    exact .lst sq (DpAll_ints ns)
  | k, .dct ks vs, x', v, e, c, h => by
    unfold frz at e
    cases q : frzs 0 A.mh k vs with
    | none => rw [q] at e; exact nomatch e
    | some ys => rw [q] at e; cases e; unfold toD at c; exact absurd c (by decide)
  | k, .tup xs, x', v, e, c, h => by
    unfold frz at e
    cases q : frzs 0 A.mh k xs with
    | none => rw [q] at e; exact nomatch e
    | some ys =>
      rw [q] at e; cases e
      obtain ⟨a, vs, rfl, h1, h2⟩ := h.tup_
      unfold toD at c ⊢
      exact .tup h1 (frzs_dp S k xs ys vs q c h2)
  | k, .lst xs, x', v, e, c, h => by
    unfold frz at e
    cases q : frzs 0 A.mh k xs with
    | none => rw [q] at e; exact nomatch e
    | some ys =>
      rw [q] at e; cases e
      unfold Rep at h
      obtain ⟨a, vs, rfl, h1, _, h2⟩ := h
      unfold toD at c ⊢
      exact .lst (SqL.of h1) (frzs_dp S k xs ys vs q c h2)
  | 0, .loc l, x', v, e, c, h => by
    unfold frz at e
    simp at e
  | k + 1, .loc l, x', v, e, c, h => by
    unfold frz at e
    simp only [Nat.not_lt_zero, if_false] at e
    obtain ⟨a, rfl, e2⟩ := h.loc_
    split at e
    · rename_i xs hl
      cases q : frzs 0 A.mh k xs with
      | none => rw [q] at e; exact nomatch e
      | some ys =>
        rw [q] at e; cases e
        obtain ⟨vs, e3, r⟩ := S.obj l _ hl a e2
        unfold toD at c ⊢
        exact .lst (SqL.of e3) (frzs_dp S k xs ys vs q c r)
    · rename_i ks vs hl
      cases q : frzs 0 A.mh k vs with
      | none => rw [q] at e; exact nomatch e
      | some ys => rw [q] at e; cases e; unfold toD at c; exact absurd c (by decide)
    · exact nomatch e
  termination_by k x => (k, sizeOf x)
theorem frzs_dp (S : Sim G A) : ∀ (k : Nat) (xs ys : List MV) (vs : List V), frzs 0 A.mh k xs = some ys → PyData.canLayAll0 (toDs ys) = true → Reps G A xs vs → DpAll G.K A.H vs (toDs ys)
  | k, [], ys, vs, e, c, h => by
    unfold frzs at e; cases e
    unfold Reps at h; subst h
    unfold toDs; exact .nil
  | k, x :: xs, ys, vs, e, c, h => by
    unfold frzs at e
    unfold Reps at h
    obtain ⟨v, r, rfl, h1, h2⟩ := h
    cases q : frz 0 A.mh k x with
    | none => rw [q] at e; exact nomatch e
    | some y =>
      rw [q] at e
      simp only at e
      cases q2 : frzs 0 A.mh k xs with
      | none => rw [q2] at e; exact nomatch e
      | some ys' =>
        rw [q2] at e; cases e
        unfold toDs at c ⊢
        unfold PyData.canLayAll0 at c
        rw [Bool.and_eq_true] at c
        exact .cons (frz_dp S k x y v q c.1 h1) (frzs_dp S k xs ys' r q2 c.2 h2)
  termination_by k xs => (k, sizeOf xs)
theorem DpAll_ints {K : PySem.W.Frag} {H : Hp} : ∀ ns : List Int, DpAll K H (ns.map .int) (ns.map .int)
  | [] => .nil
  | n :: ns => .cons (.int n) (DpAll_ints ns)
end
theorem okD_can {x : MV} (h : okD x = true) : PyData.canLay0 (toD x) = true := SeqAt.canLay_of_shaped h

/-! ### readings of the operations -/
theorem eqV_dp (S : Sim G A) {x y : MV} {vx vy : V} {c : Bool} (e : eqV A.mh x y = some c) (rx : Rep G A x vx) (ry : Rep G A y vy) :
    ∃ d d', Dp G.K A.H vx d ∧ Dp G.K A.H vy d' ∧ SeqAt.shaped d = true ∧ SeqAt.shaped d' = true ∧ PyData.eqv d d' = c := by
  unfold eqV at e
  cases q : frz 0 A.mh 8 x with
  | none => rw [q] at e; exact nomatch e
  | some x' =>
    rw [q] at e
    simp only at e
    cases q2 : frz 0 A.mh 8 y with
    | none => rw [q2] at e; exact nomatch e
    | some y' =>
      rw [q2] at e
      simp only at e
      split at e
      · rename_i hk
        cases e
        exact ⟨_, _, frz_dp S 8 x x' vx q (okD_can hk.1) rx, frz_dp S 8 y y' vy q2 (okD_can hk.2) ry, hk.1, hk.2, rfl⟩
      · exact nomatch e
end
end L2.Mi

set_option Elab.async false
set_option linter.all false
set_option maxRecDepth 100000
set_option maxHeartbeats 4000000
/-! Mini4: operators and comparisons. -/
namespace L2.Mi
open PySem PySem.Spec PyProof.Rows

/-! ### a text so many times -/
theorem foldl_app (x : Array Nat) : ∀ (n : Nat) (a : Array Nat), ((List.replicate n x).foldl (· ++ ·) a).toList = a.toList ++ (List.replicate n x.toList).flatten
  | 0, a => by simp
  | n + 1, a => by
    rw [List.replicate_succ, List.foldl_cons, foldl_app x n, List.replicate_succ, List.flatten_cons]
    simp
theorem str_toList_eq {x y : Str} (h : x.cps.toList = y.cps.toList) : x = y := by
  cases x; cases y
  simp only at h
  exact congrArg Str.mk (Array.toList_inj.mp h)
def rMulS : R2 := fun x y H Q => ∃ (s : Str) (n : Int), x = .str s ∧ y = .int n ∧ 0 ≤ n ∧ n ≤ 1000000 ∧ s.length * n.toNat ≤ sizeLine ∧ Q (.str ⟨(List.replicate n.toNat s.cps.toList).flatten.toArray⟩) H
theorem op_mulS {X : Cx} : OpR X (binaryOp .Mult) rMulS := by
  intro pins s σ H x y v u Q I rx ry h
  obtain ⟨z, n, rfl, rfl, h0, h1, h2, q⟩ := h
  obtain ⟨t, rfl⟩ := rx
  obtain ⟨t', rfl⟩ := ry
  refine PySem.P.mul_str ?_ (fun h => ?_) (fun h _ => ?_) ?_
  · rw [decide_eq_false (by omega), decide_eq_false (by omega)]; rfl
  · intro hz hh
    have e1 : (z.length : Int) ≤ 16777216 := by
      have : z.length * 1 ≤ z.length * n.toNat := Nat.mul_le_mul_left _ (by omega)
      have h2' : z.length * n.toNat ≤ 16777216 := h2
      omega
    have e2 : (16777216 : Int) ≤ (2 ^ 63 - 1) / n := by
      have : 0 < n := by omega
      rw [Int.le_ediv_iff_mul_le this]
      omega
    omega
  · have h2' : z.length * n.toNat ≤ sizeLine := h2
    exact decide_eq_false (by omega)
  · split
    · rename_i hn
      have e : n.toNat = 0 := by omega
      refine ⟨by decide, .str Str.empty, H, I.tok _, ⟨_, rfl⟩, ?_⟩
      rw [e] at q
      exact q
    · split
      · rename_i hn hb
        refine ⟨.str z, H, I, ⟨_, rfl⟩, ?_⟩
        have e : (⟨(List.replicate n.toNat z.cps.toList).flatten.toArray⟩ : Str) = z := by
          apply str_toList_eq
          rw [Bool.or_eq_true] at hb
          rcases hb with hb | hb
          · have e : n.toNat = 1 := by
              have : n = 1 := by simpa using hb
              omega
            rw [e]; simp
          · have e : z.cps.toList = [] := by
              have : z.length = 0 := by simpa using hb
              have : z.cps.toList.length = 0 := by simpa [Str.length] using this
              exact List.length_eq_zero_iff.mp this
            rw [e]; simp
        rw [e] at q
        exact q
      · refine ⟨?_, .str _, H, I.tok _, ⟨_, rfl⟩, ?_⟩
        · show (⟨(List.replicate n.toNat z.cps).foldl (· ++ ·) #[]⟩ : Str).length ≤ _
          have : (⟨(List.replicate n.toNat z.cps).foldl (· ++ ·) #[]⟩ : Str).length = z.length * n.toNat := by
            show Array.size _ = _
            rw [← Array.length_toList, foldl_app]
            simp [Str.length, Nat.mul_comm]
          rw [this]
          exact h2
        · have e : (⟨(List.replicate n.toNat z.cps).foldl (· ++ ·) #[]⟩ : Str) = ⟨(List.replicate n.toNat z.cps.toList).flatten.toArray⟩ := by
            apply str_toList_eq
            rw [foldl_app]
            simp
          rw [e]
          exact q

def opOf : Op → Operator
  | .add => .Add
  | .sub => .Sub
  | .mul => .Mult
  | .fdiv => .FloorDiv
  | .mod => .Mod
def rAddS : R2 := fun x y H Q => ∃ i j, x = .str i ∧ y = .str j ∧ i.length + j.length ≤ sizeLine ∧ Q (.str (i ++ j)) H
def opR (K : PySem.W.Frag) : Op → R2
  | .add => fun x y H Q => rI0 (fun i j => .int (i + j)) x y H Q ∨ rAddS x y H Q ∨ rCatA K x y H Q ∨ rCat x y H Q
  | .sub => rI0 fun i j => .int (i - j)
  | .mul => fun x y H Q => rI CMul (fun i j => .int (i * j)) x y H Q ∨ rMulS x y H Q
  | .fdiv => rI CDivN fun i j => .int (i.fdiv j)
  | .mod => rI (fun _ j => j ≠ 0) fun i j => .int (i.fmod j)
theorem op_ok {X : Cx} : ∀ o : Op, OpR X (binaryOp (opOf o)) (opR X.K o)
  | .add => op_add.or (op_add_str.or (op_catA.or op_cat))
  | .sub => op_sub
  | .mul => op_mul.or op_mulS
  | .fdiv => op_fdivN
  | .mod => op_modN
section
variable {G : Gb} {A : Wd}
theorem opR_of (S : Sim G A) {o : Op} {x y v : MV} {vx vy : V} {Q : VK} (e : binV A.mh o x y = some v) (rx : Rep G A x vx) (ry : Rep G A y vy) (h : Post G A A.mh v Q) : opR G.K o vx vy A.H Q := by
  have lists : ∀ {xs ys : List MV}, getL A.mh x = some xs → getL A.mh y = some ys → xs.length + ys.length ≤ line → v = .lst (xs ++ ys) → rCat vx vy A.H Q := by
    intro xs ys e1 e2 hz ev
    subst ev
    obtain ⟨a, vs, rfl, h1, r1⟩ := getL_rep S e1 rx
    obtain ⟨b, ws, rfl, h2, r2⟩ := getL_rep S e2 ry
    refine ⟨a, b, vs, ws, rfl, rfl, h1, h2, ?_, fun p hp => h.newLst S (r1.app r2) hp⟩
    rw [← r1.len, ← r2.len]
    exact hz
  cases o with
  | add =>
    simp only [binV, addV] at e
    split at e
    · rename_i i j
      cases e
      exact .inl ⟨i, j, rx.int_, ry.int_, h.here S (rep_int _)⟩
    · rename_i s t
      split at e
      · rename_i hz
        cases e
        refine .inr (.inl ⟨⟨s.toArray⟩, ⟨t.toArray⟩, rx.str_, ry.str_, by rw [str_len, str_len]; exact hz, ?_⟩)
        rw [str_app]
        exact h.here S (rep_str _)
      · cases e
    · rename_i xs ys
      split at e
      · rename_i hz
        cases e
        obtain ⟨a, vs, rfl, h1, r1⟩ := rx.tup_
        obtain ⟨b, ws, rfl, h2, r2⟩ := ry.tup_
        refine .inr (.inr (.inl ⟨a, b, vs, ws, rfl, rfl, h1, h2, by rw [← r1.len, ← r2.len]; exact hz, fun e => ?_, fun _ e => ?_, fun _ _ p hp => h.newTup S (r1.app r2) hp⟩))
        · subst e
          have : xs = [] := List.length_eq_zero_iff.mp r1.len
          subst this
          exact h.here S ry
        · subst e
          have : ys = [] := List.length_eq_zero_iff.mp r2.len
          subst this
          rw [List.append_nil] at h
          exact h.here S rx
      · cases e
    · split at e
      · cases e
      · rename_i xs e1
        split at e
        · cases e
        · rename_i ys e2
          split at e
          · rename_i hz
            cases e
            exact .inr (.inr (.inr (lists e1 e2 hz rfl)))
          · cases e
  | sub =>
    simp only [binV, intV] at e
    split at e
    · rename_i i j
      cases e
      exact ⟨i, j, rx.int_, ry.int_, h.here S (rep_int _)⟩
    · cases e
  | mul =>
    simp only [binV, mulV] at e
    split at e
    · rename_i i j
      split at e
      · rename_i hz
        cases e
        exact .inl ⟨i, j, rx.int_, ry.int_, hz, h.here S (rep_int _)⟩
      · cases e
    · rename_i s j
      split at e
      · rename_i hz
        cases e
        exact .inr ⟨⟨s.toArray⟩, j, rx.str_, ry.int_, hz.1, hz.2.1, by rw [str_len]; exact hz.2.2, h.here S (rep_str _)⟩
      · cases e
    · cases e
  | fdiv =>
    simp only [binV, intV] at e
    split at e
    · rename_i i j
      split at e
      · rename_i hz
        cases e
        exact ⟨i, j, rx.int_, ry.int_, hz, h.here S (rep_int _)⟩
      · cases e
    · cases e
  | mod =>
    simp only [binV, intV] at e
    split at e
    · rename_i i j
      split at e
      · rename_i hz
        cases e
        exact ⟨i, j, rx.int_, ry.int_, hz, h.here S (rep_int _)⟩
      · cases e
    · cases e

/-! ### comparisons -/
theorem any_toDs (d : PyData) : ∀ ys : List MV, (toDs ys).any (fun z => PyData.eqv z d) = ys.any fun z => PyData.eqv (toD z) d
  | [] => rfl
  | y :: ys => by
    unfold toDs
    rw [List.any_cons, List.any_cons, any_toDs d ys]
end
def copOf : Cop → CmpOp
  | .eq => .Eq
  | .ne => .NotEq
  | .lt => .Lt
  | .le => .LtE
  | .gt => .Gt
  | .ge => .GtE
  | .mem => .In
  | .nmem => .NotIn
  | .is => .Is
  | .isn => .IsNot
def rInS1 (f : Bool → Bool) : R2 := fun x y H Q => ∃ (c : Nat) (z : Str), x = .str ⟨#[c]⟩ ∧ y = .str z ∧ Q (.bl (f (decide (c ∈ z.cps.toList)))) H
def rStr (f : List Nat → List Nat → Bool) : R2 := fun x y H Q => ∃ i j, x = .str i ∧ y = .str j ∧ Q (.bl (f i.cps.toList j.cps.toList)) H
def rIsM (f : Bool → Bool) : R2 := fun x y H Q => (y = .non ∧ Q (.bl (f (decide (x = .non)))) H) ∨ ∃ a b, x = .bl a ∧ y = .bl b ∧ Q (.bl (f (decide (a = b)))) H
def copR (K : PySem.W.Frag) : Cop → R2
  | .eq => rEqD K
  | .ne => rNeD K
  | .lt => fun x y H Q => rI0 (fun i j => .bl (decide (i < j))) x y H Q ∨ rStr (fun i j => decide (i < j)) x y H Q
  | .le => fun x y H Q => rI0 (fun i j => .bl (decide (i ≤ j))) x y H Q ∨ rStr (fun i j => !decide (j < i)) x y H Q
  | .gt => fun x y H Q => rI0 (fun i j => .bl (decide (j < i))) x y H Q ∨ rStr (fun i j => decide (j < i)) x y H Q
  | .ge => fun x y H Q => rI0 (fun i j => .bl (decide (j ≤ i))) x y H Q ∨ rStr (fun i j => !decide (i < j)) x y H Q
  | .mem => fun x y H Q => rInS1 id x y H Q ∨ rInD K x y H Q
  | .nmem => fun x y H Q => rInS1 (!·) x y H Q ∨ rNotInD K x y H Q
  | .is => rIsM id
  | .isn => rIsM (!·)
theorem cop_ok {X : Cx} (hu : X.A.units + 65 < cLine) : ∀ o : Cop, OpR X (compareOp (copOf o)) (copR X.K o)
  | .eq => op_eqD (by omega)
  | .ne => op_neD (by omega)
  | .lt => op_lt.or op_lt_str
  | .le => op_le.or op_le_str
  | .gt => op_gt.or op_gt_str
  | .ge => op_ge.or op_ge_str
  | .mem => op_in_sign.or (op_inD hu)
  | .nmem => op_notIn_sign.or (op_notInD hu)
  | .is => op_isN.or op_is_bl
  | .isn => op_notN.or op_isnot_bl
section
variable {G : Gb} {A : Wd}
theorem rep_one (c : Nat) : (V.str ⟨[c].toArray⟩) = .str ⟨#[c]⟩ := rfl
theorem Rep.not_non {x : MV} {v : V} (h : Rep G A x v) (hx : x ≠ .non) : v ≠ .non := by
  intro e
  subst e
  cases x with
  | non => exact hx rfl
  | bl b => exact nomatch h.bl_
  | int i => exact nomatch h.int_
  | str s => exact nomatch h.str_
  | fn f => unfold Rep at h; obtain ⟨a, _, e⟩ := h; exact nomatch e
  | tup xs => obtain ⟨a, vs, e, _⟩ := h.tup_; exact nomatch e
  | lst xs => unfold Rep at h; obtain ⟨a, vs, e, _⟩ := h; exact nomatch e
  | loc l => obtain ⟨a, e, _⟩ := h.loc_; exact nomatch e
  | dct ks vs => unfold Rep at h; obtain ⟨a, vs, e, _⟩ := h; exact nomatch e
  | scr ns => unfold Rep at h; obtain ⟨a, e, _⟩ := h; exact nomatch e
theorem mem_of (S : Sim G A) {x y : MV} {c : Bool} {vx vy : V} {f : Bool → Bool} {Q : VK} (e : memV A.mh x y = some c) (rx : Rep G A x vx) (ry : Rep G A y vy) (h : Q (.bl (f c)) A.H) :
    rInS1 f vx vy A.H Q ∨ ∃ d ds, Dp G.K A.H vx d ∧ Dp G.K A.H vy (.list ds) ∧ SeqAt.shaped d = true ∧ SeqAt.shaped (.list ds) = true ∧ Q (.bl (f (ds.any fun z => PyData.eqv z d))) A.H := by
  unfold memV at e
  split at e
  · rename_i c' t
    cases e
    refine .inl ⟨c', ⟨t.toArray⟩, rx.str_, ry.str_, ?_⟩
    exact h
  · cases q : frz 0 A.mh 8 x with
    | none => rw [q] at e; exact nomatch e
    | some x' =>
      rw [q] at e
      simp only at e
      split at e
      · rename_i ys q2
        split at e
        · rename_i hk
          cases e
          refine .inr ⟨toD x', toDs ys, frz_dp S 8 x x' vx q (okD_can hk.1) rx, ?_, hk.1, ?_, ?_⟩
          · have := frz_dp S 8 y _ vy q2 (okD_can hk.2) ry
            unfold toD at this
            exact this
          · have := hk.2
            unfold okD toD at this
            exact this
          · rw [any_toDs]
            exact h
        · exact nomatch e
      · exact nomatch e
theorem dec_le {i j : Int} : decide (i ≤ j) = !decide (j < i) := by
  rw [Bool.eq_iff_iff]; simp
theorem copR_of (S : Sim G A) {o : Cop} {x y : MV} {c : Bool} {vx vy : V} {Q : VK} (e : cmpV A.mh o x y = some c) (rx : Rep G A x vx) (ry : Rep G A y vy) (h : Q (.bl c) A.H) : copR G.K o vx vy A.H Q := by
  have ord : ∀ {p : Bool × Bool}, ordV x y = some p → (∃ i j : Int, vx = .int i ∧ vy = .int j ∧ p = (decide (i < j), decide (j < i))) ∨ ∃ s t : Str, vx = .str s ∧ vy = .str t ∧ p = (decide (s.cps.toList < t.cps.toList), decide (t.cps.toList < s.cps.toList)) := by
    intro p e
    unfold ordV at e
    split at e
    · cases e
      exact .inl ⟨_, _, rx.int_, ry.int_, rfl⟩
    · cases e
      exact .inr ⟨_, _, rx.str_, ry.str_, rfl⟩
    · exact nomatch e
  have is : ∀ {c : Bool} {f : Bool → Bool}, isV x y = some c → Q (.bl (f c)) A.H → rIsM f vx vy A.H Q := by
    intro c f e h
    unfold isV at e
    split at e
    · cases e
      refine .inl ⟨ry.non_, ?_⟩
      rw [rx.non_, decide_eq_true rfl]
      exact h
    · cases e
      refine .inl ⟨ry.non_, ?_⟩
      rw [decide_eq_false (rx.not_non (by assumption))]
      exact h
    · cases e
      exact .inr ⟨_, _, rx.bl_, ry.bl_, h⟩
    · exact nomatch e
  cases o with
  | eq =>
    obtain ⟨d, d', h1, h2, h3, h4, h5⟩ := eqV_dp S e rx ry
    exact ⟨d, d', h1, h2, h3, h4, by rw [h5]; exact h⟩
  | ne =>
    simp only [cmpV, Option.map_eq_some_iff] at e
    obtain ⟨c', e, rfl⟩ := e
    obtain ⟨d, d', h1, h2, h3, h4, h5⟩ := eqV_dp S e rx ry
    exact ⟨d, d', h1, h2, h3, h4, by rw [h5]; exact h⟩
  | mem => exact mem_of (f := id) S e rx ry h
  | nmem =>
    simp only [cmpV, Option.map_eq_some_iff] at e
    obtain ⟨c', e, rfl⟩ := e
    exact mem_of (f := (!·)) S e rx ry h
  | lt =>
    simp only [cmpV, Option.map_eq_some_iff] at e
    obtain ⟨p, e, rfl⟩ := e
    rcases ord e with ⟨i, j, h1, h2, rfl⟩ | ⟨i, j, h1, h2, rfl⟩
    · exact .inl ⟨i, j, h1, h2, h⟩
    · exact .inr ⟨i, j, h1, h2, h⟩
  | gt =>
    simp only [cmpV, Option.map_eq_some_iff] at e
    obtain ⟨p, e, rfl⟩ := e
    rcases ord e with ⟨i, j, h1, h2, rfl⟩ | ⟨i, j, h1, h2, rfl⟩
    · exact .inl ⟨i, j, h1, h2, h⟩
    · exact .inr ⟨i, j, h1, h2, h⟩
  | le =>
    simp only [cmpV, Option.map_eq_some_iff] at e
    obtain ⟨p, e, rfl⟩ := e
    rcases ord e with ⟨i, j, h1, h2, rfl⟩ | ⟨i, j, h1, h2, rfl⟩
    · exact .inl ⟨i, j, h1, h2, by dsimp only; rw [dec_le]; exact h⟩
    · exact .inr ⟨i, j, h1, h2, h⟩
  | ge =>
    simp only [cmpV, Option.map_eq_some_iff] at e
    obtain ⟨p, e, rfl⟩ := e
    rcases ord e with ⟨i, j, h1, h2, rfl⟩ | ⟨i, j, h1, h2, rfl⟩
    · exact .inl ⟨i, j, h1, h2, by dsimp only; rw [dec_le]; exact h⟩
    · exact .inr ⟨i, j, h1, h2, h⟩
  | is => exact is (f := id) e h
  | isn =>
    simp only [cmpV, Option.map_eq_some_iff] at e
    obtain ⟨c', e, rfl⟩ := e
    exact is (f := (!·)) e h
end
end L2.Mi

set_option Elab.async false
set_option linter.all false
set_option maxRecDepth 100000
set_option maxHeartbeats 4000000
/-! Mini5: list.extend of a tuple, list of a text; subscripts, slices, built-ins, methods. -/
namespace PySem.AutoSeq1
open PySem PySem.Spec PyProof.Rows
theorem list_extend_tupAny (l : Addr) (items : Array Value) (n : Nat) (b : Addr) (dd : Option Addr) (sl : Array (Option Value)) (items2 : Array Value) (n2 : Nat) (hs0 : ¬(!items.isEmpty && Builtin.List.listTooLong (items.size + items2.size)) = true) (hs1 : items.size ≤ sizeLine) (hs2 : items.size + items2.size ≤ sizeLine + 1 := by seq_fits) :
    Meets (Builtin.«list.extend» ⟨[.ref l, .ref b], []⟩) (fun _ R s => s.heap.get? l = some { cls := .type "list", dict := none, data := .seq items n, slots := #[] } ∧ s.heap.get? b = some { cls := .type "tuple", dict := dd, data := .seq items2 n2, slots := sl } ∧ R (.ok (.ret Value.none)) { s with heap := s.heap.update l (Obj.mapSeq fun x => x ++ items2), toks := s.toks }) :=
  .of_wp fun prog w A R s h => by
    obtain ⟨hp, g, d, tk, os⟩ := s; obtain ⟨hl, hb, h⟩ := h; have f1 := idx_int; have f2 := sub_tuple_tuple; have f3 := sub_list_list; have f4 := sub_tuple_list; have f5 := sub_list_tuple;
    have hz' : (items ++ items2).size ≤ sizeLine + 1 := by rw [Array.size_append]; exact hs2
    wp_walk using (wpAny_updateSeq hl rfl (hz := hs1) (_hz' := hz')), wpAny_loadPart' hl, wpAny_loadPart' hb; exact ⟨_, rfl, h⟩
end PySem.AutoSeq1
namespace L2.Mi
open PySem PySem.Spec PyProof.Rows
def rExtT (K : PySem.W.Frag) : V → List V → Hp → VK → Prop := fun x vs H Q => ∃ l b xs zs, x = .ref l ∧ vs = [.ref b] ∧ H l = some (.lst xs) ∧ SqT K H b zs ∧ xs.length + zs.length ≤ sizeLine ∧ Q .non (upd H l (.lst (xs ++ zs)))
theorem mt_extT {X : Cx} : MtM X "list.extend" (rExtT X.K) := by
  intro pins s σ H x vs v us Q I rx rv h
  obtain ⟨l, b, xs, zs, rfl, rfl, hH, hB, hz, q⟩ := h
  cases rx
  obtain ⟨u, rfl, ru⟩ := rv.one
  cases ru
  obtain ⟨z, its, n, r, hl, e⟩ := I.lstM hH
  obtain ⟨its2, r2, pt, hz2⟩ := I.tuple hB
  obtain ⟨⟨cls, dd, data, sl⟩, e2, hc, n2, hd⟩ := id pt
  simp only at hc hd
  subst hc hd
  have hl2 := r2.length
  have hsz : its.toArray.size + its2.toArray.size ≤ sizeLine := by rw [List.size_toArray, List.size_toArray]; omega
  have hlong : ¬ (!its.toArray.isEmpty && Builtin.List.listTooLong (its.toArray.size + its2.toArray.size)) = true := by
    rw [notLongL hsz, Bool.and_false]
    exact Bool.false_ne_true
  refine call_meets F.slot_list_extend ⟨_, e, rfl⟩ F.entry_list_extend (F.args_list_extend_2 _ _)
    (AutoSeq1.list_extend_tupAny l its.toArray n b dd sl its2.toArray n2 hlong (by rw [List.size_toArray]; omega) (by omega)) ⟨e, e2, ?_⟩
  refine ⟨.non, _, I.lset (its' := its ++ its2) hH e (by simp) (r.append r2) ?_, rfl, q⟩
  rw [List.length_append]
  omega

theorem call_listS {X : Cx} (hc : X.calm = true) : CallR X (.type "list") (fun xs H Q => ∃ z : Str, xs = [.str z] ∧ z.length ≤ sizeLine ∧ ∀ p, H p = none → Q (.ref p) (upd H p (.lst (z.cps.toList.map fun c => .str ⟨#[c]⟩)))) := by
  intro pins s σ H xs us Q I r h
  obtain ⟨z, rfl, hz, q⟩ := h
  obtain ⟨u, rfl, rx⟩ := vals1 r
  obtain ⟨t, rfl⟩ := rx
  refine PySem.call_list_str (I.ok.hd hc) z t (hn := hz) fun h' tk acc' c' hk hS' hacc => ?_
  have hl : acc'.toList.length = z.cps.toList.length := by simp [hacc.1]
  have rv : Vals (z.cps.toList.map fun c => V.str ⟨#[c]⟩) acc'.toList := by
    have gen : ∀ (cs : List Nat) (us : List Value), us.length = cs.length → (∀ (j : Nat) v, us[j]? = some v → ∃ c u, cs[j]? = some c ∧ v = Value.str ⟨#[c]⟩ u) → Vals (cs.map fun c => V.str ⟨#[c]⟩) us := by
      intro cs
      induction cs with
      | nil => intro us h1 _; cases us with | nil => exact .nil | cons => simp at h1
      | cons c cs ih =>
        intro us h1 h2
        cases us with
        | nil => simp at h1
        | cons u us =>
          obtain ⟨c', t', e1, e2⟩ := h2 0 u rfl
          have : c = c' := by simpa using e1
          subst this
          exact .cons ⟨t', e2⟩ (ih us (by simpa using h1) fun j v hj => by simpa using h2 (j + 1) v (by simpa using hj))
    refine gen _ _ hl fun j v hj => ?_
    obtain ⟨c, u, e1, e2⟩ := hacc.2 j v (by simpa using hj)
    exact ⟨c, u, by simpa using e1, e2⟩
  have hf : H s.heap.objs.size = none := I.hok.fresh (Nat.le_refl _)
  refine ⟨.ref s.heap.objs.size, _, I.laid (t' := tk) hk (Nat.le_refl _) (show ObjOk X.prog X.w _ h' _ (.lst _) from ⟨?_, acc'.toList, c', rv, by simpa using hS'⟩), rfl, q _ hf⟩
  rw [List.length_map, Array.length_toList]
  exact hz

section
variable {G : Gb} {A : Wd}
theorem idx_rep {xs : List MV} {vs : List V} (r : Reps G A xs vs) {i : Int} {x : MV} (e : idx xs i = some x) : ∃ v, atI vs i = some v ∧ Rep G A x v := by
  unfold idx atI at e
  cases q : ixN xs.length i with
  | none => rw [q] at e; exact nomatch e
  | some j =>
    rw [q] at e
    obtain ⟨v, h1, h2⟩ := r.get (show xs[j]? = some x from e)
    refine ⟨v, ?_, h2⟩
    unfold atI
    rw [← r.len, q]
    exact h1
/-! ### subscripts -/
theorem sub_of (S : Sim G A) {x y v : MV} {vx vy : V} {Q : VK} (e : subV A.mh x y = some v) (rx : Rep G A x vx) (ry : Rep G A y vy) (h : Post G A A.mh v Q) : rIx G.K vx vy A.H Q := by
  unfold subV at e
  split at e
  · rename_i xs i
    obtain ⟨a, vs, rfl, h1, r⟩ := rx.tup_
    obtain ⟨w, h2, h3⟩ := idx_rep r e
    exact .inr (.inl ⟨a, vs, i, w, rfl, ry.int_, h1, h2, h.here S h3⟩)
  · rename_i s i
    split at e
    · rename_i hz
      simp only [Option.map_eq_some_iff] at e
      obtain ⟨c, e, rfl⟩ := e
      refine .inr (.inr ⟨⟨s.toArray⟩, i, c, rx.str_, ry.int_, by rw [str_len]; exact hz, e, ?_⟩)
      exact h.here S (rep_str [c])
    · cases e
  · split at e
    · rename_i xs e1
      obtain ⟨a, vs, rfl, h1, r⟩ := getL_rep S e1 rx
      obtain ⟨w, h2, h3⟩ := idx_rep r e
      exact .inl ⟨a, vs, _, w, rfl, ry.int_, SqL.of h1, h2, h.here S h3⟩
    · cases e
  · cases e
/-! ### slices -/
theorem cut_rep {xs : List MV} {vs : List V} (r : Reps G A xs vs) (lo hi : Option Int) : Reps G A (cut xs lo hi) (cutV vs lo hi) := by
  unfold cut cutV
  rw [r.len]
  exact (r.drop _).take _
theorem cut_whole {α : Type} {xs : List α} {lo hi : Option Int} (h : HT.sIx xs.length 0 lo = 0 ∧ HT.sIx xs.length xs.length hi = xs.length) : cut xs lo hi = xs := by
  unfold cut
  rw [h.1, h.2]
  simp
def slR (K : PySem.W.Frag) : V → Option Int → Option Int → Hp → VK → Prop := fun x lo hi H Q => rSlL K x lo hi H Q ∨ rSlA K x lo hi H Q ∨ rSlS x lo hi H Q
theorem sl_ok {X : Cx} : SlR X (slR X.K) := sl_list.or (sl_tupA.or sl_str)
theorem slc_of (S : Sim G A) {x v : MV} {lo hi : Option Int} {vx : V} {Q : VK} (e : slcV A.mh x lo hi = some v) (rx : Rep G A x vx) (h : Post G A A.mh v Q) : slR G.K vx lo hi A.H Q := by
  unfold slcV at e
  split at e
  · rename_i xs
    cases e
    obtain ⟨a, vs, rfl, h1, r⟩ := rx.tup_
    refine .inr (.inl ⟨a, vs, rfl, h1, fun w => ?_, fun _ p hp => h.newTup S (cut_rep r lo hi) hp⟩)
    rw [← r.len] at w
    rw [cut_whole w] at h
    exact h.here S rx
  · rename_i s
    split at e
    · rename_i hz
      cases e
      refine .inr (.inr ⟨⟨s.toArray⟩, rx.str_, by rw [str_len]; exact hz, ?_⟩)
      have q := h.here S (rep_str (cut s lo hi))
      unfold cut at q
      unfold L2.cutS
      rw [str_len]
      exact q
    · cases e
  · rename_i ns
    cases e
    unfold Rep at rx
    obtain ⟨a, rfl, hq⟩ := rx
    have sq : SqL G.K A.H a (ns.map .int) := by
      rcases hq with ⟨h, _⟩ | (h | h)
      · exact .inl h
      · rcases h with h | ⟨o, h⟩ <;> exact nomatch h
      · exact .inr h
    exact .inl ⟨a, _, rfl, sq, fun p hp => h.newLst S (cut_rep Reps.map_int lo hi) hp⟩
  · simp only [Option.map_eq_some_iff] at e
    obtain ⟨xs, e, rfl⟩ := e
    obtain ⟨a, vs, rfl, h1, r⟩ := getL_rep S e rx
    exact .inl ⟨a, vs, rfl, SqL.of h1, fun p hp => h.newLst S (cut_rep r lo hi) hp⟩
/-! ### built-ins -/
theorem Reps.one_ {x : MV} {vs : List V} (h : Reps G A [x] vs) : ∃ v, vs = [v] ∧ Rep G A x v := by
  unfold Reps at h
  obtain ⟨v, r, rfl, h1, h2⟩ := h
  unfold Reps at h2
  subst h2
  exact ⟨v, rfl, h1⟩
theorem Reps.nil_ {vs : List V} (h : Reps G A [] vs) : vs = [] := by
  unfold Reps at h; exact h
/-- the arguments of a call of a built-in, by its reading -/
def BiS (f : Bi) (r : PySem.W.Frag → List V → Hp → VK → Prop) : Prop :=
  ∀ (G : Gb) (A : Wd) (xs : List MV) (v : MV) (vs : List V) (Q : VK), Sim G A → biV A.mh f xs = some v → Reps G A xs vs → Post G A A.mh v Q → r G.K vs A.H Q
theorem one1_some {f : MV → Option MV} {xs : List MV} {v : MV} (h : one1 f xs = some v) : ∃ x, xs = [x] ∧ f x = some v := by
  unfold one1 at h
  split at h
  · exact ⟨_, rfl, h⟩
  · cases h
theorem bls_rep (S : Sim G A) {x : MV} {bs : List Bool} {w : V} (e : bls A.mh x = some bs) (r : Rep G A x w) : ∃ a, w = .ref a ∧ SqL G.K A.H a (bs.map .bl) := by
  unfold bls at e
  rw [Option.bind_eq_some_iff] at e
  obtain ⟨xs, e1, e2⟩ := e
  obtain ⟨a, vs, rfl, h1, r1⟩ := getL_rep S e1 r
  rw [r1.blOf e2] at h1
  exact ⟨a, rfl, SqL.of h1⟩
theorem ints_rep (S : Sim G A) {x : MV} {bs : List Int} {w : V} (e : intsM A.mh x = some bs) (r : Rep G A x w) : ∃ a, w = .ref a ∧ SqL G.K A.H a (bs.map .int) := by
  unfold intsM at e
  rw [Option.bind_eq_some_iff] at e
  obtain ⟨xs, e1, e2⟩ := e
  obtain ⟨a, vs, rfl, h1, r1⟩ := getL_rep S e1 r
  rw [r1.intOf e2] at h1
  exact ⟨a, rfl, SqL.of h1⟩
end
def rLen (K : PySem.W.Frag) : List V → Hp → VK → Prop := fun xs H Q => ∃ x n, xs = [x] ∧ LenV K x H n ∧ Q (.int n) H
theorem bi_len : BiS .len rLen := by
  intro G A xs v vs Q S e r h
  obtain ⟨x, hx, e'⟩ := one1_some e
  subst hx
  replace e := e'
  clear e'
  obtain ⟨w, rfl, rx⟩ := r.one_
  unfold lenV at e
  split at e
  · split at e
    · rename_i hz
      cases e
      exact ⟨_, _, rfl, by rw [rx.str_]; exact ⟨by rw [str_len]; exact hz, rfl⟩, by rw [str_len]; exact h.here S (rep_int _)⟩
    · cases e
  · cases e
    obtain ⟨a, ws, rfl, h1, r1⟩ := rx.tup_
    exact ⟨_, _, rfl, .inr ⟨ws, h1, rfl⟩, by rw [← r1.len]; exact h.here S (rep_int _)⟩
  · simp only [Option.map_eq_some_iff] at e
    obtain ⟨ys, e, rfl⟩ := e
    obtain ⟨a, ws, rfl, h1, r1⟩ := getL_rep S e rx
    exact ⟨_, _, rfl, .inl ⟨ws, SqL.of h1, rfl⟩, by rw [← r1.len]; exact h.here S (rep_int _)⟩
def rAbs (_ : PySem.W.Frag) : List V → Hp → VK → Prop := fun xs H Q => ∃ i, xs = [.int i] ∧ Q (.int (if i < 0 then -i else i)) H
theorem bi_abs : BiS .abs rAbs := by
  intro G A xs v vs Q S e r h
  obtain ⟨x, hx, e'⟩ := one1_some e
  subst hx
  replace e := e'
  clear e'
  obtain ⟨w, rfl, rx⟩ := r.one_
  unfold Mi.absV at e
  split at e
  · cases e
    exact ⟨_, by rw [rx.int_], h.here S (rep_int _)⟩
  · cases e
def rInt1 (_ : PySem.W.Frag) : List V → Hp → VK → Prop := fun xs H Q => (∃ i, xs = [.int i] ∧ Q (.int i) H) ∨ ∃ k, xs = [.bl k] ∧ Q (.int (if k then 1 else 0)) H
theorem bi_int : BiS .int rInt1 := by
  intro G A xs v vs Q S e r h
  obtain ⟨x, hx, e'⟩ := one1_some e
  subst hx
  replace e := e'
  clear e'
  obtain ⟨w, rfl, rx⟩ := r.one_
  unfold intV1 at e
  split at e
  · cases e
    exact .inl ⟨_, by rw [rx.int_], h.here S (rep_int _)⟩
  · cases e
    exact .inr ⟨_, by rw [rx.bl_], h.here S (rep_int _)⟩
  · cases e
def rStrI (_ : PySem.W.Frag) : List V → Hp → VK → Prop := fun xs H Q => ∃ i, xs = [.int i] ∧ i.natAbs.log2 < 1920 ∧ Q (.str (toString i)) H
theorem bi_strI : BiS .strI rStrI := by
  intro G A xs v vs Q S e r h
  obtain ⟨x, hx, e'⟩ := one1_some e
  subst hx
  replace e := e'
  clear e'
  obtain ⟨w, rfl, rx⟩ := r.one_
  unfold strV at e
  split at e
  · split at e
    · rename_i hz
      cases e
      refine ⟨_, by rw [rx.int_], hz, ?_⟩
      have q := h.here S (rep_str _)
      have e2 : ∀ z : Str, (⟨z.cps.toList.toArray⟩ : Str) = z := fun z => str_toList_eq (by simp)
      rw [e2] at q
      exact q
    · cases e
  · cases e
def rTupC (K : PySem.W.Frag) : List V → Hp → VK → Prop := fun xs H Q => ∃ p ys, xs = [.ref p] ∧ ((SqL K H p ys ∧ ∀ l, H l = none → Q (.ref l) (upd H l (.tup ys))) ∨ (SqT K H p ys ∧ Q (.ref p) H))
theorem bi_tuple : BiS .tuple rTupC := by
  intro G A xs v vs Q S e r h
  obtain ⟨x, hx, e'⟩ := one1_some e
  subst hx
  replace e := e'
  clear e'
  obtain ⟨w, rfl, rx⟩ := r.one_
  unfold tupV at e
  split at e
  · cases e
    obtain ⟨a, ws, rfl, h1, r1⟩ := rx.tup_
    exact ⟨a, ws, rfl, .inr ⟨h1, h.here S rx⟩⟩
  · simp only [Option.map_eq_some_iff] at e
    obtain ⟨ys, e, rfl⟩ := e
    obtain ⟨a, ws, rfl, h1, r1⟩ := getL_rep S e rx
    exact ⟨a, ws, rfl, .inl ⟨SqL.of h1, fun l hl => h.newTup S r1 hl⟩⟩
def rLstC (K : PySem.W.Frag) : List V → Hp → VK → Prop := fun xs H Q => (∃ p ys, xs = [.ref p] ∧ (SqL K H p ys ∨ SqT K H p ys) ∧ ∀ l, H l = none → Q (.ref l) (upd H l (.lst ys))) ∨
  ∃ z : Str, xs = [.str z] ∧ z.length ≤ sizeLine ∧ ∀ p, H p = none → Q (.ref p) (upd H p (.lst (z.cps.toList.map fun c => .str ⟨#[c]⟩)))
theorem call_lstC {X : Cx} (hc : X.calm = true) : CallR X (.type "list") (rLstC X.K) := call_list_of.or (call_listS hc)
theorem Reps.signs {G : Gb} {A : Wd} : ∀ s : Sx, Reps G A (s.map fun c => .str [c]) (s.map fun c => V.str ⟨#[c]⟩)
  | [] => by unfold Reps; rfl
  | c :: s => by rw [List.map_cons, List.map_cons]; unfold Reps; exact ⟨_, _, rfl, rep_str [c], Reps.signs s⟩
theorem bi_list : BiS .list rLstC := by
  intro G A xs v vs Q S e r h
  obtain ⟨x, hx, e'⟩ := one1_some e
  subst hx
  replace e := e'
  clear e'
  obtain ⟨w, rfl, rx⟩ := r.one_
  unfold lstV at e
  split at e
  · cases e
    obtain ⟨a, ws, rfl, h1, r1⟩ := rx.tup_
    exact .inl ⟨a, ws, rfl, .inr h1, fun l hl => h.newLst S r1 hl⟩
  · split at e
    · rename_i hz
      cases e
      exact .inr ⟨_, by rw [rx.str_], by rw [str_len]; exact hz, fun l hl => h.newLst S (Reps.signs _) hl⟩
    · cases e
  · simp only [Option.map_eq_some_iff] at e
    obtain ⟨ys, e, rfl⟩ := e
    obtain ⟨a, ws, rfl, h1, r1⟩ := getL_rep S e rx
    exact .inl ⟨a, ws, rfl, .inl (SqL.of h1), fun l hl => h.newLst S r1 hl⟩
theorem bi_all : BiS .all rAll := by
  intro G A xs v vs Q S e r h
  obtain ⟨x, hx, e'⟩ := one1_some e
  subst hx
  replace e := e'
  clear e'
  obtain ⟨w, rfl, rx⟩ := r.one_
  simp only [Option.map_eq_some_iff] at e
  obtain ⟨bs, e, rfl⟩ := e
  obtain ⟨a, rfl, h1⟩ := bls_rep S e rx
  exact ⟨a, bs, rfl, h1, h.here S (rep_bl _)⟩
theorem bi_any : BiS .any rAny := by
  intro G A xs v vs Q S e r h
  obtain ⟨x, hx, e'⟩ := one1_some e
  subst hx
  replace e := e'
  clear e'
  obtain ⟨w, rfl, rx⟩ := r.one_
  simp only [Option.map_eq_some_iff] at e
  obtain ⟨bs, e, rfl⟩ := e
  obtain ⟨a, rfl, h1⟩ := bls_rep S e rx
  exact ⟨a, bs, rfl, h1, h.here S (rep_bl _)⟩
theorem bi_sum : BiS .sum rSum := by
  intro G A xs v vs Q S e r h
  obtain ⟨x, hx, e'⟩ := one1_some e
  subst hx
  replace e := e'
  clear e'
  obtain ⟨w, rfl, rx⟩ := r.one_
  simp only [Option.map_eq_some_iff] at e
  obtain ⟨bs, e, rfl⟩ := e
  obtain ⟨a, rfl, h1⟩ := ints_rep S e rx
  exact ⟨a, bs, rfl, h1, h.here S (rep_int _)⟩
theorem bi_max : BiS .max rMax := by
  intro G A xs v vs Q S e r h
  obtain ⟨x, hx, e'⟩ := one1_some e
  subst hx
  replace e := e'
  clear e'
  obtain ⟨w, rfl, rx⟩ := r.one_
  rw [Option.bind_eq_some_iff] at e
  obtain ⟨ns, e, e2⟩ := e
  simp only [Option.map_eq_some_iff] at e2
  obtain ⟨m, e2, rfl⟩ := e2
  obtain ⟨a, rfl, h1⟩ := ints_rep S e rx
  have hm := List.max?_eq_some_iff.mp e2
  refine ⟨a, ns, rfl, h1, List.length_pos_of_mem hm.1, fun m' h2 h3 => ?_⟩
  have : m' = m := Int.le_antisymm (hm.2 m' h2) (h3 m hm.1)
  rw [this]
  exact h.here S (rep_int _)
theorem bi_min : BiS .min rMin := by
  intro G A xs v vs Q S e r h
  obtain ⟨x, hx, e'⟩ := one1_some e
  subst hx
  replace e := e'
  clear e'
  obtain ⟨w, rfl, rx⟩ := r.one_
  rw [Option.bind_eq_some_iff] at e
  obtain ⟨ns, e, e2⟩ := e
  simp only [Option.map_eq_some_iff] at e2
  obtain ⟨m, e2, rfl⟩ := e2
  obtain ⟨a, rfl, h1⟩ := ints_rep S e rx
  have hm := List.min?_eq_some_iff.mp e2
  refine ⟨a, ns, rfl, h1, List.length_pos_of_mem hm.1, fun m' h2 h3 => ?_⟩
  have : m' = m := Int.le_antisymm (h3 m hm.1) (hm.2 m' h2)
  rw [this]
  exact h.here S (rep_int _)

/-! ### methods -/
section
variable {G : Gb} {A : Wd}
theorem bd_of : (n : Nat) → (S : Sim G A) → (A.mh.length ≤ n) → True := fun _ _ _ => trivial
theorem liveL_rep (S : Sim G A) {o : MV} {l : Nat} {xs : List MV} {w : V} (e : liveL A.mh o = some (l, xs)) (r : Rep G A o w) :
    A.mh[l]? = some (some (.lst xs)) ∧ ∃ a vs, A.β[l]? = some a ∧ w = .ref a ∧ A.H a = some (.lst vs) ∧ Reps G A xs vs := by
  unfold liveL at e
  split at e
  · split at e
    · rename_i l' ys hl
      cases e
      obtain ⟨a, rfl, e2⟩ := r.loc_
      obtain ⟨vs, e3, r3⟩ := S.obj _ _ hl a e2
      exact ⟨hl, a, vs, e2, rfl, e3, r3⟩
    · cases e
  · cases e
theorem bds_app (n : Nat) : ∀ xs ys : List MV, bds n (xs ++ ys) = (bds n xs && bds n ys)
  | [], ys => by simp [bds]
  | x :: xs, ys => by
    show (bd n x && bds n (xs ++ ys)) = ((bd n x && bds n xs) && bds n ys)
    rw [bds_app n xs ys, Bool.and_assoc]
mutual
theorem bd_mono {n m : Nat} (h : n ≤ m) : ∀ x : MV, bd n x = true → bd m x = true
  | .tup xs, e => by unfold bd at e ⊢; exact bds_mono h xs e
  | .lst xs, e => by unfold bd at e ⊢; exact bds_mono h xs e
  | .dct _ vs, e => by unfold bd at e ⊢; exact bds_mono h vs e
  | .loc l, e => by
    unfold bd at e ⊢
    have : l < n := of_decide_eq_true e
    exact decide_eq_true (by omega)
  | .non, e => e
  | .bl _, e => e
  | .int _, e => e
  | .str _, e => e
  | .fn _, e => e
  | .scr _, e => e
theorem bds_mono {n m : Nat} (h : n ≤ m) : ∀ xs : List MV, bds n xs = true → bds m xs = true
  | [], e => by unfold bds; rfl
  | x :: xs, e => by
    unfold bds at e ⊢
    rw [Bool.and_eq_true] at e ⊢
    exact ⟨bd_mono h x e.1, bds_mono h xs e.2⟩
end
/-- what may be written keeps the bounds of all frames -/
theorem wr_bd (S : Sim G A) {l : Nat} {x : MV} (h : wr A.base l x = true) {b : Nat} (hb : b ∈ A.bs) (hl : l < b) : bd b x = true := by
  unfold wr at h
  rw [Bool.or_eq_true] at h
  rcases h with h | h
  · have h1 : A.base ≤ l := of_decide_eq_true h
    have := S.top b hb
    omega
  · exact bd_mono (by omega) x h
theorem wrs_bd (S : Sim G A) {l : Nat} : ∀ {xs : List MV}, xs.all (wr A.base l) = true → ∀ {b : Nat}, b ∈ A.bs → l < b → bds b xs = true
  | [], _, b, _, _ => by unfold bds; rfl
  | x :: xs, h, b, hb, hl => by
    rw [List.all_cons, Bool.and_eq_true] at h
    unfold bds
    rw [wr_bd S h.1 hb hl, wrs_bd S h.2 hb hl]
    rfl
theorem bds_sub {n : Nat} : ∀ {xs : List MV}, bds n xs = true → ∀ {ys : List MV}, (∀ y ∈ ys, y ∈ xs) → bds n ys = true := by
  intro xs h ys
  have all : ∀ {xs : List MV}, bds n xs = true → ∀ x ∈ xs, bd n x = true := by
    intro xs
    induction xs with
    | nil => intro _ x hx; exact absurd hx (by simp)
    | cons y ys ih =>
      intro h x hx
      unfold bds at h
      rw [Bool.and_eq_true] at h
      rcases List.mem_cons.mp hx with rfl | hx
      · exact h.1
      · exact ih h.2 x hx
  induction ys with
  | nil => intro _; unfold bds; rfl
  | cons y ys ih =>
    intro hs
    unfold bds
    rw [all h y (hs y (by simp)), ih fun z hz => hs z (List.mem_cons_of_mem _ hz)]
    rfl
theorem lst_wr (S : Sim G A) {l : Nat} {a : Addr} {xs ys : List MV} {ws : List V} (hl : A.mh[l]? = some (some (.lst xs))) (hb : A.β[l]? = some a) (r : Reps G A ys ws) (hbd : ∀ b ∈ A.bs, l < b → bds b ys = true) :
    Keep A (A.wr l a (.lst ws) (.lst ys)) ∧ Sim G (A.wr l a (.lst ws) (.lst ys)) := by
  have k : Keep A (A.wr l a (.lst ws) (.lst ys)) := keep_wr S hl hb
  exact ⟨k, S.wr hl hb ⟨ws, upd_same, Reps.keep S k _ _ r⟩ ⟨(fun _ z => nomatch z), (fun _ _ z => nomatch z)⟩ hbd⟩
/-- the reading of a method, where what is wanted behind it is told by a post of the new heap -/
def MeS (m : Me) (r : PySem.W.Frag → V → List V → Hp → VK → Prop) : Prop :=
  ∀ (G : Gb) (A : Wd) (o : MV) (xs : List MV) (v : MV) (mh' : MHp) (w : V) (vs : List V) (Q : VK), Sim G A → methV A.base A.mh m o xs = some (v, mh') → Rep G A o w → Reps G A xs vs → Post G A mh' v Q → r G.K w vs A.H Q
end
theorem me_append : MeS .append (fun _ => rAppend) := by
  intro G A o xs v mh' w vs Q S e ro r h
  simp only [methV, appV] at e
  split at e
  · rename_i l ys x e1
    split at e
    · rename_i hc
      cases e
      obtain ⟨hl, a, ws, hb, rfl, hH, rr⟩ := liveL_rep S e1 ro
      obtain ⟨y, rfl, ry⟩ := r.one_
      obtain ⟨k, S'⟩ := lst_wr S hl hb (rr.app (Reps.one ry)) fun b hbs hlb => by
        rw [bds_app]
        have h1 : bds b ys = true := S.bnd b hbs l _ hlb hl
        rw [h1]
        show (true && (bd b x && true)) = true
        rw [wr_bd S hc.1 hbs hlb]
        rfl
      exact ⟨a, ws, y, rfl, rfl, hH, by rw [← rr.len]; exact hc.2, h _ .non k rfl S' rep_non⟩
    · cases e
  · cases e
def rExtB (K : PySem.W.Frag) : V → List V → Hp → VK → Prop := fun x vs H Q => rExtend x vs H Q ∨ rExtT K x vs H Q
theorem mt_extB {X : Cx} : MtR X "list.extend" (rExtB X.K) := MtR.or mt_extend mt_extT
theorem me_extend : MeS .extend rExtB := by
  intro G A o xs v mh' w vs Q S e ro r h
  simp only [methV, extV] at e
  split at e
  · rename_i l ys x e1
    split at e
    · rename_i zs e2
      split at e
      · rename_i hc
        cases e
        obtain ⟨hl, a, ws, hb, rfl, hH, rr⟩ := liveL_rep S e1 ro
        obtain ⟨y, rfl, ry⟩ := r.one_
        have bdd : ∀ b ∈ A.bs, l < b → bds b (ys ++ zs) = true := fun b hbs hlb => by
          rw [bds_app]
          have h1 : bds b ys = true := S.bnd b hbs l _ hlb hl
          rw [h1, wrs_bd S hc.1 hbs hlb]
          rfl
        unfold seqOf at e2
        split at e2
        · cases e2
          obtain ⟨b, us, rfl, h1, r1⟩ := ry.tup_
          obtain ⟨k, S'⟩ := lst_wr S hl hb (rr.app r1) bdd
          exact .inr ⟨a, b, ws, us, rfl, rfl, hH, h1, by rw [← rr.len, ← r1.len]; exact hc.2, h _ .non k rfl S' rep_non⟩
        · obtain ⟨b, us, rfl, h1, r1⟩ := getL_rep S e2 ry
          obtain ⟨k, S'⟩ := lst_wr S hl hb (rr.app r1) bdd
          exact .inl ⟨a, b, ws, us, rfl, rfl, hH, h1, by rw [← rr.len, ← r1.len]; exact hc.2, h _ .non k rfl S' rep_non⟩
      · cases e
    · cases e
  · cases e
theorem me_pop : MeS .pop (fun _ => rPop) := by
  intro G A o xs v mh' w vs Q S e ro r h
  simp only [methV, popV] at e
  split at e
  · rename_i l ys e1
    simp only [Option.map_eq_some_iff] at e
    obtain ⟨y, e2, e3⟩ := e
    cases e3
    obtain ⟨hl, a, ws, hb, rfl, hH, rr⟩ := liveL_rep S e1 ro
    obtain ⟨u, hu, ru⟩ := rr.get e2
    obtain ⟨k, S'⟩ := lst_wr S hl hb rr.dropLast fun b hbs hlb => bds_sub (S.bnd b hbs l _ hlb hl) fun z hz => List.dropLast_subset _ hz
    exact ⟨a, ws, u, rfl, r.nil_, hH, by rw [← rr.len]; exact hu, h _ u k rfl S' (Rep.keep S k _ _ ru)⟩
  · cases e
theorem me_popAt : MeS .popAt (fun _ => rPopAt) := by
  intro G A o xs v mh' w vs Q S e ro r h
  simp only [methV, popAtV] at e
  split at e
  · rename_i l ys i e1
    split at e
    · rename_i hi
      split at e
      · cases e
      · rename_i j e4
        simp only [Option.map_eq_some_iff] at e
        obtain ⟨y, e2, e3⟩ := e
        cases e3
        obtain ⟨hl, a, ws, hb, rfl, hH, rr⟩ := liveL_rep S e1 ro
        obtain ⟨u, hu, ru⟩ := rr.get e2
        obtain ⟨z, rfl, rz⟩ := r.one_
        obtain ⟨k, S'⟩ := lst_wr S hl hb (rr.eraseIdx j) fun b hbs hlb => bds_sub (S.bnd b hbs l _ hlb hl) fun z hz => List.mem_of_mem_eraseIdx hz
        exact ⟨a, ws, i, j, u, rfl, by rw [rz.int_], hH, hi.1, hi.2, by rw [← rr.len]; exact e4, hu, h _ u k rfl S' (Rep.keep S k _ _ ru)⟩
    · cases e
  · cases e
def rUpp (_ : PySem.W.Frag) : V → List V → Hp → VK → Prop := fun x xs H Q => ∃ a, x = .str a ∧ xs = [] ∧ a.length ≤ 5592405 ∧ Q (.str (Txt.upper a)) H
theorem me_upper : MeS .upper rUpp := by
  intro G A o xs v mh' w vs Q S e ro r h
  simp only [methV, uppV] at e
  split at e
  · split at e
    · rename_i s hz
      cases e
      refine ⟨_, ro.str_, r.nil_, by rw [str_len]; exact hz, ?_⟩
      have q := h.here S (rep_str _)
      unfold upperC at q
      have e2 : (⟨(Txt.upper ⟨s.toArray⟩).cps.toList.toArray⟩ : Str) = Txt.upper ⟨s.toArray⟩ := str_toList_eq (by simp)
      rw [e2] at q
      exact q
    · cases e
  · cases e
end L2.Mi

set_option Elab.async false
set_option linter.all false
set_option maxRecDepth 100000
set_option maxHeartbeats 4000000
/-! Mini6: expressions. -/
namespace L2.Mi
open PySem PySem.Spec PyProof.Rows

section
variable (G : Gb) (C : CallF)
/-- an expression by the evaluator -/
def tE (m : ME) : TE := fun σ H Q => ∃ (A : Wd) (ρ : Env) (v : MV) (mh' : MHp), A.H = H ∧ Sim G A ∧ Envs G A ρ σ ∧ ev C A.base m ρ A.mh = some (v, mh') ∧ Post G A mh' v Q
def tT (m : ME) : TT := fun σ H Q => ∃ (A : Wd) (ρ : Env) (c : Bool) (mh' : MHp), A.H = H ∧ Sim G A ∧ Envs G A ρ σ ∧ ev C A.base m ρ A.mh = some (.bl c, mh') ∧ ∀ B, Keep A B → B.mh = mh' → Sim G B → Q c B.H
def tEs (ms : List ME) : TA := fun σ H Q => ∃ (A : Wd) (ρ : Env) (vs : List MV) (mh' : MHp), A.H = H ∧ Sim G A ∧ Envs G A ρ σ ∧ evs C A.base ms ρ A.mh = some (vs, mh') ∧ ∀ B xs, Keep A B → B.mh = mh' → Sim G B → Reps G B vs xs → Q xs B.H
end
theorem Keep.base {A B : Wd} (k : Keep A B) : B.base = A.base := by unfold Wd.base; rw [k.bs]

theorem _root_.L2.PE.mono {X : Cx} {e : Expr} {t t' : TE} (h : PE X e t) (k : ∀ σ H Q, t' σ H Q → t σ H Q) : PE X e t' := ⟨fun pins s σ H Q I q => h.run pins s σ H Q I (k σ H Q q)⟩
theorem _root_.L2.PT.mono {X : Cx} {e : Expr} {t t' : TT} (h : PT X e t) (k : ∀ σ H Q, t' σ H Q → t σ H Q) : PT X e t' := ⟨fun pins s σ H Q I q => h.run pins s σ H Q I (k σ H Q q)⟩
theorem _root_.L2.PW.mono {X : Cx} {e : Expr} {t t' : TT} (h : PW X e t) (k : ∀ σ H Q, t' σ H Q → t σ H Q) : PW X e t' := ⟨fun wh pins s σ H Q I q => h.run wh pins s σ H Q I (k σ H Q q)⟩
theorem _root_.L2.PA.mono {X : Cx} {es : List Expr} {t t' : TA} (h : PA X es t) (k : ∀ σ H Q, t' σ H Q → t σ H Q) : PA X es t' := ⟨fun pos pins s σ H Q I q => h.run pos pins s σ H Q I (k σ H Q q)⟩

section
variable {G : Gb} {C : CallF} {A : Wd} {ρ : Env} {σ : L2.St}
theorem tE.go {m : ME} {v : MV} {mh1 : MHp} {Q : VK} (S : Sim G A) (N : Envs G A ρ σ) (e : ev C A.base m ρ A.mh = some (v, mh1))
    (h : ∀ B x, Keep A B → B.mh = mh1 → Sim G B → Envs G B ρ σ → Rep G B v x → Q x B.H) : tE G C m σ A.H Q :=
  ⟨A, ρ, v, mh1, rfl, S, N, e, fun B x k em SB r => h B x k em SB (N.keep S k) r⟩
theorem tT.go {m : ME} {c : Bool} {mh1 : MHp} {Q : Bool → Hp → Prop} (S : Sim G A) (N : Envs G A ρ σ) (e : ev C A.base m ρ A.mh = some (.bl c, mh1))
    (h : ∀ B, Keep A B → B.mh = mh1 → Sim G B → Envs G B ρ σ → Q c B.H) : tT G C m σ A.H Q :=
  ⟨A, ρ, c, mh1, rfl, S, N, e, fun B k em SB => h B k em SB (N.keep S k)⟩
theorem tEs.go {ms : List ME} {vs : List MV} {mh1 : MHp} {Q : List V → Hp → Prop} (S : Sim G A) (N : Envs G A ρ σ) (e : evs C A.base ms ρ A.mh = some (vs, mh1))
    (h : ∀ B xs, Keep A B → B.mh = mh1 → Sim G B → Envs G B ρ σ → Reps G B vs xs → Q xs B.H) : tEs G C ms σ A.H Q :=
  ⟨A, ρ, vs, mh1, rfl, S, N, e, fun B xs k em SB r => h B xs k em SB (N.keep S k) r⟩
/-- the evaluation goes on in B -/
theorem ev.at {A B : Wd} {m : ME} {mh1 : MHp} {r : Option (MV × MHp)} (k : Keep A B) (em : B.mh = mh1) (e : ev C A.base m ρ mh1 = r) : ev C B.base m ρ B.mh = r := by rw [k.base, em]; exact e
theorem evs.at {A B : Wd} {m : List ME} {mh1 : MHp} {r : Option (List MV × MHp)} (k : Keep A B) (em : B.mh = mh1) (e : evs C A.base m ρ mh1 = r) : evs C B.base m ρ B.mh = r := by rw [k.base, em]; exact e
end

section
variable {G : Gb} {C : CallF} {X : Cx} {pos p : Pos} {e a b c : Expr} {ma mb mc m : ME}
/-! ### names, constants -/
theorem se_var {i : Nat} {x : Str} (hN : X.N[i]? = some x) (hv : Vis X.env.scope x) (hd : (x == ("__debug__" : Str)) = false := by decide) (hcd : (x == ("__classdict__" : Str)) = false := by decide) : PE X (.Name x pos) (tE G C (.var i)) := by
  refine (pe_var hN hv hd hcd).mono fun σ H Q h => ?_
  obtain ⟨A, ρ, v, mh', rfl, S, N, e, q⟩ := h
  simp only [ev] at e
  split at e
  · rename_i w hw
    cases e
    obtain ⟨x, h1, h2⟩ := N.2 i _ hw
    exact ⟨x, h1, Post.here q S h2⟩
  · cases e
theorem se_c {v : V} {mv : MV} (h : PE X e (tC v)) (hr : ∀ A, Rep G A mv v) : PE X e (tE G C (.c mv)) := by
  refine h.mono fun σ H Q h => ?_
  obtain ⟨A, ρ, w, mh', rfl, S, N, e, q⟩ := h
  simp only [ev] at e
  cases e
  exact Post.here q S (hr A)
theorem se_int {i j} : PE X (.Constant (.int i) j pos) (tE G C (.c (.int i))) := se_c pe_int fun _ => rep_int i
theorem se_bl {b j} : PE X (.Constant (.bool b) j pos) (tE G C (.c (.bl b))) := se_c pe_bl fun _ => rep_bl b
theorem se_non {j} : PE X (.Constant .none j pos) (tE G C (.c .non)) := se_c pe_non fun _ => rep_non
theorem se_str {x : Str} {j} {s : Sx} (h : x = ⟨s.toArray⟩) : PE X (.Constant (.str x) j pos) (tE G C (.c (.str s))) := by
  subst h
  exact se_c pe_str fun _ => rep_str s
/-- a module's number -/
theorem se_glob {x : Str} {i : Int} {t : Tok} (hg : Gl X x) (hm : X.mg x = some (.int i t)) (hd : (x == ("__debug__" : Str)) = false := by decide) : PE X (.Name x pos) (tE G C (.c (.int i))) :=
  se_c (pe_glob (v := .int i) hg hm ⟨t, rfl⟩ hd) fun _ => rep_int i
/-- a def as a value -/
theorem se_fn {x : Str} {f : Nat} {a : Addr} (hg : Gl X x) (hm : X.mg x = some (.ref a)) (hf : G.fa f = some a) (hd : (x == ("__debug__" : Str)) = false := by decide) : PE X (.Name x pos) (tE G C (.c (.fn f))) :=
  se_c (pe_glob (v := .ref a) hg hm rfl hd) fun _ => by unfold Rep; exact ⟨a, hf, rfl⟩
/-! ### operators -/
theorem se_bin {o : Op} (hK : X.K = G.K) (ha : PE X a (tE G C ma)) (hb : PE X b (tE G C mb)) : PE X (.BinOp a (opOf o) b pos) (tE G C (.bin o ma mb)) := by
  refine (pe_op (op_ok (X := X) o) ha hb).mono fun σ H Q h => ?_
  obtain ⟨A, ρ, v, mh', rfl, S, N, e, q⟩ := h
  simp only [ev] at e
  split at e
  · cases e
  rename_i x mh1 e1
  split at e
  · cases e
  rename_i y mh2 e2
  simp only [Option.map_eq_some_iff] at e
  obtain ⟨w, e3, e4⟩ := e
  cases e4
  refine tE.go S N e1 fun B vx kB em SB NB rx => tE.go SB NB (ev.at kB em e2) fun B2 vy k2 em2 S2 N2 ry => ?_
  rw [hK]
  refine opR_of S2 (by rw [em2]; exact e3) (Rep.keep SB k2 _ _ rx) ry ?_
  rw [em2]
  exact Post.step q (kB.trans k2)
theorem se_neg (ha : PE X a (tE G C ma)) : PE X (.UnaryOp .USub a pos) (tE G C (.neg ma)) := by
  refine (pe_un un_neg ha).mono fun σ H Q h => ?_
  obtain ⟨A, ρ, v, mh', rfl, S, N, e, q⟩ := h
  simp only [ev] at e
  split at e
  · rename_i i mh1 e1
    cases e
    exact tE.go S N e1 fun B vx kB em SB NB rx => ⟨i, rx.int_, q B _ kB em SB (rep_int _)⟩
  · cases e
theorem ev_cmp {o : Cop} {base : Nat} {ρ : Env} {mh mh' : MHp} {v : MV} (e : ev C base (.cmp o ma mb) ρ mh = some (v, mh')) :
    ∃ x mh1 y c, ev C base ma ρ mh = some (x, mh1) ∧ ev C base mb ρ mh1 = some (y, mh') ∧ cmpV mh' o x y = some c ∧ v = .bl c := by
  simp only [ev] at e
  split at e
  · cases e
  rename_i x mh1 e1
  split at e
  · cases e
  rename_i y mh2 e2
  simp only [Option.map_eq_some_iff] at e
  obtain ⟨w, e3, e4⟩ := e
  cases e4
  exact ⟨x, mh1, y, w, e1, e2, e3, rfl⟩
theorem se_cmp {o : Cop} (hK : X.K = G.K) (hu : X.A.units + 65 < cLine) (hm : behindInMarks (copOf o) b = false) (ha : PE X a (tE G C ma)) (hb : PE X b (tE G C mb)) : PE X (.Compare a [copOf o] [b] pos) (tE G C (.cmp o ma mb)) := by
  refine (pe_cmpR (cop_ok (X := X) hu o) ha hb hm).mono fun σ H Q h => ?_
  obtain ⟨A, ρ, v, mh', rfl, S, N, e, q⟩ := h
  obtain ⟨x, mh1, y, c, e1, e2, e3, rfl⟩ := ev_cmp e
  refine tE.go S N e1 fun B vx kB em SB NB rx => tE.go SB NB (ev.at kB em e2) fun B2 vy k2 em2 S2 N2 ry => ?_
  rw [hK]
  exact copR_of S2 (by rw [em2]; exact e3) (Rep.keep SB k2 _ _ rx) ry (q B2 _ (kB.trans k2) em2 S2 (rep_bl c))
theorem st_cmp {o : Cop} (hK : X.K = G.K) (hu : X.A.units + 65 < cLine) (hm : behindInMarks (copOf o) b = false) (ha : PE X a (tE G C ma)) (hb : PE X b (tE G C mb)) : PT X (.Compare a [copOf o] [b] pos) (tT G C (.cmp o ma mb)) := by
  refine (pt_cmpR (cop_ok (X := X) hu o) ha hb hm).mono fun σ H Q h => ?_
  obtain ⟨A, ρ, c', mh', rfl, S, N, e, q⟩ := h
  obtain ⟨x, mh1, y, c, e1, e2, e3, e4⟩ := ev_cmp e
  cases e4
  refine tE.go S N e1 fun B vx kB em SB NB rx => tE.go SB NB (ev.at kB em e2) fun B2 vy k2 em2 S2 N2 ry => ?_
  rw [hK]
  exact copR_of S2 (by rw [em2]; exact e3) (Rep.keep SB k2 _ _ rx) ry ⟨c', rfl, q B2 (kB.trans k2) em2 S2⟩
theorem ev_chn {o o' : Cop} {base : Nat} {ρ : Env} {mh mh' : MHp} {v : MV} (e : ev C base (.chn o o' ma mb mc) ρ mh = some (v, mh')) :
    ∃ x mh1 y mh2, ev C base ma ρ mh = some (x, mh1) ∧ ev C base mb ρ mh1 = some (y, mh2) ∧ ((cmpV mh2 o x y = some false ∧ v = .bl false ∧ mh' = mh2) ∨ (cmpV mh2 o x y = some true ∧ ∃ z c, ev C base mc ρ mh2 = some (z, mh') ∧ cmpV mh' o' y z = some c ∧ v = .bl c)) := by
  simp only [ev] at e
  split at e
  · cases e
  rename_i x mh1 e1
  split at e
  · cases e
  rename_i y mh2 e2
  refine ⟨x, mh1, y, mh2, e1, e2, ?_⟩
  split at e
  · cases e
  · rename_i e3
    cases e
    exact .inl ⟨e3, rfl, rfl⟩
  · rename_i e3
    split at e
    · cases e
    rename_i z mh3 e4
    simp only [Option.map_eq_some_iff] at e
    obtain ⟨w, e5, e6⟩ := e
    cases e6
    exact .inr ⟨e3, z, w, e4, e5, rfl⟩
theorem chn_go {o o' : Cop} {A : Wd} {ρ : Env} {σ : L2.St} {v : MV} {mh' : MHp} {Q : VK} (hK : X.K = G.K) (S : Sim G A) (N : Envs G A ρ σ) (e : ev C A.base (.chn o o' ma mb mc) ρ A.mh = some (v, mh')) (q : Post G A mh' v Q) :
    tChain (copR X.K o) (copR X.K o') (tE G C ma) (tE G C mb) (tE G C mc) σ A.H Q := by
  obtain ⟨x, mh1, y, mh2, e1, e2, h⟩ := ev_chn e
  refine tE.go S N e1 fun B vx kB em SB NB rx => tE.go SB NB (ev.at kB em e2) fun B2 vy k2 em2 S2 N2 ry => ?_
  rw [hK]
  rcases h with ⟨e3, rfl, rfl⟩ | ⟨e3, z, c, e4, e5, rfl⟩
  · refine copR_of S2 (by rw [em2]; exact e3) (Rep.keep SB k2 _ _ rx) ry ⟨false, rfl, ?_⟩
    rw [if_neg Bool.false_ne_true]
    exact q B2 _ (kB.trans k2) em2 S2 (rep_bl false)
  · refine copR_of S2 (by rw [em2]; exact e3) (Rep.keep SB k2 _ _ rx) ry ⟨true, rfl, ?_⟩
    rw [if_pos rfl]
    refine tE.go S2 N2 (ev.at (kB.trans k2) em2 e4) fun B3 vz k3 em3 S3 N3 rz => ?_
    exact copR_of S3 (by rw [em3]; exact e5) (Rep.keep S2 k3 _ _ ry) rz (q B3 _ ((kB.trans k2).trans k3) em3 S3 (rep_bl c))
theorem se_chn {o o' : Cop} (hK : X.K = G.K) (hu : X.A.units + 65 < cLine) (ha : PE X a (tE G C ma)) (hb : PE X b (tE G C mb)) (hc : PE X c (tE G C mc))
    (hm : lastMarks [copOf o, copOf o'] [b, c] = false := by with_unfolding_all rfl) : PE X (.Compare a [copOf o, copOf o'] [b, c] pos) (tE G C (.chn o o' ma mb mc)) := by
  refine (pe_chain (cop_ok (X := X) hu o) (cop_ok (X := X) hu o') ha hb hc hm).mono fun σ H Q h => ?_
  obtain ⟨A, ρ, v, mh', rfl, S, N, e, q⟩ := h
  exact chn_go hK S N e q
theorem st_chn {o o' : Cop} (hK : X.K = G.K) (hu : X.A.units + 65 < cLine) (ha : PE X a (tE G C ma)) (hb : PE X b (tE G C mb)) (hc : PE X c (tE G C mc))
    (hm : lastMarks [copOf o, copOf o'] [b, c] = false := by with_unfolding_all rfl) : PT X (.Compare a [copOf o, copOf o'] [b, c] pos) (tT G C (.chn o o' ma mb mc)) := by
  refine (pt_chain (cop_ok (X := X) hu o) (cop_ok (X := X) hu o') ha hb hc hm).mono fun σ H Q h => ?_
  obtain ⟨A, ρ, v, mh', rfl, S, N, e, q⟩ := h
  refine chn_go hK S N e fun B x k em SB r => ⟨v, r.bl_, q B k em SB⟩
/-! ### tests, and, or, not -/
theorem st_val (h : PE X e (tE G C m)) (he : ∀ whole, isTrue e X.env whole = (do let v ← whole; standAt e.pos; holding [v] (truthy v)) := by intro _; rfl) : PT X e (tT G C m) := by
  refine (pt_val h he).mono fun σ H Q h => ?_
  obtain ⟨A, ρ, c, mh', rfl, S, N, e, q⟩ := h
  exact tE.go S N e fun B x k em SB _ r => ⟨c, r.bl_, q B k em SB⟩
theorem ev_and {base : Nat} {ρ : Env} {mh mh' : MHp} {v : MV} (e : ev C base (.and ma mb) ρ mh = some (v, mh')) : (∃ mh1, ev C base ma ρ mh = some (.bl true, mh1) ∧ ev C base mb ρ mh1 = some (v, mh')) ∨ (ev C base ma ρ mh = some (.bl false, mh') ∧ v = .bl false) := by
  simp only [ev] at e
  split at e
  · rename_i mh1 e1; exact .inl ⟨mh1, e1, e⟩
  · rename_i mh1 e1; cases e; exact .inr ⟨e1, rfl⟩
  · cases e
theorem ev_or {base : Nat} {ρ : Env} {mh mh' : MHp} {v : MV} (e : ev C base (.or ma mb) ρ mh = some (v, mh')) : (∃ mh1, ev C base ma ρ mh = some (.bl false, mh1) ∧ ev C base mb ρ mh1 = some (v, mh')) ∨ (ev C base ma ρ mh = some (.bl true, mh') ∧ v = .bl true) := by
  simp only [ev] at e
  split at e
  · rename_i mh1 e1; exact .inl ⟨mh1, e1, e⟩
  · rename_i mh1 e1; cases e; exact .inr ⟨e1, rfl⟩
  · cases e
theorem sw_and1 (ha : PT X a (tT G C ma)) : PW X (.BoolOp .And [a] pos) (tT G C ma) := pw_and1 ha
theorem sw_or1 (ha : PT X a (tT G C ma)) : PW X (.BoolOp .Or [a] pos) (tT G C ma) := pw_or1 ha
theorem sw_and {rest : List Expr} (ha : PT X a (tT G C ma)) (hb : PW X (.BoolOp .And (b :: rest) pos) (tT G C mb)) : PW X (.BoolOp .And (a :: b :: rest) pos) (tT G C (.and ma mb)) := by
  refine (pw_and ha hb).mono fun σ H Q h => ?_
  obtain ⟨A, ρ, c, mh', rfl, S, N, e, q⟩ := h
  rcases ev_and e with ⟨mh1, e1, e2⟩ | ⟨e1, e2⟩
  · refine tT.go S N e1 fun B k em SB NB => ?_
    rw [if_pos rfl]
    exact tT.go SB NB (ev.at k em e2) fun B2 k2 em2 S2 _ => q B2 (k.trans k2) em2 S2
  · cases e2
    refine tT.go S N e1 fun B k em SB NB => ?_
    rw [if_neg Bool.false_ne_true]
    exact q B k em SB
theorem sw_or {rest : List Expr} (ha : PT X a (tT G C ma)) (hb : PW X (.BoolOp .Or (b :: rest) pos) (tT G C mb)) : PW X (.BoolOp .Or (a :: b :: rest) pos) (tT G C (.or ma mb)) := by
  refine (pw_or ha hb).mono fun σ H Q h => ?_
  obtain ⟨A, ρ, c, mh', rfl, S, N, e, q⟩ := h
  rcases ev_or e with ⟨mh1, e1, e2⟩ | ⟨e1, e2⟩
  · refine tT.go S N e1 fun B k em SB NB => ?_
    rw [if_neg Bool.false_ne_true]
    exact tT.go SB NB (ev.at k em e2) fun B2 k2 em2 S2 _ => q B2 (k.trans k2) em2 S2
  · cases e2
    refine tT.go S N e1 fun B k em SB NB => ?_
    rw [if_pos rfl]
    exact q B k em SB
theorem ev_not {base : Nat} {ρ : Env} {mh mh' : MHp} {v : MV} (e : ev C base (.not ma) ρ mh = some (v, mh')) : ∃ b, ev C base ma ρ mh = some (.bl b, mh') ∧ v = .bl (!b) := by
  simp only [ev] at e
  split at e
  · cases e; exact ⟨_, by assumption, rfl⟩
  · cases e
theorem st_not (ha : PT X a (tT G C ma)) : PT X (.UnaryOp .Not a pos) (tT G C (.not ma)) := by
  refine (pt_not ha).mono fun σ H Q h => ?_
  obtain ⟨A, ρ, c, mh', rfl, S, N, e, q⟩ := h
  obtain ⟨b, e1, e2⟩ := ev_not e
  cases e2
  exact tT.go S N e1 fun B k em SB _ => q B k em SB
theorem se_one {op} (h : PE X a (tE G C ma)) : PE X (.BoolOp op [a] pos) (tE G C ma) := pe_one h
theorem se_and {rest : List Expr} (ha : PE X a (tE G C ma)) (hb : PE X (.BoolOp .And (b :: rest) pos) (tE G C mb)) : PE X (.BoolOp .And (a :: b :: rest) pos) (tE G C (.and ma mb)) := by
  refine (pe_and ha hb).mono fun σ H Q h => ?_
  obtain ⟨A, ρ, v, mh', rfl, S, N, e, q⟩ := h
  rcases ev_and e with ⟨mh1, e1, e2⟩ | ⟨e1, rfl⟩
  · refine tE.go S N e1 fun B x k em SB NB r => ⟨true, r.bl_, ?_⟩
    rw [if_pos rfl]
    exact tE.go SB NB (ev.at k em e2) fun B2 x2 k2 em2 S2 _ r2 => q B2 x2 (k.trans k2) em2 S2 r2
  · refine tE.go S N e1 fun B x k em SB NB r => ⟨false, r.bl_, ?_⟩
    rw [if_neg Bool.false_ne_true]
    exact q B _ k em SB (rep_bl false)
theorem se_or {rest : List Expr} (ha : PE X a (tE G C ma)) (hb : PE X (.BoolOp .Or (b :: rest) pos) (tE G C mb)) : PE X (.BoolOp .Or (a :: b :: rest) pos) (tE G C (.or ma mb)) := by
  refine (pe_or ha hb).mono fun σ H Q h => ?_
  obtain ⟨A, ρ, v, mh', rfl, S, N, e, q⟩ := h
  rcases ev_or e with ⟨mh1, e1, e2⟩ | ⟨e1, rfl⟩
  · refine tE.go S N e1 fun B x k em SB NB r => ⟨false, r.bl_, ?_⟩
    rw [if_neg Bool.false_ne_true]
    exact tE.go SB NB (ev.at k em e2) fun B2 x2 k2 em2 S2 _ r2 => q B2 x2 (k.trans k2) em2 S2 r2
  · refine tE.go S N e1 fun B x k em SB NB r => ⟨true, r.bl_, ?_⟩
    rw [if_pos rfl]
    exact q B _ k em SB (rep_bl true)
theorem se_not (ha : PE X a (tE G C ma)) : PE X (.UnaryOp .Not a pos) (tE G C (.not ma)) := by
  refine (pe_not ha).mono fun σ H Q h => ?_
  obtain ⟨A, ρ, v, mh', rfl, S, N, e, q⟩ := h
  obtain ⟨b, e1, rfl⟩ := ev_not e
  exact tE.go S N e1 fun B x k em SB _ r => ⟨b, r.bl_, q B _ k em SB (rep_bl _)⟩
theorem ev_ite {base : Nat} {ρ : Env} {mh mh' : MHp} {v : MV} (e : ev C base (.ite mc ma mb) ρ mh = some (v, mh')) : ∃ b mh1, ev C base mc ρ mh = some (.bl b, mh1) ∧ ev C base (if b = true then ma else mb) ρ mh1 = some (v, mh') := by
  simp only [ev] at e
  split at e
  · rename_i mh1 e1; exact ⟨true, mh1, e1, by rw [if_pos rfl]; exact e⟩
  · rename_i mh1 e1; exact ⟨false, mh1, e1, by rw [if_neg Bool.false_ne_true]; exact e⟩
  · cases e
theorem se_ite (hc : PT X c (tT G C mc)) (ha : PE X a (tE G C ma)) (hb : PE X b (tE G C mb)) : PE X (.IfExp c a b pos) (tE G C (.ite mc ma mb)) := by
  refine (pe_ifExp hc ha hb).mono fun σ H Q h => ?_
  obtain ⟨A, ρ, v, mh', rfl, S, N, e, q⟩ := h
  obtain ⟨b, mh1, e1, e2⟩ := ev_ite e
  refine tT.go S N e1 fun B k em SB NB => ?_
  cases b with
  | true =>
    rw [if_pos rfl] at e2 ⊢
    exact tE.go SB NB (ev.at k em e2) fun B2 x2 k2 em2 S2 _ r2 => q B2 x2 (k.trans k2) em2 S2 r2
  | false =>
    rw [if_neg Bool.false_ne_true] at e2 ⊢
    exact tE.go SB NB (ev.at k em e2) fun B2 x2 k2 em2 S2 _ r2 => q B2 x2 (k.trans k2) em2 S2 r2
/-! ### arguments, displays -/
theorem sa_nil : PA X [] (tEs G C []) := by
  refine pa_nil.mono fun σ H Q h => ?_
  obtain ⟨A, ρ, vs, mh', rfl, S, N, e, q⟩ := h
  simp only [evs] at e
  cases e
  exact q A [] (Keep.refl A) rfl S (by unfold Reps; rfl)
theorem evs_cons {ms : List ME} {base : Nat} {ρ : Env} {mh mh' : MHp} {vs : List MV} (e : evs C base (m :: ms) ρ mh = some (vs, mh')) : ∃ x mh1 xs, ev C base m ρ mh = some (x, mh1) ∧ evs C base ms ρ mh1 = some (xs, mh') ∧ vs = x :: xs := by
  simp only [evs] at e
  split at e
  · cases e
  rename_i x mh1 e1
  split at e
  · cases e
  rename_i xs mh2 e2
  cases e
  exact ⟨x, mh1, xs, e1, e2, rfl⟩
theorem sa_cons {es : List Expr} {ms : List ME} (ha : PE X e (tE G C m)) (hr : PA X es (tEs G C ms)) (hs : starEach (e :: es) X.env = (false, eval e X.env) :: starEach es X.env := by rfl) : PA X (e :: es) (tEs G C (m :: ms)) := by
  refine (pa_cons ha hr hs).mono fun σ H Q h => ?_
  obtain ⟨A, ρ, vs, mh', rfl, S, N, e, q⟩ := h
  obtain ⟨x, mh1, xs, e1, e2, rfl⟩ := evs_cons e
  refine tE.go S N e1 fun B vx k em SB NB rx => tEs.go SB NB (evs.at k em e2) fun B2 ys k2 em2 S2 _ r2 => ?_
  refine q B2 _ (k.trans k2) em2 S2 ?_
  unfold Reps
  exact ⟨vx, ys, rfl, Rep.keep SB k2 _ _ rx, r2⟩
theorem se_tup {es : List Expr} {ms : List ME} {x1} (h : PA X es (tEs G C ms)) : PE X (.Tuple es x1 pos) (tE G C (.tup ms)) := by
  refine (pe_tup h).mono fun σ H Q h => ?_
  obtain ⟨A, ρ, v, mh', rfl, S, N, e, q⟩ := h
  simp only [ev] at e
  split at e
  · cases e
  rename_i xs mh1 e1
  split at e
  · rename_i hz
    cases e
    refine tEs.go S N e1 fun B ys k em SB _ r => ⟨by rw [← r.len]; exact hz, fun p hp => ?_⟩
    have q' := Post.step q k
    rw [← em] at q'
    exact q'.newTup SB r hp
  · cases e
theorem ev_lst {ms : List ME} {base : Nat} {ρ : Env} {mh mh' : MHp} {v : MV} (e : ev C base (.lst ms) ρ mh = some (v, mh')) : ∃ xs, evs C base ms ρ mh = some (xs, mh') ∧ xs.length ≤ line ∧ v = .lst xs := by
  simp only [ev] at e
  split at e
  · cases e
  rename_i xs mh1 e1
  split at e
  · rename_i hz
    cases e
    exact ⟨xs, e1, hz, rfl⟩
  · cases e
theorem se_lst {es : List Expr} {ms : List ME} (h : PA X es (tEs G C ms)) : PE X (.List es pos) (tE G C (.lst ms)) := by
  refine (pe_lst h).mono fun σ H Q h => ?_
  obtain ⟨A, ρ, v, mh', rfl, S, N, e, q⟩ := h
  obtain ⟨xs, e1, hz, rfl⟩ := ev_lst e
  refine tEs.go S N e1 fun B ys k em SB _ r => ⟨by rw [← r.len]; exact hz, fun p hp => ?_⟩
  have q' := Post.step q k
  rw [← em] at q'
  exact q'.newLst SB r hp
theorem ev_al {base : Nat} {ρ : Env} {mh mh' : MHp} {v : MV} (e : ev C base (.al m) ρ mh = some (v, mh')) : (∃ xs mh1, ev C base m ρ mh = some (.lst xs, mh1) ∧ v = .loc mh1.length ∧ mh' = mh1 ++ [some (.lst xs)]) ∨ (∃ ks vs mh1, ev C base m ρ mh = some (.dct ks vs, mh1) ∧ v = .loc mh1.length ∧ mh' = mh1 ++ [some (.dct ks vs)]) := by
  simp only [ev] at e
  split at e
  · rename_i xs mh1 e1; cases e; exact .inl ⟨xs, mh1, e1, rfl, rfl⟩
  · rename_i ks vs mh1 e1; cases e; exact .inr ⟨ks, vs, mh1, e1, rfl, rfl⟩
  · cases e
/-- a new list is laid as a live object -/
theorem Post.alLst {A : Wd} {xs : List MV} {vs : List V} {Q : VK} {p : Addr} (h : Post G A (A.mh ++ [some (.lst xs)]) (.loc A.mh.length) Q) (S : Sim G A) (r : Reps G A xs vs) (hp : A.H p = none) : Q (.ref p) (upd A.H p (.lst vs)) := by
  have k : Keep A (A.al p (.lst vs) (.lst xs)) := keep_al S hp
  refine h (A.al p (.lst vs) (.lst xs)) (.ref p) k rfl (S.al hp ⟨vs, upd_same, Reps.keep S k _ _ r⟩ ⟨(fun _ z => nomatch z), (fun _ _ z => nomatch z)⟩) ?_
  unfold Rep
  refine ⟨p, rfl, ?_⟩
  show (A.β ++ [p])[A.mh.length]? = some p
  rw [← S.len, List.getElem?_append_right (Nat.le_refl _)]
  simp
theorem sal_lst {es : List Expr} {ms : List ME} (h : PA X es (tEs G C ms)) : PE X (.List es pos) (tE G C (.al (.lst ms))) := by
  refine (pe_lst h).mono fun σ H Q h => ?_
  obtain ⟨A, ρ, v, mh', rfl, S, N, e, q⟩ := h
  rcases ev_al e with ⟨xs, mh1, e9, rfl, rfl⟩ | ⟨ks, vs, mh1, e9, rfl, rfl⟩
  · obtain ⟨ys, e1, hz, e2⟩ := ev_lst e9
    cases e2
    refine tEs.go S N e1 fun B ys k em SB _ r => ⟨by rw [← r.len]; exact hz, fun p hp => ?_⟩
    have q' := Post.step q k
    rw [← em] at q'
    exact q'.alLst SB r hp
  · obtain ⟨ys, e1, hz, e2⟩ := ev_lst e9
    cases e2
/-! ### built-ins -/
theorem ev_bi {f : Bi} {ms : List ME} {base : Nat} {ρ : Env} {mh mh' : MHp} {v : MV} (e : ev C base (.bi f ms) ρ mh = some (v, mh')) : ∃ xs, evs C base ms ρ mh = some (xs, mh') ∧ biV mh' f xs = some v := by
  simp only [ev] at e
  split at e
  · cases e
  rename_i xs mh1 e1
  simp only [Option.map_eq_some_iff] at e
  obtain ⟨w, e3, e4⟩ := e
  cases e4
  exact ⟨xs, e1, e3⟩
theorem bi_go {f : Bi} {ms : List ME} {r : PySem.W.Frag → List V → Hp → VK → Prop} (hr : BiS f r) (hK : X.K = G.K) {σ : L2.St} {H : Hp} {Q : VK} (h : tE G C (.bi f ms) σ H Q) : tCB (r X.K) (tEs G C ms) σ H Q := by
  obtain ⟨A, ρ, v, mh', rfl, S, N, e, q⟩ := h
  obtain ⟨xs, e1, e2⟩ := ev_bi e
  refine tEs.go S N e1 fun B ys k em SB _ rr => ?_
  rw [hK]
  have q' := Post.step q k
  rw [← em] at q'
  exact hr G B xs v ys Q SB (by rw [em]; exact e2) rr q'
theorem se_biB {f : Bi} {id : String} {es : List Expr} {ms : List ME} {r : PySem.W.Frag → List V → Hp → VK → Prop} {x : Str} (hr : BiS f r) (hc : CallR X (.builtin id) (r X.K)) (hK : X.K = G.K) (hg : Gl X x) (hm : X.mg x = none) (hv : bootBuiltins x = some (.builtin id)) (ha : PA X (e :: es) (tEs G C ms)) (hn : x ≠ "__name__" := by decide) (hdb : (x == ("__debug__" : Str)) = false := by decide)
    (he : starEach (e :: es) X.env = (false, eval e X.env) :: starEach es X.env := by rfl) (hpl : (backTo pos (starEach es X.env)).any (·.1) = false := by rfl) : PE X (.Call (.Name x p) (e :: es) [] pos) (tE G C (.bi f ms)) :=
  (pe_callB hc hg hm hv ha hn hdb he hpl).mono fun _ _ _ h => bi_go hr hK h
theorem se_biT {f : Bi} {id : String} {es : List Expr} {ms : List ME} {r : PySem.W.Frag → List V → Hp → VK → Prop} {x : Str} (hr : BiS f r) (hc : CallR X (.type id) (r X.K)) (hK : X.K = G.K) (hg : Gl X x) (hm : X.mg x = none) (hv : bootBuiltins x = some (.type id)) (ha : PA X (e :: es) (tEs G C ms)) (hn : x ≠ "__name__" := by decide) (hdb : (x == ("__debug__" : Str)) = false := by decide)
    (he : starEach (e :: es) X.env = (false, eval e X.env) :: starEach es X.env := by rfl) (hpl : (backTo pos (starEach es X.env)).any (·.1) = false := by rfl) : PE X (.Call (.Name x p) (e :: es) [] pos) (tE G C (.bi f ms)) :=
  (pe_callTy hc hg hm hv ha hn hdb he hpl).mono fun _ _ _ h => bi_go hr hK h
end
end L2.Mi

set_option Elab.async false
set_option linter.all false
set_option maxRecDepth 100000
set_option maxHeartbeats 4000000
/-! Mini7: calls, isinstance, methods, subscripts, slices. -/
namespace L2.Mi
open PySem PySem.Spec PyProof.Rows

/-! ### calls of defs -/
/-- a def's promise: what the calls' function C tells -/
def spC (G : Gb) (C : CallF) (f n : Nat) : Sp := fun vs H Q _ => vs.length = n ∧ ∃ (A : Wd) (args : List MV) (r : MV) (mh' : MHp), A.H = H ∧ Sim G A ∧ Reps G A args vs ∧ C f args A.mh = some (r, mh') ∧ Post G A mh' r Q
structure FnC (P : Program) (w : World) (K : PySem.W.Frag) (mg : Str → Option Value) (base : Heap) (G : Gb) (C : CallF) (k f : Nat) (a : Addr) : Prop where
  ex : ∃ (fd : FuncData) (ps : List Str), FnOk P w K mg base CX0 k a fd ps (spC G C f ps.length) ∧ PySem.W.keepIn K (.ref a) = true ∧ Binds K fd ps [] ∧ ∀ args mh r, C f args mh = some r → args.length = ps.length
section
variable {G : Gb} {C : CallF} {X : Cx} {pos p : Pos} {e a b c : Expr} {ma mb mc m : ME} {k : Nat}
theorem call_go {f : Nat} {fa : Addr} {ms : List ME} {σ : L2.St} {H : Hp} {Q : VK} {n : Nat} (hl : ∀ args mh r, C f args mh = some r → args.length = n) (h : tE G C (.call f ms) σ H Q) : tCall (spC G C f n) [] E0 (tEs G C ms) σ H Q := by
  obtain ⟨A, ρ, v, mh', rfl, S, N, e, q⟩ := h
  simp only [ev] at e
  split at e
  · cases e
  rename_i xs mh1 e1
  refine tEs.go S N e1 fun B ys kB em SB _ r => ?_
  rw [List.append_nil]
  refine ⟨?_, B, xs, v, mh', rfl, SB, r, by rw [em]; exact e, Post.step q kB⟩
  rw [← r.len]
  exact hl _ _ _ e
theorem se_call {f : Nat} {fa : Addr} {x : Str} {es : List Expr} {ms : List ME} (F : FnC X.prog X.w X.K X.mg X.base G C k f fa) (hr : Room k X.A) (hg : Gl X x) (hm : X.mg x = some (.ref fa)) (ha : PA X (e :: es) (tEs G C ms))
    (hdb : (x == ("__debug__" : Str)) = false := by decide) (he : starEach (e :: es) X.env = (false, eval e X.env) :: starEach es X.env := by rfl) (hpl : (backTo pos (starEach es X.env)).any (·.1) = false := by rfl) :
    PE X (.Call (.Name x p) (e :: es) [] pos) (tE G C (.call f ms)) := by
  obtain ⟨fd, ps, F, hk, hb, hl⟩ := F.ex
  exact (pe_call F hr hg hm hk hb .nil pass0 ha hdb he hpl).mono fun σ H Q h => call_go (fa := fa) hl h
theorem se_call0 {f : Nat} {fa : Addr} {x : Str} (F : FnC X.prog X.w X.K X.mg X.base G C k f fa) (hr : Room k X.A) (hg : Gl X x) (hm : X.mg x = some (.ref fa))
    (hdb : (x == ("__debug__" : Str)) = false := by decide) : PE X (.Call (.Name x p) [] [] pos) (tE G C (.call f [])) := by
  obtain ⟨fd, ps, F, hk, hb, hl⟩ := F.ex
  refine (pe_call0 F hr hg hm hk hb .nil pass0 hdb).mono fun σ H Q h => ?_
  obtain ⟨A, ρ, v, mh', rfl, S, N, e, q⟩ := h
  simp only [ev, evs] at e
  exact ⟨(hl _ _ _ e : [].length = ps.length), A, [], v, mh', rfl, S, by unfold Reps; rfl, e, q⟩
/-- a call of what a name holds -/
theorem se_callv {i : Nat} {x : Str} {es : List Expr} {ms : List ME} (F : ∀ f fa, G.fa f = some fa → FnC X.prog X.w X.K X.mg X.base G C k f fa) (hr : Room k X.A) (hN : X.N[i]? = some x) (hv : Vis X.env.scope x) (ha : PA X (e :: es) (tEs G C ms))
    (hdb : (x == ("__debug__" : Str)) = false := by decide) (hcd : (x == ("__classdict__" : Str)) = false := by decide) (he : starEach (e :: es) X.env = (false, eval e X.env) :: starEach es X.env := by rfl) (hpl : (backTo pos (starEach es X.env)).any (·.1) = false := by rfl) :
    PE X (.Call (.Name x p) (e :: es) [] pos) (tE G C (.callv i ms)) := by
  refine ⟨fun pins s σ H Q I h => ?_⟩
  obtain ⟨A, ρ, v, mh', rfl, S, N, e, q⟩ := h
  simp only [ev] at e
  split at e
  · rename_i f hi
    split at e
    · cases e
    rename_i xs mh1 e1
    obtain ⟨y, hs, ry⟩ := N.2 i _ hi
    unfold Rep at ry
    obtain ⟨fa, hf, rfl⟩ := ry
    obtain ⟨fd, ps, F, hk, hb, hl⟩ := (F f fa hf).ex
    refine (pe_callL (E := E0) F hr hN hv hk hb .nil pass0 ha hdb hcd he hpl).run pins s σ A.H Q I ⟨hs, ?_⟩
    refine tEs.go S N e1 fun B ys kB em SB _ r => ?_
    rw [List.append_nil]
    refine ⟨?_, B, xs, v, mh', rfl, SB, r, by rw [em]; exact e, Post.step q kB⟩
    rw [← r.len]
    exact hl _ _ _ e
  · cases e
/-! ### isinstance -/
def tyN : Ty → String
  | .int => "int"
  | .bool => "bool"
  | .str => "str"
  | .tuple => "tuple"
  | .list => "list"
  | .dict => "dict"
def kindN : String → Ty → Bool
  | "bool", .bool => true
  | "bool", .int => true
  | "int", .int => true
  | "str", .str => true
  | "tuple", .tuple => true
  | "list", .list => true
  | "dict", .dict => true
  | _, _ => false
theorem kit_all {K : PySem.W.Frag} : ∀ n ∈ ["NoneType", "bool", "int", "str", "tuple", "list", "dict"], ∀ t : Ty, PySem.W.kitOne K (.type n) (.type (tyN t)) = some (kindN n t) := by
  intro n hn t
  simp only [List.mem_cons, List.not_mem_nil, or_false] at hn
  rcases hn with rfl | rfl | rfl | rfl | rfl | rfl | rfl <;> cases t <;> exact kit_ty (by decide +kernel)
theorem isTy_of {A : Wd} (S : Sim G A) {x : MV} {t : Ty} {b : Bool} {v : V} (e : isTy x t A.mh = some b) (r : Rep G A x v) : ∃ n, n ∈ ["NoneType", "bool", "int", "str", "tuple", "list", "dict"] ∧ TyX G.K A.H v (.type n) ∧ kindN n t = b := by
  have tupX : ∀ {xs : List MV}, Rep G A (.tup xs) v → TyX G.K A.H v (.type "tuple") := fun {xs} r => by
    obtain ⟨a, vs, rfl, h1, _⟩ := r.tup_
    rcases h1 with (h1 | ⟨o, h1⟩) | ⟨o, its, n, h1, h2, _⟩
    · exact .base (.tup h1)
    · exact .fTuple h1
    · exact .kTuple h1 h2
  cases x with
  | non => cases t <;> cases e <;> exact ⟨"NoneType", by decide, by rw [r.non_]; exact .base .non, rfl⟩
  | bl c => cases t <;> cases e <;> exact ⟨"bool", by decide, by rw [r.bl_]; exact .base (.bl _), rfl⟩
  | int i => cases t <;> cases e <;> exact ⟨"int", by decide, by rw [r.int_]; exact .base (.int _), rfl⟩
  | str s => cases t <;> cases e <;> exact ⟨"str", by decide, by rw [r.str_]; exact .base (.str _), rfl⟩
  | tup xs => cases t <;> cases e <;> exact ⟨"tuple", by decide, tupX r, rfl⟩
  | lst xs =>
    have hL : TyX G.K A.H v (.type "list") := by
      unfold Rep at r
      obtain ⟨a, vs, rfl, h1, _⟩ := r
      exact .base (.lst h1)
    cases t <;> cases e <;> exact ⟨"list", by decide, hL, rfl⟩
  | loc l =>
    simp only [isTy] at e
    split at e
    · rename_i ys hl
      obtain ⟨a, rfl, e2⟩ := r.loc_
      obtain ⟨vs, e3, r3⟩ := S.obj _ _ hl a e2
      cases t <;> cases e <;> exact ⟨"list", by decide, .base (.lst e3), rfl⟩
    · rename_i ys ks hl
      obtain ⟨a, rfl, e2⟩ := r.loc_
      obtain ⟨vs, e3, r3⟩ := S.obj _ _ hl a e2
      cases t <;> cases e <;> exact ⟨"dict", by decide, .base (.dK e3), rfl⟩
    · cases e
  | dct ks vs =>
    have hD : TyX G.K A.H v (.type "dict") := by
      unfold Rep at r
      obtain ⟨a, vs, rfl, h1, _⟩ := r
      exact .base (.dK h1)
    cases t <;> cases e <;> exact ⟨"dict", by decide, hD, rfl⟩
  | fn f => cases t <;> cases e
  | scr ns => cases t <;> cases e
theorem se_isi {x y : Str} {p2 : Pos} {t : Ty} (hK : X.K = G.K) (hg : Gl X x) (hm : X.mg x = none) (hv : bootBuiltins x = some (.builtin "isinstance")) (hg2 : Gl X y) (hm2 : X.mg y = none) (hv2 : bootBuiltins y = some (.type (tyN t))) (ha : PE X e (tE G C m))
    (hn : x ≠ "__name__" := by decide) (hdb : (x == ("__debug__" : Str)) = false := by decide) (hn2 : y ≠ "__name__" := by decide) (hdb2 : (y == ("__debug__" : Str)) = false := by decide)
    (he : starEach [e, .Name y p2] X.env = (false, eval e X.env) :: starEach [.Name y p2] X.env := by rfl) (hpl : (backTo pos (starEach [.Name y p2] X.env)).any (·.1) = false := by rfl) :
    PE X (.Call (.Name x p) [e, .Name y p2] [] pos) (tE G C (.isi m t)) := by
  refine (pe_callB call_isi hg hm hv (pa_cons ha (pa_cons (pe_bltn (v := .ty (tyN t)) hg2 hm2 hv2 rfl hn2 hdb2) pa_nil) he) hn hdb he hpl).mono fun σ H Q h => ?_
  obtain ⟨A, ρ, v, mh', rfl, S, N, e, q⟩ := h
  simp only [ev] at e
  split at e
  · cases e
  rename_i z mh1 e1
  simp only [Option.map_eq_some_iff] at e
  obtain ⟨w, e3, e4⟩ := e
  cases e4
  refine tE.go S N e1 fun B vx kB em SB _ r => ?_
  obtain ⟨n, h1, h2, h3⟩ := isTy_of SB (by rw [em]; exact e3) r
  refine ⟨vx, .ty (tyN t), .type n, .type (tyN t), w, rfl, .ty _, by rw [hK]; exact h2, ?_, q B _ kB em SB (rep_bl w)⟩
  rw [← h3]
  exact kit_all n h1 t
/-! ### methods -/
/-- the receiver's kind -/
def meT : Me → String
  | .upper => "str"
  | .get2 => "dict"
  | _ => "list"
theorem tyM_of {A : Wd} (S : Sim G A) {x : MV} {mm : Me} {v : V} (e : tyM A.mh mm x = true) (r : Rep G A x v) : tyV G.K (meT mm) v A.H := by
  have lists : (liveL A.mh x).isSome = true → tyV G.K "list" v A.H := fun e => by
    obtain ⟨⟨l, xs⟩, e⟩ := Option.isSome_iff_exists.mp e
    obtain ⟨_, a, vs, _, rfl, h1, _⟩ := liveL_rep S e r
    exact .inl ⟨rfl, vs, SqL.of h1⟩
  cases mm with
  | append => exact lists e
  | extend => exact lists e
  | pop => exact lists e
  | popAt => exact lists e
  | upper =>
    cases x with
    | str s => rw [r.str_]; rfl
    | _ => cases e
  | get2 => cases x <;> cases e
theorem ev_meth {mm : Me} {ms : List ME} {base : Nat} {ρ : Env} {mh mh' : MHp} {v : MV} (e : ev C base (.meth mm m ms) ρ mh = some (v, mh')) : ∃ x mh1 xs mh2, ev C base m ρ mh = some (x, mh1) ∧ tyM mh1 mm x = true ∧ evs C base ms ρ mh1 = some (xs, mh2) ∧ methV base mh2 mm x xs = some (v, mh') := by
  simp only [ev] at e
  split at e
  · cases e
  rename_i x mh1 e1
  split at e
  · rename_i ht
    split at e
    · cases e
    rename_i xs mh2 e2
    exact ⟨x, mh1, xs, mh2, e1, ht, e2, e⟩
  · cases e
theorem se_meth {mm : Me} {name : Str} {id : String} {apos cpos : Pos} {es : List Expr} {ms : List ME} {r : PySem.W.Frag → V → List V → Hp → VK → Prop} (hr : MeS mm r) (hK : X.K = G.K)
    (pa : PlainAttrs (meT mm)) (slot : Slot (meT mm) name id) (hty : typeOf (.builtin id) = pure (.type "method_descriptor")) (hm : MtR X id (r X.K)) (ho : PE X a (tE G C m)) (ha : PA X (e :: es) (tEs G C ms))
    (hbase : attributeBase a name X.env (eval a X.env) = eval a X.env := by rfl)
    (hfew : ((backTo cpos (starEach (e :: es) X.env)).all (fun x => !x.1) && (backToKw cpos (keywordEach [] X.env)).all (fun x => x.1.isSome)
      && decide ((e :: es).length + ([] : List Keyword).length + (if ([] : List Keyword).isEmpty then 0 else 1) < 30)) = true := by rfl)
    (hline : (apos.endLine == cpos.line) = true := by rfl) (hs : starEach (e :: es) X.env = (false, eval e X.env) :: starEach es X.env := by rfl) (hplain : (backTo cpos (starEach es X.env)).any (·.1) = false := by rfl) :
    PE X (.Call (.Attribute a name apos) (e :: es) [] cpos) (tE G C (.meth mm m ms)) := by
  refine (pe_bm pa slot hty hm ho ha hbase hfew hline hs hplain).mono fun σ H Q h => ?_
  obtain ⟨A, ρ, v, mh', rfl, S, N, e, q⟩ := h
  obtain ⟨x, mh1, xs, mh2, e1, ht, e2, e3⟩ := ev_meth e
  refine tE.go S N e1 fun B vx kB em SB NB rx => ⟨by rw [hK]; exact tyM_of SB (by rw [em]; exact ht) rx, ?_⟩
  refine tEs.go SB NB (evs.at kB em e2) fun B2 ys k2 em2 S2 _ r2 => ?_
  rw [hK]
  exact hr G B2 x xs v mh' vx ys Q S2 (by rw [(kB.trans k2).base, em2]; exact e3) (Rep.keep SB k2 _ _ rx) r2 (Post.step q (kB.trans k2))
theorem se_meth0 {mm : Me} {name : Str} {id : String} {apos cpos : Pos} {r : PySem.W.Frag → V → List V → Hp → VK → Prop} (hr : MeS mm r) (hK : X.K = G.K)
    (pa : PlainAttrs (meT mm)) (slot : Slot (meT mm) name id) (hty : typeOf (.builtin id) = pure (.type "method_descriptor")) (hm : MtR X id (r X.K)) (ho : PE X a (tE G C m))
    (hbase : attributeBase a name X.env (eval a X.env) = eval a X.env := by rfl) (hline : (apos.endLine == cpos.line) = true := by rfl) :
    PE X (.Call (.Attribute a name apos) [] [] cpos) (tE G C (.meth mm m [])) := by
  refine (pe_bm0 pa slot hty hm ho hbase hline).mono fun σ H Q h => ?_
  obtain ⟨A, ρ, v, mh', rfl, S, N, e, q⟩ := h
  obtain ⟨x, mh1, xs, mh2, e1, ht, e2, e3⟩ := ev_meth e
  simp only [evs] at e2
  cases e2
  refine tE.go S N e1 fun B vx kB em SB NB rx => ⟨by rw [hK]; exact tyM_of SB (by rw [em]; exact ht) rx, ?_⟩
  rw [hK]
  exact hr G B x [] v mh' vx [] Q SB (by rw [kB.base, em]; exact e3) rx (by unfold Reps; rfl) (Post.step q kB)
/-! ### subscripts, slices -/
theorem se_sub (hK : X.K = G.K) (ha : PE X a (tE G C ma)) (hb : PE X b (tE G C mb)) (hs : PlainIx b := by intro _ _; rfl) : PE X (.Subscript a b pos) (tE G C (.sub ma mb)) := by
  refine (pe_ix ix_seq ha hb hs).mono fun σ H Q h => ?_
  obtain ⟨A, ρ, v, mh', rfl, S, N, e, q⟩ := h
  simp only [ev] at e
  split at e
  · cases e
  rename_i x mh1 e1
  split at e
  · cases e
  rename_i y mh2 e2
  simp only [Option.map_eq_some_iff] at e
  obtain ⟨w, e3, e4⟩ := e
  cases e4
  refine tE.go S N e1 fun B vx kB em SB NB rx => tE.go SB NB (ev.at kB em e2) fun B2 vy k2 em2 S2 N2 ry => ?_
  rw [hK]
  refine sub_of S2 (by rw [em2]; exact e3) (Rep.keep SB k2 _ _ rx) ry ?_
  rw [em2]
  exact Post.step q (kB.trans k2)
theorem se_slcL {p2 : Pos} (hK : X.K = G.K) (ha : PE X a (tE G C ma)) (hb : PE X b (tE G C mb)) : PE X (.Subscript a (.Slice (some b) none none p2) pos) (tE G C (.slcL ma mb)) := by
  refine (pe_slice sl_ok ha (po_some hb) po_none).mono fun σ H Q h => ?_
  obtain ⟨A, ρ, v, mh', rfl, S, N, e, q⟩ := h
  simp only [ev] at e
  split at e
  · cases e
  rename_i x mh1 e1
  split at e
  · rename_i l mh2 e2
    simp only [Option.map_eq_some_iff] at e
    obtain ⟨w, e3, e4⟩ := e
    cases e4
    refine tE.go S N e1 fun B vx kB em SB NB rx => tE.go SB NB (ev.at kB em e2) fun B2 vy k2 em2 S2 N2 ry => ⟨l, ry.int_, ?_⟩
    show slR X.K vx (some l) none B2.H Q
    rw [hK]
    refine slc_of S2 (by rw [em2]; exact e3) (Rep.keep SB k2 _ _ rx) ?_
    rw [em2]
    exact Post.step q (kB.trans k2)
  · cases e
theorem se_slcH {p2 : Pos} (hK : X.K = G.K) (ha : PE X a (tE G C ma)) (hb : PE X b (tE G C mb)) : PE X (.Subscript a (.Slice none (some b) none p2) pos) (tE G C (.slcH ma mb)) := by
  refine (pe_slice sl_ok ha po_none (po_some hb)).mono fun σ H Q h => ?_
  obtain ⟨A, ρ, v, mh', rfl, S, N, e, q⟩ := h
  simp only [ev] at e
  split at e
  · cases e
  rename_i x mh1 e1
  split at e
  · rename_i l mh2 e2
    simp only [Option.map_eq_some_iff] at e
    obtain ⟨w, e3, e4⟩ := e
    cases e4
    refine tE.go S N e1 fun B vx kB em SB NB rx => ?_
    show tE G C mb σ B.H _
    refine tE.go SB NB (ev.at kB em e2) fun B2 vy k2 em2 S2 N2 ry => ⟨l, ry.int_, ?_⟩
    show slR X.K vx none (some l) B2.H Q
    rw [hK]
    refine slc_of S2 (by rw [em2]; exact e3) (Rep.keep SB k2 _ _ rx) ?_
    rw [em2]
    exact Post.step q (kB.trans k2)
  · cases e
theorem se_slcB {p2 : Pos} (hK : X.K = G.K) (ha : PE X a (tE G C ma)) (hb : PE X b (tE G C mb)) (hc : PE X c (tE G C mc)) : PE X (.Subscript a (.Slice (some b) (some c) none p2) pos) (tE G C (.slcB ma mb mc)) := by
  refine (pe_slice sl_ok ha (po_some hb) (po_some hc)).mono fun σ H Q h => ?_
  obtain ⟨A, ρ, v, mh', rfl, S, N, e, q⟩ := h
  simp only [ev] at e
  split at e
  · cases e
  rename_i x mh1 e1
  split at e
  · rename_i l mh2 e2
    split at e
    · rename_i l' mh3 e3'
      simp only [Option.map_eq_some_iff] at e
      obtain ⟨w, e3, e4⟩ := e
      cases e4
      refine tE.go S N e1 fun B vx kB em SB NB rx => tE.go SB NB (ev.at kB em e2) fun B2 vy k2 em2 S2 N2 ry => ⟨l, ry.int_, ?_⟩
      show tE G C mc σ B2.H _
      refine tE.go S2 N2 (ev.at (kB.trans k2) em2 e3') fun B3 vz k3 em3 S3 _ rz => ⟨l', rz.int_, ?_⟩
      show slR X.K vx (some l) (some l') B3.H Q
      rw [hK]
      refine slc_of S3 (by rw [em3]; exact e3) (Rep.keep S2 k3 _ _ (Rep.keep SB k2 _ _ rx)) ?_
      rw [em3]
      exact Post.step q ((kB.trans k2).trans k3)
    · cases e
  · cases e
end
end L2.Mi

set_option Elab.async false
set_option linter.all false
set_option maxRecDepth 100000
set_option maxHeartbeats 4000000
/-! Mini8: targets; what is walked. -/
namespace L2.Mi
open PySem PySem.Spec PyProof.Rows

/-! ### targets -/
mutual
def tgN : Tg → List Nat
  | .nm i => [i]
  | .tp ts => tgNs ts
def tgNs : List Tg → List Nat
  | [] => []
  | t :: ts => tgN t ++ tgNs ts
end
/-- only the names ns are set -/
def Off (ns : List Nat) (σ σ' : L2.St) : Prop := σ'.length = σ.length ∧ ∀ i, i ∉ ns → σ'[i]? = σ[i]?
theorem Off.refl {ns : List Nat} {σ : L2.St} : Off ns σ σ := ⟨rfl, fun _ _ => rfl⟩
theorem Off.trans {ns ms : List Nat} {σ σ' σ'' : L2.St} (h : Off ns σ σ') (h' : Off ms σ' σ'') : Off (ns ++ ms) σ σ'' :=
  ⟨h'.1.trans h.1, fun i hi => (h'.2 i fun z => hi (List.mem_append_right _ z)).trans (h.2 i fun z => hi (List.mem_append_left _ z))⟩
theorem wipe_get {σ : L2.St} : ∀ {vs : List Nat} {i : Nat}, i < σ.length → (L2.wipe σ vs)[i]? = if i ∈ vs then some none else σ[i]?
  | [], i, hi => by simp [L2.wipe]
  | v :: vs, i, hi => by
    unfold L2.wipe
    by_cases e : v = i
    · subst e
      rw [List.getElem?_set_self (by rw [L2.wipe_length]; exact hi)]
      simp
    · rw [List.getElem?_set_ne e, wipe_get hi]
      have e' : ¬ i = v := fun z => e z.symm
      simp [e']
theorem Off.wipe {ns own : List Nat} {σ σ' : L2.St} (h : Off ns σ σ') (hs : ∀ i ∈ ns, i ∈ own) : L2.wipe σ' own = L2.wipe σ own := by
  apply List.ext_getElem?
  intro i
  by_cases hi : i < σ.length
  · rw [wipe_get hi, wipe_get (by rw [h.1]; exact hi)]
    by_cases hm : i ∈ own
    · rw [if_pos hm, if_pos hm]
    · rw [if_neg hm, if_neg hm]
      exact h.2 i fun z => hm (hs i z)
  · rw [List.getElem?_eq_none (by rw [L2.wipe_length, h.1]; omega), List.getElem?_eq_none (by rw [L2.wipe_length]; omega)]
theorem wipe_wipe {σ : L2.St} {vs : List Nat} : L2.wipe (L2.wipe σ vs) vs = L2.wipe σ vs := by
  apply List.ext_getElem?
  intro i
  by_cases hi : i < σ.length
  · rw [wipe_get (by rw [L2.wipe_length]; exact hi), wipe_get hi]
    by_cases hm : i ∈ vs
    · rw [if_pos hm, if_pos hm]
    · rw [if_neg hm, if_neg hm]
  · rw [List.getElem?_eq_none (by rw [L2.wipe_length, L2.wipe_length]; omega), List.getElem?_eq_none (by rw [L2.wipe_length]; omega)]
def tG (G : Gb) (t : Tg) : TG := fun x σ H Q => ∃ (A : Wd) (ρ ρ' : Env) (v : MV), A.H = H ∧ Sim G A ∧ Envs G A ρ σ ∧ Rep G A v x ∧ asg A.mh t v ρ = some ρ' ∧ ∀ σ', Envs G A ρ' σ' → Off (tgN t) σ σ' → Q σ' H
def tGs (G : Gb) (ts : List Tg) : TGs := fun xs σ H Q => ∃ (A : Wd) (ρ ρ' : Env) (vs : List MV), A.H = H ∧ Sim G A ∧ Envs G A ρ σ ∧ Reps G A vs xs ∧ asgs A.mh ts vs ρ = some ρ' ∧ ∀ σ', Envs G A ρ' σ' → Off (tgNs ts) σ σ' → Q σ' H
theorem _root_.L2.PG.mono {X : Cx} {e : Expr} {t t' : TG} (h : PG X e t) (k : ∀ x σ H Q, t' x σ H Q → t x σ H Q) : PG X e t' := ⟨fun pins s σ H v u Q I r q => h.run pins s σ H v u Q I r (k _ _ _ _ q)⟩
theorem _root_.L2.PGs.mono {X : Cx} {e : List Expr} {t t' : TGs} (h : PGs X e t) (k : ∀ x σ H Q, t' x σ H Q → t x σ H Q) : PGs X e t' := ⟨fun pins s σ H v u Q I r q => h.run pins s σ H v u Q I r (k _ _ _ _ q)⟩
theorem _root_.L2.PI.mono {X : Cx} {tg e : Expr} {t t' : TI} (h : PI X tg e t) (k : ∀ σ H Q, t' σ H Q → t σ H Q) : PI X tg e t' := ⟨fun pins s σ H R I q => h.run pins s σ H R I (k _ _ _ q)⟩
section
variable {G : Gb} {C : CallF} {X : Cx} {pos p : Pos} {e a b c : Expr} {ma mb mc m : ME}
theorem sg_name {i : Nat} {x : Str} (hN : X.N.Nodup) (hi : X.N[i]? = some x) (hx : Loc X.env.scope x) (hf : X.fn x = true ∨ X.env.scope.names.lookup x = some .local := by first | exact .inl rfl | exact .inr rfl | assumption) : PG X (.Name x pos) (tG G (.nm i)) := by
  refine (pg_name hN hi hx hf).mono fun y σ H Q h => ?_
  obtain ⟨A, ρ, ρ', v, rfl, S, N, r, e, q⟩ := h
  simp only [asg] at e
  split at e
  · rename_i hl
    cases e
    refine q _ (N.set r i) ⟨by rw [List.length_set], fun j hj => ?_⟩
    have : i ≠ j := fun z => hj (by rw [z]; simp [tgN])
    rw [List.getElem?_set_ne this]
  · cases e
theorem sgs_nil : PGs X [] (tGs G []) := by
  refine pgs_nil.mono fun y σ H Q h => ?_
  obtain ⟨A, ρ, ρ', vs, rfl, S, N, r, e, q⟩ := h
  cases vs with
  | nil =>
    simp only [asgs] at e
    cases e
    unfold Reps at r
    exact ⟨r, q _ N Off.refl⟩
  | cons => simp only [asgs] at e; cases e
theorem sgs_cons {t : Tg} {ts : List Tg} {es : List Expr} (h1 : PG X e (tG G t)) (h2 : PGs X es (tGs G ts))
    (hs : (assignEach (e :: es) X.env).map (·.2) = assign e X.env :: (assignEach es X.env).map (·.2) := by rfl) : PGs X (e :: es) (tGs G (t :: ts)) := by
  refine (pgs_cons h1 h2 hs).mono fun y σ H Q h => ?_
  obtain ⟨A, ρ, ρ', vs, rfl, S, N, r, e, q⟩ := h
  cases vs with
  | nil => simp only [asgs] at e; cases e
  | cons v vs =>
    simp only [asgs] at e
    split at e
    · cases e
    rename_i ρ1 e1
    unfold Reps at r
    obtain ⟨x, xs, rfl, r1, r2⟩ := r
    refine ⟨x, xs, rfl, A, ρ, ρ1, v, rfl, S, N, r1, e1, fun σ1 N1 o1 => ⟨A, ρ1, ρ', vs, rfl, S, N1, r2, e, fun σ2 N2 o2 => q σ2 N2 ?_⟩⟩
    exact o1.trans o2
theorem asgs_len {mh : MHp} : ∀ {ts : List Tg} {vs : List MV} {ρ ρ' : Env}, asgs mh ts vs ρ = some ρ' → ts.length = vs.length
  | [], [], ρ, ρ', e => rfl
  | [], v :: vs, ρ, ρ', e => by simp only [asgs] at e; cases e
  | t :: ts, [], ρ, ρ', e => by simp only [asgs] at e; cases e
  | t :: ts, v :: vs, ρ, ρ', e => by
    simp only [asgs] at e
    split at e
    · cases e
    rw [List.length_cons, List.length_cons, asgs_len e]
theorem sg_tup {ts : List Tg} {es : List Expr} {k : Nat} (hK : X.K = G.K) (hc : X.calm = true) (h : PGs X es (tGs G ts)) (hl : ts.length = es.length := by rfl)
    (hn : (assignEach es X.env).length = es.length := by rfl) (hst : (assignEach es X.env).findIdx? (·.1) = none := by rfl) : PG X (.Tuple es k pos) (tG G (.tp ts)) := by
  refine (pg_tup hc h hn hst).mono fun y σ H Q h => ?_
  obtain ⟨A, ρ, ρ', v, rfl, S, N, r, e, q⟩ := h
  cases v with
  | tup vs =>
    simp only [asg] at e
    obtain ⟨a, xs, rfl, h1, h2⟩ := r.tup_
    refine ⟨a, xs, rfl, by rw [hK]; exact h1, by rw [← h2.len, ← asgs_len e, hl], A, ρ, ρ', vs, rfl, S, N, h2, e, q⟩
  | _ => simp only [asg] at e; cases e
end

/-! ### what is walked -/
structure Wk (G : Gb) (B : Wd) (J : Its) (I : L2.It) : Prop where
  go : ∀ D, Keep B D → Sim G D → J.ok D.mh → ∀ i, i < J.items.length → I.go i D.H
  stop : ∀ D, Keep B D → Sim G D → J.ok D.mh → I.stop J.items.length D.H
  yld : ∀ D, Keep B D → Sim G D → J.ok D.mh → ∀ i x H', i < J.items.length → I.yld i D.H x H' → ∃ E y, Keep D E ∧ E.mh = D.mh ∧ E.H = H' ∧ Sim G E ∧ J.items[i]? = some y ∧ Rep G E y x
def tI (G : Gb) (C : CallF) (m : ME) : TI := fun σ H R => ∃ (A : Wd) (ρ : Env) (J : Its) (mh' : MHp), A.H = H ∧ Sim G A ∧ Envs G A ρ σ ∧ evI C A.base m ρ A.mh = some (J, mh') ∧ ∀ B I, Keep A B → B.mh = mh' → Sim G B → Wk G B J I → R I B.H
section
variable {G : Gb} {C : CallF} {X : Cx} {tg : Expr} {pos p : Pos} {e a b c : Expr} {ma mb mc m : ME}
def iAny (K : PySem.W.Frag) (tl : TE) : TI := fun σ H R => tl σ H fun x H1 => (∃ a, x = .ref a ∧ (∃ xs, SqL K H1 a xs) ∧ R (Itl K a) H1) ∨ (∃ a, x = .ref a ∧ (∃ xs, SqT K H1 a xs) ∧ R (Itt K a) H1) ∨ ∃ z, x = .str z ∧ R (L2.Its z) H1
theorem pi_any {l : Expr} {tl : TE} (hl : PE X l tl) : PI X tg l (iAny X.K tl) := by
  refine ⟨fun pins s σ H R I h => ?_⟩
  refine thn (hl.run pins s σ H _ I h) fun v s1 ⟨x, H1, I1, r1, q1⟩ => ?_
  rcases q1 with ⟨a, rfl, ⟨xs, hq⟩, q⟩ | ⟨a, rfl, ⟨xs, hq⟩, q⟩ | ⟨z, rfl, q⟩
  · cases r1
    obtain ⟨its, _, p, _⟩ := I1.list hq
    exact wpAny_pyIter_list p.isList (pi_one (tk := s1.toks) I1 _ (turn_list a _) ⟨_, Heap.get?_push_size _ rfl, rfl, rfl⟩ q)
  · cases r1
    obtain ⟨its, _, p, _⟩ := I1.tuple hq
    exact wpAny_pyIter_tuple (show s1.heap.IsTuple a its.toArray from p) (pi_one (tk := s1.toks) I1 _ (turn_tuple a _) ⟨_, Heap.get?_push_size _ rfl, rfl, rfl⟩ q)
  · obtain ⟨t, rfl⟩ := r1
    cases ha : z.cps.all (· < 128)
    · exact wpAny_pyIter_wide ha (pi_one (tk := s1.toks) I1 _ (turn_str _ z t "str_iterator" (.inr rfl)) ⟨_, Heap.get?_push_size _ rfl, rfl, rfl⟩ q)
    · exact wpAny_pyIter_ascii ha (pi_one (tk := s1.toks) I1 _ (turn_str _ z t "str_ascii_iterator" (.inl rfl)) ⟨_, Heap.get?_push_size _ rfl, rfl, rfl⟩ q)
/-- what it walks, by the values at every later world -/
theorem wk_of {B : Wd} {J : Its} {I : L2.It} (W : ∀ D, Keep B D → Sim G D → J.ok D.mh → (∀ i, i < J.items.length → I.go i D.H) ∧ I.stop J.items.length D.H ∧ ∀ i x H', i < J.items.length → I.yld i D.H x H' → H' = D.H ∧ ∃ y, J.items[i]? = some y ∧ Rep G D y x) : Wk G B J I where
  go := fun D k S o => (W D k S o).1
  stop := fun D k S o => (W D k S o).2.1
  yld := fun D k S o i x H' hi y => by
    obtain ⟨e, z, h1, h2⟩ := (W D k S o).2.2 i x H' hi y
    exact ⟨D, z, Keep.refl D, rfl, e.symm, S, h1, h2⟩
theorem wk_list {B : Wd} {J : Its} {a : Addr} (h : ∀ D, Keep B D → Sim G D → J.ok D.mh → ∃ vs, D.H a = some (.lst vs) ∧ Reps G D J.items vs) : Wk G B J (Itl G.K a) := wk_of fun D k S o => by
  obtain ⟨vs, h1, h2⟩ := h D k S o
  have w := walk_list (K := G.K) (a := a) (xs := vs)
  refine ⟨fun i hi => w.goes i D.H (by rw [← h2.len]; exact hi) (SqL.of h1), by rw [h2.len]; exact w.stops D.H (SqL.of h1), fun i x H' hi y => ?_⟩
  obtain ⟨e1, e2⟩ := w.yields i D.H x H' (by rw [← h2.len]; exact hi) (SqL.of h1) y
  exact ⟨e1, _, List.getElem?_eq_getElem hi, h2.at (List.getElem?_eq_getElem hi) e2⟩
theorem wk_tup {B : Wd} {J : Its} {a : Addr} (h : ∀ D, Keep B D → Sim G D → J.ok D.mh → ∃ vs, SqT G.K D.H a vs ∧ Reps G D J.items vs) : Wk G B J (Itt G.K a) := wk_of fun D k S o => by
  obtain ⟨vs, h1, h2⟩ := h D k S o
  have w := walk_tup (K := G.K) (a := a) (xs := vs)
  refine ⟨fun i hi => w.goes i D.H (by rw [← h2.len]; exact hi) h1, by rw [h2.len]; exact w.stops D.H h1, fun i x H' hi y => ?_⟩
  obtain ⟨e1, e2⟩ := w.yields i D.H x H' (by rw [← h2.len]; exact hi) h1 y
  exact ⟨e1, _, List.getElem?_eq_getElem hi, h2.at (List.getElem?_eq_getElem hi) e2⟩
theorem wk_str {B : Wd} {s : Sx} : Wk G B ⟨s.map fun c => .str [c], none⟩ (L2.Its ⟨s.toArray⟩) := wk_of fun D k S o => by
  have w := walk_str (z := ⟨s.toArray⟩)
  have hl : (⟨s.map fun c => .str [c], none⟩ : Its).items.length = (⟨s.toArray⟩ : Str).cps.size := by simp
  refine ⟨fun i hi => w.goes i D.H (by rw [← hl]; exact hi) trivial, by rw [hl]; exact w.stops D.H trivial, fun i x H' hi y => ?_⟩
  obtain ⟨e1, c, e2, rfl⟩ := w.yields i D.H x H' (by rw [← hl]; exact hi) trivial y
  have e2' : s[i]? = some c := by simpa using e2
  exact ⟨e1, .str [c], by simp [e2'], rep_str [c]⟩
theorem wk_range {B : Wd} {lo : Int} {n : Nat} : Wk G B ⟨(List.range n).map fun (k : Nat) => .int (lo + (k : Int)), none⟩ (Itr lo n) := wk_of fun D k S o => by
  have w := walk_range (lo := lo) (n := n)
  have hl : (⟨(List.range n).map fun (k : Nat) => .int (lo + (k : Int)), none⟩ : Its).items.length = n := by simp
  refine ⟨fun i hi => w.goes i D.H (by rw [← hl]; exact hi) trivial, by rw [hl]; exact w.stops D.H trivial, fun i x H' hi y => ?_⟩
  obtain ⟨e1, rfl⟩ := w.yields i D.H x H' (by rw [← hl]; exact hi) trivial y
  have hi' : i < n := by rw [← hl]; exact hi
  exact ⟨e1, .int (lo + (i : Int)), by simp [hi'], rep_int _⟩
theorem wk_its {B : Wd} {v : MV} {x : V} {J : Its} {R : It → Hp → Prop} (S : Sim G B) (e : itsOf B.mh v = some J) (r : Rep G B v x) (q : ∀ I, Wk G B J I → R I B.H) :
    (∃ a, x = .ref a ∧ (∃ xs, SqL G.K B.H a xs) ∧ R (Itl G.K a) B.H) ∨ (∃ a, x = .ref a ∧ (∃ xs, SqT G.K B.H a xs) ∧ R (Itt G.K a) B.H) ∨ ∃ z, x = .str z ∧ R (L2.Its z) B.H := by
  cases v with
  | tup xs =>
    cases e
    obtain ⟨a, vs, rfl, h1, h2⟩ := r.tup_
    exact .inr (.inl ⟨a, rfl, ⟨vs, h1⟩, q _ (wk_tup fun D k SD o => ⟨vs, k.tup S h1, Reps.keep S k _ _ h2⟩)⟩)
  | lst xs =>
    cases e
    unfold Rep at r
    obtain ⟨a, vs, rfl, h1, h2, h3⟩ := r
    exact .inl ⟨a, rfl, ⟨vs, SqL.of h1⟩, q _ (wk_list fun D k SD o => ⟨vs, (k.off h1 h2).1, Reps.keep S k _ _ h3⟩)⟩
  | str s =>
    cases e
    rw [r.str_]
    exact .inr (.inr ⟨_, rfl, q _ wk_str⟩)
  | loc l =>
    simp only [itsOf] at e
    split at e
    · rename_i xs hl
      cases e
      obtain ⟨a, rfl, h1⟩ := r.loc_
      obtain ⟨vs, h2, _⟩ := S.obj l _ hl a h1
      refine .inl ⟨a, rfl, ⟨vs, SqL.of h2⟩, q _ (wk_list fun D k SD o => ?_)⟩
      have o' : D.mh[l]? = some (some (.lst xs)) := o
      obtain ⟨t, ht⟩ := k.pre
      exact SD.obj l _ o' a (by rw [ht]; exact pre_get h1)
    · cases e
  | _ => cases e
theorem si_any (hK : X.K = G.K) (h : PE X e (tE G C m)) (hm : ∀ base ρ mh, evI C base m ρ mh = match ev C base m ρ mh with
    | none => none
    | some (v, mh1) => (itsOf mh1 v).map (·, mh1) := by intros; simp only [evI] <;> rfl) : PI X tg e (tI G C m) := by
  refine (pi_any h).mono fun σ H R h => ?_
  obtain ⟨A, ρ, J, mh', rfl, S, N, e, q⟩ := h
  rw [hm] at e
  split at e
  · cases e
  rename_i v mh1 e1
  simp only [Option.map_eq_some_iff] at e
  obtain ⟨J', e2, e3⟩ := e
  cases e3
  refine tE.go S N e1 fun B x k em SB NB r => ?_
  rw [hK]
  exact wk_its SB (by rw [em]; exact e2) r fun I w => q B I k em SB w
theorem si_range1 (hg : Gl X "range") (hm : X.mg "range" = none) (ha : PE X a (tE G C ma)) (hs : starEach [a] X.env = [(false, eval a X.env)] := by rfl) : PI X tg (.Call (.Name "range" p) [a] [] pos) (tI G C (.rng1 ma)) := by
  refine (pi_range1 hg hm (sa_cons ha sa_nil hs) hs).mono fun σ H R h => ?_
  obtain ⟨A, ρ, J, mh', rfl, S, N, e, q⟩ := h
  simp only [evI] at e
  split at e
  · rename_i n mh1 e1
    split at e
    · rename_i hn
      cases e
      refine tEs.go (vs := [.int n]) (mh1 := mh') S N (by simp only [evs, e1]) fun B xs k em SB NB r => ?_
      unfold Reps at r
      obtain ⟨v, r', rfl, r1, r2⟩ := r
      unfold Reps at r2
      subst r2
      refine ⟨n, by rw [r1.int_], hn.1, hn.2, q B _ k em SB ?_⟩
      have w := wk_range (G := G) (B := B) (lo := 0) (n := n.toNat)
      simpa using w
    · cases e
  · cases e
theorem si_range2 (hg : Gl X "range") (hm : X.mg "range" = none) (ha : PE X a (tE G C ma)) (hb : PE X b (tE G C mb)) (hs : starEach [a, b] X.env = [(false, eval a X.env), (false, eval b X.env)] := by rfl) (hs2 : starEach [b] X.env = [(false, eval b X.env)] := by rfl) : PI X tg (.Call (.Name "range" p) [a, b] [] pos) (tI G C (.rng2 ma mb)) := by
  refine (pi_range2 hg hm (sa_cons ha (sa_cons hb sa_nil hs2) (by rw [hs, hs2])) hs hs2).mono fun σ H R h => ?_
  obtain ⟨A, ρ, J, mh', rfl, S, N, e, q⟩ := h
  simp only [evI] at e
  split at e
  · rename_i i mh1 e1
    split at e
    · rename_i j mh2 e2
      split at e
      · rename_i hn
        cases e
        refine tEs.go (vs := [.int i, .int j]) (mh1 := mh') S N (by simp only [evs, e1, e2]) fun B xs k em SB NB r => ?_
        unfold Reps at r
        obtain ⟨v, r', rfl, r1, r2⟩ := r
        unfold Reps at r2
        obtain ⟨w, r'', rfl, r3, r4⟩ := r2
        unfold Reps at r4
        subst r4
        exact ⟨i, j, by rw [r1.int_, r3.int_], hn, q B _ k em SB wk_range⟩
      · cases e
    · cases e
  · cases e
end
end L2.Mi

set_option Elab.async false
set_option linter.all false
set_option maxRecDepth 100000
set_option maxHeartbeats 4000000
/-! Mini9: comprehensions. -/
namespace L2.Mi
open PySem PySem.Spec PyProof.Rows

/-! ### a hidden new list -/
theorem put_live {W : Wd} {p : Addr} {o : HO} {a : Addr} : (W.up p o).live a ↔ W.live a := Iff.rfl
mutual
theorem Rep.put {G : Gb} {W : Wd} (S : Sim G W) {p : Addr} (hp : p ∈ W.ex) {o : HO} : ∀ (x : MV) (v : V), Rep G W x v → Rep G (W.up p o) x v
  | .non, v, h => h
  | .bl b, v, h => h
  | .int i, v, h => h
  | .str s, v, h => h
  | .fn f, v, h => h
  | .tup xs, v, h => by
    unfold Rep at h ⊢
    obtain ⟨a, vs, e, h1, h2⟩ := h
    refine ⟨a, vs, e, SqT_cases h1 fun u e' n => ?_, Reps.put S hp xs vs h2⟩
    obtain ⟨w, e9, n9⟩ := S.exo p hp
    have : a ≠ p := fun z => by subst z; rw [e'] at e9; cases e9; exact n n9
    show upd W.H p o a = _
    rw [upd_ne this]; exact e'
  | .lst xs, v, h => by
    unfold Rep at h ⊢
    obtain ⟨a, vs, e, h1, h2, h3⟩ := h
    have : a ≠ p := fun z => h2.2 (by rw [z]; exact hp)
    exact ⟨a, vs, e, by show upd W.H p o a = _; rw [upd_ne this]; exact h1, h2, Reps.put S hp xs vs h3⟩
  | .dct ks ms, v, h => by
    unfold Rep at h ⊢
    obtain ⟨a, vs, e, h1, h2, h3, h4⟩ := h
    have : a ≠ p := fun z => h2.2 (by rw [z]; exact hp)
    exact ⟨a, vs, e, by show upd W.H p o a = _; rw [upd_ne this]; exact h1, h2, h3, Reps.put S hp ms vs h4⟩
  | .loc l, v, h => h
  | .scr ns, v, h => by
    unfold Rep at h ⊢
    obtain ⟨a, e, h1⟩ := h
    refine ⟨a, e, ?_⟩
    rcases h1 with ⟨h1, h2⟩ | h1
    · have : a ≠ p := fun z => h2.2 (by rw [z]; exact hp)
      refine .inl ⟨?_, h2⟩
      rcases h1 with h1 | ⟨o', h1⟩
      · exact .inl (by show upd W.H p o a = _; rw [upd_ne this]; exact h1)
      · exact .inr ⟨o', by show upd W.H p o a = _; rw [upd_ne this]; exact h1⟩
    · exact .inr h1
theorem Reps.put {G : Gb} {W : Wd} (S : Sim G W) {p : Addr} (hp : p ∈ W.ex) {o : HO} : ∀ (xs : List MV) (vs : List V), Reps G W xs vs → Reps G (W.up p o) xs vs
  | [], vs, h => h
  | x :: xs, vs, h => by
    unfold Reps at h ⊢
    obtain ⟨v, r, e, h1, h2⟩ := h
    exact ⟨v, r, e, Rep.put S hp x v h1, Reps.put S hp xs r h2⟩
end
theorem ORep.put {G : Gb} {W : Wd} (S : Sim G W) {p : Addr} (hp : p ∈ W.ex) {o : HO} {u : MO} {a : Addr} (h : ORep G W u a) (hn : a ≠ p) : ORep G (W.up p o) u a := by
  cases u with
  | lst xs =>
    obtain ⟨vs, q, r⟩ := h
    exact ⟨vs, by show upd W.H p o a = _; rw [upd_ne hn]; exact q, Reps.put S hp _ _ r⟩
  | dct ks ms =>
    obtain ⟨vs, q, l, r⟩ := h
    exact ⟨vs, by show upd W.H p o a = _; rw [upd_ne hn]; exact q, l, Reps.put S hp _ _ r⟩
theorem Sim.put {G : Gb} {W : Wd} (S : Sim G W) {p : Addr} (hp : p ∈ W.ex) {o : HO} (nt : NoTup o) : Sim G (W.up p o) where
  len := S.len
  ble := S.ble
  top := S.top
  obj := fun l u e a q => (S.obj l u e a q).put S hp fun z => S.exl p hp ⟨l, u, e, by rw [← z]; exact q⟩
  inj := S.inj
  exo := fun a ha => by
    by_cases e : a = p
    · subst e; exact ⟨o, upd_same, nt⟩
    · obtain ⟨u, e1, n⟩ := S.exo a ha
      exact ⟨u, by show upd W.H p o a = _; rw [upd_ne e]; exact e1, n⟩
  exl := S.exl
  bnd := S.bnd
theorem keep_put {B D : Wd} (k : Keep B D) {p : Addr} (hp : B.H p = none) {o : HO} : Keep B (D.up p o) where
  ex := k.ex
  exn := k.exn
  dom := fun a h => upd_dom a (k.dom a h)
  bs := k.bs
  pre := k.pre
  obj := fun a u e n => by
    show upd D.H p o a = _
    rw [upd_ne (ne_of_none e hp)]
    exact k.obj a u e n
  liv := k.liv
/-- a new list is hidden -/
abbrev Wd.hid (W : Wd) (p : Addr) (o : HO) : Wd := { W with H := upd W.H p o, ex := p :: W.ex }
theorem keep_hid {W : Wd} {p : Addr} {o : HO} (h : W.H p = none) : Keep W (W.hid p o) where
  ex := fun a h => List.mem_cons_of_mem _ h
  exn := fun a ha => by
    rcases List.mem_cons.mp ha with rfl | ha
    · exact .inr h
    · exact .inl ha
  dom := upd_dom
  bs := rfl
  pre := ⟨[], by simp⟩
  obj := fun a u e _ => by show upd W.H p o a = _; rw [upd_ne (ne_of_none e h)]; exact e
  liv := fun a z => .inl z
theorem Sim.hid {G : Gb} {W : Wd} (S : Sim G W) {p : Addr} {o : HO} (h : W.H p = none) (nt : NoTup o) : Sim G (W.hid p o) where
  len := S.len
  ble := S.ble
  top := S.top
  obj := fun l u e a q => by
    have r := S.obj l u e a q
    refine r.keep S (keep_hid h) ?_
    obtain ⟨v, e', _⟩ := r.at
    exact upd_ne (ne_of_none e' h)
  inj := S.inj
  exo := fun a ha => by
    rcases List.mem_cons.mp ha with rfl | ha
    · exact ⟨o, upd_same, nt⟩
    · obtain ⟨u, e, n⟩ := S.exo a ha
      exact ⟨u, by show upd W.H p o a = _; rw [upd_ne (ne_of_none e h)]; exact e, n⟩
  exl := fun a ha => by
    rcases List.mem_cons.mp ha with rfl | ha
    · exact (off_new S h).1
    · exact S.exl a ha
  bnd := S.bnd
/-- the hidden ones come out -/
abbrev Wd.out (W : Wd) (ex : List Addr) : Wd := { W with ex := ex }
mutual
theorem Rep.out {G : Gb} {W : Wd} {ex : List Addr} (hx : ∀ a ∈ ex, a ∈ W.ex) : ∀ (x : MV) (v : V), Rep G W x v → Rep G (W.out ex) x v
  | .non, v, h => h
  | .bl b, v, h => h
  | .int i, v, h => h
  | .str s, v, h => h
  | .fn f, v, h => h
  | .tup xs, v, h => by
    unfold Rep at h ⊢
    obtain ⟨a, vs, e, h1, h2⟩ := h
    exact ⟨a, vs, e, h1, Reps.out hx xs vs h2⟩
  | .lst xs, v, h => by
    unfold Rep at h ⊢
    obtain ⟨a, vs, e, h1, h2, h3⟩ := h
    exact ⟨a, vs, e, h1, ⟨h2.1, fun z => h2.2 (hx a z)⟩, Reps.out hx xs vs h3⟩
  | .dct ks ms, v, h => by
    unfold Rep at h ⊢
    obtain ⟨a, vs, e, h1, h2, h3, h4⟩ := h
    exact ⟨a, vs, e, h1, ⟨h2.1, fun z => h2.2 (hx a z)⟩, h3, Reps.out hx ms vs h4⟩
  | .loc l, v, h => h
  | .scr ns, v, h => by
    unfold Rep at h ⊢
    obtain ⟨a, e, h1⟩ := h
    refine ⟨a, e, ?_⟩
    rcases h1 with ⟨h1, h2⟩ | h1
    · exact .inl ⟨h1, h2.1, fun z => h2.2 (hx a z)⟩
    · exact .inr h1
theorem Reps.out {G : Gb} {W : Wd} {ex : List Addr} (hx : ∀ a ∈ ex, a ∈ W.ex) : ∀ (xs : List MV) (vs : List V), Reps G W xs vs → Reps G (W.out ex) xs vs
  | [], vs, h => h
  | x :: xs, vs, h => by
    unfold Reps at h ⊢
    obtain ⟨v, r, e, h1, h2⟩ := h
    exact ⟨v, r, e, Rep.out hx x v h1, Reps.out hx xs r h2⟩
end
theorem Sim.out {G : Gb} {W : Wd} (S : Sim G W) {ex : List Addr} (hx : ∀ a ∈ ex, a ∈ W.ex) : Sim G (W.out ex) where
  len := S.len
  ble := S.ble
  top := S.top
  obj := fun l u e a q => by
    have r := S.obj l u e a q
    cases u with
    | lst xs => obtain ⟨vs, q, r⟩ := r; exact ⟨vs, q, Reps.out hx _ _ r⟩
    | dct ks ms => obtain ⟨vs, q, l, r⟩ := r; exact ⟨vs, q, l, Reps.out hx _ _ r⟩
  inj := S.inj
  exo := fun a ha => S.exo a (hx a ha)
  exl := fun a ha => S.exl a (hx a ha)
  bnd := S.bnd
theorem keep_out {B D : Wd} (k : Keep B D) : Keep B (D.out B.ex) where
  ex := fun a h => h
  exn := fun a h => .inl h
  dom := k.dom
  bs := k.bs
  pre := k.pre
  obj := k.obj
  liv := k.liv
/-- a hidden list comes out as a live one -/
abbrev Wd.fix (W : Wd) (p : Addr) (xs : List MV) (ex : List Addr) : Wd := { W with ex := ex, β := W.β ++ [p], mh := W.mh ++ [some (.lst xs)] }
theorem fix_live {G : Gb} {W : Wd} (S : Sim G W) {p : Addr} {xs : List MV} {ex : List Addr} {a : Addr} (h : (W.fix p xs ex).live a) : W.live a ∨ a = p := by
  obtain ⟨l, o, e1, e2⟩ := h
  have e2' : (W.β ++ [p])[l]? = some a := e2
  rcases app_get e1 with e1 | ⟨rfl, _⟩
  · have hl : l < W.β.length := by rw [S.len]; exact (List.getElem?_eq_some_iff.mp e1).1
    rw [List.getElem?_append_left hl] at e2'
    exact .inl ⟨l, o, e1, e2'⟩
  · rw [← S.len, List.getElem?_append_right (Nat.le_refl _)] at e2'
    simp at e2'
    exact .inr e2'.symm
mutual
theorem Rep.fix {G : Gb} {W : Wd} (S : Sim G W) {p : Addr} (hp : p ∈ W.ex) {ys : List MV} {ex : List Addr} (hx : ∀ a ∈ ex, a ∈ W.ex) : ∀ (x : MV) (v : V), Rep G W x v → Rep G (W.fix p ys ex) x v
  | .non, v, h => h
  | .bl b, v, h => h
  | .int i, v, h => h
  | .str s, v, h => h
  | .fn f, v, h => h
  | .tup xs, v, h => by
    unfold Rep at h ⊢
    obtain ⟨a, vs, e, h1, h2⟩ := h
    exact ⟨a, vs, e, h1, Reps.fix S hp hx xs vs h2⟩
  | .lst xs, v, h => by
    unfold Rep at h ⊢
    obtain ⟨a, vs, e, h1, h2, h3⟩ := h
    exact ⟨a, vs, e, h1, ⟨fun z => (fix_live S z).elim h2.1 fun z => h2.2 (by rw [z]; exact hp), fun z => h2.2 (hx a z)⟩, Reps.fix S hp hx xs vs h3⟩
  | .dct ks ms, v, h => by
    unfold Rep at h ⊢
    obtain ⟨a, vs, e, h1, h2, h3, h4⟩ := h
    exact ⟨a, vs, e, h1, ⟨fun z => (fix_live S z).elim h2.1 fun z => h2.2 (by rw [z]; exact hp), fun z => h2.2 (hx a z)⟩, h3, Reps.fix S hp hx ms vs h4⟩
  | .loc l, v, h => by
    unfold Rep at h ⊢
    obtain ⟨a, e, h1⟩ := h
    exact ⟨a, e, pre_get h1⟩
  | .scr ns, v, h => by
    unfold Rep at h ⊢
    obtain ⟨a, e, h1⟩ := h
    refine ⟨a, e, ?_⟩
    rcases h1 with ⟨h1, h2⟩ | h1
    · exact .inl ⟨h1, fun z => (fix_live S z).elim h2.1 fun z => h2.2 (by rw [z]; exact hp), fun z => h2.2 (hx a z)⟩
    · exact .inr h1
theorem Reps.fix {G : Gb} {W : Wd} (S : Sim G W) {p : Addr} (hp : p ∈ W.ex) {ys : List MV} {ex : List Addr} (hx : ∀ a ∈ ex, a ∈ W.ex) : ∀ (xs : List MV) (vs : List V), Reps G W xs vs → Reps G (W.fix p ys ex) xs vs
  | [], vs, h => h
  | x :: xs, vs, h => by
    unfold Reps at h ⊢
    obtain ⟨v, r, e, h1, h2⟩ := h
    exact ⟨v, r, e, Rep.fix S hp hx x v h1, Reps.fix S hp hx xs r h2⟩
end
theorem fix_get {G : Gb} {W : Wd} (S : Sim G W) {p : Addr} {ys : List MV} {l : Nat} {o : MO} {a : Addr} (e : (W.mh ++ [some (.lst ys)])[l]? = some (some o)) (q : (W.β ++ [p])[l]? = some a) :
    (W.mh[l]? = some (some o) ∧ W.β[l]? = some a) ∨ (l = W.mh.length ∧ o = .lst ys ∧ a = p) := by
  rcases app_get e with e | ⟨rfl, e9⟩
  · have hl : l < W.β.length := by rw [S.len]; exact (List.getElem?_eq_some_iff.mp e).1
    rw [List.getElem?_append_left hl] at q
    exact .inl ⟨e, q⟩
  · rw [← S.len, List.getElem?_append_right (Nat.le_refl _)] at q
    simp at q
    exact .inr ⟨rfl, Option.some.inj e9, q.symm⟩
theorem Sim.fix {G : Gb} {W : Wd} (S : Sim G W) {p : Addr} (hp : p ∈ W.ex) {ys : List MV} {vs : List V} {ex : List Addr} (hx : ∀ a ∈ ex, a ∈ W.ex) (hpx : p ∉ ex) (e : W.H p = some (HO.lst vs)) (r : Reps G W ys vs) : Sim G (W.fix p ys ex) where
  len := by show (W.β ++ [p]).length = (W.mh ++ [some (MO.lst ys)]).length; rw [List.length_append, List.length_append, S.len]; rfl
  ble := fun b hb => by show b ≤ (W.mh ++ [some (MO.lst ys)]).length; rw [List.length_append]; exact Nat.le_trans (S.ble b hb) (Nat.le_add_right _ _)
  top := S.top
  obj := fun l u e' a q => by
    rcases fix_get S e' q with ⟨e1, q1⟩ | ⟨_, rfl, rfl⟩
    · have r := S.obj l u e1 a q1
      cases u with
      | lst xs => obtain ⟨ws, q, r⟩ := r; exact ⟨ws, q, Reps.fix S hp hx _ _ r⟩
      | dct ks ms => obtain ⟨ws, q, l, r⟩ := r; exact ⟨ws, q, l, Reps.fix S hp hx _ _ r⟩
    · exact ⟨vs, e, Reps.fix S hp hx _ _ r⟩
  inj := fun l1 l2 c o1 o2 e1 e2 q1 q2 => by
    rcases fix_get S e1 q1 with ⟨a1, a2⟩ | ⟨a1, _, a2⟩
    · rcases fix_get S e2 q2 with ⟨b1, b2⟩ | ⟨b1, _, b2⟩
      · exact S.inj l1 l2 c _ _ a1 b1 a2 b2
      · exact absurd ⟨l1, o1, a1, by rw [← b2]; exact a2⟩ (S.exl p hp)
    · rcases fix_get S e2 q2 with ⟨b1, b2⟩ | ⟨b1, _, b2⟩
      · exact absurd ⟨l2, o2, b1, by rw [← a2]; exact b2⟩ (S.exl p hp)
      · rw [a1, b1]
  exo := fun a ha => S.exo a (hx a ha)
  exl := fun a ha z => (fix_live S z).elim (S.exl a (hx a ha)) fun z => hpx (by rw [← z]; exact ha)
  bnd := fun b hb l w hl e' => by
    rcases app_get e' with e' | ⟨rfl, _⟩
    · exact S.bnd b hb l w hl e'
    · exact absurd (Nat.lt_of_lt_of_le hl (S.ble b hb)) (Nat.lt_irrefl _)
theorem keep_fix {G : Gb} {B D : Wd} (S : Sim G D) (k : Keep B D) {p : Addr} {ys : List MV} (hp : B.H p = none) : Keep B (D.fix p ys B.ex) where
  ex := fun a h => h
  exn := fun a h => .inl h
  dom := k.dom
  bs := k.bs
  pre := by
    obtain ⟨t, e⟩ := k.pre
    exact ⟨t ++ [p], by show D.β ++ [p] = _; rw [e, List.append_assoc]⟩
  obj := k.obj
  liv := fun a z => (fix_live S z).elim (k.liv a) fun z => .inr (by rw [z]; exact hp)

/-! ### the comprehension -/
noncomputable def compF (C : CallF) (base : Nat) (t : Tg) (own : List Nat) (mc me : ME) (ρ : Env) : MV → MHp → Option (Option MV × MHp) := fun x mh2 => match asg mh2 t x (wipeE ρ own) with
  | none => none
  | some ρ' => match ev C base mc ρ' mh2 with
    | some (.bl true, mh3) => match ev C base me ρ' mh3 with
      | none => none
      | some (y, mh4) => some (some y, mh4)
    | some (.bl false, mh3) => some (none, mh3)
    | _ => none
section
variable {G : Gb} {C : CallF} {X : Cx} {pos p : Pos} {mc me mi m : ME} {t : Tg} {own : List Nat}
theorem ev_comp {base : Nat} {ρ : Env} {mh mh' : MHp} {v : MV} (e : ev C base (.comp t own mi mc me) ρ mh = some (v, mh')) : ∃ J mh1 ys, evI C base mi ρ mh = some (J, mh1) ∧ J.items.length ≤ line ∧ compGo J (compF C base t own mc me ρ) J.items mh1 = some (ys, mh') ∧ v = .lst ys := by
  simp only [ev] at e
  split at e
  · cases e
  rename_i J mh1 e1
  split at e
  · rename_i hl
    split at e
    · cases e
    rename_i ys mh5 e2
    cases e
    exact ⟨J, mh1, ys, e1, hl, e2, rfl⟩
  · cases e
theorem compF_of {base : Nat} {ρ : Env} {mh mh' : MHp} {x : MV} {r : Option MV} (e : compF C base t own mc me ρ x mh = some (r, mh')) : ∃ ρ' c mh3, asg mh t x (wipeE ρ own) = some ρ' ∧ ev C base mc ρ' mh = some (.bl c, mh3) ∧
    ((c = true ∧ ∃ y, ev C base me ρ' mh3 = some (y, mh') ∧ r = some y) ∨ (c = false ∧ mh' = mh3 ∧ r = none)) := by
  unfold compF at e
  split at e
  · cases e
  rename_i ρ' e1
  split at e
  · rename_i mh3 e2
    split at e
    · cases e
    rename_i y mh4 e3
    cases e
    exact ⟨ρ', true, mh3, e1, e2, .inl ⟨rfl, y, e3, rfl⟩⟩
  · rename_i mh3 e2
    cases e
    exact ⟨ρ', false, _, e1, e2, .inr ⟨rfl, rfl, rfl⟩⟩
  · cases e
theorem compGo_nil {J : Its} {f : MV → MHp → Option (Option MV × MHp)} {mh mh' : MHp} {ys : List MV} (e : compGo J f [] mh = some (ys, mh')) : J.ok mh ∧ ys = [] ∧ mh' = mh := by
  unfold compGo at e
  split at e
  · cases e; exact ⟨by assumption, rfl, rfl⟩
  · cases e
theorem compGo_cons {J : Its} {f : MV → MHp → Option (Option MV × MHp)} {x : MV} {xs : List MV} {mh mh' : MHp} {ys : List MV} (e : compGo J f (x :: xs) mh = some (ys, mh')) : J.ok mh ∧ ∃ r mh1 rs, f x mh = some (r, mh1) ∧ compGo J f xs mh1 = some (rs, mh') ∧ ys = r.toList ++ rs := by
  unfold compGo at e
  split at e
  · rename_i ho
    split at e
    · cases e
    rename_i r mh1 e1
    split at e
    · cases e
    rename_i rs mh2 e2
    cases e
    exact ⟨ho, r, mh1, rs, e1, e2, rfl⟩
  · cases e
theorem lc_loop {B : Wd} {ρ : Env} {σ : L2.St} {J : Its} {I : L2.It} {ys : List MV} {mh5 : MHp} {Q : Hp → Prop} (hown : ∀ i ∈ tgN t, i ∈ own) (SB : Sim G B) (NB : Envs G B ρ σ) (wk : Wk G B J I) (hl : J.items.length ≤ line)
    (hc : compGo J (compF C B.base t own mc me ρ) J.items B.mh = some (ys, mh5)) {p : Addr} (hp : B.H p = none)
    (fin : ∀ D vs, Keep B D → Sim G D → p ∈ D.ex → D.mh = mh5 → D.H p = some (.lst vs) → Reps G D ys vs → Q D.H) :
    ∃ W : Nat → Nat → Hp → Prop, (∃ m, W 0 m (upd B.H p (.lst []))) ∧ ∀ i m H, W i m H →
  (I.stop i H ∧ Q H) ∨ (I.go i H ∧ ∃ Nx : Hp → Prop, (∀ H', Nx H' → ∃ m', m' < m ∧ W (i + 1) m' H') ∧ ∀ x H', I.yld i H x H' → tG G t x (L2.wipe σ own) H' fun σ2 H2 => L2.wipe σ2 own = L2.wipe σ own ∧ tT G C mc σ2 H2 fun b H3 =>
    if b = true then tE G C me σ2 H3 fun y H4 => ∃ acc, H4 p = some (.lst acc) ∧ acc.length < sizeLine ∧ Nx (upd H4 p (.lst (acc ++ [y]))) else Nx H3) := by
  let W : Nat → Nat → Hp → Prop := fun i m H => m = J.items.length - i ∧ i ≤ J.items.length ∧ ∃ (D : Wd) (as rs : List MV) (vs : List V), Keep B D ∧ Sim G D ∧ p ∈ D.ex ∧ D.H = H ∧ H p = some (.lst vs) ∧ Reps G D as vs ∧ as.length ≤ i ∧ compGo J (compF C B.base t own mc me ρ) (J.items.drop i) D.mh = some (rs, mh5) ∧ ys = as ++ rs
  have nt : NoTup (.lst ([] : List V)) := ⟨(fun _ z => nomatch z), (fun _ _ z => nomatch z)⟩
  refine ⟨W, ⟨J.items.length, by simp, Nat.zero_le _, B.hid p (.lst []), [], ys, [], keep_hid hp, SB.hid hp nt, by simp, rfl, upd_same, by unfold Reps; rfl, Nat.le_refl _, hc, rfl⟩, ?_⟩
  rintro i m H ⟨rfl, hi, D, as, rs, vs, kD, SD, pD, rfl, eD, rD, lD, cD, yD⟩
  by_cases hlt : i < J.items.length
  · have hd : J.items.drop i = J.items[i] :: J.items.drop (i + 1) := List.drop_eq_getElem_cons hlt
    rw [hd] at cD
    obtain ⟨oD, r, mh1, rs', f1, c1, rfl⟩ := compGo_cons cD
    refine .inr ⟨wk.go D kD SD oD i hlt, fun H' => W (i + 1) (J.items.length - (i + 1)) H', fun H' w => ⟨_, by omega, w⟩, fun x H' y => ?_⟩
    obtain ⟨E, z, kE, mE, rfl, SE, hz, rz⟩ := wk.yld D kD SD oD i x H' hlt y
    have hz' : J.items[i] = z := by
      rw [List.getElem?_eq_getElem hlt] at hz
      exact Option.some.inj hz
    rw [hz', ← mE] at f1
    obtain ⟨ρ', c, mh3, g1, g2, g3⟩ := compF_of f1
    have kBE := kD.trans kE
    refine ⟨E, wipeE ρ own, ρ', z, rfl, SE, (NB.keep SB kBE).wipe own, rz, g1, fun σ' N' off => ⟨?_, ?_⟩⟩
    · rw [off.wipe hown, wipe_wipe]
    have pE : p ∈ E.ex := kE.ex p pD
    have eE : E.H p = some (.lst vs) := kE.obj p _ eD (SD.exl p pD)
    have rE : Reps G E as vs := Reps.keep SD kE _ _ rD
    refine tT.go SE N' (by rw [kBE.base]; exact g2) fun F kF mF SF NF => ?_
    have pF : p ∈ F.ex := kF.ex p pE
    have eF : F.H p = some (.lst vs) := kF.obj p _ eE (SE.exl p pE)
    have rF : Reps G F as vs := Reps.keep SE kF _ _ rE
    rcases g3 with ⟨rfl, y', g4, rfl⟩ | ⟨rfl, g5, rfl⟩
    · rw [if_pos rfl]
      refine tE.go SF NF (by rw [(kBE.trans kF).base, mF]; exact g4) fun K vx kK mK SK NK rx => ?_
      have pK : p ∈ K.ex := kK.ex p pF
      have eK : K.H p = some (.lst vs) := kK.obj p _ eF (SF.exl p pF)
      have rK : Reps G K as vs := Reps.keep SF kK _ _ rF
      refine ⟨vs, eK, ?_, rfl, hlt, K.up p (.lst (vs ++ [vx])), as ++ [y'], rs', vs ++ [vx], keep_put ((kBE.trans kF).trans kK) hp, SK.put pK ⟨(fun _ z => nomatch z), (fun _ _ z => nomatch z)⟩, pK, rfl, upd_same, ?_, ?_, ?_, ?_⟩
      · rw [← rD.len]
        exact Nat.lt_of_le_of_lt lD (Nat.lt_of_lt_of_le hlt hl)
      · exact Reps.put SK pK _ _ (rK.app (Reps.one rx))
      · simp; exact lD
      · show compGo J _ _ K.mh = _
        rw [mK]; exact c1
      · rw [yD]; simp
    · rw [if_neg Bool.false_ne_true]
      refine ⟨rfl, hlt, F, as, rs', vs, kBE.trans kF, SF, pF, rfl, eF, rF, Nat.le_succ_of_le lD, ?_, ?_⟩
      · rw [mF, ← g5]; exact c1
      · rw [yD]; rfl
  · have e : i = J.items.length := by omega
    subst e
    rw [List.drop_length] at cD
    obtain ⟨oD, rfl, e5⟩ := compGo_nil cD
    refine .inl ⟨wk.stop D kD SD oD, fin D vs kD SD pD e5.symm eD ?_⟩
    rw [yD, List.append_nil]
    exact rD
theorem _root_.L2.PTs.mono {X : Cx} {ifs : List Expr} {t t' : TT} (h : PTs X ifs t) (k : ∀ σ H Q, t' σ H Q → t σ H Q) : PTs X ifs t' := ⟨fun pins s σ H Q I q => h.run pins s σ H Q I (k _ _ _ q)⟩
theorem sts_nil : PTs X [] (tT G C (.c (.bl true))) := pts_nil.mono fun σ H Q h => by
  obtain ⟨A, ρ, c, mh', rfl, S, N, e, q⟩ := h
  simp only [ev] at e
  cases e
  exact q A (Keep.refl A) rfl S
theorem lc_frozen {A : Wd} {ρ : Env} {σ : L2.St} {v : MV} {mh' : MHp} {Q : VK} (hown : ∀ i ∈ tgN t, i ∈ own) (S : Sim G A) (N : Envs G A ρ σ) (e : ev C A.base (.comp t own mi mc me) ρ A.mh = some (v, mh')) (q : Post G A mh' v Q) :
    tLc (tI G C mi) (tG G t) (tT G C mc) (tE G C me) own σ A.H Q := by
  obtain ⟨J, mh1, ys, e1, hl, e2, rfl⟩ := ev_comp e
  refine ⟨A, ρ, J, mh1, rfl, S, N, e1, fun B I k em SB wk p hp => ?_⟩
  refine lc_loop hown SB (N.keep S k) wk hl (by rw [k.base, em]; exact e2) hp fun D vs kD SD pD mD eD rD => ?_
  have hx : ∀ a ∈ B.ex, a ∈ D.ex := kD.ex
  refine q (D.out B.ex) (.ref p) (k.trans (keep_out kD)) mD (SD.out hx) ?_
  unfold Rep
  refine ⟨p, vs, rfl, eD, ⟨SD.exl p pD, fun z => ?_⟩, Reps.out hx _ _ rD⟩
  obtain ⟨u, e9, _⟩ := SB.exo p z
  rw [hp] at e9; cases e9
theorem lc_live {A : Wd} {ρ : Env} {σ : L2.St} {v : MV} {mh' : MHp} {Q : VK} (hown : ∀ i ∈ tgN t, i ∈ own) (S : Sim G A) (N : Envs G A ρ σ) (e : ev C A.base (.al (.comp t own mi mc me)) ρ A.mh = some (v, mh')) (q : Post G A mh' v Q) :
    tLc (tI G C mi) (tG G t) (tT G C mc) (tE G C me) own σ A.H Q := by
  rcases ev_al e with ⟨xs, mh5, e9, rfl, rfl⟩ | ⟨ks, vs, mh1, e9, rfl, rfl⟩
  · obtain ⟨J, mh1, ys, e1, hl, e2, e3⟩ := ev_comp e9
    cases e3
    refine ⟨A, ρ, J, mh1, rfl, S, N, e1, fun B I k em SB wk p hp => ?_⟩
    refine lc_loop hown SB (N.keep S k) wk hl (by rw [k.base, em]; exact e2) hp fun D vs kD SD pD mD eD rD => ?_
    have hx : ∀ a ∈ B.ex, a ∈ D.ex := kD.ex
    have hpx : p ∉ B.ex := fun z => by
      obtain ⟨u, e9, _⟩ := SB.exo p z
      rw [hp] at e9; cases e9
    refine q (D.fix p xs B.ex) (.ref p) (k.trans (keep_fix SD kD hp)) (by show D.mh ++ _ = _; rw [mD]) (SD.fix pD hx hpx eD rD) ?_
    unfold Rep
    refine ⟨p, rfl, ?_⟩
    show (D.β ++ [p])[mh5.length]? = some p
    rw [← mD, ← SD.len, List.getElem?_append_right (Nat.le_refl _)]
    simp
  · obtain ⟨J, mh1, ys, e1, hl, e2, e3⟩ := ev_comp e9
    cases e3
end
section
variable {G : Gb} {C : CallF} {X : Cx} {mc me mi : ME} {t : Tg} {elt tg iter : Expr} {ifs : List Expr} {scope : Scope} {own : List (Str × Nat)} {pos : Pos}
theorem se_comp (hown : ∀ i ∈ tgN t, i ∈ own.map (·.2)) (hc : X.calm = true) (hN : X.N.Nodup) (hi : PI X tg iter (tI G C mi)) (ok : BlkOk X.N X.env.scope scope own)
    (hg : ∀ (s : Shared) (H : Hp) (D : Addr) (cl : List (Str × Addr)) (fp : List Addr), PG (X.blk s H scope (compEnvC scope cl D X.env) fp) tg (tG G t)) (ht : ∀ (s : Shared) (H : Hp) (D : Addr) (cl : List (Str × Addr)) (fp : List Addr), PTs (X.blk s H scope (compEnvC scope cl D X.env) fp) ifs (tT G C mc))
    (he : ∀ (s : Shared) (H : Hp) (D : Addr) (cl : List (Str × Addr)) (fp : List Addr), PE (X.blk s H scope (compEnvC scope cl D X.env) fp) elt (tE G C me)) (hs : ∀ x, foldedSetIterable iter X.env x = pure x := by intro _; rfl) :
    PE X (.ListComp elt [⟨tg, iter, ifs, 0⟩] scope pos) (tE G C (.comp t (own.map (·.2)) mi mc me)) := by
  refine (pe_lc hc hN hi ok hg ht he hs).mono fun σ H Q h => ?_
  obtain ⟨A, ρ, v, mh', rfl, S, N, e, q⟩ := h
  exact lc_frozen hown S N e q
theorem sal_comp (hown : ∀ i ∈ tgN t, i ∈ own.map (·.2)) (hc : X.calm = true) (hN : X.N.Nodup) (hi : PI X tg iter (tI G C mi)) (ok : BlkOk X.N X.env.scope scope own)
    (hg : ∀ (s : Shared) (H : Hp) (D : Addr) (cl : List (Str × Addr)) (fp : List Addr), PG (X.blk s H scope (compEnvC scope cl D X.env) fp) tg (tG G t)) (ht : ∀ (s : Shared) (H : Hp) (D : Addr) (cl : List (Str × Addr)) (fp : List Addr), PTs (X.blk s H scope (compEnvC scope cl D X.env) fp) ifs (tT G C mc))
    (he : ∀ (s : Shared) (H : Hp) (D : Addr) (cl : List (Str × Addr)) (fp : List Addr), PE (X.blk s H scope (compEnvC scope cl D X.env) fp) elt (tE G C me)) (hs : ∀ x, foldedSetIterable iter X.env x = pure x := by intro _; rfl) :
    PE X (.ListComp elt [⟨tg, iter, ifs, 0⟩] scope pos) (tE G C (.al (.comp t (own.map (·.2)) mi mc me))) := by
  refine (pe_lc hc hN hi ok hg ht he hs).mono fun σ H Q h => ?_
  obtain ⟨A, ρ, v, mh', rfl, S, N, e, q⟩ := h
  exact lc_live hown S N e q
end
end L2.Mi

set_option Elab.async false
set_option linter.all false
set_option maxRecDepth 100000
set_option maxHeartbeats 4000000
/-! Mini10: statements. -/
namespace L2.Mi
open PySem PySem.Spec PyProof.Rows

def FlOk (G : Gb) (B : Wd) (ρ : Env) (D : Ends) : Fl → Prop
  | .nx => ∀ σ, Envs G B ρ σ → D.nx σ B.H
  | .bk => ∀ σ, Envs G B ρ σ → D.bk σ B.H
  | .ct => ∀ σ, Envs G B ρ σ → D.ct σ B.H
  | .rt v => ∀ x, Rep G B v x → D.rt x B.H
def EndP (G : Gb) (A : Wd) (mh' : MHp) (ρ : Env) (fl : Fl) (D : Ends) : Prop := ∀ B, Keep A B → B.mh = mh' → Sim G B → FlOk G B ρ D fl
def tS (G : Gb) (C : CallF) (s : MS) : TS := fun D σ H => ∃ (A : Wd) (ρ : Env) (fl : Fl) (ρ' : Env) (mh' : MHp), A.H = H ∧ Sim G A ∧ Envs G A ρ σ ∧ ex C A.base s ρ A.mh = some (fl, ρ', mh') ∧ EndP G A mh' ρ' fl D
def tSs (G : Gb) (C : CallF) (ss : List MS) : TS := fun D σ H => ∃ (A : Wd) (ρ : Env) (fl : Fl) (ρ' : Env) (mh' : MHp), A.H = H ∧ Sim G A ∧ Envs G A ρ σ ∧ exs C A.base ss ρ A.mh = some (fl, ρ', mh') ∧ EndP G A mh' ρ' fl D
theorem EndP.step {G : Gb} {A B : Wd} {mh' : MHp} {ρ : Env} {fl : Fl} {D : Ends} (h : EndP G A mh' ρ fl D) (k : Keep A B) : EndP G B mh' ρ fl D := fun K k' e S => h K (k.trans k') e S
theorem _root_.L2.PS.mono {X : Cx} {e : Stmt} {t t' : TS} (h : PS X e t) (k : ∀ D σ H, t' D σ H → t D σ H) : PS X e t' := ⟨fun pins s σ H D I q => h.run pins s σ H D I (k _ _ _ q)⟩
theorem _root_.L2.PSs.mono {X : Cx} {e : List Stmt} {t t' : TS} (h : PSs X e t) (k : ∀ D σ H, t' D σ H → t D σ H) : PSs X e t' := ⟨fun pins s σ H D I q => h.run pins s σ H D I (k _ _ _ q)⟩
section
variable {G : Gb} {C : CallF} {X : Cx} {pos p : Pos} {e a b c : Expr} {ma mb mc m : ME} {st : Stmt} {rest body : List Stmt} {s : MS} {ss ms : List MS}
theorem sss_nil : PSs X [] (tSs G C []) := pss_nil.mono fun D σ H h => by
  obtain ⟨A, ρ, fl, ρ', mh', rfl, S, N, e, q⟩ := h
  simp only [exs] at e
  cases e
  exact q A (Keep.refl A) rfl S σ N
theorem exs_cons {base : Nat} {ρ ρ' : Env} {mh mh' : MHp} {fl : Fl} (e : exs C base (s :: ss) ρ mh = some (fl, ρ', mh')) : (∃ ρ1 mh1, ex C base s ρ mh = some (.nx, ρ1, mh1) ∧ exs C base ss ρ1 mh1 = some (fl, ρ', mh')) ∨ (ex C base s ρ mh = some (fl, ρ', mh') ∧ fl ≠ .nx) := by
  simp only [exs] at e
  split at e
  · rename_i ρ1 mh1 e1
    exact .inl ⟨ρ1, mh1, e1, e⟩
  · rename_i hn
    exact .inr ⟨e, fun z => hn ρ' mh' (by rw [e, z])⟩
theorem sss_cons (h1 : PS X st (tS G C s)) (h2 : PSs X rest (tSs G C ss)) : PSs X (st :: rest) (tSs G C (s :: ss)) := (pss_cons h1 h2).mono fun D σ H h => by
  obtain ⟨A, ρ, fl, ρ', mh', rfl, S, N, e, q⟩ := h
  rcases exs_cons e with ⟨ρ1, mh1, e1, e2⟩ | ⟨e1, hn⟩
  · exact ⟨A, ρ, .nx, ρ1, mh1, rfl, S, N, e1, fun B k em SB σ' N' => ⟨B, ρ1, fl, ρ', mh', rfl, SB, N', by rw [k.base, em]; exact e2, q.step k⟩⟩
  · refine ⟨A, ρ, fl, ρ', mh', rfl, S, N, e1, fun B k em SB => ?_⟩
    have z := q B k em SB
    cases fl with
    | nx => exact absurd rfl hn
    | _ => exact z
theorem ss_pass : PS X (.Pass pos) (tS G C .pass) := ps_pass.mono fun D σ H h => by
  obtain ⟨A, ρ, fl, ρ', mh', rfl, S, N, e, q⟩ := h
  simp only [ex] at e
  cases e
  exact q A (Keep.refl A) rfl S σ N
theorem ss_brk : PS X (.Break pos) (tS G C .brk) := ps_break.mono fun D σ H h => by
  obtain ⟨A, ρ, fl, ρ', mh', rfl, S, N, e, q⟩ := h
  simp only [ex] at e
  cases e
  exact q A (Keep.refl A) rfl S σ N
theorem ss_cnt : PS X (.Continue pos) (tS G C .cnt) := ps_continue.mono fun D σ H h => by
  obtain ⟨A, ρ, fl, ρ', mh', rfl, S, N, e, q⟩ := h
  simp only [ex] at e
  cases e
  exact q A (Keep.refl A) rfl S σ N
theorem ss_doc {x j pos'} : PS X (.Expr (.Constant (.str x) j pos) pos') (tS G C .pass) := ps_doc.mono fun D σ H h => by
  obtain ⟨A, ρ, fl, ρ', mh', rfl, S, N, e, q⟩ := h
  simp only [ex] at e
  cases e
  exact q A (Keep.refl A) rfl S σ N
theorem ss_expr (he : PE X e (tE G C m)) (hs : swapsWith e none pos.line X.env = pure false := by rfl) : PS X (.Expr e pos) (tS G C (.ex m)) := (ps_expr he hs).mono fun D σ H h => by
  obtain ⟨A, ρ, fl, ρ', mh', rfl, S, N, e, q⟩ := h
  simp only [ex] at e
  split at e
  · cases e
  rename_i v mh1 e1
  cases e
  exact tE.go S N e1 fun B x k em SB NB _ => q B k em SB σ NB
theorem ex_set {t : Tg} {base : Nat} {ρ ρ' : Env} {mh mh' : MHp} {fl : Fl} (e : ex C base (.set t m) ρ mh = some (fl, ρ', mh')) : ∃ v, ev C base m ρ mh = some (v, mh') ∧ asg mh' t v ρ = some ρ' ∧ fl = .nx := by
  simp only [ex] at e
  split at e
  · cases e
  rename_i v mh1 e1
  split at e
  · cases e
  rename_i ρ1 e2
  cases e
  exact ⟨v, e1, e2, rfl⟩
theorem ss_set {i : Nat} {x : Str} {pos' : Pos} (hN : X.N.Nodup) (hi : X.N[i]? = some x) (hx : Loc X.env.scope x) (he : PE X e (tE G C m)) (hs : swapsWith e (some (.Name x pos')) pos.line X.env = pure false := by rfl) (hf : X.fn x = true ∨ X.env.scope.names.lookup x = some .local := by first | exact .inl rfl | exact .inr rfl | assumption) :
    PS X (.Assign [.Name x pos'] e pos) (tS G C (.set (.nm i) m)) := (ps_set hN hi hx he hs hf).mono fun D σ H h => by
  obtain ⟨A, ρ, fl, ρ', mh', rfl, S, N, e, q⟩ := h
  obtain ⟨v, e1, e2, rfl⟩ := ex_set e
  simp only [asg] at e2
  split at e2
  · cases e2
    exact tE.go S N e1 fun B x k em SB NB r => q B k em SB _ (NB.set r i)
  · cases e2
theorem ss_asg {t : Tg} {tg : Expr} (he : PE X e (tE G C m)) (hg : PG X tg (tG G t)) (hs : swapsWithSole [tg] e pos.line X.env = pure false := by rfl) (hw : swappedStores [tg] e X.env = pure none := by rfl)
    (h1 : (assignEach [tg] X.env).map (·.2) = [assign tg X.env] := by rfl) : PS X (.Assign [tg] e pos) (tS G C (.set t m)) := (ps_asg he hg hs hw h1).mono fun D σ H h => by
  obtain ⟨A, ρ, fl, ρ', mh', rfl, S, N, e, q⟩ := h
  obtain ⟨v, e1, e2, rfl⟩ := ex_set e
  exact tE.go S N e1 fun B x k em SB NB r => ⟨B, ρ, ρ', v, rfl, SB, NB, r, by rw [em]; exact e2, fun σ' N' _ => q B k em SB σ' N'⟩
theorem ss_setLc {t : Tg} {mi me : ME} {i : Nat} {y : Str} {py : Pos} {elt tg iter : Expr} {ifs : List Expr} {scope : Scope} {own : List (Str × Nat)} {pos spos : Pos} (hown : ∀ i ∈ tgN t, i ∈ own.map (·.2)) (hc : X.calm = true) (hN : X.N.Nodup) (hy : X.N[i]? = some y) (hyl : X.env.scope.names.lookup y = some .local)
    (hsw : swapsWith (.ListComp elt [⟨tg, iter, ifs, 0⟩] scope pos) (some (.Name y py)) spos.line X.env = pure true) (hi : PI X tg iter (tI G C mi)) (ok : BlkOk X.N X.env.scope scope own)
    (hg : ∀ (s : Shared) (H : Hp) (D : Addr) (cl : List (Str × Addr)) (fp : List Addr), PG (X.blk s H scope (compEnvC scope cl D X.env) fp) tg (tG G t)) (ht : ∀ (s : Shared) (H : Hp) (D : Addr) (cl : List (Str × Addr)) (fp : List Addr), PTs (X.blk s H scope (compEnvC scope cl D X.env) fp) ifs (tT G C mc))
    (he : ∀ (s : Shared) (H : Hp) (D : Addr) (cl : List (Str × Addr)) (fp : List Addr), PE (X.blk s H scope (compEnvC scope cl D X.env) fp) elt (tE G C me)) (hs : ∀ x, foldedSetIterable iter X.env x = pure x := by intro _; rfl) :
    PS X (.Assign [.Name y py] (.ListComp elt [⟨tg, iter, ifs, 0⟩] scope pos) spos) (tS G C (.set (.nm i) (.comp t (own.map (·.2)) mi mc me))) := (ps_setLc hc hN hy hyl hsw hi ok hg ht he hs).mono fun D σ H h => by
  obtain ⟨A, ρ, fl, ρ', mh', rfl, S, N, e, q⟩ := h
  obtain ⟨v, e1, e2, rfl⟩ := ex_set e
  simp only [asg] at e2
  split at e2
  · cases e2
    exact lc_frozen hown S N e1 fun B x k em SB r => q B k em SB _ ((N.keep S k).set r i)
  · cases e2
theorem ss_setLcA {t : Tg} {mi me : ME} {i : Nat} {y : Str} {py : Pos} {elt tg iter : Expr} {ifs : List Expr} {scope : Scope} {own : List (Str × Nat)} {pos spos : Pos} (hown : ∀ i ∈ tgN t, i ∈ own.map (·.2)) (hc : X.calm = true) (hN : X.N.Nodup) (hy : X.N[i]? = some y) (hyl : X.env.scope.names.lookup y = some .local)
    (hsw : swapsWith (.ListComp elt [⟨tg, iter, ifs, 0⟩] scope pos) (some (.Name y py)) spos.line X.env = pure true) (hi : PI X tg iter (tI G C mi)) (ok : BlkOk X.N X.env.scope scope own)
    (hg : ∀ (s : Shared) (H : Hp) (D : Addr) (cl : List (Str × Addr)) (fp : List Addr), PG (X.blk s H scope (compEnvC scope cl D X.env) fp) tg (tG G t)) (ht : ∀ (s : Shared) (H : Hp) (D : Addr) (cl : List (Str × Addr)) (fp : List Addr), PTs (X.blk s H scope (compEnvC scope cl D X.env) fp) ifs (tT G C mc))
    (he : ∀ (s : Shared) (H : Hp) (D : Addr) (cl : List (Str × Addr)) (fp : List Addr), PE (X.blk s H scope (compEnvC scope cl D X.env) fp) elt (tE G C me)) (hs : ∀ x, foldedSetIterable iter X.env x = pure x := by intro _; rfl) :
    PS X (.Assign [.Name y py] (.ListComp elt [⟨tg, iter, ifs, 0⟩] scope pos) spos) (tS G C (.set (.nm i) (.al (.comp t (own.map (·.2)) mi mc me)))) := (ps_setLc hc hN hy hyl hsw hi ok hg ht he hs).mono fun D σ H h => by
  obtain ⟨A, ρ, fl, ρ', mh', rfl, S, N, e, q⟩ := h
  obtain ⟨v, e1, e2, rfl⟩ := ex_set e
  simp only [asg] at e2
  split at e2
  · cases e2
    exact lc_live hown S N e1 fun B x k em SB r => q B k em SB _ ((N.keep S k).set r i)
  · cases e2
theorem ss_par {i j : Nat} {x y : Str} {px py pt : Pos} {kt k2 pt2} (hc : X.calm = true) (hN : X.N.Nodup) (hi : X.N[i]? = some x) (hj : X.N[j]? = some y) (hij : i ≠ j)
    (hx : X.env.scope.names.lookup x = some .local) (hy : X.env.scope.names.lookup y = some .local) (ha : PE X a (tE G C ma)) (hb : PE X b (tE G C mb))
    (hw : swappedStores [.Tuple [.Name x px, .Name y py] kt pt] (.Tuple [a, b] k2 pt2) X.env = pure (some [x, y]))
    (hs : swapsWithSole [.Tuple [.Name x px, .Name y py] kt pt] (.Tuple [a, b] k2 pt2) pos.line X.env = pure false := by rfl)
    (hs1 : starEach [a, b] X.env = (false, eval a X.env) :: starEach [b] X.env := by rfl) (hs2 : starEach [b] X.env = (false, eval b X.env) :: starEach [] X.env := by rfl) :
    PS X (.Assign [.Tuple [.Name x px, .Name y py] kt pt] (.Tuple [a, b] k2 pt2) pos) (tS G C (.par i j ma mb)) := (ps_par hc hN hi hj hij hx hy (sa_cons ha (sa_cons hb sa_nil hs2) hs1) hw hs).mono fun D σ H h => by
  obtain ⟨A, ρ, fl, ρ', mh', rfl, S, N, e, q⟩ := h
  simp only [ex] at e
  split at e
  · cases e
  rename_i v mh1 e1
  split at e
  · cases e
  rename_i w mh2 e2
  split at e
  · cases e
    refine tEs.go (vs := [v, w]) (mh1 := mh') S N (by simp only [evs, e1, e2]) fun B xs k em SB NB r => ?_
    unfold Reps at r
    obtain ⟨v', r', rfl, r1, r2⟩ := r
    unfold Reps at r2
    obtain ⟨w', r'', rfl, r3, r4⟩ := r2
    unfold Reps at r4
    subst r4
    exact ⟨v', w', rfl, q B k em SB _ ((NB.set r1 i).set r3 j)⟩
  · cases e
theorem ss_ret (he : PE X e (tE G C m)) : PS X (.Return (some e) pos) (tS G C (.ret m)) := (ps_ret he).mono fun D σ H h => by
  obtain ⟨A, ρ, fl, ρ', mh', rfl, S, N, e, q⟩ := h
  simp only [ex] at e
  split at e
  · cases e
  rename_i v mh1 e1
  cases e
  exact tE.go S N e1 fun B x k em SB NB r => q B k em SB x r
theorem ss_retN : PS X (.Return none pos) (tS G C (.ret (.c .non))) := ps_retN.mono fun D σ H h => by
  obtain ⟨A, ρ, fl, ρ', mh', rfl, S, N, e, q⟩ := h
  simp only [ex, ev] at e
  cases e
  exact q A (Keep.refl A) rfl S _ rep_non
theorem ss_if {sa sb : List Stmt} {na nb : List MS} (hc : PT X c (tT G C mc)) (ha : PSs X sa (tSs G C na)) (hb : PSs X sb (tSs G C nb)) : PS X (.If c sa sb pos) (tS G C (.ite mc na nb)) := (ps_if hc ha hb).mono fun D σ H h => by
  obtain ⟨A, ρ, fl, ρ', mh', rfl, S, N, e, q⟩ := h
  simp only [ex] at e
  split at e
  · rename_i mh1 e1
    refine tT.go S N e1 fun B k em SB NB => ?_
    rw [if_pos rfl]
    exact ⟨B, ρ, fl, ρ', mh', rfl, SB, NB, by rw [k.base, em]; exact e, q.step k⟩
  · rename_i mh1 e1
    refine tT.go S N e1 fun B k em SB NB => ?_
    rw [if_neg Bool.false_ne_true]
    exact ⟨B, ρ, fl, ρ', mh', rfl, SB, NB, by rw [k.base, em]; exact e, q.step k⟩
  · cases e
/-! ### for -/
theorem forGo_nil {J : Its} {f : MV → Env → MHp → Option (Fl × Env × MHp)} {ρ ρ' : Env} {mh mh' : MHp} {fl : Fl} (e : forGo J f [] ρ mh = some (fl, ρ', mh')) : J.ok mh ∧ fl = .nx ∧ ρ' = ρ ∧ mh' = mh := by
  unfold forGo at e
  split at e
  · cases e; exact ⟨by assumption, rfl, rfl, rfl⟩
  · cases e
theorem forGo_cons {J : Its} {f : MV → Env → MHp → Option (Fl × Env × MHp)} {x : MV} {xs : List MV} {ρ ρ' : Env} {mh mh' : MHp} {fl : Fl} (e : forGo J f (x :: xs) ρ mh = some (fl, ρ', mh')) :
    J.ok mh ∧ ∃ g ρ1 mh1, f x ρ mh = some (g, ρ1, mh1) ∧ (((g = .nx ∨ g = .ct) ∧ forGo J f xs ρ1 mh1 = some (fl, ρ', mh')) ∨ (g = .bk ∧ fl = .nx ∧ ρ' = ρ1 ∧ mh' = mh1) ∨ (∃ v, g = .rt v ∧ fl = .rt v ∧ ρ' = ρ1 ∧ mh' = mh1)) := by
  unfold forGo at e
  split at e
  · rename_i ho
    refine ⟨ho, ?_⟩
    split at e
    · cases e
    · rename_i ρ1 mh1 e1; exact ⟨_, _, _, e1, .inl ⟨.inl rfl, e⟩⟩
    · rename_i ρ1 mh1 e1; exact ⟨_, _, _, e1, .inl ⟨.inr rfl, e⟩⟩
    · rename_i ρ1 mh1 e1; cases e; exact ⟨_, _, _, e1, .inr (.inl ⟨rfl, rfl, rfl, rfl⟩)⟩
    · rename_i v ρ1 mh1 e1; cases e; exact ⟨_, _, _, e1, .inr (.inr ⟨v, rfl, rfl, rfl, rfl⟩)⟩
  · cases e
theorem ss_for {t : Tg} {tg iter : Expr} {mi : ME} (hp : PassesOwn (model X.prog X.w) X.A X.env X.xe) (hc : X.calm = true) (hi : PI X tg iter (tI G C mi)) (hg : PG X tg (tG G t)) (hb : PSs X body (tSs G C ms))
    (hs : ∀ x, foldedSetIterable iter X.env x = pure x := by intro _; rfl) : PS X (.For tg iter body [] pos) (tS G C (.for t mi ms)) := (ps_for hp hc hi hg hb hs).mono fun D σ H h => by
  obtain ⟨A, ρ, fl, ρ', mh', rfl, S, N, e, q⟩ := h
  simp only [ex] at e
  split at e
  · cases e
  rename_i J mh1 e1
  refine ⟨A, ρ, J, mh1, rfl, S, N, e1, fun B I k em SB wk => ?_⟩
  let f : MV → Env → MHp → Option (Fl × Env × MHp) := fun x ρ1 mh2 => match asg mh2 t x ρ1 with
      | none => none
      | some ρ2 => exs C A.base ms ρ2 mh2
  let W : Nat → Nat → L2.St → Hp → Prop := fun i m σ H => m = J.items.length - i ∧ i ≤ J.items.length ∧ ∃ (E : Wd) (ρ1 : Env), Keep B E ∧ Sim G E ∧ E.H = H ∧ Envs G E ρ1 σ ∧ forGo J f (J.items.drop i) ρ1 E.mh = some (fl, ρ', mh')
  refine ⟨W, ⟨J.items.length, by simp, Nat.zero_le _, B, ρ, Keep.refl B, SB, rfl, N.keep S k, by rw [em]; exact e⟩, ?_⟩
  rintro i m σ1 H ⟨rfl, hi, E, ρ1, kE, SE, rfl, NE, cE⟩
  by_cases hlt : i < J.items.length
  · have hd : J.items.drop i = J.items[i] :: J.items.drop (i + 1) := List.drop_eq_getElem_cons hlt
    rw [hd] at cE
    obtain ⟨oE, g, ρ2, mh2, f1, c1⟩ := forGo_cons cE
    refine .inr ⟨wk.go E kE SE oE i hlt, fun σ' H' => W (i + 1) (J.items.length - (i + 1)) σ' H', fun σ' H' w => ⟨_, by omega, w⟩, fun x H' y => ?_⟩
    obtain ⟨F, z, kF, mF, rfl, SF, hz, rz⟩ := wk.yld E kE SE oE i x H' hlt y
    have hz' : J.items[i] = z := by
      rw [List.getElem?_eq_getElem hlt] at hz
      exact Option.some.inj hz
    rw [hz', ← mF] at f1
    have f1' : (match asg F.mh t z ρ1 with
      | none => none
      | some ρ2 => exs C A.base ms ρ2 F.mh) = some (g, ρ2, mh2) := f1
    split at f1'
    · cases f1'
    rename_i ρ3 g1
    refine ⟨F, ρ1, ρ3, z, rfl, SF, NE.keep SE kF, rz, g1, fun σ2 N2 off => ?_⟩
    have kAF := k.trans (kE.trans kF)
    refine ⟨F, ρ3, g, ρ2, mh2, rfl, SF, N2, by rw [kAF.base]; exact f1', fun L kL mL SL => ?_⟩
    have kBL := (kE.trans kF).trans kL
    rcases c1 with ⟨hg, c1⟩ | ⟨rfl, rfl, rfl, rfl⟩ | ⟨v, rfl, rfl, rfl, rfl⟩
    · have fin : ∀ σ', Envs G L ρ2 σ' → W (i + 1) (J.items.length - (i + 1)) σ' L.H := fun σ' N' => ⟨rfl, hlt, L, ρ2, kBL, SL, rfl, N', by rw [mL]; exact c1⟩
      rcases hg with rfl | rfl
      · exact fin
      · exact fin
    · exact q L (k.trans kBL) mL SL
    · exact q L (k.trans kBL) mL SL
  · have hi' : i = J.items.length := by omega
    subst hi'
    rw [List.drop_length] at cE
    obtain ⟨oE, rfl, rfl, e5⟩ := forGo_nil cE
    exact .inl ⟨wk.stop E kE SE oE, q E (k.trans kE) e5.symm SE σ1 NE⟩
/-! ### while -/
theorem whileM_of {cf : Env → MHp → Option (Bool × MHp)} {f : Env → MHp → Option (Fl × Env × MHp)} {ρ : Env} {mh : MHp} {r : Fl × Env × MHp} (e : whileM cf f ρ mh = some r) : ∃ n, whileN cf f n ρ mh = some r := by
  unfold whileM at e
  split at e
  · exact ⟨_, e⟩
  · cases e
theorem ss_while (hp : PassesOwn (model X.prog X.w) X.A X.env X.xe) (hc : PT X c (tT G C mc)) (hb : PSs X body (tSs G C ms)) : PS X (.While c body [] pos) (tS G C (.while mc ms)) := (ps_while hp hc hb).mono fun D σ H h => by
  obtain ⟨A, ρ, fl, ρ', mh', rfl, S, N, e, q⟩ := h
  simp only [ex] at e
  obtain ⟨n, e⟩ := whileM_of e
  let cf : Env → MHp → Option (Bool × MHp) := fun ρ1 mh1 => match ev C A.base mc ρ1 mh1 with
      | some (.bl b, mh2) => some (b, mh2)
      | _ => none
  let f : Env → MHp → Option (Fl × Env × MHp) := fun ρ1 mh1 => exs C A.base ms ρ1 mh1
  let W : Nat → L2.St → Hp → Prop := fun n σ H => ∃ (E : Wd) (ρ1 : Env), Keep A E ∧ Sim G E ∧ E.H = H ∧ Envs G E ρ1 σ ∧ whileN cf f n ρ1 E.mh = some (fl, ρ', mh')
  refine ⟨W, ⟨n, A, ρ, Keep.refl A, S, rfl, N, e⟩, ?_⟩
  rintro m σ1 H ⟨E, ρ1, kE, SE, rfl, NE, cE⟩
  cases m with
  | zero => unfold whileN at cE; cases cE
  | succ m =>
    unfold whileN at cE
    have hcf : ∀ {b mh1}, cf ρ1 E.mh = some (b, mh1) → ev C A.base mc ρ1 E.mh = some (.bl b, mh1) := fun {b mh1} z => by
      have z' : (match ev C A.base mc ρ1 E.mh with
        | some (.bl b, mh2) => some (b, mh2)
        | _ => none) = some (b, mh1) := z
      split at z'
      · rename_i b' mh2 e9
        cases z'; exact e9
      · cases z'
    split at cE
    · cases cE
    · rename_i mh1 e1
      cases cE
      refine tT.go SE NE (by rw [kE.base]; exact hcf e1) fun F kF mF SF NF => ?_
      rw [if_neg Bool.false_ne_true]
      exact q F (kE.trans kF) mF SF σ1 NF
    · rename_i mh1 e1
      refine tT.go SE NE (by rw [kE.base]; exact hcf e1) fun F kF mF SF NF => ?_
      rw [if_pos rfl]
      refine ⟨W m, fun σ' H' w => ⟨m, Nat.lt_succ_self m, w⟩, ?_⟩
      have kAF := kE.trans kF
      have go : ∀ {g ρ2 mh2}, f ρ1 mh1 = some (g, ρ2, mh2) → (∀ L, Keep F L → L.mh = mh2 → Sim G L → FlOk G L ρ2 { D with nx := W m, ct := W m, bk := D.nx } g) → tSs G C ms { D with nx := W m, ct := W m, bk := D.nx } σ1 F.H := fun {g ρ2 mh2} z l =>
        ⟨F, ρ1, g, ρ2, mh2, rfl, SF, NF, by rw [kAF.base, mF]; exact z, l⟩
      split at cE
      · cases cE
      · rename_i ρ2 mh2 e2
        exact go e2 fun L kL mL SL σ' N' => ⟨L, ρ2, kAF.trans kL, SL, rfl, N', by rw [mL]; exact cE⟩
      · rename_i ρ2 mh2 e2
        exact go e2 fun L kL mL SL σ' N' => ⟨L, ρ2, kAF.trans kL, SL, rfl, N', by rw [mL]; exact cE⟩
      · rename_i ρ2 mh2 e2
        cases cE
        exact go e2 fun L kL mL SL => q L (kAF.trans kL) mL SL
      · rename_i v ρ2 mh2 e2
        cases cE
        exact go e2 fun L kL mL SL => q L (kAF.trans kL) mL SL
/-! ### o[i] = e, name op= e -/
theorem ss_sti {o i : Expr} {mo mi : ME} {pos' : Pos} (he : PE X e (tE G C m)) (ho : PE X o (tE G C mo)) (hi : PE X i (tE G C mi))
    (ha : ∀ v, assign (.Subscript o i pos') X.env v = (do
      let ov ← holding [v] (eval o X.env)
      let iv ← holding [v, ov] (eval i X.env)
      standAt pos'
      holding [v, ov, iv] (setItem ov iv v)
      release [v, ov, iv] []) := by intro _; rfl)
    (hs : swapsWithSole [.Subscript o i pos'] e pos.line X.env = pure false := by rfl) (hw : swappedStores [.Subscript o i pos'] e X.env = pure none := by rfl)
    (h1 : (assignEach [.Subscript o i pos'] X.env).map (·.2) = [assign (.Subscript o i pos') X.env] := by rfl) : PS X (.Assign [.Subscript o i pos'] e pos) (tS G C (.sti mo mi m)) := (ps_asg he (pg_sub ho hi set_list ha) hs hw h1).mono fun D σ H h => by
  obtain ⟨A, ρ, fl, ρ', mh', rfl, S, N, e, q⟩ := h
  simp only [ex] at e
  split at e
  · cases e
  rename_i v mh1 e1
  split at e
  · rename_i l mh2 e2
    split at e
    · rename_i j mh3 e3
      split at e
      · rename_i xs hl
        split at e
        · cases e
        rename_i jj hj
        split at e
        · rename_i hw
          cases e
          refine tE.go S N e1 fun B x k em SB NB r => tE.go SB NB (ev.at k em e2) fun B2 y k2 em2 S2 N2 r2 => tE.go S2 N2 (ev.at (k.trans k2) em2 e3) fun B3 z k3 em3 S3 N3 r3 => ?_
          rw [← em3] at hl
          obtain ⟨a, rfl, hb⟩ := (Rep.keep S2 k3 _ _ r2).loc_
          obtain ⟨vs, eH, rr⟩ := S3.obj l _ hl a hb
          have rx := Rep.keep S2 k3 _ _ (Rep.keep SB k2 _ _ r)
          have kk := (k.trans k2).trans k3
          obtain ⟨kW, SW⟩ := lst_wr S3 hl hb (rr.set rx jj) fun b hbs hlb => by
            have h1 : bds b xs = true := S3.bnd b hbs l _ hlb hl
            have h2 : bds b (xs ++ [v]) = true := by
              rw [bds_app, h1]
              show (true && (bd b v && true)) = true
              rw [wr_bd S3 (by rw [kk.base]; exact hw) hbs hlb]
              rfl
            exact bds_sub h2 fun z hz => by
              rcases List.mem_or_eq_of_mem_set hz with hz | rfl
              · exact List.mem_append_left _ hz
              · simp
          exact ⟨a, vs, j, jj, rfl, r3.int_, eH, by rw [← rr.len]; exact hj, q _ (kk.trans kW) (by show B3.mh.set l _ = _; rw [em3]) SW _ ((N3.keep S3 kW))⟩
        · cases e
      · cases e
    · cases e
  · cases e
theorem ss_aug {i : Nat} {x : Str} {o : Op} {pos' : Pos} (ho : o = .add ∨ o = .sub) (hN : X.N.Nodup) (hi : X.N[i]? = some x) (hx : Loc X.env.scope x) (he : PE X e (tE G C m)) (hf : X.fn x = true ∨ X.env.scope.names.lookup x = some .local := by first | exact .inl rfl | exact .inr rfl | assumption) :
    PS X (.AugAssign (.Name x pos') (opOf o) e pos) (tS G C (.aug i o m)) := by
  have main : ∀ (f : Int → Int → Int), PIp X (opOf o) (ipI f) → (∀ base ρ mh ρ' mh' fl, ex C base (.aug i o m) ρ mh = some (fl, ρ', mh') → ∃ a b, ρ[i]? = some (some (.int a)) ∧ ev C base m ρ mh = some (.int b, mh') ∧ fl = .nx ∧ ρ' = ρ.set i (some (.int (f a b)))) → PS X (.AugAssign (.Name x pos') (opOf o) e pos) (tS G C (.aug i o m)) := fun f hip hex =>
    (ps_aug hN hi hx he hip hf).mono fun D σ H h => by
      obtain ⟨A, ρ, fl, ρ', mh', rfl, S, N, e, q⟩ := h
      obtain ⟨a, b, e1, e2, rfl, rfl⟩ := hex _ _ _ _ _ _ e
      obtain ⟨y, h1, h2⟩ := N.2 i _ e1
      refine ⟨y, h1, tE.go S N e2 fun B z k em SB NB r => ⟨a, b, h2.int_, r.int_, q B k em SB _ (NB.set (rep_int _) i)⟩⟩
  rcases ho with rfl | rfl
  · refine main (fun a b => a + b) ip_add fun base ρ mh ρ' mh' fl e => ?_
    simp only [ex] at e
    split at e
    · rename_i a ha
      split at e
      · rename_i b mh1 hb
        cases e
        exact ⟨a, b, ha, hb, rfl, rfl⟩
      · cases e
    · cases e
  · refine main (fun a b => a - b) ip_sub fun base ρ mh ρ' mh' fl e => ?_
    simp only [ex] at e
    split at e
    · rename_i a ha
      split at e
      · rename_i b mh1 hb
        cases e
        exact ⟨a, b, ha, hb, rfl, rfl⟩
      · cases e
    · cases e
end
end L2.Mi

set_option Elab.async false
set_option linter.all false
set_option maxRecDepth 100000
set_option maxHeartbeats 4000000
/-! Mini11: a call's entry and exit; all defs of a table. -/
namespace L2.Mi
open PySem PySem.Spec PyProof.Rows

/-! ### worlds that hold less -/
structure Les (A B : Wd) (n : Nat) : Prop where
  H : B.H = A.H
  β : ∀ (l : Nat) (a : Addr), l < n → A.β[l]? = some a → B.β[l]? = some a
  liv : ∀ a, B.live a → A.live a
  ex : ∀ a ∈ B.ex, a ∈ A.ex
mutual
theorem Rep.les {G : Gb} {A B : Wd} {n : Nat} (h : Les A B n) : ∀ (x : MV) (v : V), bd n x = true → Rep G A x v → Rep G B x v
  | .non, v, _, r => r
  | .bl b, v, _, r => r
  | .int i, v, _, r => r
  | .str s, v, _, r => r
  | .fn f, v, _, r => r
  | .tup xs, v, d, r => by
    unfold Rep at r ⊢
    unfold bd at d
    obtain ⟨a, vs, e, h1, h2⟩ := r
    exact ⟨a, vs, e, by rw [h.H]; exact h1, Reps.les h xs vs d h2⟩
  | .lst xs, v, d, r => by
    unfold Rep at r ⊢
    unfold bd at d
    obtain ⟨a, vs, e, h1, h2, h3⟩ := r
    exact ⟨a, vs, e, by rw [h.H]; exact h1, ⟨fun z => h2.1 (h.liv a z), fun z => h2.2 (h.ex a z)⟩, Reps.les h xs vs d h3⟩
  | .dct ks ms, v, d, r => by
    unfold Rep at r ⊢
    unfold bd at d
    obtain ⟨a, vs, e, h1, h2, h3, h4⟩ := r
    exact ⟨a, vs, e, by rw [h.H]; exact h1, ⟨fun z => h2.1 (h.liv a z), fun z => h2.2 (h.ex a z)⟩, h3, Reps.les h ms vs d h4⟩
  | .loc l, v, d, r => by
    unfold Rep at r ⊢
    unfold bd at d
    obtain ⟨a, e, h1⟩ := r
    exact ⟨a, e, h.β l a (of_decide_eq_true d) h1⟩
  | .scr ns, v, _, r => by
    unfold Rep at r ⊢
    obtain ⟨a, e, h1⟩ := r
    refine ⟨a, e, ?_⟩
    rcases h1 with ⟨h1, h2⟩ | h1
    · exact .inl ⟨by rw [h.H]; exact h1, fun z => h2.1 (h.liv a z), fun z => h2.2 (h.ex a z)⟩
    · exact .inr h1
theorem Reps.les {G : Gb} {A B : Wd} {n : Nat} (h : Les A B n) : ∀ (xs : List MV) (vs : List V), bds n xs = true → Reps G A xs vs → Reps G B xs vs
  | [], vs, _, r => r
  | x :: xs, vs, d, r => by
    unfold Reps at r ⊢
    unfold bds at d
    rw [Bool.and_eq_true] at d
    obtain ⟨v, t, e, h1, h2⟩ := r
    exact ⟨v, t, e, Rep.les h x v d.1 h1, Reps.les h xs t d.2 h2⟩
end
theorem ORep.les {G : Gb} {A B : Wd} {n : Nat} (h : Les A B n) {o : MO} {a : Addr} (d : obd n o = true) (r : ORep G A o a) : ORep G B o a := by
  cases o with
  | lst xs => obtain ⟨vs, q, r⟩ := r; exact ⟨vs, by rw [h.H]; exact q, Reps.les h _ _ d r⟩
  | dct ks ms => obtain ⟨vs, q, l, r⟩ := r; exact ⟨vs, by rw [h.H]; exact q, l, Reps.les h _ _ d r⟩
mutual
theorem Rep.bd {G : Gb} {A : Wd} : ∀ (x : MV) (v : V), Rep G A x v → bd A.β.length x = true
  | .non, v, r => rfl
  | .bl b, v, r => rfl
  | .int i, v, r => rfl
  | .str s, v, r => rfl
  | .fn f, v, r => rfl
  | .scr ns, v, r => rfl
  | .tup xs, v, r => by
    unfold Rep at r
    unfold Mi.bd
    obtain ⟨a, vs, e, h1, h2⟩ := r
    exact Reps.bd xs vs h2
  | .lst xs, v, r => by
    unfold Rep at r
    unfold Mi.bd
    obtain ⟨a, vs, e, h1, h2, h3⟩ := r
    exact Reps.bd xs vs h3
  | .dct ks ms, v, r => by
    unfold Rep at r
    unfold Mi.bd
    obtain ⟨a, vs, e, h1, h2, h3, h4⟩ := r
    exact Reps.bd ms vs h4
  | .loc l, v, r => by
    unfold Rep at r
    unfold Mi.bd
    obtain ⟨a, e, h1⟩ := r
    exact decide_eq_true (List.getElem?_eq_some_iff.mp h1).1
theorem Reps.bd {G : Gb} {A : Wd} : ∀ (xs : List MV) (vs : List V), Reps G A xs vs → bds A.β.length xs = true
  | [], vs, r => rfl
  | x :: xs, vs, r => by
    unfold Reps at r
    unfold bds
    obtain ⟨v, t, e, h1, h2⟩ := r
    rw [Rep.bd x v h1, Reps.bd xs t h2]
    rfl
end
theorem ORep.bd {G : Gb} {A : Wd} {o : MO} {a : Addr} (r : ORep G A o a) : obd A.β.length o = true := by
  cases o with
  | lst xs => obtain ⟨vs, q, r⟩ := r; exact Reps.bd _ _ r
  | dct ks ms => obtain ⟨vs, q, l, r⟩ := r; exact Reps.bd _ _ r
/-! ### entry -/
abbrev Wd.ent (A : Wd) : Wd := { A with bs := A.mh.length :: A.bs }
theorem les_ent {A : Wd} (n : Nat) : Les A A.ent n := ⟨rfl, fun _ _ _ h => h, fun _ h => h, fun _ h => h⟩
theorem Sim.ent {G : Gb} {A : Wd} (S : Sim G A) : Sim G A.ent where
  len := S.len
  ble := fun b hb => by
    rcases List.mem_cons.mp hb with rfl | hb
    · exact Nat.le_refl _
    · exact S.ble b hb
  top := fun b hb => by
    show b ≤ A.mh.length
    rcases List.mem_cons.mp hb with rfl | hb
    · exact Nat.le_refl _
    · exact S.ble b hb
  obj := fun l o e a q => (S.obj l o e a q).les (les_ent A.β.length) (S.obj l o e a q).bd
  inj := S.inj
  exo := S.exo
  exl := S.exl
  bnd := fun b hb l o hl e => by
    rcases List.mem_cons.mp hb with rfl | hb
    · have hl' : l < A.β.length := by rw [S.len]; exact hl
      have := (S.obj l o e A.β[l] (List.getElem?_eq_getElem hl')).bd
      rw [S.len] at this
      exact this
    · exact S.bnd b hb l o hl e
theorem envs_start {G : Gb} {A : Wd} {args : List MV} {vs : List V} {N : List Str} {ns : Nat} (hN : N.length = ns) (r : Reps G A args vs) : Envs G A (args.map some ++ List.replicate (ns - args.length) none) (L2.start N vs) := by
  have hl := r.len
  refine ⟨by unfold L2.start; simp [hl, hN], fun i v e => ?_⟩
  by_cases hi : i < args.length
  · rw [List.getElem?_append_left (by simpa using hi)] at e
    rw [List.getElem?_map] at e
    cases q : args[i]? with
    | none => rw [q] at e; cases e
    | some x =>
      rw [q] at e
      cases e
      obtain ⟨w, h1, h2⟩ := r.get q
      refine ⟨w, ?_, h2⟩
      unfold L2.start
      rw [List.getElem?_append_left (by rw [List.length_map, ← hl]; exact hi), List.getElem?_map, h1]
      rfl
  · rw [List.getElem?_append_right (by simpa using hi)] at e
    rw [List.getElem?_replicate] at e
    split at e
    · cases e
    · cases e
/-! ### exit -/
abbrev Wd.exi (A B : Wd) : Wd := { B with bs := A.bs }
theorem les_exi {A B : Wd} (n : Nat) : Les B (A.exi B) n := ⟨rfl, fun _ _ _ h => h, fun _ h => h, fun _ h => h⟩
theorem keep_exi {A B : Wd} (k : Keep A.ent B) : Keep A (A.exi B) := ⟨k.ex, k.exn, k.dom, rfl, k.pre, k.obj, k.liv⟩
theorem Sim.exi {G : Gb} {A B : Wd} (SA : Sim G A) (S : Sim G B) (k : Keep A.ent B) : Sim G (A.exi B) where
  len := S.len
  ble := fun b hb => S.ble b (by rw [k.bs]; exact List.mem_cons_of_mem _ hb)
  top := fun b hb => SA.top b hb
  obj := fun l o e a q => (S.obj l o e a q).les (les_exi B.β.length) (S.obj l o e a q).bd
  inj := S.inj
  exo := S.exo
  exl := S.exl
  bnd := fun b hb => S.bnd b (by rw [k.bs]; exact List.mem_cons_of_mem _ hb)
abbrev Wd.cutd (A B : Wd) : Wd := { B with bs := A.bs, mh := B.mh.take A.mh.length, β := B.β.take A.mh.length }
theorem take_lt {α : Type} {xs : List α} {n l : Nat} {x : α} (h : (xs.take n)[l]? = some x) : l < n ∧ xs[l]? = some x := by
  rw [List.getElem?_take] at h
  split at h
  · exact ⟨by assumption, h⟩
  · cases h
theorem cutd_live {A B : Wd} {a : Addr} (h : (A.cutd B).live a) : ∃ (l : Nat) (o : MO), l < A.mh.length ∧ B.mh[l]? = some (some o) ∧ B.β[l]? = some a := by
  obtain ⟨l, o, e1, e2⟩ := h
  obtain ⟨h1, h2⟩ := take_lt e1
  obtain ⟨_, h3⟩ := take_lt e2
  exact ⟨l, o, h1, h2, h3⟩
theorem les_cutd {A B : Wd} : Les B (A.cutd B) A.mh.length := ⟨rfl, fun l a hl h => by
    show (B.β.take A.mh.length)[l]? = some a
    rw [List.getElem?_take, if_pos hl]; exact h, fun a z => let ⟨l, o, _, h2, h3⟩ := cutd_live z; ⟨l, o, h2, h3⟩, fun _ h => h⟩
theorem keep_cutd {G : Gb} {A B : Wd} (SA : Sim G A) (S : Sim G B) (k : Keep A.ent B) : Keep A (A.cutd B) := by
  refine ⟨k.ex, k.exn, k.dom, rfl, ⟨[], ?_⟩, k.obj, fun a z => ?_⟩
  · obtain ⟨t, e⟩ := k.pre
    show B.β.take A.mh.length = A.β ++ []
    have e' : B.β = A.β ++ t := e
    rw [e', ← SA.len, List.take_left', List.append_nil]
    rfl
  · obtain ⟨l, o, _, h2, h3⟩ := cutd_live z
    exact k.liv a ⟨l, o, h2, h3⟩
theorem ent_len {G : Gb} {A B : Wd} (S : Sim G B) (k : Keep A.ent B) : A.mh.length ≤ B.mh.length := S.ble _ (by rw [k.bs]; simp)
theorem Sim.cutd {G : Gb} {A B : Wd} (SA : Sim G A) (S : Sim G B) (k : Keep A.ent B) : Sim G (A.cutd B) where
  len := by
    show (B.β.take A.mh.length).length = (B.mh.take A.mh.length).length
    rw [List.length_take, List.length_take, S.len]
  ble := fun b hb => by
    show b ≤ (B.mh.take A.mh.length).length
    rw [List.length_take]
    have h1 := ent_len S k
    have h2 := SA.ble b hb
    omega
  top := fun b hb => SA.top b hb
  obj := fun l o e a q => by
    obtain ⟨h1, h2⟩ := take_lt e
    obtain ⟨_, h3⟩ := take_lt q
    exact (S.obj l o h2 a h3).les les_cutd (S.bnd _ (by rw [k.bs]; simp) l o h1 h2)
  inj := fun l l' a o o' e1 e2 q1 q2 => S.inj l l' a o o' (take_lt e1).2 (take_lt e2).2 (take_lt q1).2 (take_lt q2).2
  exo := S.exo
  exl := fun a ha z => S.exl a ha (by obtain ⟨l, o, _, h2, h3⟩ := cutd_live z; exact ⟨l, o, h2, h3⟩)
  bnd := fun b hb l o hl e => S.bnd b (by rw [k.bs]; exact List.mem_cons_of_mem _ hb) l o hl (take_lt e).2
section
variable {G : Gb} {A B : Wd}
mutual
theorem frz_rep (SA : Sim G A) (S : Sim G B) : ∀ (k : Nat) (x x' : MV) (v : V), frz A.mh.length B.mh k x = some x' → Rep G B x v → Rep G (A.cutd B) x' v
  | k, .non, x', v, e, r => by unfold frz at e; cases e; exact r
  | k, .bl b, x', v, e, r => by unfold frz at e; cases e; exact r
  | k, .int i, x', v, e, r => by unfold frz at e; cases e; exact r
  | k, .str s, x', v, e, r => by unfold frz at e; cases e; exact r
  | k, .fn f, x', v, e, r => by unfold frz at e; cases e; exact r
  | k, .scr ns, x', v, e, r => by unfold frz at e; cases e; exact Rep.les les_cutd _ _ rfl r
  | k, .tup xs, x', v, e, r => by
    unfold frz at e
    cases q : frzs A.mh.length B.mh k xs with
    | none => rw [q] at e; exact nomatch e
    | some ys =>
      rw [q] at e; cases e
      unfold Rep at r ⊢
      obtain ⟨a, vs, e1, h1, h2⟩ := r
      exact ⟨a, vs, e1, h1, frzs_rep SA S k xs ys vs q h2⟩
  | k, .lst xs, x', v, e, r => by
    unfold frz at e
    cases q : frzs A.mh.length B.mh k xs with
    | none => rw [q] at e; exact nomatch e
    | some ys =>
      rw [q] at e; cases e
      unfold Rep at r ⊢
      obtain ⟨a, vs, e1, h1, h2, h3⟩ := r
      exact ⟨a, vs, e1, h1, ⟨fun z => h2.1 (les_cutd.liv a z), h2.2⟩, frzs_rep SA S k xs ys vs q h3⟩
  | k, .dct ks ms, x', v, e, r => by
    unfold frz at e
    cases q : frzs A.mh.length B.mh k ms with
    | none => rw [q] at e; exact nomatch e
    | some ys =>
      rw [q] at e; cases e
      unfold Rep at r ⊢
      obtain ⟨a, vs, e1, h1, h2, h3, h4⟩ := r
      have r' := frzs_rep SA S k ms ys vs q h4
      exact ⟨a, vs, e1, h1, ⟨fun z => h2.1 (les_cutd.liv a z), h2.2⟩, by rw [h3, h4.len, r'.len], r'⟩
  | 0, .loc l, x', v, e, r => by
    unfold frz at e
    split at e
    · rename_i hl
      cases e
      exact Rep.les les_cutd _ _ (by unfold Mi.bd; exact decide_eq_true hl) r
    · simp at e
  | k + 1, .loc l, x', v, e, r => by
    unfold frz at e
    split at e
    · rename_i hl
      cases e
      exact Rep.les les_cutd _ _ (by unfold Mi.bd; exact decide_eq_true hl) r
    · rename_i hl
      obtain ⟨a, rfl, e2⟩ := r.loc_
      have off : ∀ {o}, B.mh[l]? = some (some o) → ¬ (A.cutd B).live a ∧ a ∉ (A.cutd B).ex := fun {o} ho => by
        refine ⟨fun z => ?_, fun z => S.exl a z ⟨l, o, ho, e2⟩⟩
        obtain ⟨l', o', h1, h2, h3⟩ := cutd_live z
        have := S.inj l' l a o' o h2 ho h3 e2
        omega
      simp only at e
      split at e
      · rename_i xs ho
        cases q : frzs A.mh.length B.mh k xs with
        | none => rw [q] at e; exact nomatch e
        | some ys =>
          rw [q] at e; cases e
          obtain ⟨vs, e3, r3⟩ := S.obj l _ ho a e2
          unfold Rep
          exact ⟨a, vs, rfl, e3, off ho, frzs_rep SA S k xs ys vs q r3⟩
      · rename_i ks ms ho
        cases q : frzs A.mh.length B.mh k ms with
        | none => rw [q] at e; exact nomatch e
        | some ys =>
          rw [q] at e; cases e
          obtain ⟨vs, e3, hl', r3⟩ := S.obj l _ ho a e2
          have r' := frzs_rep SA S k ms ys vs q r3
          unfold Rep
          exact ⟨a, vs, rfl, e3, off ho, by rw [hl', r3.len, r'.len], r'⟩
      · exact nomatch e
  termination_by k x => (k, sizeOf x)
theorem frzs_rep (SA : Sim G A) (S : Sim G B) : ∀ (k : Nat) (xs ys : List MV) (vs : List V), frzs A.mh.length B.mh k xs = some ys → Reps G B xs vs → Reps G (A.cutd B) ys vs
  | k, [], ys, vs, e, r => by unfold frzs at e; cases e; exact r
  | k, x :: xs, ys, vs, e, r => by
    unfold frzs at e
    unfold Reps at r
    obtain ⟨v, t, rfl, h1, h2⟩ := r
    cases q : frz A.mh.length B.mh k x with
    | none => rw [q] at e; exact nomatch e
    | some y =>
      rw [q] at e
      simp only at e
      cases q2 : frzs A.mh.length B.mh k xs with
      | none => rw [q2] at e; exact nomatch e
      | some ys' =>
        rw [q2] at e; cases e
        unfold Reps
        exact ⟨v, t, rfl, frz_rep SA S k x y v q h1, frzs_rep SA S k xs ys' t q2 h2⟩
  termination_by k xs => (k, sizeOf xs)
end
end
/-- the body of a def keeps the word of runD -/
theorem run_ok {G : Gb} {C : CallF} {d : Df} {N : List Str} {vs : List V} {Q : VK} {A : Wd} {args : List MV} {r : MV} {mh' : MHp} (hN : N.length = d.ns) (S : Sim G A) (ra : Reps G A args vs) (e : runD C d args A.mh = some (r, mh')) (q : Post G A mh' r Q) :
    args.length = d.np ∧ tSs G C d.body { nx := fun _ H' => Q .non H', rt := Q } (L2.start N vs) A.H := by
  unfold runD at e
  split at e
  · rename_i hl
    refine ⟨hl, ?_⟩
    split at e
    · cases e
    rename_i fl ρ' mh1 e1
    split at e
    · cases e
    rename_i v e2
    have SE := S.ent
    refine ⟨A.ent, _, fl, ρ', mh1, rfl, SE, (envs_start hN (Reps.les (les_ent A.β.length) _ _ ra.bd ra) : Envs G A.ent (args.map some ++ List.replicate (d.ns - args.length) none) _), ?_, fun B k em SB => ?_⟩
    · rw [hl]; exact e1
    have fin : ∀ x, Rep G B v x → Q x B.H := fun x rx => by
      split at e
      · cases e
        exact q (A.exi B) x (keep_exi k) em (S.exi SB k) (Rep.les (les_exi B.β.length) _ _ rx.bd rx)
      · simp only [Option.map_eq_some_iff] at e
        obtain ⟨w, e3, e4⟩ := e
        cases e4
        refine q (A.cutd B) x (keep_cutd S SB k) ?_ (S.cutd SB k) ?_
        · show B.mh.take _ = _; rw [em]
        · exact frz_rep S SB 8 v _ x (by rw [em]; exact e3) rx
    cases fl with
    | nx =>
      cases e2
      exact fun σ _ => fin .non rep_non
    | rt w =>
      cases e2
      exact fin
    | bk => cases e2
    | ct => cases e2
  · cases e
theorem _root_.L2.PSs.noxM {X : Cx} {sts : List Stmt} {t : TS} (h : PSs X.nox sts t) : PSs X.nox sts t := h
/-! ### the table -/
structure DefOk (P : Program) (w : World) (K : PySem.W.Frag) (mg : Str → Option Value) (base : Heap) (G : Gb) (T : List Df) (f : Nat) (a : Addr) : Prop where
  ex : ∃ (d : Df) (x qual : Str) (st : Stmt) (fd : FuncData) (N ps : List Str), T[f]? = some d ∧ FunD K x qual (defArgs st) (defBody st) (defScope st) [] [] a fd ∧ FnScope N ps (defScope st) ∧ N.length = d.ns ∧ ps.length = d.np ∧ Binds K fd ps [] ∧
    ∀ (k : Nat) (C : CallF) (cdv : Value) (A : Around) (outer : List PySem.Env) (s : Shared) (H : Hp) (E : XK), (∀ f a, G.fa f = some a → FnC P w K mg base G C k f a) → Room k (A.deeper (envOfC qual (defScope st) s.heap.objs.size a cdv)) →
      PSs (cxOf CX0 P w K mg base N qual (defScope st) a cdv A outer s H E).nox (defBody st) (tSs G C d.body)
theorem fnC_of {P : Program} {w : World} {K : PySem.W.Frag} {mg : Str → Option Value} {base : Heap} {G : Gb} {T : List Df} (h : ∀ f a, G.fa f = some a → DefOk P w K mg base G T f a) : ∀ k f a, G.fa f = some a → FnC P w K mg base G (callM T k) k f a := by
  intro k
  induction k with
  | zero =>
    intro f a hf
    obtain ⟨d, x, qual, st, fd, N, ps, hd, F, S, hN, hp, hb, hbody⟩ := (h f a hf).ex
    refine ⟨fd, ps, ⟨fun vs H Q E q => q.1, fun A outer s H args us vs Q E _ _ _ _ q => ?_⟩, F.kp, hb, fun args mh r e => ?_⟩
    · obtain ⟨_, A, args, r, mh', _, _, _, e, _⟩ := q
      unfold callM at e
      cases e
    · unfold callM at e
      cases e
  | succ k ih =>
    intro f a hf
    obtain ⟨d, x, qual, st, fd, N, ps, hd, F, S, hN, hp, hb, hbody⟩ := (h f a hf).ex
    refine ⟨fd, ps, F.ok S (fun vs H Q E q => q.1) (fun cdv A outer s H vs Q E hr q => ⟨_, (hbody k (callM T k) cdv A outer s H E ih hr).nox, ?_⟩), F.kp, hb, fun args mh r e => ?_⟩
    · obtain ⟨hl, W, args, r, mh', rfl, SW, ra, e, q⟩ := q
      unfold callM at e
      rw [hd] at e
      exact (run_ok hN SW ra e q).2
    · unfold callM at e
      rw [hd] at e
      simp only [runD] at e
      split at e
      · rename_i hl; rw [hl, hp]
      · cases e
end L2.Mi

set_option Elab.async false
set_option linter.all false
set_option maxRecDepth 100000
set_option maxHeartbeats 4000000
/-! Mini12: short words for printed derivations. -/
namespace L2.Mi
open PySem PySem.Spec PyProof.Rows

theorem bt_len : bootBuiltins "len" = some (.builtin "len") := by decide +kernel
theorem bt_abs : bootBuiltins "abs" = some (.builtin "abs") := by decide +kernel
theorem bt_all : bootBuiltins "all" = some (.builtin "all") := by decide +kernel
theorem bt_any : bootBuiltins "any" = some (.builtin "any") := by decide +kernel
theorem bt_sum : bootBuiltins "sum" = some (.builtin "sum") := by decide +kernel
theorem bt_max : bootBuiltins "max" = some (.builtin "max") := by decide +kernel
theorem bt_min : bootBuiltins "min" = some (.builtin "min") := by decide +kernel
theorem bt_isinstance : bootBuiltins "isinstance" = some (.builtin "isinstance") := by decide +kernel
theorem bt_int : bootBuiltins "int" = some (.type "int") := by decide +kernel
theorem bt_str : bootBuiltins "str" = some (.type "str") := by decide +kernel
theorem bt_bool : bootBuiltins "bool" = some (.type "bool") := by decide +kernel
theorem bt_tuple : bootBuiltins "tuple" = some (.type "tuple") := by decide +kernel
theorem bt_list : bootBuiltins "list" = some (.type "list") := by decide +kernel
theorem bt_dict : bootBuiltins "dict" = some (.type "dict") := by decide +kernel
section
variable {G : Gb} {C : CallF} {X : Cx} {pos p : Pos} {e a b c : Expr} {ma mb mc m : ME} {k : Nat}
/-- the i-th name -/
theorem sv (i : Nat) {x : Str} (hN : X.N[i]? = some x := by rfl) (hv : Vis X.env.scope x := by first | exact Or.inl rfl | exact Or.inr (Or.inl rfl) | exact Or.inr (Or.inr rfl)) (hd : (x == ("__debug__" : Str)) = false := by decide)
    (hcd : (x == ("__classdict__" : Str)) = false := by decide) : PE X (.Name x pos) (tE G C (.var i)) := se_var hN hv hd hcd
theorem sgl {x : Str} {i : Int} (hm : ∃ t, X.mg x = some (.int i t)) (hg : Gl X x := by rfl) (hd : (x == ("__debug__" : Str)) = false := by decide) : PE X (.Name x pos) (tE G C (.c (.int i))) := by
  obtain ⟨t, h⟩ := hm
  exact se_glob hg h hd
theorem sfn {x : Str} (f : Nat) {a : Addr} (hm : X.mg x = some (.ref a)) (hf : G.fa f = some a := by rfl) (hg : Gl X x := by rfl) (hd : (x == ("__debug__" : Str)) = false := by decide) : PE X (.Name x pos) (tE G C (.c (.fn f))) := se_fn hg hm hf hd
theorem scall {x : Str} (f : Nat) {fa : Addr} {es : List Expr} {ms : List ME} (F : ∀ f a, G.fa f = some a → FnC X.prog X.w X.K X.mg X.base G C k f a) (hr : Room k X.A) (hm : X.mg x = some (.ref fa)) (ha : PA X (e :: es) (tEs G C ms)) (hf : G.fa f = some fa := by rfl) (hg : Gl X x := by rfl)
    (hdb : (x == ("__debug__" : Str)) = false := by decide) (he : starEach (e :: es) X.env = (false, eval e X.env) :: starEach es X.env := by rfl) (hpl : (backTo pos (starEach es X.env)).any (·.1) = false := by rfl) :
    PE X (.Call (.Name x p) (e :: es) [] pos) (tE G C (.call f ms)) := se_call (F f fa hf) hr hg hm ha hdb he hpl
theorem scallv {x : Str} (i : Nat) {es : List Expr} {ms : List ME} (F : ∀ f fa, G.fa f = some fa → FnC X.prog X.w X.K X.mg X.base G C k f fa) (hr : Room k X.A) (ha : PA X (e :: es) (tEs G C ms)) (hN : X.N[i]? = some x := by rfl) (hv : Vis X.env.scope x := by first | exact Or.inl rfl | exact Or.inr (Or.inl rfl) | exact Or.inr (Or.inr rfl))
    (hdb : (x == ("__debug__" : Str)) = false := by decide) (hcd : (x == ("__classdict__" : Str)) = false := by decide) (he : starEach (e :: es) X.env = (false, eval e X.env) :: starEach es X.env := by rfl) (hpl : (backTo pos (starEach es X.env)).any (·.1) = false := by rfl) :
    PE X (.Call (.Name x p) (e :: es) [] pos) (tE G C (.callv i ms)) := se_callv F hr hN hv ha hdb hcd he hpl
theorem sgn (i : Nat) {x : Str} (hN : X.N.Nodup) (hi : X.N[i]? = some x := by rfl) (hx : Loc X.env.scope x := by first | exact Or.inl rfl | exact Or.inr rfl) (hf : X.fn x = true ∨ X.env.scope.names.lookup x = some .local := by first | exact .inl rfl | exact .inr rfl) : PG X (.Name x pos) (tG G (.nm i)) := sg_name hN hi hx hf
theorem sset (i : Nat) {x : Str} {pos' : Pos} (hN : X.N.Nodup) (he : PE X e (tE G C m)) (hi : X.N[i]? = some x := by rfl) (hx : Loc X.env.scope x := by first | exact Or.inl rfl | exact Or.inr rfl) (hs : swapsWith e (some (.Name x pos')) pos.line X.env = pure false := by rfl) (hf : X.fn x = true ∨ X.env.scope.names.lookup x = some .local := by first | exact .inl rfl | exact .inr rfl) :
    PS X (.Assign [.Name x pos'] e pos) (tS G C (.set (.nm i) m)) := ss_set hN hi hx he hs hf
theorem spar (i j : Nat) {x y : Str} {px py pt : Pos} {kt k2 pt2} (hN : X.N.Nodup) (ha : PE X a (tE G C ma)) (hb : PE X b (tE G C mb)) (hw : swappedStores [.Tuple [.Name x px, .Name y py] kt pt] (.Tuple [a, b] k2 pt2) X.env = pure (some [x, y]))
    (hc : X.calm = true := by rfl) (hi : X.N[i]? = some x := by rfl) (hj : X.N[j]? = some y := by rfl) (hij : i ≠ j := by decide)
    (hx : X.env.scope.names.lookup x = some .local := by rfl) (hy : X.env.scope.names.lookup y = some .local := by rfl) 
    (hs : swapsWithSole [.Tuple [.Name x px, .Name y py] kt pt] (.Tuple [a, b] k2 pt2) pos.line X.env = pure false := by rfl)
    (hs1 : starEach [a, b] X.env = (false, eval a X.env) :: starEach [b] X.env := by rfl) (hs2 : starEach [b] X.env = (false, eval b X.env) :: starEach [] X.env := by rfl) :
    PS X (.Assign [.Tuple [.Name x px, .Name y py] kt pt] (.Tuple [a, b] k2 pt2) pos) (tS G C (.par i j ma mb)) := ss_par hc hN hi hj hij hx hy ha hb hw hs hs1 hs2
theorem saug (i : Nat) {x : Str} {o : Op} {pos' : Pos} (ho : o = .add ∨ o = .sub) (hN : X.N.Nodup) (he : PE X e (tE G C m)) (hi : X.N[i]? = some x := by rfl) (hx : Loc X.env.scope x := by first | exact Or.inl rfl | exact Or.inr rfl) (hf : X.fn x = true ∨ X.env.scope.names.lookup x = some .local := by first | exact .inl rfl | exact .inr rfl) :
    PS X (.AugAssign (.Name x pos') (opOf o) e pos) (tS G C (.aug i o m)) := ss_aug ho hN hi hx he hf
/-! built-ins -/
theorem sb_len (hm : X.mg "len" = none) (hK : X.K = G.K) {es : List Expr} {ms : List ME} (ha : PA X (e :: es) (tEs G C ms)) (hg : Gl X "len" := by rfl) (he : starEach (e :: es) X.env = (false, eval e X.env) :: starEach es X.env := by rfl) (hpl : (backTo pos (starEach es X.env)).any (·.1) = false := by rfl) : PE X (.Call (.Name "len" p) (e :: es) [] pos) (tE G C (.bi .len ms)) := se_biB bi_len call_len hK hg hm bt_len ha (by decide) (by decide) he hpl
theorem sb_abs (hm : X.mg "abs" = none) (hK : X.K = G.K) {es : List Expr} {ms : List ME} (ha : PA X (e :: es) (tEs G C ms)) (hg : Gl X "abs" := by rfl) (he : starEach (e :: es) X.env = (false, eval e X.env) :: starEach es X.env := by rfl) (hpl : (backTo pos (starEach es X.env)).any (·.1) = false := by rfl) : PE X (.Call (.Name "abs" p) (e :: es) [] pos) (tE G C (.bi .abs ms)) := se_biB bi_abs call_abs hK hg hm bt_abs ha (by decide) (by decide) he hpl
theorem sb_all (hm : X.mg "all" = none) (hK : X.K = G.K) {es : List Expr} {ms : List ME} (ha : PA X (e :: es) (tEs G C ms)) (hc : X.calm = true := by rfl) (hg : Gl X "all" := by rfl) (he : starEach (e :: es) X.env = (false, eval e X.env) :: starEach es X.env := by rfl) (hpl : (backTo pos (starEach es X.env)).any (·.1) = false := by rfl) : PE X (.Call (.Name "all" p) (e :: es) [] pos) (tE G C (.bi .all ms)) := se_biB bi_all (cr_all hc) hK hg hm bt_all ha (by decide) (by decide) he hpl
theorem sb_any (hm : X.mg "any" = none) (hK : X.K = G.K) {es : List Expr} {ms : List ME} (ha : PA X (e :: es) (tEs G C ms)) (hc : X.calm = true := by rfl) (hg : Gl X "any" := by rfl) (he : starEach (e :: es) X.env = (false, eval e X.env) :: starEach es X.env := by rfl) (hpl : (backTo pos (starEach es X.env)).any (·.1) = false := by rfl) : PE X (.Call (.Name "any" p) (e :: es) [] pos) (tE G C (.bi .any ms)) := se_biB bi_any (cr_any hc) hK hg hm bt_any ha (by decide) (by decide) he hpl
theorem sb_sum (hm : X.mg "sum" = none) (hK : X.K = G.K) {es : List Expr} {ms : List ME} (ha : PA X (e :: es) (tEs G C ms)) (hc : X.calm = true := by rfl) (hg : Gl X "sum" := by rfl) (he : starEach (e :: es) X.env = (false, eval e X.env) :: starEach es X.env := by rfl) (hpl : (backTo pos (starEach es X.env)).any (·.1) = false := by rfl) : PE X (.Call (.Name "sum" p) (e :: es) [] pos) (tE G C (.bi .sum ms)) := se_biB bi_sum (cr_sum hc) hK hg hm bt_sum ha (by decide) (by decide) he hpl
theorem sb_int (hm : X.mg "int" = none) (hK : X.K = G.K) {es : List Expr} {ms : List ME} (ha : PA X (e :: es) (tEs G C ms)) (hg : Gl X "int" := by rfl) (he : starEach (e :: es) X.env = (false, eval e X.env) :: starEach es X.env := by rfl) (hpl : (backTo pos (starEach es X.env)).any (·.1) = false := by rfl) : PE X (.Call (.Name "int" p) (e :: es) [] pos) (tE G C (.bi .int ms)) := se_biT bi_int call_int1 hK hg hm bt_int ha (by decide) (by decide) he hpl
theorem sb_str (hm : X.mg "str" = none) (hK : X.K = G.K) {es : List Expr} {ms : List ME} (ha : PA X (e :: es) (tEs G C ms)) (hg : Gl X "str" := by rfl) (he : starEach (e :: es) X.env = (false, eval e X.env) :: starEach es X.env := by rfl) (hpl : (backTo pos (starEach es X.env)).any (·.1) = false := by rfl) : PE X (.Call (.Name "str" p) (e :: es) [] pos) (tE G C (.bi .strI ms)) := se_biT bi_strI call_str_int hK hg hm bt_str ha (by decide) (by decide) he hpl
theorem sb_tuple (hm : X.mg "tuple" = none) (hK : X.K = G.K) {es : List Expr} {ms : List ME} (ha : PA X (e :: es) (tEs G C ms)) (hg : Gl X "tuple" := by rfl) (he : starEach (e :: es) X.env = (false, eval e X.env) :: starEach es X.env := by rfl) (hpl : (backTo pos (starEach es X.env)).any (·.1) = false := by rfl) : PE X (.Call (.Name "tuple" p) (e :: es) [] pos) (tE G C (.bi .tuple ms)) := se_biT bi_tuple call_tuple_of hK hg hm bt_tuple ha (by decide) (by decide) he hpl
theorem sb_list (hm : X.mg "list" = none) (hK : X.K = G.K) {es : List Expr} {ms : List ME} (ha : PA X (e :: es) (tEs G C ms)) (hc : X.calm = true := by rfl) (hg : Gl X "list" := by rfl) (he : starEach (e :: es) X.env = (false, eval e X.env) :: starEach es X.env := by rfl) (hpl : (backTo pos (starEach es X.env)).any (·.1) = false := by rfl) : PE X (.Call (.Name "list" p) (e :: es) [] pos) (tE G C (.bi .list ms)) := se_biT bi_list (call_lstC hc) hK hg hm bt_list ha (by decide) (by decide) he hpl
theorem sisi (t : Ty) {y : Str} {p2 : Pos} (hm : X.mg "isinstance" = none) (hm2 : X.mg y = none) (hv2 : bootBuiltins y = some (.type (tyN t))) (hK : X.K = G.K) (ha : PE X e (tE G C m)) (hg : Gl X "isinstance" := by rfl) (hg2 : Gl X y := by rfl)
    (hn2 : y ≠ "__name__" := by decide) (hdb2 : (y == ("__debug__" : Str)) = false := by decide)
    (he : starEach [e, .Name y p2] X.env = (false, eval e X.env) :: starEach [.Name y p2] X.env := by rfl) (hpl : (backTo pos (starEach [.Name y p2] X.env)).any (·.1) = false := by rfl) :
    PE X (.Call (.Name "isinstance" p) [e, .Name y p2] [] pos) (tE G C (.isi m t)) := se_isi hK hg hm bt_isinstance hg2 hm2 hv2 ha (by decide) (by decide) hn2 hdb2 he hpl
/-! methods -/
theorem sm_append {apos cpos : Pos} {es : List Expr} {ms : List ME} (hK : X.K = G.K) (ho : PE X a (tE G C m)) (ha : PA X (e :: es) (tEs G C ms)) (hbase : attributeBase a "append" X.env (eval a X.env) = eval a X.env := by rfl)
    (hfew : ((backTo cpos (starEach (e :: es) X.env)).all (fun x => !x.1) && (backToKw cpos (keywordEach [] X.env)).all (fun x => x.1.isSome)
      && decide ((e :: es).length + ([] : List Keyword).length + (if ([] : List Keyword).isEmpty then 0 else 1) < 30)) = true := by rfl)
    (hline : (apos.endLine == cpos.line) = true := by rfl) (hs : starEach (e :: es) X.env = (false, eval e X.env) :: starEach es X.env := by rfl) (hplain : (backTo cpos (starEach es X.env)).any (·.1) = false := by rfl) :
    PE X (.Call (.Attribute a "append" apos) (e :: es) [] cpos) (tE G C (.meth .append m ms)) := se_meth me_append hK PySem.F.plainAttrs_list PySem.F.slot_list_append PySem.F.type_list_append mt_append ho ha hbase hfew hline hs hplain
theorem sm_extend {apos cpos : Pos} {es : List Expr} {ms : List ME} (hK : X.K = G.K) (ho : PE X a (tE G C m)) (ha : PA X (e :: es) (tEs G C ms)) (hbase : attributeBase a "extend" X.env (eval a X.env) = eval a X.env := by rfl)
    (hfew : ((backTo cpos (starEach (e :: es) X.env)).all (fun x => !x.1) && (backToKw cpos (keywordEach [] X.env)).all (fun x => x.1.isSome)
      && decide ((e :: es).length + ([] : List Keyword).length + (if ([] : List Keyword).isEmpty then 0 else 1) < 30)) = true := by rfl)
    (hline : (apos.endLine == cpos.line) = true := by rfl) (hs : starEach (e :: es) X.env = (false, eval e X.env) :: starEach es X.env := by rfl) (hplain : (backTo cpos (starEach es X.env)).any (·.1) = false := by rfl) :
    PE X (.Call (.Attribute a "extend" apos) (e :: es) [] cpos) (tE G C (.meth .extend m ms)) := se_meth me_extend hK PySem.F.plainAttrs_list PySem.F.slot_list_extend PySem.F.type_list_extend mt_extB ho ha hbase hfew hline hs hplain
theorem sm_pop0 {apos cpos : Pos} (hK : X.K = G.K) (ho : PE X a (tE G C m)) (hbase : attributeBase a "pop" X.env (eval a X.env) = eval a X.env := by rfl) (hline : (apos.endLine == cpos.line) = true := by rfl) :
    PE X (.Call (.Attribute a "pop" apos) [] [] cpos) (tE G C (.meth .pop m [])) := se_meth0 me_pop hK PySem.F.plainAttrs_list PySem.F.slot_list_pop PySem.F.type_list_pop mt_pop ho hbase hline
theorem sm_pop1 {apos cpos : Pos} {es : List Expr} {ms : List ME} (hK : X.K = G.K) (ho : PE X a (tE G C m)) (ha : PA X (e :: es) (tEs G C ms)) (hbase : attributeBase a "pop" X.env (eval a X.env) = eval a X.env := by rfl)
    (hfew : ((backTo cpos (starEach (e :: es) X.env)).all (fun x => !x.1) && (backToKw cpos (keywordEach [] X.env)).all (fun x => x.1.isSome)
      && decide ((e :: es).length + ([] : List Keyword).length + (if ([] : List Keyword).isEmpty then 0 else 1) < 30)) = true := by rfl)
    (hline : (apos.endLine == cpos.line) = true := by rfl) (hs : starEach (e :: es) X.env = (false, eval e X.env) :: starEach es X.env := by rfl) (hplain : (backTo cpos (starEach es X.env)).any (·.1) = false := by rfl) :
    PE X (.Call (.Attribute a "pop" apos) (e :: es) [] cpos) (tE G C (.meth .popAt m ms)) := se_meth me_popAt hK PySem.F.plainAttrs_list PySem.F.slot_list_pop PySem.F.type_list_pop mt_popAt ho ha hbase hfew hline hs hplain
theorem sm_upper {apos cpos : Pos} (hK : X.K = G.K) (ho : PE X a (tE G C m)) (hbase : attributeBase a "upper" X.env (eval a X.env) = eval a X.env := by rfl) (hline : (apos.endLine == cpos.line) = true := by rfl) :
    PE X (.Call (.Attribute a "upper" apos) [] [] cpos) (tE G C (.meth .upper m [])) := se_meth0 me_upper hK PySem.F.plainAttrs_str PySem.F.slot_str_upper PySem.F.type_str_upper mt_upper ho hbase hline
end
end L2.Mi

set_option Elab.async false
set_option linter.all false
set_option maxRecDepth 100000
set_option maxHeartbeats 4000000
/-! Mini13: t[::-1] of a tuple. -/
namespace L2.Mi
open PySem PySem.Spec PyProof.Rows
section
variable {prog : Program} {w : World} {A : Around} {E : Value → Shared → Prop} {s : Shared}
theorem adjust_back (n : Nat) : Builtin.Slice.sliceAdjust none none (-1) (n : Int) = ((n : Int) - 1, -1) := by
  unfold Builtin.Slice.sliceAdjust
  simp
theorem places_back (n : Nat) : Builtin.Slice.slicePlaces ((n : Int) - 1) (-1) (-1) = n := by
  unfold Builtin.Slice.slicePlaces
  simp
  omega
theorem applied_back {sl : Addr} {vk : Value} {n : Nat} {Q : Int × Int × Nat → Shared → Prop} (hs : s.heap.IsSliceOf sl .none .none vk) (pk : IsPart vk (some (-1))) (h : Q ((n : Int) - 1, -1, n) s) :
    wpAny (model prog w) A (Builtin.Slice.sliceApplied (.ref sl) (pure (n : Int))) Q E s := by
  obtain ⟨os, hos, hcs, hds⟩ := id hs
  unfold Builtin.Slice.sliceApplied Builtin.Slice.sliceFields
  refine wpAny_bind (wpAny_bind (wpAny_field hos hds (x := .none) rfl (wpAny_bind (wpAny_field hos hds (x := .none) rfl (wpAny_bind (wpAny_field hos hds (x := vk) rfl (wpAny_pure ?_)))))))
  refine wpAny_bind (HT.slicePart_ pk ?_)
  show wpAny _ _ (if ((-1 : Int) == 0) = true then _ else _) _ _ s
  rw [if_neg (by decide)]
  refine wpAny_bind (HT.slicePart_ .none (wpAny_bind (HT.slicePart_ .none (wpAny_bind (wpAny_pure ?_)))))
  show wpAny _ _ (match Builtin.Slice.sliceAdjust none none (-1) (n : Int) with | (lo, hi) => pure (lo, (-1 : Int), Builtin.Slice.slicePlaces lo hi (-1))) _ _ s
  rw [adjust_back n]
  show wpAny _ _ (pure ((n : Int) - 1, (-1 : Int), Builtin.Slice.slicePlaces ((n : Int) - 1) (-1) (-1))) _ _ s
  rw [places_back]
  exact wpAny_pure h
theorem pick_back (xs : Array Value) : ((List.range xs.size).filterMap fun (m : Nat) => xs[(((xs.size : Int) - 1) + (m : Int) * (-1)).toNat]?).toArray = xs.toList.reverse.toArray := by
  have cong : ∀ {l : List Nat} {f g : Nat → Option Value}, (∀ m ∈ l, f m = g m) → l.filterMap f = l.filterMap g := fun {l f g} h => by
    induction l with
    | nil => rfl
    | cons a l ih => rw [List.filterMap_cons, List.filterMap_cons, h a (by simp), ih fun m hm => h m (List.mem_cons_of_mem _ hm)]
  have e : ((List.range xs.size).filterMap fun (m : Nat) => xs[(((xs.size : Int) - 1) + (m : Int) * (-1)).toNat]?) = ((List.range xs.size).map fun k => xs.size - 1 - k).filterMap (xs[·]?) := by
    rw [List.filterMap_map]
    refine cong fun m hm => ?_
    have : (((xs.size : Int) - 1) + (m : Int) * (-1)).toNat = xs.size - 1 - m := by
      have := List.mem_range.mp hm
      omega
    rw [this]
    rfl
  rw [e, PySem.W.krv_range, List.filterMap_reverse, PySem.W.krv_all]
theorem getItem_back {t sl : Addr} {items : Array Value} {vk : Value} {Q : Value → Shared → Prop} (ht : IsTup s.heap t items) (hs : s.heap.IsSliceOf sl .none .none vk) (pk : IsPart vk (some (-1)))
    (h : Q (.ref s.heap.objs.size) { s with heap := s.heap.push { cls := .type "tuple", data := .seq items.toList.reverse.toArray } }) (hsz : items.size ≤ sizeLine) : wpAny (model prog w) A (getItem (.ref t) (.ref sl)) Q E s := by
  have hok : sizeOk (.seq items.toList.reverse.toArray) := by
    show items.toList.reverse.toArray.size ≤ sizeLine
    rw [List.size_toArray, List.length_reverse, Array.length_toList]
    exact hsz
  obtain ⟨os, hos, hcs, hds⟩ := id hs
  have hTs : s.TypeIs (.ref sl) "slice" := ⟨os, hos, hcs⟩
  unfold getItem
  try with_reducible refine wpAny_holding ?_
  first | refine wpAny_bind (wpAny_pure ?_) | skip
  refine wpAny_bind (wpAny_sequenceKey ht.typeIs (by decide) ?_)
  refine wpAny_bind (wpAny_callSpecial?_slot (name := Str.ofString "__getitem__") ht.typeIs PyProof.Rows.slot_tuple_getitem
    (wpAny_call_entry PyProof.Rows.slot_tuple_getitem ht.typeIs entry_tuple_getitem ?_ (args_tuple_getitem _ _)))
  show wpAny _ _ (Builtin.Tuple.tupleItemsOf (.ref t) >>= _) _ _ s
  refine wpAny_bind (tupleItemsOf_ ht ?_)
  refine wpAny_bind (wpAny_typeOf hTs ?_)
  rw [if_pos (by decide)]
  refine wpAny_bind (applied_back hs pk ?_)
  have hno : ¬ ((((items.size : Int) - 1) == 0 && (-1 : Int) == 1 && items.size == items.size) = true) := by
    have : ((-1 : Int) == 1) = false := by decide
    rw [this]; simp
  show wpAny _ _ (if (((items.size : Int) - 1) == 0 && (-1 : Int) == 1 && items.size == items.size) = true then _ else _) _ _ s
  rw [if_neg hno, pick_back]
  first
    | exact wpAny_bind (m := Builtin.Tuple.tupleExact _) (wpAny_newObj_type (wpAny_pure ⟨_, rfl, wpAny_pure h⟩) hok)
    | exact wpAny_bind (m := Builtin.Tuple.tupleExact _) (wpAny_newObj_type (wpAny_bind (wpAny_pure (wpAny_pure ⟨_, rfl, wpAny_pure h⟩))) hok)
    | exact wpAny_bind (wpAny_bind (m := Builtin.Tuple.tupleExact _) (wpAny_newObj_type (wpAny_pure (wpAny_pure ⟨_, rfl, wpAny_pure h⟩)) hok))
    | exact wpAny_bind (wpAny_bind (m := Builtin.Tuple.tupleExact _) (wpAny_newObj_type (wpAny_pure ⟨_, rfl, wpAny_pure h⟩) hok))
end
section
variable {G : Gb} {C : CallF} {X : Cx} {pos p2 p3 p4 : Pos} {e : Expr} {m : ME} {j}
def tRev (K : PySem.W.Frag) (te : TE) : TE := fun σ H Q => te σ H fun x H1 => ∃ a xs, x = .ref a ∧ SqT K H1 a xs ∧ ∀ p, H1 p = none → Q (.ref p) (upd H1 p (.tup xs.reverse))
theorem pe_rev {te : TE} (he : PE X e te) : PE X (.Subscript e (.Slice none none (some (.UnaryOp .USub (.Constant (.int 1) j p3) p4)) p2) pos) (tRev X.K te) := by
  refine ⟨fun pins s σ H Q I h => ?_⟩
  refine Subscript_ (thn (he.run pins s σ H _ I h) fun v s1 ⟨x, H1, I1, r1, q1⟩ => ?_)
  obtain ⟨a, xs, rfl, hx, q⟩ := q1
  cases r1
  refine wpAny_Slice ?_
  rw [evalPart_none]
  refine wpAny_pure (wpAny_pure ?_)
  refine thn ((po_some (pe_un un_neg (pe_int (i := 1)))).run pins s1 σ H1 (fun k H2 => k = some (-1) ∧ H2 = H1) I1 ⟨1, rfl, -1, rfl, rfl, rfl⟩) fun vk s3 ⟨k, H3, I3, pk, ek, eH⟩ => ?_
  subst ek eH
  have I4 : Inv X pins σ H3 { s3 with heap := s3.heap.push { cls := .type "slice", data := .fields #[.none, .none, vk] } } := I3.kept (t' := s3.toks) fun b ob q => Heap.get?_push_of_some _ q
  obtain ⟨its, r, ht, hz⟩ := I4.tuple hx
  have hlen : its.toArray.size = xs.length := by rw [List.size_toArray]; exact r.length.symm
  show wpAny (model X.prog X.w) X.A (subscriptTail e (.Slice none none _ p2) (.ref a) (.ref s3.heap.objs.size)) (EP X pins σ Q) X.xe { s3 with heap := s3.heap.push { cls := .type "slice", data := .fields #[.none, .none, vk] } }
  refine tail_any (ops := [.ref a, .ref s3.heap.objs.size]) ht.typeIs PyProof.Rows.slot_tuple_getitem.lookup ?_ (by with_unfolding_all rfl)
  refine getItem_back ht (Heap.IsSliceOf.new ..) pk ?_ (by rw [hlen]; exact hz)
  refine ⟨V.ref _, _, I4.laid (t' := s3.toks) (o := .tup xs.reverse) (fun b ob q => Heap.get?_push_of_some _ q) (Nat.le_refl _) ?_, rfl, q _ (I4.hok.fresh (Nat.le_refl _))⟩
  exact ⟨by rw [List.length_reverse]; exact hz, _, r.reverse, IsTup.new _ _⟩
theorem Reps.reverse {W : Wd} {xs : List MV} {vs : List V} (h : Reps G W xs vs) : Reps G W xs.reverse vs.reverse := by
  refine Reps.of (by rw [List.length_reverse, List.length_reverse, h.len]) fun i x v e1 e2 => ?_
  have l1 : i < xs.length := by
    have := (List.getElem?_eq_some_iff.mp e1).1
    simpa using this
  have l2 : i < vs.length := by rw [← h.len]; exact l1
  rw [List.getElem?_reverse l1] at e1
  rw [List.getElem?_reverse l2, ← h.len] at e2
  exact h.at e1 e2
theorem se_rev (hK : X.K = G.K) (he : PE X e (tE G C m)) : PE X (.Subscript e (.Slice none none (some (.UnaryOp .USub (.Constant (.int 1) j p3) p4)) p2) pos) (tE G C (.rev m)) := by
  refine (pe_rev he).mono fun σ H Q h => ?_
  obtain ⟨A, ρ, v, mh', rfl, S, N, e, q⟩ := h
  simp only [ev] at e
  split at e
  · rename_i xs mh1 e1
    cases e
    refine tE.go S N e1 fun B x k em SB _ r => ?_
    obtain ⟨a, vs, rfl, h1, h2⟩ := r.tup_
    rw [hK]
    refine ⟨a, vs, rfl, h1, fun p hp => ?_⟩
    have q' := Post.step q k
    rw [← em] at q'
    exact q'.newTup SB h2.reverse hp
  · cases e
end
end L2.Mi

set_option Elab.async false
set_option linter.all false
set_option maxRecDepth 100000
set_option maxHeartbeats 4000000
/-! Mini14: the law itself. -/
namespace L2.Mi
open PySem PySem.Spec PyProof.Rows
theorem fnOk_of {P : Program} {w : World} {K : PySem.W.Frag} {mg : Str → Option Value} {base : Heap} {G : Gb} {T : List Df} {k f : Nat} {a : Addr} {d : Df} {x qual : Str} {st : Stmt} {fd : FuncData} {N ps : List Str}
    (ih : ∀ f a, G.fa f = some a → FnC P w K mg base G (callM T k) k f a) (hd : T[f]? = some d) (F : FunD K x qual (defArgs st) (defBody st) (defScope st) [] [] a fd) (S : FnScope N ps (defScope st)) (hN : N.length = d.ns)
    (hbody : ∀ (k : Nat) (C : CallF) (cdv : Value) (A : Around) (outer : List PySem.Env) (s : Shared) (H : Hp) (E : XK), (∀ f a, G.fa f = some a → FnC P w K mg base G C k f a) → Room k (A.deeper (envOfC qual (defScope st) s.heap.objs.size a cdv)) →
      PSs (cxOf CX0 P w K mg base N qual (defScope st) a cdv A outer s H E).nox (defBody st) (tSs G C d.body)) : FnOk P w K mg base CX0 (k + 1) a fd ps (spC G (callM T (k + 1)) f ps.length) := by
  refine F.ok S (fun vs H Q E q => q.1) (fun cdv A outer s H vs Q E hr q => ⟨_, (hbody k (callM T k) cdv A outer s H E ih hr).nox, ?_⟩)
  obtain ⟨hl, W, args, r, mh', rfl, SW, ra, e, q⟩ := q
  unfold callM at e
  rw [hd] at e
  exact (run_ok hN SW ra e q).2
theorem scr_noH {K : PySem.W.Frag} {H : Hp} {a : Addr} {xs : List V} (h : SqL K H a xs) : Rd H a (.lst xs) ∨ SqL K noH a xs := by
  rcases h with h | h
  · exact .inl h
  · exact .inr (.inr h)
/-- the law's promise -/
theorem sp_law {G : Gb} {C : CallF} {f : Nat} {mh' : MHp} {H : Hp} {a : Addr} {ns : List Int} (e : C f [.scr ns] [] = some (.bl true, mh')) (h : SqL G.K H a (ns.map V.int)) {E : XK} : spC G C f 1 [.ref a] H (fun v _ => v = .bl true) E := by
  refine ⟨rfl, ⟨H, [], [], [], []⟩, [.scr ns], .bl true, mh', rfl, ?_, ?_, e, fun B x _ _ _ r => r.bl_⟩
  · exact ⟨rfl, fun b hb => by simp at hb, fun b hb => by simp at hb, fun l o e => by simp at e, fun l l' a o o' e => by simp at e, fun a ha => by simp at ha, fun a ha => by simp at ha, fun b hb => by simp at hb⟩
  · refine Reps.one ?_
    unfold Rep
    refine ⟨a, rfl, ?_⟩
    rcases scr_noH h with h | h
    · refine .inl ⟨h, fun z => ?_, fun z => by simp at z⟩
      obtain ⟨l, o, e, _⟩ := z
      simp at e
    · exact .inr h
end L2.Mi

set_option Elab.async false
set_option linter.all false
set_option maxRecDepth 100000
set_option maxHeartbeats 4000000
/-! Mini15: sorted of whole numbers. -/
namespace L2.Mi
open PySem PySem.Spec PyProof.Rows
theorem sort_uniq {l m : List Int} (h1 : l.Pairwise (· ≤ ·)) (h2 : m.Pairwise (· ≤ ·)) (p : l.Perm m) : l = m := List.Perm.eq_of_pairwise (fun a b _ _ x y => Int.le_antisymm x y) h1 h2 p
theorem bt_sorted : bootBuiltins "sorted" = some (.builtin "sorted") := by decide +kernel
section
variable {G : Gb} {C : CallF} {X : Cx} {pos p : Pos} {e : Expr}
theorem sb_max (hm : X.mg "max" = none) (hK : X.K = G.K) {es : List Expr} {ms : List ME} (ha : PA X (e :: es) (tEs G C ms)) (hc : X.calm = true := by rfl) (hg : Gl X "max" := by rfl) (he : starEach (e :: es) X.env = (false, eval e X.env) :: starEach es X.env := by rfl) (hpl : (backTo pos (starEach es X.env)).any (·.1) = false := by rfl) : PE X (.Call (.Name "max" p) (e :: es) [] pos) (tE G C (.bi .max ms)) := se_biB bi_max (cr_max hc) hK hg hm bt_max ha (by decide) (by decide) he hpl
theorem sb_min (hm : X.mg "min" = none) (hK : X.K = G.K) {es : List Expr} {ms : List ME} (ha : PA X (e :: es) (tEs G C ms)) (hc : X.calm = true := by rfl) (hg : Gl X "min" := by rfl) (he : starEach (e :: es) X.env = (false, eval e X.env) :: starEach es X.env := by rfl) (hpl : (backTo pos (starEach es X.env)).any (·.1) = false := by rfl) : PE X (.Call (.Name "min" p) (e :: es) [] pos) (tE G C (.bi .min ms)) := se_biB bi_min (cr_min hc) hK hg hm bt_min ha (by decide) (by decide) he hpl
end
end L2.Mi

set_option Elab.async false
set_option linter.all false
set_option maxRecDepth 100000
set_option maxHeartbeats 4000000
/-! Mini16: sorted of tuples of whole numbers, the first of them empty. -/
namespace L2.Mi
open PySem PySem.Spec PyProof.Rows
section
variable {M : Model} {A : Around} {E : Value → Shared → Prop} {s : Shared}
theorem mapM_to {α β : Type} {f : α → Sem β} {g : α → β} : ∀ (l : List α) {Q : List β → Shared → Prop}, (∀ v ∈ l, ∀ (Q' : β → Shared → Prop), Q' (g v) s → wpAny M A (f v) Q' E s) → Q (l.map g) s → wpAny M A (l.mapM f) Q E s
  | [], _, _, h => by rw [List.mapM_nil]; exact wpAny_pure h
  | x :: l, Q, hf, h => by
    rw [List.mapM_cons]
    exact wpAny_bind (hf x (.head _) _ (wpAny_bind (mapM_to l (g := g) (Q := fun bs s' => wpAny M A (pure (g x :: bs)) Q E s') (fun v hv => hf v (.tail _ hv)) (wpAny_pure h))))
/-- the first item of the tuple at v -/
def fst0 (h : Heap) (v : Value) : Option Value := match v with
  | .ref a => match h.get? a with
    | some o => match o.data with
      | .seq its _ => its[0]?
      | _ => none
    | none => none
  | _ => none
/-- v is a tuple with these numbers -/
def IsTI (h : Heap) (v : Value) (ns : List Int) : Prop := ∃ (a : Addr) (its : Array Value), v = .ref a ∧ IsTup h a its ∧ IntsAre its.toList ns
theorem IsTI.type {h : Heap} {v : Value} {ns : List Int} (x : IsTI h v ns) : PySem.W.Looks M h (typeOf v) (.type "tuple") := by
  obtain ⟨a, its, rfl, ⟨o, ho, hc, n, hd⟩, _⟩ := x
  have z : PySem.W.Looks M h (typeOf (.ref a)) o.cls := (PySem.W.Looks.ld ho).andThen .now
  rw [hc] at z
  exact z
theorem kind_t0 {prog : Program} {w : World} {vs : List Value} {k : Value → List Int} {Q : SortKind → Shared → Prop} (h2 : 2 ≤ vs.length) (hv : ∀ v ∈ vs, IsTI s.heap v (k v)) (h0 : ∀ v, vs.head? = some v → k v = []) (h : Q oneType' s) : wpAny (model prog w) A (keyKind' vs.toArray) Q E s := by
  obtain ⟨v₁, v₂, rest, rfl⟩ : ∃ v₁ v₂ rest, vs = v₁ :: v₂ :: rest := by
    match vs, h2 with
    | [], h2 => simp at h2
    | [_], h2 => simp at h2
    | v₁ :: v₂ :: rest, _ => exact ⟨v₁, v₂, rest, rfl⟩
  have hf : fst0 s.heap v₁ = none := by
    obtain ⟨a, its, rfl, ⟨o, ho, hc, n, hd⟩, hi⟩ := hv v₁ (by simp)
    rw [h0 _ rfl] at hi
    have : its.toList = [] := by cases hq : its.toList with
      | nil => rfl
      | cons => rw [hq] at hi; cases hi
    unfold fst0
    simp only [ho, hd]
    have hz : its.size = 0 := by rw [← Array.length_toList, this]; rfl
    exact Array.getElem?_eq_none (by omega)
  rw [keyKind'_eq, List.mapM_toArray, map_eq_pure_bind]
  refine wpAny_bind (wpAny_bind (mapM_to (g := fst0 s.heap) _ (fun v hm Q' hq => ?_) (wpAny_pure ?_)))
  · have ty := (hv v hm).type (M := model prog w)
    obtain ⟨a, its, rfl, ⟨o, ho, hc, n, hd⟩, hi⟩ := hv v hm
    rw [PySem.W.kas_first_eq]
    refine wpAny_bind (ty.here ?_)
    rw [if_neg (by decide)]
    refine wpAny_bind (wpAny_listItems ho hd (wpAny_pure ?_))
    unfold fst0 at hq
    simp only [ho, hd] at hq
    exact hq
  · have e1 : (List.map (fst0 s.heap) (v₁ :: v₂ :: rest)).toArray.all (fun x => x.isSome) = false := by simp [hf]
    have e2 : ((List.map (fst0 s.heap) (v₁ :: v₂ :: rest)).toArray[0]?.bind id).isSome = false := by simp [hf]
    rw [if_neg (by rw [e1]; exact Bool.false_ne_true), if_neg (by rw [e2]; exact Bool.false_ne_true)]
    rw [oneTypeOnly'_eq, List.mapM_toArray, map_eq_pure_bind]
    refine wpAny_bind (wpAny_bind (wpAny_bind (PySem.W.kas_mapM (r := Value.type "tuple") _ (fun v hm Q' hq => ((hv v hm).type (M := model prog w)).here hq) (wpAny_pure ?_))))
    have hall : ((List.map (fun _ => Value.type "tuple") (v₁ :: v₂ :: rest)).toArray.all fun x => x == Value.type "tuple") = true := by
      simp only [List.all_toArray, List.all_map, List.all_eq_true]
      intro _ _
      rfl
    have h0' : (List.map (fun _ => Value.type "tuple") (v₁ :: v₂ :: rest)).toArray[0]? = some (Value.type "tuple") := by simp
    rw [h0']
    simp only [hall, if_true]
    exact wpAny_pure (wpAny_pure h)
end
section
variable {prog : Program} {w : World} {A : Around} {E : Value → Shared → Prop} {s : Shared}
theorem lt_ti {v u : Value} {ns ms : List Int} {Q : Bool → Shared → Prop} (hu : A.units < cLine) (hv : IsTI s.heap v ns) (hw : IsTI s.heap u ms) (h : Q (HT.lexLt ns ms) s) : wpAny (model prog w) A (keyLt' oneType' v u) Q E s := by
  have tv := hv.type (M := model prog w)
  have sp : PySem.W.Looks (model prog w) s.heap (specialOf v "__lt__") (some (.builtin "tuple.__lt__")) := tv.andThen (PySem.W.Looks.of_pure PySem.F.slot_tuple_lt.lookup)
  obtain ⟨a, its, rfl, ta, ia⟩ := hv
  obtain ⟨b, its2, rfl, tb, ib⟩ := hw
  obtain ⟨⟨cls, dd, data, sl⟩, ho, hc, n, hd⟩ := id ta
  obtain ⟨⟨cls2, dd2, data2, sl2⟩, ho2, hc2, n2, hd2⟩ := id tb
  simp only at hc hd hc2 hd2
  subst hc hd hc2 hd2
  rw [keyLt'_oneType, oneLt'_eq]
  simp only [if_true]
  refine wpAny_bind (wpAny_cRoomFor hu ?_)
  refine wpAny_bind (NtL.csib (E := E) sp (PySem.F.slot_tuple_lt.bind _) ?_)
  exact call_meets PySem.F.slot_tuple_lt ⟨_, ho, rfl⟩ PySem.F.entry_tuple_lt (PySem.F.args_tuple_lt_2 _ _) (HT.tuple_lt_ints a b its its2 n n2 dd dd2 sl sl2 ns ms ia ib) ⟨ho, ho2, wpAny_truthy_bool h⟩
end
/-- sorted(xs), tuples of ints in order already, the first of them empty: a new list of the same -/
def rSortedT0 (K : PySem.W.Frag) : List V → Hp → VK → Prop := fun vs H Q => ∃ (a : Addr) (xs : List V) (k : V → List Int), vs = [V.ref a] ∧ SqL K H a xs ∧ (∀ x ∈ xs, ∃ t, x = V.ref t ∧ SqT K H t ((k x).map V.int)) ∧
  (∀ x, xs.head? = some x → k x = []) ∧ xs.Pairwise (fun x y => HT.lexLt (k y) (k x) = false) ∧ ∀ p, H p = none → Q (.ref p) (upd H p (.lst xs))
theorem cr_sortedT0 {X : Cx} (hu : X.A.units + 64 < cLine) : CallR X (.builtin "sorted") (rSortedT0 X.K) := by
  intro pins s σ H vs us Q I r h
  obtain ⟨a, xs, k, rfl, hs, hx, h0, hp, q⟩ := h
  obtain ⟨its, rv, hl, hz⟩ := I.list hs
  obtain ⟨u, rfl, ru⟩ := vals1 r
  obtain rfl : u = Value.ref a := ru
  obtain ⟨e1, e2⟩ := refs_back rv fun x m => by
    obtain ⟨t, e, _⟩ := hx x m
    exact ⟨t, e⟩
  have hti : ∀ v ∈ its, IsTI s.heap v (k (backV v)) := fun v hv => by
    obtain ⟨t, rfl⟩ := e2 v hv
    have hm : V.ref t ∈ xs := by rw [e1]; exact List.mem_map.mpr ⟨_, hv, rfl⟩
    obtain ⟨t', e, ht⟩ := hx _ hm
    cases e
    obtain ⟨its2, r2, ht2, _⟩ := I.tuple ht
    exact ⟨t, its2.toArray, rfl, ht2, by show IntsAre its2.toArray.toList (k (V.ref t)); simpa using intsAre_of r2⟩
  have keeps : ∀ {h' : Heap} {v : Value} {ns : List Int}, (∀ b o, s.heap.get? b = some o → h'.get? b = some o) → IsTI s.heap v ns → IsTI h' v ns := fun {h' v ns} kk x => by
    obtain ⟨b, it, rfl, ⟨o, ho, hc, n, hd⟩, hi⟩ := x
    exact ⟨b, it, rfl, ⟨o, kk _ _ ho, hc, n, hd⟩, hi⟩
  refine SrtO.sorted_ord (NtL.swo_lexL fun u => k (backV u)) hl.isList (by rw [← rv.length]; exact hz) (fun h2 h₁ a' ha kk h' keep => ?_) fun out h1 h2 => ?_
  · have hti' : ∀ v ∈ its, IsTI h' v (k (backV v)) := fun v hv => keeps (fun b o e => by
      obtain ⟨hne, e'⟩ := kk b o e
      exact keep b o hne e') (hti v hv)
    refine ⟨oneType', fun Q' E' hq => kind_t0 (s := { s with heap := h' }) (k := fun v => k (backV v)) h2 hti' (fun v hv => ?_) hq, fun p q' hp' hq' => ?_⟩
    · refine h0 _ ?_
      rw [e1, List.head?_map, hv]
      rfl
    · exact lt_ti (s := { s with heap := h' }) (Q := fun r s' => s' = { s with heap := h' } ∧ r = HT.lexLt (k (backV p.1)) (k (backV q'.1))) (E := fun _ _ => False) (by show X.A.in1.in1.units < cLine; simp only [Around.in1]; omega) (hti' p.1 hp') (hti' q'.1 hq') ⟨rfl, rfl⟩
  · have hin : SrtO.Srtd (fun v u => HT.lexLt (k (backV v)) (k (backV u))) its := by
      have : (its.map backV).Pairwise (fun x y => HT.lexLt (k y) (k x) = false) := by rw [← e1]; exact hp
      exact (List.pairwise_map.mp this)
    have eo : out = its := SrtO.stb_uniq (NtL.swo_lexL fun u => k (backV u)) h1 hin h2
    subst eo
    obtain ⟨ep, he'⟩ := PyProof.Rows.sortedAll_at s.heap out out.toArray
    exact ⟨.ref _, upd H (s.heap.objs.size + 1) (.lst xs), I.laid (t' := s.toks) (fun _ _ => PyProof.Rows.sortedAll_old) (Nat.le_succ _) ⟨hz, out, ep, rv, he'⟩, rfl, q _ (I.hok.fresh (Nat.le_succ _))⟩
/-- the same, the numbers told place by place -/
def rSortedT1 (K : PySem.W.Frag) : List V → Hp → VK → Prop := fun vs H Q => ∃ (a : Addr) (xs : List V) (nss : List (List Int)), vs = [V.ref a] ∧ SqL K H a xs ∧ xs.length = nss.length ∧ (∀ (i : Nat) (x : V) (ns : List Int), xs[i]? = some x → nss[i]? = some ns → ∃ t, x = V.ref t ∧ SqT K H t (ns.map V.int)) ∧
  nss.head? = some [] ∧ nss.Pairwise (fun x y => HT.lexLt y x = false) ∧ ∀ p, H p = none → Q (.ref p) (upd H p (.lst xs))
theorem map_int_inj : ∀ {a b : List Int}, a.map V.int = b.map V.int → a = b
  | [], [], _ => rfl
  | [], _ :: _, h => by simp at h
  | _ :: _, [], h => by simp at h
  | x :: a, y :: b, h => by
    simp only [List.map_cons, List.cons.injEq] at h
    obtain ⟨h1, h2⟩ := h
    cases h1
    rw [map_int_inj h2]
open Classical in
theorem cr_sortedT1 {X : Cx} (hu : X.A.units + 64 < cLine) : CallR X (.builtin "sorted") (rSortedT1 X.K) := by
  intro pins s σ H vs us Q I r h
  obtain ⟨a, xs, nss, rfl, hs, hl, hx, h0, hp, q⟩ := h
  let k : V → List Int := fun x => if h : ∃ ns : List Int, ∃ t, x = V.ref t ∧ SqT X.K H t (ns.map V.int) then Classical.choose h else []
  have hk : ∀ (x : V) (ns : List Int), (∃ t, x = V.ref t ∧ SqT X.K H t (ns.map V.int)) → k x = ns := fun x ns hh => by
    have ex : ∃ ns : List Int, ∃ t, x = V.ref t ∧ SqT X.K H t (ns.map V.int) := ⟨ns, hh⟩
    obtain ⟨t, rfl, ht⟩ := hh
    obtain ⟨t', e, ht'⟩ := Classical.choose_spec ex
    cases e
    have : k (V.ref t) = Classical.choose ex := dif_pos ex
    rw [this]
    exact map_int_inj (I.tuple_inj ht' ht)
  have hm : xs.map k = nss := by
    apply List.ext_getElem?
    intro i
    rw [List.getElem?_map]
    by_cases hi : i < xs.length
    · have e1 : xs[i]? = some xs[i] := List.getElem?_eq_getElem hi
      have hi2 : i < nss.length := by rw [← hl]; exact hi
      have e2 : nss[i]? = some nss[i] := List.getElem?_eq_getElem hi2
      rw [e1, e2, Option.map_some, hk _ _ (hx i _ _ e1 e2)]
    · rw [List.getElem?_eq_none (by omega), List.getElem?_eq_none (by omega)]; rfl
  refine cr_sortedT0 hu pins s σ H [V.ref a] us Q I r ⟨a, xs, k, rfl, hs, fun x hxm => ?_, fun x hh => ?_, ?_, q⟩
  · obtain ⟨i, hi⟩ := List.mem_iff_getElem?.mp hxm
    have hi1 := (List.getElem?_eq_some_iff.mp hi).1
    have e2 : nss[i]? = some nss[i] := List.getElem?_eq_getElem (by rw [← hl]; exact hi1)
    obtain ⟨t, e, ht⟩ := hx i _ _ hi e2
    exact ⟨t, e, by rw [hk _ _ ⟨t, e, ht⟩]; exact ht⟩
  · rw [← hm, List.head?_map, hh] at h0
    exact Option.some.inj h0
  · rw [← hm] at hp
    exact List.pairwise_map.mp hp
def rSortedB (K : PySem.W.Frag) : List V → Hp → VK → Prop := fun vs H Q => L2.rSortedI K vs H Q ∨ rSortedT1 K vs H Q
theorem cr_sortedB {X : Cx} (hu : X.A.units + 65 < cLine) : CallR X (.builtin "sorted") (rSortedB X.K) := CallR.or L2.cr_sortedI (cr_sortedT1 (by omega))
theorem mapM_at {α β : Type} {f : α → Option β} : ∀ {xs : List α} {ys : List β}, xs.mapM f = some ys → xs.length = ys.length ∧ ∀ (i : Nat) x y, xs[i]? = some x → ys[i]? = some y → f x = some y
  | [], ys, h => by
    simp at h
    subst h
    exact ⟨rfl, fun i x y e => by simp at e⟩
  | a :: xs, ys, h => by
    simp only [List.mapM_cons, Option.bind_eq_bind, Option.bind_eq_some_iff] at h
    obtain ⟨b, e1, bs, e2, e3⟩ := h
    cases e3
    obtain ⟨l, r⟩ := mapM_at e2
    refine ⟨by simp [l], fun i x y h1 h2 => ?_⟩
    cases i with
    | zero => simp at h1 h2; subst h1 h2; exact e1
    | succ i => simp only [List.getElem?_cons_succ] at h1 h2; exact r i x y h1 h2
theorem bi_sorted : BiS .sorted rSortedB := by
  intro G A xs v vs Q S e r h
  obtain ⟨x, hx, e'⟩ := one1_some e
  subst hx
  replace e := e'
  clear e'
  obtain ⟨w, rfl, rx⟩ := r.one_
  unfold sortedV at e
  split at e
  · cases e
  rename_i ys hy
  obtain ⟨a, ws, rfl, hH, rr⟩ := getL_rep S hy rx
  split at e
  · rename_i ns hn
    cases e
    have hv := rr.intOf hn
    subst hv
    refine .inl ⟨a, ns, rfl, SqL.of hH, fun ns' p perm rising hp => ?_⟩
    have e2 : ns' = ns.mergeSort fun a b => decide (a ≤ b) := by
      refine sort_uniq rising ?_ (perm.trans (List.mergeSort_perm ns _).symm)
      have := List.pairwise_mergeSort (le := fun a b : Int => decide (a ≤ b)) (fun a b c x y => by simp at x y ⊢; omega) (fun a b => by simp; omega) ns
      exact this.imp fun {a b} z => of_decide_eq_true z
    rw [e2]
    exact h.newLst S Reps.map_int hp
  · split at e
    · rename_i nss hn
      split at e
      · rename_i hc
        cases e
        obtain ⟨ml, ma⟩ := mapM_at hn
        refine .inr ⟨a, ws, nss, rfl, SqL.of hH, by rw [← rr.len]; exact ml, fun i u ns h1 h2 => ?_, hc.1, hc.2, fun p hp => h.newLst S rr hp⟩
        have hi : i < ys.length := by rw [rr.len]; exact (List.getElem?_eq_some_iff.mp h1).1
        have h3 : ys[i]? = some ys[i] := List.getElem?_eq_getElem hi
        have ht := ma i _ _ h3 h2
        have ru := rr.at h3 h1
        cases hq : ys[i] with
        | tup zs =>
          rw [hq] at ht ru
          obtain ⟨t, us, e, h5, h6⟩ := ru.tup_
          have := h6.intOf (show zs.mapM intOf = some ns from ht)
          exact ⟨t, e, by rw [← this]; exact h5⟩
        | _ => rw [hq] at ht; cases ht
      · cases e
    · cases e
section
variable {G : Gb} {C : CallF} {X : Cx} {pos p : Pos} {e : Expr}
theorem sb_sorted (hm : X.mg "sorted" = none) (hK : X.K = G.K) {es : List Expr} {ms : List ME} (hu : X.A.units + 65 < cLine) (ha : PA X (e :: es) (tEs G C ms)) (hg : Gl X "sorted" := by rfl) (he : starEach (e :: es) X.env = (false, eval e X.env) :: starEach es X.env := by rfl) (hpl : (backTo pos (starEach es X.env)).any (·.1) = false := by rfl) : PE X (.Call (.Name "sorted" p) (e :: es) [] pos) (tE G C (.bi .sorted ms)) := se_biB bi_sorted (cr_sortedB hu) hK hg hm bt_sorted ha (by decide) (by decide) he hpl
end
end L2.Mi

set_option Elab.async false
set_option linter.all false
set_option maxRecDepth 100000
set_option maxHeartbeats 4000000

namespace L2.Mi.k02
open PySem PySem.Spec PyProof.Rows L2.Mi
/-! the text by places -/
def top (i : Nat) : Stmt := PySem.Challenge.pw_termwright_k02_parts_of_terms.main.body.getD i (.Pass ⟨0, 0, 0, 0⟩)
abbrev s_is_whole : Stmt := top 1
abbrev s_is_var : Stmt := top 2
abbrev s_size : Stmt := top 3
abbrev s_depth : Stmt := top 4
abbrev s_variables : Stmt := top 5
abbrev s_is_ground : Stmt := top 6
abbrev s_count : Stmt := top 7
abbrev s_positions : Stmt := top 8
abbrev s_has_position : Stmt := top 9
abbrev s_at : Stmt := top 10
abbrev s_put : Stmt := top 11
abbrev s_parts : Stmt := top 12
abbrev s_l_state : Stmt := top 14
abbrev s_l_take : Stmt := top 15
abbrev s_l_pick : Stmt := top 16
abbrev s_l_tongue : Stmt := top 17
abbrev s_l_term : Stmt := top 18
abbrev s_l_names : Stmt := top 20
abbrev s_l_places : Stmt := top 21
abbrev s_l_at : Stmt := top 22
abbrev s_l_with : Stmt := top 23
abbrev s_l_depth : Stmt := top 24
abbrev s_l_parts : Stmt := top 25
abbrev s_law : Stmt := top 26
/-! the defs -/
def d_is_whole : Df := ⟨3, 3, false, [(.ret (.and (.isi (.var 0) .int) (.and (.not (.isi (.var 0) .bool)) (.chn .le .le (.var 1) (.var 0) (.var 2)))))]⟩
abbrev N_is_whole : List Str := ["value", "low", "high"]
abbrev P_is_whole : List Str := ["value", "low", "high"]
def d_is_var : Df := ⟨1, 1, false, [(.ret (.isi (.var 0) .str))]⟩
abbrev N_is_var : List Str := ["term"]
abbrev P_is_var : List Str := ["term"]
def d_size : Df := ⟨1, 2, false, [(.ret (.ite (.call 1 [(.var 0)]) (.c (.int (1))) (.bin .add (.c (.int (1))) (.bi .sum [(.comp (.nm 1) [1] (.slcL (.var 0) (.c (.int (1)))) (.c (.bl true)) (.call 2 [(.var 1)]))]))))]⟩
abbrev N_size : List Str := ["term", "part"]
abbrev P_size : List Str := ["term"]
def d_depth : Df := ⟨1, 2, false, [(.ret (.ite (.call 1 [(.var 0)]) (.c (.int (1))) (.bin .add (.c (.int (1))) (.bi .max [(.bin .add (.lst [(.c (.int (0)))]) (.comp (.nm 1) [1] (.slcL (.var 0) (.c (.int (1)))) (.c (.bl true)) (.call 3 [(.var 1)])))]))))]⟩
abbrev N_depth : List Str := ["term", "part"]
abbrev P_depth : List Str := ["term"]
def d_variables : Df := ⟨1, 4, false, [(.ite (.call 1 [(.var 0)]) [(.ret (.lst [(.var 0)]))] []), (.set (.nm 1) (.al (.lst []))), (.for (.nm 2) (.slcL (.var 0) (.c (.int (1)))) [(.ex (.meth .extend (.var 1) [(.comp (.nm 3) [3] (.call 4 [(.var 2)]) (.cmp .nmem (.var 3) (.var 1)) (.var 3))]))]), (.ret (.var 1))]⟩
abbrev N_variables : List Str := ["term", "found", "part", "name"]
abbrev P_variables : List Str := ["term"]
def d_is_ground : Df := ⟨1, 1, false, [(.ret (.cmp .eq (.bi .len [(.call 4 [(.var 0)])]) (.c (.int (0)))))]⟩
abbrev N_is_ground : List Str := ["term"]
abbrev P_is_ground : List Str := ["term"]
def d_count : Df := ⟨2, 3, false, [(.ite (.call 1 [(.var 0)]) [(.ret (.ite (.cmp .eq (.var 0) (.var 1)) (.c (.int (1))) (.c (.int (0)))))] []), (.ret (.bi .sum [(.comp (.nm 2) [2] (.slcL (.var 0) (.c (.int (1)))) (.c (.bl true)) (.call 6 [(.var 2), (.var 1)]))]))]⟩
abbrev N_count : List Str := ["term", "name", "part"]
abbrev P_count : List Str := ["term", "name"]
def d_positions : Df := ⟨1, 4, false, [(.ite (.call 1 [(.var 0)]) [(.ret (.lst [(.tup [])]))] []), (.set (.nm 1) (.al (.lst [(.tup [])]))), (.for (.nm 2) (.rng2 (.c (.int (1))) (.bi .len [(.var 0)])) [(.ex (.meth .extend (.var 1) [(.comp (.nm 3) [3] (.call 7 [(.sub (.var 0) (.var 2))]) (.c (.bl true)) (.bin .add (.tup [(.var 2)]) (.var 3)))]))]), (.ret (.var 1))]⟩
abbrev N_positions : List Str := ["term", "found", "k", "rest"]
abbrev P_positions : List Str := ["term"]
def d_has_position : Df := ⟨2, 3, false, [(.ite (.not (.isi (.var 1) .tuple)) [(.ret (.c (.bl false)))] []), (.for (.nm 2) (.var 1) [(.ite (.or (.call 1 [(.var 0)]) (.not (.call 0 [(.var 2), (.c (.int (1))), (.bin .sub (.bi .len [(.var 0)]) (.c (.int (1))))]))) [(.ret (.c (.bl false)))] []), (.set (.nm 0) (.sub (.var 0) (.var 2)))]), (.ret (.c (.bl true)))]⟩
abbrev N_has_position : List Str := ["term", "position", "k"]
abbrev P_has_position : List Str := ["term", "position"]
def d_at : Df := ⟨2, 3, false, [(.for (.nm 2) (.var 1) [(.set (.nm 0) (.sub (.var 0) (.var 2)))]), (.ret (.var 0))]⟩
abbrev N_at : List Str := ["term", "position", "k"]
abbrev P_at : List Str := ["term", "position"]
def d_put : Df := ⟨3, 4, false, [(.ite (.cmp .eq (.bi .len [(.var 1)]) (.c (.int (0)))) [(.ret (.var 2))] []), (.set (.nm 3) (.sub (.var 1) (.c (.int (0))))), (.ret (.bin .add (.bin .add (.slcH (.var 0) (.var 3)) (.tup [(.call 10 [(.sub (.var 0) (.var 3)), (.slcL (.var 1) (.c (.int (1)))), (.var 2)])])) (.slcL (.var 0) (.bin .add (.var 3) (.c (.int (1)))))))]⟩
abbrev N_put : List Str := ["term", "position", "part", "k"]
abbrev P_put : List Str := ["term", "position", "part"]
def d_parts : Df := ⟨1, 4, false, [(.set (.nm 1) (.al (.lst []))), (.ite (.not (.call 1 [(.var 0)])) [(.for (.nm 2) (.slcL (.var 0) (.c (.int (1)))) [(.ex (.meth .extend (.var 1) [(.comp (.nm 3) [3] (.call 11 [(.var 2)]) (.cmp .nmem (.var 3) (.var 1)) (.var 3))]))])] []), (.ret (.ite (.cmp .mem (.var 0) (.var 1)) (.var 1) (.bin .add (.var 1) (.lst [(.var 0)]))))]⟩
abbrev N_parts : List Str := ["term", "found", "part", "other"]
abbrev P_parts : List Str := ["term"]
def d_l_state : Df := ⟨1, 3, true, [(.set (.nm 1) (.al (.comp (.nm 2) [2] (.slcH (.var 0) (.c (.int (63)))) (.c (.bl true)) (.bi .abs [(.var 2)])))), (.ite (.cmp .eq (.bi .len [(.var 1)]) (.c (.int (0)))) [(.set (.nm 1) (.al (.lst [(.c (.int (0)))])))] []), (.ret (.al (.lst [(.c (.int (0))), (.var 1)])))]⟩
abbrev N_l_state : List Str := ["script", "cells", "cell"]
abbrev P_l_state : List Str := ["script"]
def d_l_take : Df := ⟨2, 6, false, [(.ite (.cmp .lt (.var 1) (.c (.int (2)))) [(.ret (.c (.int (0))))] []), (.set (.nm 2) (.sub (.var 0) (.c (.int (1))))), (.set (.nm 3) (.bin .mod (.bi .int [(.sub (.var 0) (.c (.int (0))))]) (.bi .len [(.var 2)]))), (.set (.nm 4) (.sub (.var 2) (.var 3))), (.ite (.cmp .ge (.var 4) (.c (.int (1000000000000000000)))) [(.sti (.var 2) (.var 3) (.bin .fdiv (.var 4) (.var 1))), (.ret (.bin .mod (.bi .int [(.var 4)]) (.var 1)))] []), (.sti (.var 0) (.c (.int (0))) (.bin .add (.sub (.var 0) (.c (.int (0)))) (.c (.int (1))))), (.set (.nm 5) (.bin .mod (.bi .int [(.bin .add (.bin .mul (.var 4) (.c (.int (48271)))) (.bin .mul (.sub (.var 0) (.c (.int (0)))) (.c (.int (69621)))))]) (.c (.int (2147483647))))), (.set (.nm 5) (.bin .mod (.bi .int [(.bin .add (.bin .mul (.var 5) (.c (.int (16807)))) (.bin .mul (.sub (.var 0) (.c (.int (0)))) (.c (.int (7919)))))]) (.c (.int (1000000007))))), (.ret (.bin .mod (.bi .int [(.bin .fdiv (.var 5) (.c (.int (7))))]) (.var 1)))]⟩
abbrev N_l_take : List Str := ["state", "most", "cells", "where", "cell", "mixed"]
abbrev P_l_take : List Str := ["state", "most"]
def d_l_pick : Df := ⟨2, 2, false, [(.ret (.sub (.var 1) (.call 13 [(.var 0), (.bi .len [(.var 1)])])))]⟩
abbrev N_l_pick : List Str := ["state", "row"]
abbrev P_l_pick : List Str := ["state", "row"]
def d_l_tongue : Df := ⟨1, 1, false, [(.ret (.call 14 [(.var 0), (.lst [(.tup [(.tup [(.c (.str [97])), (.c (.int (0)))]), (.tup [(.c (.str [102])), (.c (.int (2)))])]), (.tup [(.tup [(.c (.str [97])), (.c (.int (0)))]), (.tup [(.c (.str [98])), (.c (.int (0)))]), (.tup [(.c (.str [102])), (.c (.int (2)))]), (.tup [(.c (.str [103])), (.c (.int (1)))])]), (.tup [(.tup [(.c (.str [97])), (.c (.int (0)))]), (.tup [(.c (.str [98, 49])), (.c (.int (0)))]), (.tup [(.c (.str [103])), (.c (.int (1)))]), (.tup [(.c (.str [104])), (.c (.int (3)))])]), (.tup [(.tup [(.c (.str [99])), (.c (.int (0)))]), (.tup [(.c (.str [102])), (.c (.int (2)))]), (.tup [(.c (.str [103])), (.c (.int (1)))])])])]))]⟩
abbrev N_l_tongue : List Str := ["state"]
abbrev P_l_tongue : List Str := ["state"]
def d_l_term : Df := ⟨4, 9, false, [(.ite (.and (.cmp .gt (.bi .len [(.var 2)]) (.c (.int (0)))) (.cmp .eq (.call 13 [(.var 0), (.ite (.cmp .gt (.var 3) (.c (.int (1)))) (.c (.int (3))) (.c (.int (2))))]) (.c (.int (0))))) [(.ret (.call 14 [(.var 0), (.var 2)]))] []), (.set (.nm 4) (.comp (.nm 7) [7] (.var 1) (.or (.cmp .gt (.var 3) (.c (.int (1)))) (.cmp .eq (.sub (.var 7) (.c (.int (1)))) (.c (.int (0))))) (.var 7))), (.set (.tp [(.nm 5), (.nm 6)]) (.call 14 [(.var 0), (.var 4)])), (.ret (.bin .add (.tup [(.var 5)]) (.bi .tuple [(.comp (.nm 8) [8] (.rng1 (.var 6)) (.c (.bl true)) (.call 16 [(.var 0), (.var 1), (.var 2), (.bin .sub (.var 3) (.c (.int (1))))]))])))]⟩
abbrev N_l_term : List Str := ["state", "tongue", "names", "most", "pairs", "sign", "many", "pair", "k"]
abbrev P_l_term : List Str := ["state", "tongue", "names", "most"]
def d_l_names : Df := ⟨1, 4, false, [(.ite (.isi (.var 0) .str) [(.ret (.lst [(.var 0)]))] []), (.set (.nm 1) (.lst [])), (.for (.nm 2) (.slcL (.var 0) (.c (.int (1)))) [(.set (.nm 1) (.bin .add (.var 1) (.comp (.nm 3) [3] (.call 17 [(.var 2)]) (.cmp .nmem (.var 3) (.var 1)) (.var 3))))]), (.ret (.var 1))]⟩
abbrev N_l_names : List Str := ["term", "found", "part", "name"]
abbrev P_l_names : List Str := ["term"]
def d_l_places : Df := ⟨1, 4, false, [(.ite (.isi (.var 0) .str) [(.ret (.lst [(.tup [])]))] []), (.set (.nm 1) (.lst [(.tup [])])), (.for (.nm 2) (.rng2 (.c (.int (1))) (.bi .len [(.var 0)])) [(.set (.nm 1) (.bin .add (.var 1) (.comp (.nm 3) [3] (.call 18 [(.sub (.var 0) (.var 2))]) (.c (.bl true)) (.bin .add (.tup [(.var 2)]) (.var 3)))))]), (.ret (.var 1))]⟩
abbrev N_l_places : List Str := ["term", "found", "k", "rest"]
abbrev P_l_places : List Str := ["term"]
def d_l_at : Df := ⟨2, 3, false, [(.for (.nm 2) (.var 1) [(.set (.nm 0) (.sub (.var 0) (.var 2)))]), (.ret (.var 0))]⟩
abbrev N_l_at : List Str := ["term", "place", "k"]
abbrev P_l_at : List Str := ["term", "place"]
def d_l_with : Df := ⟨3, 4, false, [(.ite (.cmp .eq (.bi .len [(.var 1)]) (.c (.int (0)))) [(.ret (.var 2))] []), (.set (.nm 3) (.sub (.var 1) (.c (.int (0))))), (.ret (.bin .add (.bin .add (.slcH (.var 0) (.var 3)) (.tup [(.call 20 [(.sub (.var 0) (.var 3)), (.slcL (.var 1) (.c (.int (1)))), (.var 2)])])) (.slcL (.var 0) (.bin .add (.var 3) (.c (.int (1)))))))]⟩
abbrev N_l_with : List Str := ["term", "place", "part", "k"]
abbrev P_l_with : List Str := ["term", "place", "part"]
def d_l_depth : Df := ⟨1, 2, false, [(.ite (.isi (.var 0) .str) [(.ret (.c (.int (1))))] []), (.ret (.bin .add (.c (.int (1))) (.sub (.bi .sorted [(.bin .add (.lst [(.c (.int (0)))]) (.comp (.nm 1) [1] (.slcL (.var 0) (.c (.int (1)))) (.c (.bl true)) (.call 21 [(.var 1)])))]) (.neg (.c (.int (1)))))))]⟩
abbrev N_l_depth : List Str := ["term", "part"]
abbrev P_l_depth : List Str := ["term"]
def d_l_parts : Df := ⟨1, 4, false, [(.set (.nm 1) (.lst [])), (.ite (.not (.isi (.var 0) .str)) [(.for (.nm 2) (.slcL (.var 0) (.c (.int (1)))) [(.set (.nm 1) (.bin .add (.var 1) (.comp (.nm 3) [3] (.call 22 [(.var 2)]) (.cmp .nmem (.var 3) (.var 1)) (.var 3))))])] []), (.ret (.bin .add (.var 1) (.ite (.cmp .mem (.var 0) (.var 1)) (.lst []) (.lst [(.var 0)]))))]⟩
abbrev N_l_parts : List Str := ["term", "found", "part", "other"]
abbrev P_l_parts : List Str := ["term"]
def d_law : Df := ⟨1, 16, false, [(.set (.nm 1) (.call 12 [(.var 0)])), (.for (.nm 2) (.rng1 (.c (.int (4)))) [(.set (.nm 3) (.call 15 [(.var 1)])), (.set (.nm 4) (.call 16 [(.var 1), (.var 3), (.call 14 [(.var 1), (.lst [(.lst []), (.lst [(.c (.str [88]))]), (.lst [(.c (.str [88])), (.c (.str [89])), (.c (.str [90]))])])]), (.c (.int (5)))])), (.set (.nm 5) (.call 18 [(.var 4)])), (.set (.nm 6) (.call 17 [(.var 4)])), (.set (.nm 7) (.comp (.nm 8) [8] (.var 5) (.isi (.call 19 [(.var 4), (.var 8)]) .str) (.call 19 [(.var 4), (.var 8)]))), (.ite (.or (.cmp .ne (.call 2 [(.var 4)]) (.bi .len [(.var 5)])) (.or (.cmp .ne (.call 3 [(.var 4)]) (.call 21 [(.var 4)])) (.or (.cmp .ne (.call 4 [(.var 4)]) (.var 6)) (.cmp .ne (.call 5 [(.var 4)]) (.cmp .eq (.bi .len [(.var 6)]) (.c (.int (0)))))))) [(.ret (.c (.bl false)))] []), (.ite (.or (.cmp .ne (.call 7 [(.var 4)]) (.var 5)) (.or (.cmp .ne (.var 5) (.bi .sorted [(.var 5)])) (.cmp .ne (.call 11 [(.var 4)]) (.call 22 [(.var 4)])))) [(.ret (.c (.bl false)))] []), (.ite (.cmp .ne (.comp (.nm 13) [13] (.bin .add (.var 6) (.lst [(.c (.str [81]))])) (.c (.bl true)) (.call 6 [(.var 4), (.var 13)])) (.comp (.nm 13) [13] (.bin .add (.var 6) (.lst [(.c (.str [81]))])) (.c (.bl true)) (.bi .len [(.comp (.nm 14) [14] (.var 7) (.cmp .eq (.var 14) (.var 13)) (.var 14))]))) [(.ret (.c (.bl false)))] []), (.set (.nm 8) (.call 14 [(.var 1), (.var 5)])), (.set (.nm 9) (.call 16 [(.var 1), (.var 3), (.lst [(.c (.str [88])), (.c (.str [87]))]), (.c (.int (3)))])), (.ite (.or (.cmp .ne (.call 9 [(.var 4), (.var 8)]) (.call 19 [(.var 4), (.var 8)])) (.cmp .ne (.call 10 [(.var 4), (.var 8), (.var 9)]) (.call 20 [(.var 4), (.var 8), (.var 9)]))) [(.ret (.c (.bl false)))] []), (.for (.nm 10) (.lst [(.var 8), (.bin .add (.var 8) (.tup [(.c (.int (1)))])), (.bin .add (.var 8) (.tup [(.c (.int (9)))])), (.bin .add (.var 8) (.tup [(.c (.int (0)))])), (.bin .add (.var 8) (.tup [(.neg (.c (.int (1))))])), (.bin .add (.var 8) (.tup [(.c (.bl true))])), (.bin .add (.var 8) (.tup [(.c .non)])), (.bi .list [(.var 8)]), (.c .non), (.c (.int (5)))]) [(.set (.nm 11) (.and (.isi (.var 10) .tuple) (.and (.cmp .mem (.var 10) (.var 5)) (.cmp .eq (.bi .len [(.comp (.nm 15) [15] (.var 10) (.isi (.var 15) .bool) (.var 15))]) (.c (.int (0))))))), (.set (.nm 12) (.call 8 [(.var 4), (.var 10)])), (.ite (.or (.not (.isi (.var 12) .bool)) (.cmp .ne (.var 12) (.var 11))) [(.ret (.c (.bl false)))] [])])]), (.ret (.c (.bl true)))]⟩
abbrev N_law : List Str := ["script", "state", "turn", "tongue", "term", "places", "names", "stands", "place", "part", "value", "due", "told", "name", "each", "k"]
abbrev P_law : List Str := ["script"]
def T : List Df := [d_is_whole, d_is_var, d_size, d_depth, d_variables, d_is_ground, d_count, d_positions, d_has_position, d_at, d_put, d_parts, d_l_state, d_l_take, d_l_pick, d_l_tongue, d_l_term, d_l_names, d_l_places, d_l_at, d_l_with, d_l_depth, d_l_parts, d_law]
end L2.Mi.k02

set_option Elab.async false
set_option linter.all false
set_option maxRecDepth 100000
set_option maxHeartbeats 4000000

namespace L2.Mi.k02
open PySem PySem.Spec PyProof.Rows L2.Mi
theorem sc_is_whole : FnScope N_is_whole P_is_whole (defScope s_is_whole) := ⟨rfl, rfl, rfl, by decide +kernel, rfl, by decide +kernel, by decide +kernel⟩
theorem sc_is_var : FnScope N_is_var P_is_var (defScope s_is_var) := ⟨rfl, rfl, rfl, by decide +kernel, rfl, by decide +kernel, by decide +kernel⟩
theorem sc_size : FnScope N_size P_size (defScope s_size) := ⟨rfl, rfl, rfl, by decide +kernel, rfl, by decide +kernel, by decide +kernel⟩
theorem sc_depth : FnScope N_depth P_depth (defScope s_depth) := ⟨rfl, rfl, rfl, by decide +kernel, rfl, by decide +kernel, by decide +kernel⟩
theorem sc_variables : FnScope N_variables P_variables (defScope s_variables) := ⟨rfl, rfl, rfl, by decide +kernel, rfl, by decide +kernel, by decide +kernel⟩
theorem sc_is_ground : FnScope N_is_ground P_is_ground (defScope s_is_ground) := ⟨rfl, rfl, rfl, by decide +kernel, rfl, by decide +kernel, by decide +kernel⟩
theorem sc_count : FnScope N_count P_count (defScope s_count) := ⟨rfl, rfl, rfl, by decide +kernel, rfl, by decide +kernel, by decide +kernel⟩
theorem sc_positions : FnScope N_positions P_positions (defScope s_positions) := ⟨rfl, rfl, rfl, by decide +kernel, rfl, by decide +kernel, by decide +kernel⟩
theorem sc_has_position : FnScope N_has_position P_has_position (defScope s_has_position) := ⟨rfl, rfl, rfl, by decide +kernel, rfl, by decide +kernel, by decide +kernel⟩
theorem sc_at : FnScope N_at P_at (defScope s_at) := ⟨rfl, rfl, rfl, by decide +kernel, rfl, by decide +kernel, by decide +kernel⟩
theorem sc_put : FnScope N_put P_put (defScope s_put) := ⟨rfl, rfl, rfl, by decide +kernel, rfl, by decide +kernel, by decide +kernel⟩
theorem sc_parts : FnScope N_parts P_parts (defScope s_parts) := ⟨rfl, rfl, rfl, by decide +kernel, rfl, by decide +kernel, by decide +kernel⟩
theorem sc_l_state : FnScope N_l_state P_l_state (defScope s_l_state) := ⟨rfl, rfl, rfl, by decide +kernel, rfl, by decide +kernel, by decide +kernel⟩
theorem sc_l_take : FnScope N_l_take P_l_take (defScope s_l_take) := ⟨rfl, rfl, rfl, by decide +kernel, rfl, by decide +kernel, by decide +kernel⟩
theorem sc_l_pick : FnScope N_l_pick P_l_pick (defScope s_l_pick) := ⟨rfl, rfl, rfl, by decide +kernel, rfl, by decide +kernel, by decide +kernel⟩
theorem sc_l_tongue : FnScope N_l_tongue P_l_tongue (defScope s_l_tongue) := ⟨rfl, rfl, rfl, by decide +kernel, rfl, by decide +kernel, by decide +kernel⟩
theorem sc_l_term : FnScope N_l_term P_l_term (defScope s_l_term) := ⟨rfl, rfl, rfl, by decide +kernel, rfl, by decide +kernel, by decide +kernel⟩
theorem sc_l_names : FnScope N_l_names P_l_names (defScope s_l_names) := ⟨rfl, rfl, rfl, by decide +kernel, rfl, by decide +kernel, by decide +kernel⟩
theorem sc_l_places : FnScope N_l_places P_l_places (defScope s_l_places) := ⟨rfl, rfl, rfl, by decide +kernel, rfl, by decide +kernel, by decide +kernel⟩
theorem sc_l_at : FnScope N_l_at P_l_at (defScope s_l_at) := ⟨rfl, rfl, rfl, by decide +kernel, rfl, by decide +kernel, by decide +kernel⟩
theorem sc_l_with : FnScope N_l_with P_l_with (defScope s_l_with) := ⟨rfl, rfl, rfl, by decide +kernel, rfl, by decide +kernel, by decide +kernel⟩
theorem sc_l_depth : FnScope N_l_depth P_l_depth (defScope s_l_depth) := ⟨rfl, rfl, rfl, by decide +kernel, rfl, by decide +kernel, by decide +kernel⟩
theorem sc_l_parts : FnScope N_l_parts P_l_parts (defScope s_l_parts) := ⟨rfl, rfl, rfl, by decide +kernel, rfl, by decide +kernel, by decide +kernel⟩
theorem sc_law : FnScope N_law P_law (defScope s_law) := ⟨rfl, rfl, rfl, by decide +kernel, rfl, by decide +kernel, by decide +kernel⟩
def faO (K : PySem.W.Frag) : Nat → Option Addr
  | 0 => some (He.ga K "is_whole")
  | 1 => some (He.ga K "is_var")
  | 2 => some (He.ga K "size")
  | 3 => some (He.ga K "depth")
  | 4 => some (He.ga K "variables")
  | 5 => some (He.ga K "is_ground")
  | 6 => some (He.ga K "count")
  | 7 => some (He.ga K "positions")
  | 8 => some (He.ga K "has_position")
  | 9 => some (He.ga K "at")
  | 10 => some (He.ga K "put")
  | 11 => some (He.ga K "parts")
  | 12 => some (He.ga K "_law_state")
  | 13 => some (He.ga K "_law_take")
  | 14 => some (He.ga K "_law_pick")
  | 15 => some (He.ga K "_law_tongue")
  | 16 => some (He.ga K "_law_term")
  | 17 => some (He.ga K "_law_names")
  | 18 => some (He.ga K "_law_places")
  | 19 => some (He.ga K "_law_at")
  | 20 => some (He.ga K "_law_with")
  | 21 => some (He.ga K "_law_depth")
  | 22 => some (He.ga K "_law_parts")
  | 23 => some (He.ga K "law")
  | _ => none
abbrev gb (K : PySem.W.Frag) : Gb := ⟨K, faO K⟩
structure GF (K : PySem.W.Frag) (mg : Str → Option Value) : Prop where
  f_abs : mg "abs" = none
  f_bool : mg "bool" = none
  f_int : mg "int" = none
  f_isinstance : mg "isinstance" = none
  f_len : mg "len" = none
  f_list : mg "list" = none
  f_max : mg "max" = none
  f_range : mg "range" = none
  f_sorted : mg "sorted" = none
  f_str : mg "str" = none
  f_sum : mg "sum" = none
  f_tuple : mg "tuple" = none
  g_u_law_at : mg "_law_at" = some (.ref (He.ga K "_law_at"))
  g_u_law_depth : mg "_law_depth" = some (.ref (He.ga K "_law_depth"))
  g_u_law_names : mg "_law_names" = some (.ref (He.ga K "_law_names"))
  g_u_law_parts : mg "_law_parts" = some (.ref (He.ga K "_law_parts"))
  g_u_law_pick : mg "_law_pick" = some (.ref (He.ga K "_law_pick"))
  g_u_law_places : mg "_law_places" = some (.ref (He.ga K "_law_places"))
  g_u_law_state : mg "_law_state" = some (.ref (He.ga K "_law_state"))
  g_u_law_take : mg "_law_take" = some (.ref (He.ga K "_law_take"))
  g_u_law_term : mg "_law_term" = some (.ref (He.ga K "_law_term"))
  g_u_law_tongue : mg "_law_tongue" = some (.ref (He.ga K "_law_tongue"))
  g_u_law_with : mg "_law_with" = some (.ref (He.ga K "_law_with"))
  g_at : mg "at" = some (.ref (He.ga K "at"))
  g_count : mg "count" = some (.ref (He.ga K "count"))
  g_depth : mg "depth" = some (.ref (He.ga K "depth"))
  g_has_position : mg "has_position" = some (.ref (He.ga K "has_position"))
  g_is_ground : mg "is_ground" = some (.ref (He.ga K "is_ground"))
  g_is_var : mg "is_var" = some (.ref (He.ga K "is_var"))
  g_is_whole : mg "is_whole" = some (.ref (He.ga K "is_whole"))
  g_parts : mg "parts" = some (.ref (He.ga K "parts"))
  g_positions : mg "positions" = some (.ref (He.ga K "positions"))
  g_put : mg "put" = some (.ref (He.ga K "put"))
  g_size : mg "size" = some (.ref (He.ga K "size"))
  g_variables : mg "variables" = some (.ref (He.ga K "variables"))
theorem b_is_whole {P : Program} {w : World} {K : PySem.W.Frag} {mg : Str → Option Value} {base : Heap} {k : Nat} {C : CallF} (g : GF K mg) (a : Addr) (cdv : Value) (A : Around) (outer : List PySem.Env) (s : Shared) (H : Hp) (E : XK) (F : ∀ f a, (gb K).fa f = some a → FnC P w K mg base (gb K) C k f a)
    (hr : Room k (A.deeper (envOfC "is_whole" (defScope s_is_whole) s.heap.objs.size a cdv))) : PSs (cxOf CX0 P w K mg base N_is_whole "is_whole" (defScope s_is_whole) a cdv A outer s H E).nox (defBody s_is_whole) (tSs (gb K) C d_is_whole.body) := by
  have hu : (A.deeper (envOfC "is_whole" (defScope s_is_whole) s.heap.objs.size a cdv)).units + 65 < cLine := by have := hr.un; omega
  exact (sss_cons (ss_ret (se_and (sisi .int g.f_isinstance g.f_int bt_int rfl (sv 0)) (se_and (se_not (sisi .bool g.f_isinstance g.f_bool bt_bool rfl (sv 0))) (se_one (se_chn (o := .le) (o' := .le) rfl hu (sv 1) (sv 0) (sv 2))))))
    sss_nil)
theorem b_is_var {P : Program} {w : World} {K : PySem.W.Frag} {mg : Str → Option Value} {base : Heap} {k : Nat} {C : CallF} (g : GF K mg) (a : Addr) (cdv : Value) (A : Around) (outer : List PySem.Env) (s : Shared) (H : Hp) (E : XK) (F : ∀ f a, (gb K).fa f = some a → FnC P w K mg base (gb K) C k f a)
    (hr : Room k (A.deeper (envOfC "is_var" (defScope s_is_var) s.heap.objs.size a cdv))) : PSs (cxOf CX0 P w K mg base N_is_var "is_var" (defScope s_is_var) a cdv A outer s H E).nox (defBody s_is_var) (tSs (gb K) C d_is_var.body) := by
  have hu : (A.deeper (envOfC "is_var" (defScope s_is_var) s.heap.objs.size a cdv)).units + 65 < cLine := by have := hr.un; omega
  exact (sss_cons (ss_ret (sisi .str g.f_isinstance g.f_str bt_str rfl (sv 0)))
    sss_nil)
theorem b_size {P : Program} {w : World} {K : PySem.W.Frag} {mg : Str → Option Value} {base : Heap} {k : Nat} {C : CallF} (g : GF K mg) (a : Addr) (cdv : Value) (A : Around) (outer : List PySem.Env) (s : Shared) (H : Hp) (E : XK) (F : ∀ f a, (gb K).fa f = some a → FnC P w K mg base (gb K) C k f a)
    (hr : Room k (A.deeper (envOfC "size" (defScope s_size) s.heap.objs.size a cdv))) : PSs (cxOf CX0 P w K mg base N_size "size" (defScope s_size) a cdv A outer s H E).nox (defBody s_size) (tSs (gb K) C d_size.body) := by
  have hu : (A.deeper (envOfC "size" (defScope s_size) s.heap.objs.size a cdv)).units + 65 < cLine := by have := hr.un; omega
  exact (sss_cons (ss_ret (se_ite (st_val (scall 1 F hr g.g_is_var (sa_cons (sv 0) sa_nil))) se_int (se_bin (o := .add) rfl se_int (sb_sum g.f_sum rfl (sa_cons (se_comp (own := [("part", 1)]) (by decide) rfl sc_size.nd (si_any rfl (se_slcL rfl (sv 0) se_int)) (blkOk_by (by kernel_rfl)) (fun _ _ _ _ _ => (sgn 1 sc_size.nd)) (fun _ _ _ _ _ => sts_nil) (fun _ _ _ _ _ => (scall 2 F hr g.g_size (sa_cons (sv 1) sa_nil)))) sa_nil)))))
    sss_nil)
theorem b_depth {P : Program} {w : World} {K : PySem.W.Frag} {mg : Str → Option Value} {base : Heap} {k : Nat} {C : CallF} (g : GF K mg) (a : Addr) (cdv : Value) (A : Around) (outer : List PySem.Env) (s : Shared) (H : Hp) (E : XK) (F : ∀ f a, (gb K).fa f = some a → FnC P w K mg base (gb K) C k f a)
    (hr : Room k (A.deeper (envOfC "depth" (defScope s_depth) s.heap.objs.size a cdv))) : PSs (cxOf CX0 P w K mg base N_depth "depth" (defScope s_depth) a cdv A outer s H E).nox (defBody s_depth) (tSs (gb K) C d_depth.body) := by
  have hu : (A.deeper (envOfC "depth" (defScope s_depth) s.heap.objs.size a cdv)).units + 65 < cLine := by have := hr.un; omega
  exact (sss_cons (ss_ret (se_ite (st_val (scall 1 F hr g.g_is_var (sa_cons (sv 0) sa_nil))) se_int (se_bin (o := .add) rfl se_int (sb_max g.f_max rfl (sa_cons (se_bin (o := .add) rfl (se_lst (sa_cons se_int sa_nil)) (se_comp (own := [("part", 1)]) (by decide) rfl sc_depth.nd (si_any rfl (se_slcL rfl (sv 0) se_int)) (blkOk_by (by kernel_rfl)) (fun _ _ _ _ _ => (sgn 1 sc_depth.nd)) (fun _ _ _ _ _ => sts_nil) (fun _ _ _ _ _ => (scall 3 F hr g.g_depth (sa_cons (sv 1) sa_nil))))) sa_nil)))))
    sss_nil)
theorem b_variables {P : Program} {w : World} {K : PySem.W.Frag} {mg : Str → Option Value} {base : Heap} {k : Nat} {C : CallF} (g : GF K mg) (a : Addr) (cdv : Value) (A : Around) (outer : List PySem.Env) (s : Shared) (H : Hp) (E : XK) (F : ∀ f a, (gb K).fa f = some a → FnC P w K mg base (gb K) C k f a)
    (hr : Room k (A.deeper (envOfC "variables" (defScope s_variables) s.heap.objs.size a cdv))) : PSs (cxOf CX0 P w K mg base N_variables "variables" (defScope s_variables) a cdv A outer s H E).nox (defBody s_variables) (tSs (gb K) C d_variables.body) := by
  have hu : (A.deeper (envOfC "variables" (defScope s_variables) s.heap.objs.size a cdv)).units + 65 < cLine := by have := hr.un; omega
  exact (sss_cons (ss_if (st_val (scall 1 F hr g.g_is_var (sa_cons (sv 0) sa_nil))) (sss_cons (ss_ret (se_lst (sa_cons (sv 0) sa_nil)))
    sss_nil) sss_nil)
    (sss_cons (sset 1 sc_variables.nd (sal_lst sa_nil))
    (sss_cons (ss_for PassesOwn.never rfl (si_any rfl (se_slcL rfl (sv 0) se_int)) (sgn 2 sc_variables.nd) (sss_cons (ss_expr (sm_extend rfl (sv 1) (sa_cons (se_comp (own := [("name", 3)]) (by decide) rfl sc_variables.nd (si_any rfl (scall 4 F hr g.g_variables (sa_cons (sv 2) sa_nil))) (blkOk_by (by kernel_rfl)) (fun _ _ _ _ _ => (sgn 3 sc_variables.nd)) (fun _ _ _ _ _ => (pts_one (st_cmp (o := .nmem) rfl hu (by rfl) (sv 3) (sv 1)))) (fun _ _ _ _ _ => (sv 3))) sa_nil)))
    sss_nil))
    (sss_cons (ss_ret (sv 1))
    sss_nil))))
theorem b_is_ground {P : Program} {w : World} {K : PySem.W.Frag} {mg : Str → Option Value} {base : Heap} {k : Nat} {C : CallF} (g : GF K mg) (a : Addr) (cdv : Value) (A : Around) (outer : List PySem.Env) (s : Shared) (H : Hp) (E : XK) (F : ∀ f a, (gb K).fa f = some a → FnC P w K mg base (gb K) C k f a)
    (hr : Room k (A.deeper (envOfC "is_ground" (defScope s_is_ground) s.heap.objs.size a cdv))) : PSs (cxOf CX0 P w K mg base N_is_ground "is_ground" (defScope s_is_ground) a cdv A outer s H E).nox (defBody s_is_ground) (tSs (gb K) C d_is_ground.body) := by
  have hu : (A.deeper (envOfC "is_ground" (defScope s_is_ground) s.heap.objs.size a cdv)).units + 65 < cLine := by have := hr.un; omega
  exact (sss_cons (ss_ret (se_cmp (o := .eq) rfl hu (by rfl) (sb_len g.f_len rfl (sa_cons (scall 4 F hr g.g_variables (sa_cons (sv 0) sa_nil)) sa_nil)) se_int))
    sss_nil)
theorem b_count {P : Program} {w : World} {K : PySem.W.Frag} {mg : Str → Option Value} {base : Heap} {k : Nat} {C : CallF} (g : GF K mg) (a : Addr) (cdv : Value) (A : Around) (outer : List PySem.Env) (s : Shared) (H : Hp) (E : XK) (F : ∀ f a, (gb K).fa f = some a → FnC P w K mg base (gb K) C k f a)
    (hr : Room k (A.deeper (envOfC "count" (defScope s_count) s.heap.objs.size a cdv))) : PSs (cxOf CX0 P w K mg base N_count "count" (defScope s_count) a cdv A outer s H E).nox (defBody s_count) (tSs (gb K) C d_count.body) := by
  have hu : (A.deeper (envOfC "count" (defScope s_count) s.heap.objs.size a cdv)).units + 65 < cLine := by have := hr.un; omega
  exact (sss_cons (ss_if (st_val (scall 1 F hr g.g_is_var (sa_cons (sv 0) sa_nil))) (sss_cons (ss_ret (se_ite (st_cmp (o := .eq) rfl hu (by rfl) (sv 0) (sv 1)) se_int se_int))
    sss_nil) sss_nil)
    (sss_cons (ss_ret (sb_sum g.f_sum rfl (sa_cons (se_comp (own := [("part", 2)]) (by decide) rfl sc_count.nd (si_any rfl (se_slcL rfl (sv 0) se_int)) (blkOk_by (by kernel_rfl)) (fun _ _ _ _ _ => (sgn 2 sc_count.nd)) (fun _ _ _ _ _ => sts_nil) (fun _ _ _ _ _ => (scall 6 F hr g.g_count (sa_cons (sv 2) (sa_cons (sv 1) sa_nil))))) sa_nil)))
    sss_nil))
theorem b_positions {P : Program} {w : World} {K : PySem.W.Frag} {mg : Str → Option Value} {base : Heap} {k : Nat} {C : CallF} (g : GF K mg) (a : Addr) (cdv : Value) (A : Around) (outer : List PySem.Env) (s : Shared) (H : Hp) (E : XK) (F : ∀ f a, (gb K).fa f = some a → FnC P w K mg base (gb K) C k f a)
    (hr : Room k (A.deeper (envOfC "positions" (defScope s_positions) s.heap.objs.size a cdv))) : PSs (cxOf CX0 P w K mg base N_positions "positions" (defScope s_positions) a cdv A outer s H E).nox (defBody s_positions) (tSs (gb K) C d_positions.body) := by
  have hu : (A.deeper (envOfC "positions" (defScope s_positions) s.heap.objs.size a cdv)).units + 65 < cLine := by have := hr.un; omega
  exact (sss_cons (ss_if (st_val (scall 1 F hr g.g_is_var (sa_cons (sv 0) sa_nil))) (sss_cons (ss_ret (se_lst (sa_cons (se_tup sa_nil) sa_nil)))
    sss_nil) sss_nil)
    (sss_cons (sset 1 sc_positions.nd (sal_lst (sa_cons (se_tup sa_nil) sa_nil)))
    (sss_cons (ss_for PassesOwn.never rfl (si_range2 rfl g.f_range se_int (sb_len g.f_len rfl (sa_cons (sv 0) sa_nil))) (sgn 2 sc_positions.nd) (sss_cons (ss_expr (sm_extend rfl (sv 1) (sa_cons (se_comp (own := [("rest", 3)]) (by decide) rfl sc_positions.nd (si_any rfl (scall 7 F hr g.g_positions (sa_cons (se_sub rfl (sv 0) (sv 2)) sa_nil))) (blkOk_by (by kernel_rfl)) (fun _ _ _ _ _ => (sgn 3 sc_positions.nd)) (fun _ _ _ _ _ => sts_nil) (fun _ _ _ _ _ => (se_bin (o := .add) rfl (se_tup (sa_cons (sv 2) sa_nil)) (sv 3)))) sa_nil)))
    sss_nil))
    (sss_cons (ss_ret (sv 1))
    sss_nil))))
theorem b_has_position {P : Program} {w : World} {K : PySem.W.Frag} {mg : Str → Option Value} {base : Heap} {k : Nat} {C : CallF} (g : GF K mg) (a : Addr) (cdv : Value) (A : Around) (outer : List PySem.Env) (s : Shared) (H : Hp) (E : XK) (F : ∀ f a, (gb K).fa f = some a → FnC P w K mg base (gb K) C k f a)
    (hr : Room k (A.deeper (envOfC "has_position" (defScope s_has_position) s.heap.objs.size a cdv))) : PSs (cxOf CX0 P w K mg base N_has_position "has_position" (defScope s_has_position) a cdv A outer s H E).nox (defBody s_has_position) (tSs (gb K) C d_has_position.body) := by
  have hu : (A.deeper (envOfC "has_position" (defScope s_has_position) s.heap.objs.size a cdv)).units + 65 < cLine := by have := hr.un; omega
  exact (sss_cons (ss_if (st_not (st_val (sisi .tuple g.f_isinstance g.f_tuple bt_tuple rfl (sv 1)))) (sss_cons (ss_ret se_bl)
    sss_nil) sss_nil)
    (sss_cons (ss_for PassesOwn.never rfl (si_any rfl (sv 1)) (sgn 2 sc_has_position.nd) (sss_cons (ss_if (PW.pt (sw_or (st_val (scall 1 F hr g.g_is_var (sa_cons (sv 0) sa_nil))) (sw_or1 (st_not (st_val (scall 0 F hr g.g_is_whole (sa_cons (sv 2) (sa_cons se_int (sa_cons (se_bin (o := .sub) rfl (sb_len g.f_len rfl (sa_cons (sv 0) sa_nil)) se_int) sa_nil))))))))) (sss_cons (ss_ret se_bl)
    sss_nil) sss_nil)
    (sss_cons (sset 0 sc_has_position.nd (se_sub rfl (sv 0) (sv 2)))
    sss_nil)))
    (sss_cons (ss_ret se_bl)
    sss_nil)))
theorem b_at {P : Program} {w : World} {K : PySem.W.Frag} {mg : Str → Option Value} {base : Heap} {k : Nat} {C : CallF} (g : GF K mg) (a : Addr) (cdv : Value) (A : Around) (outer : List PySem.Env) (s : Shared) (H : Hp) (E : XK) (F : ∀ f a, (gb K).fa f = some a → FnC P w K mg base (gb K) C k f a)
    (hr : Room k (A.deeper (envOfC "at" (defScope s_at) s.heap.objs.size a cdv))) : PSs (cxOf CX0 P w K mg base N_at "at" (defScope s_at) a cdv A outer s H E).nox (defBody s_at) (tSs (gb K) C d_at.body) := by
  have hu : (A.deeper (envOfC "at" (defScope s_at) s.heap.objs.size a cdv)).units + 65 < cLine := by have := hr.un; omega
  exact (sss_cons (ss_for PassesOwn.never rfl (si_any rfl (sv 1)) (sgn 2 sc_at.nd) (sss_cons (sset 0 sc_at.nd (se_sub rfl (sv 0) (sv 2)))
    sss_nil))
    (sss_cons (ss_ret (sv 0))
    sss_nil))
theorem b_put {P : Program} {w : World} {K : PySem.W.Frag} {mg : Str → Option Value} {base : Heap} {k : Nat} {C : CallF} (g : GF K mg) (a : Addr) (cdv : Value) (A : Around) (outer : List PySem.Env) (s : Shared) (H : Hp) (E : XK) (F : ∀ f a, (gb K).fa f = some a → FnC P w K mg base (gb K) C k f a)
    (hr : Room k (A.deeper (envOfC "put" (defScope s_put) s.heap.objs.size a cdv))) : PSs (cxOf CX0 P w K mg base N_put "put" (defScope s_put) a cdv A outer s H E).nox (defBody s_put) (tSs (gb K) C d_put.body) := by
  have hu : (A.deeper (envOfC "put" (defScope s_put) s.heap.objs.size a cdv)).units + 65 < cLine := by have := hr.un; omega
  exact (sss_cons (ss_if (st_cmp (o := .eq) rfl hu (by rfl) (sb_len g.f_len rfl (sa_cons (sv 1) sa_nil)) se_int) (sss_cons (ss_ret (sv 2))
    sss_nil) sss_nil)
    (sss_cons (sset 3 sc_put.nd (se_sub rfl (sv 1) se_int))
    (sss_cons (ss_ret (se_bin (o := .add) rfl (se_bin (o := .add) rfl (se_slcH rfl (sv 0) (sv 3)) (se_tup (sa_cons (scall 10 F hr g.g_put (sa_cons (se_sub rfl (sv 0) (sv 3)) (sa_cons (se_slcL rfl (sv 1) se_int) (sa_cons (sv 2) sa_nil)))) sa_nil))) (se_slcL rfl (sv 0) (se_bin (o := .add) rfl (sv 3) se_int))))
    sss_nil)))
theorem b_parts {P : Program} {w : World} {K : PySem.W.Frag} {mg : Str → Option Value} {base : Heap} {k : Nat} {C : CallF} (g : GF K mg) (a : Addr) (cdv : Value) (A : Around) (outer : List PySem.Env) (s : Shared) (H : Hp) (E : XK) (F : ∀ f a, (gb K).fa f = some a → FnC P w K mg base (gb K) C k f a)
    (hr : Room k (A.deeper (envOfC "parts" (defScope s_parts) s.heap.objs.size a cdv))) : PSs (cxOf CX0 P w K mg base N_parts "parts" (defScope s_parts) a cdv A outer s H E).nox (defBody s_parts) (tSs (gb K) C d_parts.body) := by
  have hu : (A.deeper (envOfC "parts" (defScope s_parts) s.heap.objs.size a cdv)).units + 65 < cLine := by have := hr.un; omega
  exact (sss_cons (sset 1 sc_parts.nd (sal_lst sa_nil))
    (sss_cons (ss_if (st_not (st_val (scall 1 F hr g.g_is_var (sa_cons (sv 0) sa_nil)))) (sss_cons (ss_for PassesOwn.never rfl (si_any rfl (se_slcL rfl (sv 0) se_int)) (sgn 2 sc_parts.nd) (sss_cons (ss_expr (sm_extend rfl (sv 1) (sa_cons (se_comp (own := [("other", 3)]) (by decide) rfl sc_parts.nd (si_any rfl (scall 11 F hr g.g_parts (sa_cons (sv 2) sa_nil))) (blkOk_by (by kernel_rfl)) (fun _ _ _ _ _ => (sgn 3 sc_parts.nd)) (fun _ _ _ _ _ => (pts_one (st_cmp (o := .nmem) rfl hu (by rfl) (sv 3) (sv 1)))) (fun _ _ _ _ _ => (sv 3))) sa_nil)))
    sss_nil))
    sss_nil) sss_nil)
    (sss_cons (ss_ret (se_ite (st_cmp (o := .mem) rfl hu (by rfl) (sv 0) (sv 1)) (sv 1) (se_bin (o := .add) rfl (sv 1) (se_lst (sa_cons (sv 0) sa_nil)))))
    sss_nil)))
theorem b_l_state {P : Program} {w : World} {K : PySem.W.Frag} {mg : Str → Option Value} {base : Heap} {k : Nat} {C : CallF} (g : GF K mg) (a : Addr) (cdv : Value) (A : Around) (outer : List PySem.Env) (s : Shared) (H : Hp) (E : XK) (F : ∀ f a, (gb K).fa f = some a → FnC P w K mg base (gb K) C k f a)
    (hr : Room k (A.deeper (envOfC "_law_state" (defScope s_l_state) s.heap.objs.size a cdv))) : PSs (cxOf CX0 P w K mg base N_l_state "_law_state" (defScope s_l_state) a cdv A outer s H E).nox (defBody s_l_state) (tSs (gb K) C d_l_state.body) := by
  have hu : (A.deeper (envOfC "_law_state" (defScope s_l_state) s.heap.objs.size a cdv)).units + 65 < cLine := by have := hr.un; omega
  exact (sss_cons (ss_setLcA (i := 1) (own := [("cell", 2)]) (by decide) rfl sc_l_state.nd rfl rfl (sw_true rfl rfl rfl (by rfl)) (si_any rfl (se_slcH rfl (sv 0) se_int)) (blkOk_by (by kernel_rfl)) (fun _ _ _ _ _ => (sgn 2 sc_l_state.nd)) (fun _ _ _ _ _ => sts_nil) (fun _ _ _ _ _ => (sb_abs g.f_abs rfl (sa_cons (sv 2) sa_nil))))
    (sss_cons (ss_if (st_cmp (o := .eq) rfl hu (by rfl) (sb_len g.f_len rfl (sa_cons (sv 1) sa_nil)) se_int) (sss_cons (sset 1 sc_l_state.nd (sal_lst (sa_cons se_int sa_nil)))
    sss_nil) sss_nil)
    (sss_cons (ss_ret (sal_lst (sa_cons se_int (sa_cons (sv 1) sa_nil))))
    sss_nil)))
theorem b_l_take {P : Program} {w : World} {K : PySem.W.Frag} {mg : Str → Option Value} {base : Heap} {k : Nat} {C : CallF} (g : GF K mg) (a : Addr) (cdv : Value) (A : Around) (outer : List PySem.Env) (s : Shared) (H : Hp) (E : XK) (F : ∀ f a, (gb K).fa f = some a → FnC P w K mg base (gb K) C k f a)
    (hr : Room k (A.deeper (envOfC "_law_take" (defScope s_l_take) s.heap.objs.size a cdv))) : PSs (cxOf CX0 P w K mg base N_l_take "_law_take" (defScope s_l_take) a cdv A outer s H E).nox (defBody s_l_take) (tSs (gb K) C d_l_take.body) := by
  have hu : (A.deeper (envOfC "_law_take" (defScope s_l_take) s.heap.objs.size a cdv)).units + 65 < cLine := by have := hr.un; omega
  exact (sss_cons (ss_if (st_cmp (o := .lt) rfl hu (by rfl) (sv 1) se_int) (sss_cons (ss_ret se_int)
    sss_nil) sss_nil)
    (sss_cons (sset 2 sc_l_take.nd (se_sub rfl (sv 0) se_int))
    (sss_cons (sset 3 sc_l_take.nd (se_bin (o := .mod) rfl (sb_int g.f_int rfl (sa_cons (se_sub rfl (sv 0) se_int) sa_nil)) (sb_len g.f_len rfl (sa_cons (sv 2) sa_nil))))
    (sss_cons (sset 4 sc_l_take.nd (se_sub rfl (sv 2) (sv 3)))
    (sss_cons (ss_if (st_cmp (o := .ge) rfl hu (by rfl) (sv 4) se_int) (sss_cons (ss_sti (se_bin (o := .fdiv) rfl (sv 4) (sv 1)) (sv 2) (sv 3))
    (sss_cons (ss_ret (se_bin (o := .mod) rfl (sb_int g.f_int rfl (sa_cons (sv 4) sa_nil)) (sv 1)))
    sss_nil)) sss_nil)
    (sss_cons (ss_sti (se_bin (o := .add) rfl (se_sub rfl (sv 0) se_int) se_int) (sv 0) se_int)
    (sss_cons (sset 5 sc_l_take.nd (se_bin (o := .mod) rfl (sb_int g.f_int rfl (sa_cons (se_bin (o := .add) rfl (se_bin (o := .mul) rfl (sv 4) se_int) (se_bin (o := .mul) rfl (se_sub rfl (sv 0) se_int) se_int)) sa_nil)) se_int))
    (sss_cons (sset 5 sc_l_take.nd (se_bin (o := .mod) rfl (sb_int g.f_int rfl (sa_cons (se_bin (o := .add) rfl (se_bin (o := .mul) rfl (sv 5) se_int) (se_bin (o := .mul) rfl (se_sub rfl (sv 0) se_int) se_int)) sa_nil)) se_int))
    (sss_cons (ss_ret (se_bin (o := .mod) rfl (sb_int g.f_int rfl (sa_cons (se_bin (o := .fdiv) rfl (sv 5) se_int) sa_nil)) (sv 1)))
    sss_nil)))))))))
theorem b_l_pick {P : Program} {w : World} {K : PySem.W.Frag} {mg : Str → Option Value} {base : Heap} {k : Nat} {C : CallF} (g : GF K mg) (a : Addr) (cdv : Value) (A : Around) (outer : List PySem.Env) (s : Shared) (H : Hp) (E : XK) (F : ∀ f a, (gb K).fa f = some a → FnC P w K mg base (gb K) C k f a)
    (hr : Room k (A.deeper (envOfC "_law_pick" (defScope s_l_pick) s.heap.objs.size a cdv))) : PSs (cxOf CX0 P w K mg base N_l_pick "_law_pick" (defScope s_l_pick) a cdv A outer s H E).nox (defBody s_l_pick) (tSs (gb K) C d_l_pick.body) := by
  have hu : (A.deeper (envOfC "_law_pick" (defScope s_l_pick) s.heap.objs.size a cdv)).units + 65 < cLine := by have := hr.un; omega
  exact (sss_cons (ss_ret (se_sub rfl (sv 1) (scall 13 F hr g.g_u_law_take (sa_cons (sv 0) (sa_cons (sb_len g.f_len rfl (sa_cons (sv 1) sa_nil)) sa_nil)))))
    sss_nil)
theorem b_l_tongue {P : Program} {w : World} {K : PySem.W.Frag} {mg : Str → Option Value} {base : Heap} {k : Nat} {C : CallF} (g : GF K mg) (a : Addr) (cdv : Value) (A : Around) (outer : List PySem.Env) (s : Shared) (H : Hp) (E : XK) (F : ∀ f a, (gb K).fa f = some a → FnC P w K mg base (gb K) C k f a)
    (hr : Room k (A.deeper (envOfC "_law_tongue" (defScope s_l_tongue) s.heap.objs.size a cdv))) : PSs (cxOf CX0 P w K mg base N_l_tongue "_law_tongue" (defScope s_l_tongue) a cdv A outer s H E).nox (defBody s_l_tongue) (tSs (gb K) C d_l_tongue.body) := by
  have hu : (A.deeper (envOfC "_law_tongue" (defScope s_l_tongue) s.heap.objs.size a cdv)).units + 65 < cLine := by have := hr.un; omega
  exact (sss_cons (ss_ret (scall 14 F hr g.g_u_law_pick (sa_cons (sv 0) (sa_cons (se_lst (sa_cons (se_tup (sa_cons (se_tup (sa_cons (se_str (by decide +kernel)) (sa_cons se_int sa_nil))) (sa_cons (se_tup (sa_cons (se_str (by decide +kernel)) (sa_cons se_int sa_nil))) sa_nil))) (sa_cons (se_tup (sa_cons (se_tup (sa_cons (se_str (by decide +kernel)) (sa_cons se_int sa_nil))) (sa_cons (se_tup (sa_cons (se_str (by decide +kernel)) (sa_cons se_int sa_nil))) (sa_cons (se_tup (sa_cons (se_str (by decide +kernel)) (sa_cons se_int sa_nil))) (sa_cons (se_tup (sa_cons (se_str (by decide +kernel)) (sa_cons se_int sa_nil))) sa_nil))))) (sa_cons (se_tup (sa_cons (se_tup (sa_cons (se_str (by decide +kernel)) (sa_cons se_int sa_nil))) (sa_cons (se_tup (sa_cons (se_str (by decide +kernel)) (sa_cons se_int sa_nil))) (sa_cons (se_tup (sa_cons (se_str (by decide +kernel)) (sa_cons se_int sa_nil))) (sa_cons (se_tup (sa_cons (se_str (by decide +kernel)) (sa_cons se_int sa_nil))) sa_nil))))) (sa_cons (se_tup (sa_cons (se_tup (sa_cons (se_str (by decide +kernel)) (sa_cons se_int sa_nil))) (sa_cons (se_tup (sa_cons (se_str (by decide +kernel)) (sa_cons se_int sa_nil))) (sa_cons (se_tup (sa_cons (se_str (by decide +kernel)) (sa_cons se_int sa_nil))) sa_nil)))) sa_nil))))) sa_nil))))
    sss_nil)
theorem b_l_term {P : Program} {w : World} {K : PySem.W.Frag} {mg : Str → Option Value} {base : Heap} {k : Nat} {C : CallF} (g : GF K mg) (a : Addr) (cdv : Value) (A : Around) (outer : List PySem.Env) (s : Shared) (H : Hp) (E : XK) (F : ∀ f a, (gb K).fa f = some a → FnC P w K mg base (gb K) C k f a)
    (hr : Room k (A.deeper (envOfC "_law_term" (defScope s_l_term) s.heap.objs.size a cdv))) : PSs (cxOf CX0 P w K mg base N_l_term "_law_term" (defScope s_l_term) a cdv A outer s H E).nox (defBody s_l_term) (tSs (gb K) C d_l_term.body) := by
  have hu : (A.deeper (envOfC "_law_term" (defScope s_l_term) s.heap.objs.size a cdv)).units + 65 < cLine := by have := hr.un; omega
  exact (sss_cons (ss_if (PW.pt (sw_and (st_cmp (o := .gt) rfl hu (by rfl) (sb_len g.f_len rfl (sa_cons (sv 2) sa_nil)) se_int) (sw_and1 (st_cmp (o := .eq) rfl hu (by rfl) (scall 13 F hr g.g_u_law_take (sa_cons (sv 0) (sa_cons (se_ite (st_cmp (o := .gt) rfl hu (by rfl) (sv 3) se_int) se_int se_int) sa_nil))) se_int)))) (sss_cons (ss_ret (scall 14 F hr g.g_u_law_pick (sa_cons (sv 0) (sa_cons (sv 2) sa_nil))))
    sss_nil) sss_nil)
    (sss_cons (ss_setLc (i := 4) (own := [("pair", 7)]) (by decide) rfl sc_l_term.nd rfl rfl (sw_true rfl rfl rfl (by rfl)) (si_any rfl (sv 1)) (blkOk_by (by kernel_rfl)) (fun _ _ _ _ _ => (sgn 7 sc_l_term.nd)) (fun _ _ _ _ _ => (pts_one (PW.pt (sw_or (st_cmp (o := .gt) rfl hu (by rfl) (sv 3) se_int) (sw_or1 (st_cmp (o := .eq) rfl hu (by rfl) (se_sub rfl (sv 7) se_int) se_int)))))) (fun _ _ _ _ _ => (sv 7)))
    (sss_cons (ss_asg (scall 14 F hr g.g_u_law_pick (sa_cons (sv 0) (sa_cons (sv 4) sa_nil))) (sg_tup rfl rfl (sgs_cons (sgn 5 sc_l_term.nd) (sgs_cons (sgn 6 sc_l_term.nd) sgs_nil))))
    (sss_cons (ss_ret (se_bin (o := .add) rfl (se_tup (sa_cons (sv 5) sa_nil)) (sb_tuple g.f_tuple rfl (sa_cons (se_comp (own := [("k", 8)]) (by decide) rfl sc_l_term.nd (si_range1 rfl g.f_range (sv 6)) (blkOk_by (by kernel_rfl)) (fun _ _ _ _ _ => (sgn 8 sc_l_term.nd)) (fun _ _ _ _ _ => sts_nil) (fun _ _ _ _ _ => (scall 16 F hr g.g_u_law_term (sa_cons (sv 0) (sa_cons (sv 1) (sa_cons (sv 2) (sa_cons (se_bin (o := .sub) rfl (sv 3) se_int) sa_nil))))))) sa_nil))))
    sss_nil))))
theorem b_l_names {P : Program} {w : World} {K : PySem.W.Frag} {mg : Str → Option Value} {base : Heap} {k : Nat} {C : CallF} (g : GF K mg) (a : Addr) (cdv : Value) (A : Around) (outer : List PySem.Env) (s : Shared) (H : Hp) (E : XK) (F : ∀ f a, (gb K).fa f = some a → FnC P w K mg base (gb K) C k f a)
    (hr : Room k (A.deeper (envOfC "_law_names" (defScope s_l_names) s.heap.objs.size a cdv))) : PSs (cxOf CX0 P w K mg base N_l_names "_law_names" (defScope s_l_names) a cdv A outer s H E).nox (defBody s_l_names) (tSs (gb K) C d_l_names.body) := by
  have hu : (A.deeper (envOfC "_law_names" (defScope s_l_names) s.heap.objs.size a cdv)).units + 65 < cLine := by have := hr.un; omega
  exact (sss_cons (ss_if (st_val (sisi .str g.f_isinstance g.f_str bt_str rfl (sv 0))) (sss_cons (ss_ret (se_lst (sa_cons (sv 0) sa_nil)))
    sss_nil) sss_nil)
    (sss_cons (sset 1 sc_l_names.nd (se_lst sa_nil))
    (sss_cons (ss_for PassesOwn.never rfl (si_any rfl (se_slcL rfl (sv 0) se_int)) (sgn 2 sc_l_names.nd) (sss_cons (sset 1 sc_l_names.nd (se_bin (o := .add) rfl (sv 1) (se_comp (own := [("name", 3)]) (by decide) rfl sc_l_names.nd (si_any rfl (scall 17 F hr g.g_u_law_names (sa_cons (sv 2) sa_nil))) (blkOk_by (by kernel_rfl)) (fun _ _ _ _ _ => (sgn 3 sc_l_names.nd)) (fun _ _ _ _ _ => (pts_one (st_cmp (o := .nmem) rfl hu (by rfl) (sv 3) (sv 1)))) (fun _ _ _ _ _ => (sv 3)))))
    sss_nil))
    (sss_cons (ss_ret (sv 1))
    sss_nil))))
theorem b_l_places {P : Program} {w : World} {K : PySem.W.Frag} {mg : Str → Option Value} {base : Heap} {k : Nat} {C : CallF} (g : GF K mg) (a : Addr) (cdv : Value) (A : Around) (outer : List PySem.Env) (s : Shared) (H : Hp) (E : XK) (F : ∀ f a, (gb K).fa f = some a → FnC P w K mg base (gb K) C k f a)
    (hr : Room k (A.deeper (envOfC "_law_places" (defScope s_l_places) s.heap.objs.size a cdv))) : PSs (cxOf CX0 P w K mg base N_l_places "_law_places" (defScope s_l_places) a cdv A outer s H E).nox (defBody s_l_places) (tSs (gb K) C d_l_places.body) := by
  have hu : (A.deeper (envOfC "_law_places" (defScope s_l_places) s.heap.objs.size a cdv)).units + 65 < cLine := by have := hr.un; omega
  exact (sss_cons (ss_if (st_val (sisi .str g.f_isinstance g.f_str bt_str rfl (sv 0))) (sss_cons (ss_ret (se_lst (sa_cons (se_tup sa_nil) sa_nil)))
    sss_nil) sss_nil)
    (sss_cons (sset 1 sc_l_places.nd (se_lst (sa_cons (se_tup sa_nil) sa_nil)))
    (sss_cons (ss_for PassesOwn.never rfl (si_range2 rfl g.f_range se_int (sb_len g.f_len rfl (sa_cons (sv 0) sa_nil))) (sgn 2 sc_l_places.nd) (sss_cons (sset 1 sc_l_places.nd (se_bin (o := .add) rfl (sv 1) (se_comp (own := [("rest", 3)]) (by decide) rfl sc_l_places.nd (si_any rfl (scall 18 F hr g.g_u_law_places (sa_cons (se_sub rfl (sv 0) (sv 2)) sa_nil))) (blkOk_by (by kernel_rfl)) (fun _ _ _ _ _ => (sgn 3 sc_l_places.nd)) (fun _ _ _ _ _ => sts_nil) (fun _ _ _ _ _ => (se_bin (o := .add) rfl (se_tup (sa_cons (sv 2) sa_nil)) (sv 3))))))
    sss_nil))
    (sss_cons (ss_ret (sv 1))
    sss_nil))))
theorem b_l_at {P : Program} {w : World} {K : PySem.W.Frag} {mg : Str → Option Value} {base : Heap} {k : Nat} {C : CallF} (g : GF K mg) (a : Addr) (cdv : Value) (A : Around) (outer : List PySem.Env) (s : Shared) (H : Hp) (E : XK) (F : ∀ f a, (gb K).fa f = some a → FnC P w K mg base (gb K) C k f a)
    (hr : Room k (A.deeper (envOfC "_law_at" (defScope s_l_at) s.heap.objs.size a cdv))) : PSs (cxOf CX0 P w K mg base N_l_at "_law_at" (defScope s_l_at) a cdv A outer s H E).nox (defBody s_l_at) (tSs (gb K) C d_l_at.body) := by
  have hu : (A.deeper (envOfC "_law_at" (defScope s_l_at) s.heap.objs.size a cdv)).units + 65 < cLine := by have := hr.un; omega
  exact (sss_cons (ss_for PassesOwn.never rfl (si_any rfl (sv 1)) (sgn 2 sc_l_at.nd) (sss_cons (sset 0 sc_l_at.nd (se_sub rfl (sv 0) (sv 2)))
    sss_nil))
    (sss_cons (ss_ret (sv 0))
    sss_nil))
theorem b_l_with {P : Program} {w : World} {K : PySem.W.Frag} {mg : Str → Option Value} {base : Heap} {k : Nat} {C : CallF} (g : GF K mg) (a : Addr) (cdv : Value) (A : Around) (outer : List PySem.Env) (s : Shared) (H : Hp) (E : XK) (F : ∀ f a, (gb K).fa f = some a → FnC P w K mg base (gb K) C k f a)
    (hr : Room k (A.deeper (envOfC "_law_with" (defScope s_l_with) s.heap.objs.size a cdv))) : PSs (cxOf CX0 P w K mg base N_l_with "_law_with" (defScope s_l_with) a cdv A outer s H E).nox (defBody s_l_with) (tSs (gb K) C d_l_with.body) := by
  have hu : (A.deeper (envOfC "_law_with" (defScope s_l_with) s.heap.objs.size a cdv)).units + 65 < cLine := by have := hr.un; omega
  exact (sss_cons (ss_if (st_cmp (o := .eq) rfl hu (by rfl) (sb_len g.f_len rfl (sa_cons (sv 1) sa_nil)) se_int) (sss_cons (ss_ret (sv 2))
    sss_nil) sss_nil)
    (sss_cons (sset 3 sc_l_with.nd (se_sub rfl (sv 1) se_int))
    (sss_cons (ss_ret (se_bin (o := .add) rfl (se_bin (o := .add) rfl (se_slcH rfl (sv 0) (sv 3)) (se_tup (sa_cons (scall 20 F hr g.g_u_law_with (sa_cons (se_sub rfl (sv 0) (sv 3)) (sa_cons (se_slcL rfl (sv 1) se_int) (sa_cons (sv 2) sa_nil)))) sa_nil))) (se_slcL rfl (sv 0) (se_bin (o := .add) rfl (sv 3) se_int))))
    sss_nil)))
theorem b_l_depth {P : Program} {w : World} {K : PySem.W.Frag} {mg : Str → Option Value} {base : Heap} {k : Nat} {C : CallF} (g : GF K mg) (a : Addr) (cdv : Value) (A : Around) (outer : List PySem.Env) (s : Shared) (H : Hp) (E : XK) (F : ∀ f a, (gb K).fa f = some a → FnC P w K mg base (gb K) C k f a)
    (hr : Room k (A.deeper (envOfC "_law_depth" (defScope s_l_depth) s.heap.objs.size a cdv))) : PSs (cxOf CX0 P w K mg base N_l_depth "_law_depth" (defScope s_l_depth) a cdv A outer s H E).nox (defBody s_l_depth) (tSs (gb K) C d_l_depth.body) := by
  have hu : (A.deeper (envOfC "_law_depth" (defScope s_l_depth) s.heap.objs.size a cdv)).units + 65 < cLine := by have := hr.un; omega
  exact (sss_cons (ss_if (st_val (sisi .str g.f_isinstance g.f_str bt_str rfl (sv 0))) (sss_cons (ss_ret se_int)
    sss_nil) sss_nil)
    (sss_cons (ss_ret (se_bin (o := .add) rfl se_int (se_sub rfl (sb_sorted g.f_sorted rfl hu (sa_cons (se_bin (o := .add) rfl (se_lst (sa_cons se_int sa_nil)) (se_comp (own := [("part", 1)]) (by decide) rfl sc_l_depth.nd (si_any rfl (se_slcL rfl (sv 0) se_int)) (blkOk_by (by kernel_rfl)) (fun _ _ _ _ _ => (sgn 1 sc_l_depth.nd)) (fun _ _ _ _ _ => sts_nil) (fun _ _ _ _ _ => (scall 21 F hr g.g_u_law_depth (sa_cons (sv 1) sa_nil))))) sa_nil)) (se_neg se_int))))
    sss_nil))
theorem b_l_parts {P : Program} {w : World} {K : PySem.W.Frag} {mg : Str → Option Value} {base : Heap} {k : Nat} {C : CallF} (g : GF K mg) (a : Addr) (cdv : Value) (A : Around) (outer : List PySem.Env) (s : Shared) (H : Hp) (E : XK) (F : ∀ f a, (gb K).fa f = some a → FnC P w K mg base (gb K) C k f a)
    (hr : Room k (A.deeper (envOfC "_law_parts" (defScope s_l_parts) s.heap.objs.size a cdv))) : PSs (cxOf CX0 P w K mg base N_l_parts "_law_parts" (defScope s_l_parts) a cdv A outer s H E).nox (defBody s_l_parts) (tSs (gb K) C d_l_parts.body) := by
  have hu : (A.deeper (envOfC "_law_parts" (defScope s_l_parts) s.heap.objs.size a cdv)).units + 65 < cLine := by have := hr.un; omega
  exact (sss_cons (sset 1 sc_l_parts.nd (se_lst sa_nil))
    (sss_cons (ss_if (st_not (st_val (sisi .str g.f_isinstance g.f_str bt_str rfl (sv 0)))) (sss_cons (ss_for PassesOwn.never rfl (si_any rfl (se_slcL rfl (sv 0) se_int)) (sgn 2 sc_l_parts.nd) (sss_cons (sset 1 sc_l_parts.nd (se_bin (o := .add) rfl (sv 1) (se_comp (own := [("other", 3)]) (by decide) rfl sc_l_parts.nd (si_any rfl (scall 22 F hr g.g_u_law_parts (sa_cons (sv 2) sa_nil))) (blkOk_by (by kernel_rfl)) (fun _ _ _ _ _ => (sgn 3 sc_l_parts.nd)) (fun _ _ _ _ _ => (pts_one (st_cmp (o := .nmem) rfl hu (by rfl) (sv 3) (sv 1)))) (fun _ _ _ _ _ => (sv 3)))))
    sss_nil))
    sss_nil) sss_nil)
    (sss_cons (ss_ret (se_bin (o := .add) rfl (sv 1) (se_ite (st_cmp (o := .mem) rfl hu (by rfl) (sv 0) (sv 1)) (se_lst sa_nil) (se_lst (sa_cons (sv 0) sa_nil)))))
    sss_nil)))
theorem b_law {P : Program} {w : World} {K : PySem.W.Frag} {mg : Str → Option Value} {base : Heap} {k : Nat} {C : CallF} (g : GF K mg) (a : Addr) (cdv : Value) (A : Around) (outer : List PySem.Env) (s : Shared) (H : Hp) (E : XK) (F : ∀ f a, (gb K).fa f = some a → FnC P w K mg base (gb K) C k f a)
    (hr : Room k (A.deeper (envOfC "law" (defScope s_law) s.heap.objs.size a cdv))) : PSs (cxOf CX0 P w K mg base N_law "law" (defScope s_law) a cdv A outer s H E).nox (defBody s_law) (tSs (gb K) C d_law.body) := by
  have hu : (A.deeper (envOfC "law" (defScope s_law) s.heap.objs.size a cdv)).units + 65 < cLine := by have := hr.un; omega
  exact (sss_cons (sset 1 sc_law.nd (scall 12 F hr g.g_u_law_state (sa_cons (sv 0) sa_nil)))
    (sss_cons (ss_for PassesOwn.never rfl (si_range1 rfl g.f_range se_int) (sgn 2 sc_law.nd) (sss_cons (sset 3 sc_law.nd (scall 15 F hr g.g_u_law_tongue (sa_cons (sv 1) sa_nil)))
    (sss_cons (sset 4 sc_law.nd (scall 16 F hr g.g_u_law_term (sa_cons (sv 1) (sa_cons (sv 3) (sa_cons (scall 14 F hr g.g_u_law_pick (sa_cons (sv 1) (sa_cons (se_lst (sa_cons (se_lst sa_nil) (sa_cons (se_lst (sa_cons (se_str (by decide +kernel)) sa_nil)) (sa_cons (se_lst (sa_cons (se_str (by decide +kernel)) (sa_cons (se_str (by decide +kernel)) (sa_cons (se_str (by decide +kernel)) sa_nil)))) sa_nil)))) sa_nil))) (sa_cons se_int sa_nil))))))
    (sss_cons (sset 5 sc_law.nd (scall 18 F hr g.g_u_law_places (sa_cons (sv 4) sa_nil)))
    (sss_cons (sset 6 sc_law.nd (scall 17 F hr g.g_u_law_names (sa_cons (sv 4) sa_nil)))
    (sss_cons (sset 7 sc_law.nd (se_comp (own := [("place", 8)]) (by decide) rfl sc_law.nd (si_any rfl (sv 5)) (blkOk_by (by kernel_rfl)) (fun _ _ _ _ _ => (sgn 8 sc_law.nd)) (fun _ _ _ _ _ => (pts_one (st_val (sisi .str g.f_isinstance g.f_str bt_str rfl (scall 19 F hr g.g_u_law_at (sa_cons (sv 4) (sa_cons (sv 8) sa_nil))))))) (fun _ _ _ _ _ => (scall 19 F hr g.g_u_law_at (sa_cons (sv 4) (sa_cons (sv 8) sa_nil))))))
    (sss_cons (ss_if (PW.pt (sw_or (st_cmp (o := .ne) rfl hu (by rfl) (scall 2 F hr g.g_size (sa_cons (sv 4) sa_nil)) (sb_len g.f_len rfl (sa_cons (sv 5) sa_nil))) (sw_or (st_cmp (o := .ne) rfl hu (by rfl) (scall 3 F hr g.g_depth (sa_cons (sv 4) sa_nil)) (scall 21 F hr g.g_u_law_depth (sa_cons (sv 4) sa_nil))) (sw_or (st_cmp (o := .ne) rfl hu (by rfl) (scall 4 F hr g.g_variables (sa_cons (sv 4) sa_nil)) (sv 6)) (sw_or1 (st_cmp (o := .ne) rfl hu (by rfl) (scall 5 F hr g.g_is_ground (sa_cons (sv 4) sa_nil)) (se_cmp (o := .eq) rfl hu (by rfl) (sb_len g.f_len rfl (sa_cons (sv 6) sa_nil)) se_int))))))) (sss_cons (ss_ret se_bl)
    sss_nil) sss_nil)
    (sss_cons (ss_if (PW.pt (sw_or (st_cmp (o := .ne) rfl hu (by rfl) (scall 7 F hr g.g_positions (sa_cons (sv 4) sa_nil)) (sv 5)) (sw_or (st_cmp (o := .ne) rfl hu (by rfl) (sv 5) (sb_sorted g.f_sorted rfl hu (sa_cons (sv 5) sa_nil))) (sw_or1 (st_cmp (o := .ne) rfl hu (by rfl) (scall 11 F hr g.g_parts (sa_cons (sv 4) sa_nil)) (scall 22 F hr g.g_u_law_parts (sa_cons (sv 4) sa_nil))))))) (sss_cons (ss_ret se_bl)
    sss_nil) sss_nil)
    (sss_cons (ss_if (st_cmp (o := .ne) rfl hu (by rfl) (se_comp (own := [("name", 13)]) (by decide) rfl sc_law.nd (si_any rfl (se_bin (o := .add) rfl (sv 6) (se_lst (sa_cons (se_str (by decide +kernel)) sa_nil)))) (blkOk_by (by kernel_rfl)) (fun _ _ _ _ _ => (sgn 13 sc_law.nd)) (fun _ _ _ _ _ => sts_nil) (fun _ _ _ _ _ => (scall 6 F hr g.g_count (sa_cons (sv 4) (sa_cons (sv 13) sa_nil))))) (se_comp (own := [("name", 13)]) (by decide) rfl sc_law.nd (si_any rfl (se_bin (o := .add) rfl (sv 6) (se_lst (sa_cons (se_str (by decide +kernel)) sa_nil)))) (blkOk_by (by kernel_rfl)) (fun _ _ _ _ _ => (sgn 13 sc_law.nd)) (fun _ _ _ _ _ => sts_nil) (fun _ _ _ _ _ => (sb_len g.f_len rfl (sa_cons (se_comp (own := [("each", 14)]) (by decide) rfl sc_law.nd (si_any rfl (sv 7)) (blkOk_by (by kernel_rfl)) (fun _ _ _ _ _ => (sgn 14 sc_law.nd)) (fun _ _ _ _ _ => (pts_one (st_cmp (o := .eq) rfl hu (by rfl) (sv 14) (sv 13)))) (fun _ _ _ _ _ => (sv 14))) sa_nil))))) (sss_cons (ss_ret se_bl)
    sss_nil) sss_nil)
    (sss_cons (sset 8 sc_law.nd (scall 14 F hr g.g_u_law_pick (sa_cons (sv 1) (sa_cons (sv 5) sa_nil))))
    (sss_cons (sset 9 sc_law.nd (scall 16 F hr g.g_u_law_term (sa_cons (sv 1) (sa_cons (sv 3) (sa_cons (se_lst (sa_cons (se_str (by decide +kernel)) (sa_cons (se_str (by decide +kernel)) sa_nil))) (sa_cons se_int sa_nil))))))
    (sss_cons (ss_if (PW.pt (sw_or (st_cmp (o := .ne) rfl hu (by rfl) (scall 9 F hr g.g_at (sa_cons (sv 4) (sa_cons (sv 8) sa_nil))) (scall 19 F hr g.g_u_law_at (sa_cons (sv 4) (sa_cons (sv 8) sa_nil)))) (sw_or1 (st_cmp (o := .ne) rfl hu (by rfl) (scall 10 F hr g.g_put (sa_cons (sv 4) (sa_cons (sv 8) (sa_cons (sv 9) sa_nil)))) (scall 20 F hr g.g_u_law_with (sa_cons (sv 4) (sa_cons (sv 8) (sa_cons (sv 9) sa_nil)))))))) (sss_cons (ss_ret se_bl)
    sss_nil) sss_nil)
    (sss_cons (ss_for PassesOwn.never rfl (si_any rfl (se_lst (sa_cons (sv 8) (sa_cons (se_bin (o := .add) rfl (sv 8) (se_tup (sa_cons se_int sa_nil))) (sa_cons (se_bin (o := .add) rfl (sv 8) (se_tup (sa_cons se_int sa_nil))) (sa_cons (se_bin (o := .add) rfl (sv 8) (se_tup (sa_cons se_int sa_nil))) (sa_cons (se_bin (o := .add) rfl (sv 8) (se_tup (sa_cons (se_neg se_int) sa_nil))) (sa_cons (se_bin (o := .add) rfl (sv 8) (se_tup (sa_cons se_bl sa_nil))) (sa_cons (se_bin (o := .add) rfl (sv 8) (se_tup (sa_cons se_non sa_nil))) (sa_cons (sb_list g.f_list rfl (sa_cons (sv 8) sa_nil)) (sa_cons se_non (sa_cons se_int sa_nil)))))))))))) (sgn 10 sc_law.nd) (sss_cons (sset 11 sc_law.nd (se_and (sisi .tuple g.f_isinstance g.f_tuple bt_tuple rfl (sv 10)) (se_and (se_cmp (o := .mem) rfl hu (by rfl) (sv 10) (sv 5)) (se_one (se_cmp (o := .eq) rfl hu (by rfl) (sb_len g.f_len rfl (sa_cons (se_comp (own := [("k", 15)]) (by decide) rfl sc_law.nd (si_any rfl (sv 10)) (blkOk_by (by kernel_rfl)) (fun _ _ _ _ _ => (sgn 15 sc_law.nd)) (fun _ _ _ _ _ => (pts_one (st_val (sisi .bool g.f_isinstance g.f_bool bt_bool rfl (sv 15))))) (fun _ _ _ _ _ => (sv 15))) sa_nil)) se_int)))))
    (sss_cons (sset 12 sc_law.nd (scall 8 F hr g.g_has_position (sa_cons (sv 4) (sa_cons (sv 10) sa_nil))))
    (sss_cons (ss_if (PW.pt (sw_or (st_not (st_val (sisi .bool g.f_isinstance g.f_bool bt_bool rfl (sv 12)))) (sw_or1 (st_cmp (o := .ne) rfl hu (by rfl) (sv 12) (sv 11))))) (sss_cons (ss_ret se_bl)
    sss_nil) sss_nil)
    sss_nil))))
    sss_nil)))))))))))))
    (sss_cons (ss_ret se_bl)
    sss_nil)))
end L2.Mi.k02

set_option Elab.async false
set_option linter.all false
set_option maxRecDepth 100000
set_option maxHeartbeats 4000000
/-! Ev1: reckoning with the evaluator. -/
namespace L2.Mi
open PySem PySem.Spec PyProof.Rows

theorem callM_eq {T : List Df} {k f : Nat} {args : List MV} {mh : MHp} {d : Df} (h : T[f]? = some d) : callM T (k + 1) f args mh = runD (callM T k) d args mh := by
  show (match T[f]? with
    | none => none
    | some d => runD (callM T k) d args mh) = _
  rw [h]
mutual
/-- plain data: no live object, short texts -/
def dat : MV → Bool
  | .non => true
  | .bl _ => true
  | .int _ => true
  | .str s => decide (s.length ≤ 1000) && s.all fun c => decide (c < 1114112)
  | .tup xs => dats xs
  | .lst xs => dats xs
  | .fn _ => false
  | .loc _ => false
  | .dct _ _ => false
  | .scr _ => false
def dats : List MV → Bool
  | [] => true
  | x :: xs => dat x && dats xs
end
mutual
theorem frz_dat {n : Nat} {mh : MHp} {k : Nat} : ∀ x : MV, dat x = true → frz n mh k x = some x
  | .non, _ => by unfold frz; rfl
  | .bl _, _ => by unfold frz; rfl
  | .int _, _ => by unfold frz; rfl
  | .str _, _ => by unfold frz; rfl
  | .fn _, h => by unfold dat at h; cases h
  | .scr _, h => by unfold dat at h; cases h
  | .loc _, h => by unfold dat at h; cases h
  | .dct _ _, h => by unfold dat at h; cases h
  | .tup xs, h => by
    unfold dat at h
    unfold frz
    rw [frzs_dat xs h]; rfl
  | .lst xs, h => by
    unfold dat at h
    unfold frz
    rw [frzs_dat xs h]; rfl
theorem frzs_dat {n : Nat} {mh : MHp} {k : Nat} : ∀ xs : List MV, dats xs = true → frzs n mh k xs = some xs
  | [], _ => by unfold frzs; rfl
  | x :: xs, h => by
    unfold dats at h
    rw [Bool.and_eq_true] at h
    unfold frzs
    rw [frz_dat x h.1, frzs_dat xs h.2]; rfl
end
theorem dats_iff : ∀ {xs : List MV}, dats xs = true ↔ ∀ x ∈ xs, dat x = true
  | [] => by simp [dats]
  | x :: xs => by simp [dats, dats_iff (xs := xs)]
/-- a call whose body was reckoned -/
theorem run_of {C : CallF} {d : Df} {args : List MV} {mh mh1 : MHp} {fl : Fl} {ρ : Env} {v : MV} (hl : args.length = d.np) (hv : d.live = false) (e : exs C mh.length d.body (args.map some ++ List.replicate (d.ns - d.np) none) mh = some (fl, ρ, mh1))
    (he : endV fl = some v) (hd : dat v = true) : runD C d args mh = some (v, mh1.take mh.length) := by
  unfold runD
  rw [if_pos hl, e]
  simp only [he, hv]
  rw [frz_dat v hd]
  rfl
theorem run_of' {C : CallF} {d : Df} {args : List MV} {mh mh1 : MHp} {fl : Fl} {ρ : Env} {v : MV} (hl : args.length = d.np) (hv : d.live = false) (e : exs C mh.length d.body (args.map some ++ List.replicate (d.ns - d.np) none) mh = some (fl, ρ, mh1))
    (he : endV fl = some v) (hd : dat v = true) (hm : mh1.length = mh.length) : runD C d args mh = some (v, mh1) := by
  rw [run_of hl hv e he hd, ← hm, List.take_length]
/-! ### loops -/
theorem compGo_pure {J : Its} (hJ : J.src = none) {f : MV → MHp → Option (Option MV × MHp)} {g : MV → Option MV} {mh : MHp} : ∀ {xs : List MV}, (∀ x ∈ xs, f x mh = some (g x, mh)) → compGo J f xs mh = some (xs.filterMap g, mh)
  | [], h => by
    have ok : J.ok mh := by unfold Its.ok; rw [hJ]; trivial
    unfold compGo
    rw [if_pos ok]; rfl
  | x :: xs, h => by
    have ok : J.ok mh := by unfold Its.ok; rw [hJ]; trivial
    unfold compGo
    rw [if_pos ok, h x (by simp)]
    simp only
    rw [compGo_pure hJ fun y hy => h y (List.mem_cons_of_mem _ hy)]
    simp only [List.filterMap_cons]
    cases g x <;> rfl
/-- each turn gives an item; P of the heap stays -/
theorem compGo_st {J : Its} (hJ : J.src = none) {f : MV → MHp → Option (Option MV × MHp)} {P : MHp → Prop} {R : MV → Prop} : ∀ {xs : List MV} {mh : MHp}, P mh → (∀ x ∈ xs, ∀ mh, P mh → ∃ y mh', f x mh = some (some y, mh') ∧ P mh' ∧ R y) →
    ∃ ys mh', compGo J f xs mh = some (ys, mh') ∧ P mh' ∧ ys.length = xs.length ∧ ∀ y ∈ ys, R y
  | [], mh, p, h => by
    have ok : J.ok mh := by unfold Its.ok; rw [hJ]; trivial
    refine ⟨[], mh, ?_, p, rfl, fun y hy => by simp at hy⟩
    unfold compGo
    rw [if_pos ok]
  | x :: xs, mh, p, h => by
    have ok : J.ok mh := by unfold Its.ok; rw [hJ]; trivial
    obtain ⟨y, mh1, e1, p1, r1⟩ := h x (by simp) mh p
    obtain ⟨ys, mh2, e2, p2, l2, r2⟩ := compGo_st hJ p1 fun z hz => h z (List.mem_cons_of_mem _ hz)
    refine ⟨y :: ys, mh2, ?_, p2, by simp [l2], fun z hz => ?_⟩
    · unfold compGo
      rw [if_pos ok, e1]
      simp only [e2]
      rfl
    · rcases List.mem_cons.mp hz with rfl | hz
      · exact r1
      · exact r2 z hz
/-- a for that goes through -/
theorem forGo_st {J : Its} (hJ : J.src = none) {f : MV → Env → MHp → Option (Fl × Env × MHp)} {P : Env → MHp → Prop} : ∀ {xs : List MV} {ρ : Env} {mh : MHp}, P ρ mh → (∀ x ∈ xs, ∀ ρ mh, P ρ mh → ∃ ρ' mh', f x ρ mh = some (.nx, ρ', mh') ∧ P ρ' mh') →
    ∃ ρ' mh', forGo J f xs ρ mh = some (.nx, ρ', mh') ∧ P ρ' mh'
  | [], ρ, mh, p, h => by
    have ok : J.ok mh := by unfold Its.ok; rw [hJ]; trivial
    refine ⟨ρ, mh, ?_, p⟩
    unfold forGo
    rw [if_pos ok]
  | x :: xs, ρ, mh, p, h => by
    have ok : J.ok mh := by unfold Its.ok; rw [hJ]; trivial
    obtain ⟨ρ1, mh1, e1, p1⟩ := h x (by simp) ρ mh p
    obtain ⟨ρ2, mh2, e2, p2⟩ := forGo_st hJ p1 fun z hz => h z (List.mem_cons_of_mem _ hz)
    refine ⟨ρ2, mh2, ?_, p2⟩
    unfold forGo
    rw [if_pos ok, e1]
    exact e2
theorem forGo_cons_of {J : Its} (hJ : J.src = none) {f : MV → Env → MHp → Option (Fl × Env × MHp)} {x : MV} {xs : List MV} {ρ : Env} {mh : MHp} : forGo J f (x :: xs) ρ mh = match f x ρ mh with
    | none => none
    | some (.nx, ρ1, mh1) => forGo J f xs ρ1 mh1
    | some (.ct, ρ1, mh1) => forGo J f xs ρ1 mh1
    | some (.bk, ρ1, mh1) => some (.nx, ρ1, mh1)
    | some (.rt v, ρ1, mh1) => some (.rt v, ρ1, mh1) := by
  have ok : J.ok mh := by unfold Its.ok; rw [hJ]; trivial
  rw [forGo, if_pos ok] <;> rfl
theorem forGo_nil_of {J : Its} (hJ : J.src = none) {f : MV → Env → MHp → Option (Fl × Env × MHp)} {ρ : Env} {mh : MHp} : forGo J f [] ρ mh = some (.nx, ρ, mh) := by
  have ok : J.ok mh := by unfold Its.ok; rw [hJ]; trivial
  rw [forGo, if_pos ok]
theorem whileN_mono {c : Env → MHp → Option (Bool × MHp)} {f : Env → MHp → Option (Fl × Env × MHp)} {r : Fl × Env × MHp} : ∀ {n : Nat} {ρ : Env} {mh : MHp}, whileN c f n ρ mh = some r → ∀ m, n ≤ m → whileN c f m ρ mh = some r
  | 0, ρ, mh, h, m, hm => by unfold whileN at h; cases h
  | n + 1, ρ, mh, h, 0, hm => by omega
  | n + 1, ρ, mh, h, m + 1, hm => by
    rw [whileN] at h ⊢
    revert h
    cases e1 : c ρ mh with
    | none => exact fun h => nomatch h
    | some p =>
      obtain ⟨b, mh1⟩ := p
      cases b with
      | false => exact fun h => h
      | true =>
        show (match f ρ mh1 with
          | none => none
          | some (.nx, ρ1, mh2) => whileN c f n ρ1 mh2
          | some (.ct, ρ1, mh2) => whileN c f n ρ1 mh2
          | some (.bk, ρ1, mh2) => some (.nx, ρ1, mh2)
          | some (.rt v, ρ1, mh2) => some (.rt v, ρ1, mh2)) = some r → (match f ρ mh1 with
          | none => none
          | some (.nx, ρ1, mh2) => whileN c f m ρ1 mh2
          | some (.ct, ρ1, mh2) => whileN c f m ρ1 mh2
          | some (.bk, ρ1, mh2) => some (.nx, ρ1, mh2)
          | some (.rt v, ρ1, mh2) => some (.rt v, ρ1, mh2)) = some r
        cases e2 : f ρ mh1 with
        | none => exact fun h => nomatch h
        | some q =>
          obtain ⟨fl, ρ1, mh2⟩ := q
          cases fl with
          | nx => exact fun h => whileN_mono h m (by omega)
          | ct => exact fun h => whileN_mono h m (by omega)
          | bk => exact fun h => h
          | rt v => exact fun h => h
theorem whileM_eq {c : Env → MHp → Option (Bool × MHp)} {f : Env → MHp → Option (Fl × Env × MHp)} {r : Fl × Env × MHp} {n : Nat} {ρ : Env} {mh : MHp} (h : whileN c f n ρ mh = some r) : whileM c f ρ mh = some r := by
  have ex : ∃ n, whileN c f n ρ mh ≠ none := ⟨n, by rw [h]; exact fun z => nomatch z⟩
  unfold whileM
  rw [dif_pos ex]
  have hc := Classical.choose_spec ex
  cases e : whileN c f (Classical.choose ex) ρ mh with
  | none => exact absurd e hc
  | some r' =>
    rcases Nat.le_total n (Classical.choose ex) with l | l
    · rw [whileN_mono h _ l] at e; exact e.symm
    · rw [whileN_mono e _ l] at h; exact h
/-! the bodies of loops, kept whole -/
section
variable (C : CallF) (base : Nat)
noncomputable def forF (t : Tg) (body : List MS) : MV → Env → MHp → Option (Fl × Env × MHp) := fun x ρ1 mh2 => match asg mh2 t x ρ1 with
  | none => none
  | some ρ2 => exs C base body ρ2 mh2
noncomputable def whC (c : ME) : Env → MHp → Option (Bool × MHp) := fun ρ1 mh1 => match ev C base c ρ1 mh1 with
  | some (.bl b, mh2) => some (b, mh2)
  | _ => none
end
section
variable {C : CallF} {base : Nat} {ρ : Env} {mh : MHp}
theorem ex_for {t : Tg} {it : ME} {body : List MS} : ex C base (.for t it body) ρ mh = match evI C base it ρ mh with
  | none => none
  | some (J, mh1) => forGo J (forF C base t body) J.items ρ mh1 := by
  simp only [ex]
  rfl
theorem ex_while {c : ME} {body : List MS} : ex C base (.while c body) ρ mh = whileM (whC C base c) (exs C base body) ρ mh := by
  simp only [ex]
  rfl
theorem ev_compq {tg : Tg} {own : List Nat} {it cond e : ME} : ev C base (.comp tg own it cond e) ρ mh = match evI C base it ρ mh with
  | none => none
  | some (J, mh1) => if J.items.length ≤ line then (match compGo J (compF C base tg own cond e ρ) J.items mh1 with
    | none => none
    | some (ys, mh5) => some (.lst ys, mh5)) else none := by
  simp only [ev]
  rfl
end
theorem bls_map {mh : MHp} (bs : List Bool) : bls mh (.lst (bs.map .bl)) = some bs := by
  unfold bls
  show (bs.map MV.bl).mapM blOf = some bs
  induction bs with
  | nil => rfl
  | cons b bs ih => rw [List.map_cons, List.mapM_cons, ih]; rfl
theorem atI0 {α : Type} {x : α} {xs : List α} : idx (x :: xs) 0 = some x := by
  unfold idx L2.atI L2.ixN
  simp
theorem cut_drop {α : Type} {xs : List α} {k : Nat} : cut xs (some (k : Int)) none = xs.drop k := by
  unfold cut
  rw [HT.sIx_nat, HT.sIx_none]
  by_cases h : k ≤ xs.length
  · rw [Nat.min_eq_left h, List.take_of_length_le (by rw [List.length_drop]; omega)]
  · rw [Nat.min_eq_right (by omega), List.drop_eq_nil_of_le (Nat.le_refl _), List.drop_eq_nil_of_le (by omega)]
    simp
theorem cut_take {α : Type} {xs : List α} {k : Nat} : cut xs none (some (k : Int)) = xs.take k := by
  unfold cut
  rw [HT.sIx_nat, HT.sIx_none]
  by_cases h : k ≤ xs.length
  · rw [Nat.min_eq_left h]; simp
  · rw [Nat.min_eq_right (by omega)]; simp [List.take_of_length_le (show xs.length ≤ k by omega)]
end L2.Mi

set_option Elab.async false
set_option linter.all false
set_option maxRecDepth 100000
set_option maxHeartbeats 4000000
/-! Ev2: small facts for every law; the law's state, take, pick (their numbers in T are told). -/
namespace L2.Mi
open PySem PySem.Spec PyProof.Rows
theorem lt1 {a b : Nat} : (([a] : List Nat) < [b]) = (a < b) := by
  apply propext
  constructor
  · intro h
    cases h with
    | rel h => exact h
    | cons h => cases h
  · exact fun h => .rel h
theorem eqV_int (mh : MHp) (a b : Int) : eqV mh (.int a) (.int b) = some (decide (a = b)) := by
  unfold eqV
  rw [frz_dat _ rfl, frz_dat _ rfl]
  have h1 : okD (.int a) = true := rfl
  have h2 : okD (.int b) = true := rfl
  simp only [h1, h2, and_self, if_true]
  congr 1
theorem eqV_bl (mh : MHp) (a b : Bool) : eqV mh (.bl a) (.bl b) = some (decide (a = b)) := by
  unfold eqV
  rw [frz_dat _ rfl, frz_dat _ rfl]
  have h1 : okD (.bl a) = true := rfl
  have h2 : okD (.bl b) = true := rfl
  simp only [h1, h2, and_self, if_true]
  cases a <;> cases b <;> rfl
theorem eqV_nonint (mh : MHp) (b : Int) : eqV mh .non (.int b) = some false := by
  unfold eqV
  rw [frz_dat _ rfl, frz_dat _ rfl]
  rfl
theorem okD_str {a : Sx} (h : dat (.str a) = true) : okD (.str a) = true := by
  unfold dat at h
  rw [Bool.and_eq_true] at h
  have h2 := h.2
  show (PyData.canLay0 (.str ⟨a.toArray⟩) && decide (PyData.depth (.str ⟨a.toArray⟩) ≤ 64)) = true
  have e1 : PyData.depth (.str ⟨a.toArray⟩) = 0 := by unfold PyData.depth; rfl
  rw [e1]
  unfold PyData.canLay0 PySem.PyData.strOk
  simp at h2 ⊢
  intro i hi
  exact h2 i hi
theorem eqV_str (mh : MHp) (a b : Sx) (ha : dat (.str a) = true) (hb : dat (.str b) = true) : eqV mh (.str a) (.str b) = some (decide (a = b)) := by
  unfold eqV
  rw [frz_dat _ ha, frz_dat _ hb]
  simp only [okD_str ha, okD_str hb, and_self, if_true]
  congr 1
  show PyData.eqv (.str ⟨a.toArray⟩) (.str ⟨b.toArray⟩) = _
  unfold PyData.eqv
  apply Bool.eq_iff_iff.mpr
  simp
theorem idx_nat {α : Type} {xs : List α} {j : Nat} {v : α} (h : xs[j]? = some v) : idx xs (j : Int) = some v := L2.atI_nat h
theorem idx_nat1 {α : Type} {xs : List α} {j : Nat} {v : α} (h : xs[j + 1]? = some v) : idx xs ((j : Int) + 1) = some v := by
  have := L2.atI_nat h
  simpa [idx] using this
theorem atI1 {α : Type} {x y : α} {xs : List α} : idx (x :: y :: xs) 1 = some y := by
  have := idx_nat (xs := x :: y :: xs) (j := 1) (v := y) rfl
  simpa using this
theorem bls_map' {mh : MHp} {α : Type} (xs : List α) (g : α → Bool) : bls mh (.lst (xs.map fun x => .bl (g x))) = some (xs.map g) := by
  have := bls_map (mh := mh) (xs.map g)
  rw [List.map_map] at this
  exact this
/-- the law's state at l, n objects in all -/
def St (l n : Nat) (mh : MHp) : Prop := mh.length = n ∧ ∃ (c : Nat) (i : Int) (cs : List Int), mh[l]? = some (some (.lst [.int i, .loc c])) ∧ mh[c]? = some (some (.lst (cs.map .int))) ∧ cs ≠ [] ∧ c ≠ l
theorem idx_int {cs : List Int} {a : Int} (h0 : 0 ≤ a) (h1 : a < cs.length) : ∃ x, cs[a.toNat]? = some x ∧ idx (cs.map MV.int) a = some (.int x) := by
  have hl : a.toNat < cs.length := by omega
  refine ⟨cs[a.toNat], List.getElem?_eq_getElem hl, ?_⟩
  have : (cs.map MV.int)[a.toNat]? = some (.int cs[a.toNat]) := by
    rw [List.getElem?_map, List.getElem?_eq_getElem hl]; rfl
  have e := L2.atI_nat this
  have : ((a.toNat : Nat) : Int) = a := by omega
  rw [this] at e
  exact e
theorem ixN_in {n : Nat} {a : Int} (h0 : 0 ≤ a) (h1 : a < n) : L2.ixN n a = some a.toNat := by
  unfold L2.ixN
  rw [if_pos h0, if_pos h1]
theorem get_set_ne {mh : MHp} {a b : Nat} {o : Option MO} (h : a ≠ b) : (mh.set a o)[b]? = mh[b]? := List.getElem?_set_ne h
theorem get_set_eq {mh : MHp} {a : Nat} {o o' : Option MO} (h : mh[a]? = some o') : (mh.set a o)[a]? = some o := List.getElem?_set_self (List.getElem?_eq_some_iff.mp h).1
def takeD : Df := ⟨2, 6, false, [(.ite (.cmp .lt (.var 1) (.c (.int (2)))) [(.ret (.c (.int (0))))] []), (.set (.nm 2) (.sub (.var 0) (.c (.int (1))))), (.set (.nm 3) (.bin .mod (.bi .int [(.sub (.var 0) (.c (.int (0))))]) (.bi .len [(.var 2)]))), (.set (.nm 4) (.sub (.var 2) (.var 3))), (.ite (.cmp .ge (.var 4) (.c (.int (1000000000000000000)))) [(.sti (.var 2) (.var 3) (.bin .fdiv (.var 4) (.var 1))), (.ret (.bin .mod (.bi .int [(.var 4)]) (.var 1)))] []), (.sti (.var 0) (.c (.int (0))) (.bin .add (.sub (.var 0) (.c (.int (0)))) (.c (.int (1))))), (.set (.nm 5) (.bin .mod (.bi .int [(.bin .add (.bin .mul (.var 4) (.c (.int (48271)))) (.bin .mul (.sub (.var 0) (.c (.int (0)))) (.c (.int (69621)))))]) (.c (.int (2147483647))))), (.set (.nm 5) (.bin .mod (.bi .int [(.bin .add (.bin .mul (.var 5) (.c (.int (16807)))) (.bin .mul (.sub (.var 0) (.c (.int (0)))) (.c (.int (7919)))))]) (.c (.int (1000000007))))), (.ret (.bin .mod (.bi .int [(.bin .fdiv (.var 5) (.c (.int (7))))]) (.var 1)))]⟩
theorem take_ok {T : List Df} {it : Nat} (hT : T[it]? = some takeD) (k : Nat) {l n : Nat} {mh : MHp} (S : St l n mh) (most : Int) (hm : most ≤ 1000) : ∃ r mh', callM T (k + 1) it [.loc l, .int most] mh = some (.int r, mh') ∧ St l n mh' ∧ 0 ≤ r ∧ (2 ≤ most → r < most) ∧ (most < 2 → r = 0) := by
  obtain ⟨hn, c, i, cs, h1, h2, h3, h4⟩ := S
  by_cases hlt : most < 2
  · refine ⟨0, mh, ?_, ⟨hn, c, i, cs, h1, h2, h3, h4⟩, by omega, by omega, fun _ => rfl⟩
    rw [callM_eq hT]
    refine run_of' rfl rfl (ρ := [some (.loc l), some (.int most), none, none, none, none]) (fl := .rt (.int 0)) ?_ rfl rfl rfl
    simp [takeD, exs, ex, ev, cmpV, ordV, hlt]
  · have hlen : 0 < (cs.length : Int) := by
      have : 0 < cs.length := List.length_pos_iff.mpr h3
      omega
    have a0 : 0 ≤ i.fmod cs.length := Int.fmod_nonneg_of_pos i hlen
    have a1 : i.fmod cs.length < cs.length := Int.fmod_lt_of_pos i hlen
    obtain ⟨x, hx, ex1⟩ := idx_int (cs := cs) a0 a1
    have hne : ¬ ((cs.length : Int) = 0) := by omega
    have hne' : ¬ (cs.length = 0) := by omega
    have b0 : idx [MV.int i, MV.loc c] 0 = some (.int i) := atI0
    have b1 : idx [MV.int i, MV.loc c] 1 = some (.loc c) := atI1
    have e1 : exs (callM T k) mh.length [(.ite (.cmp .lt (.var 1) (.c (.int (2)))) [(.ret (.c (.int (0))))] []), (.set (.nm 2) (.sub (.var 0) (.c (.int (1))))), (.set (.nm 3) (.bin .mod (.bi .int [(.sub (.var 0) (.c (.int (0))))]) (.bi .len [(.var 2)]))), (.set (.nm 4) (.sub (.var 2) (.var 3)))] [some (.loc l), some (.int most), none, none, none, none] mh = some (.nx, [some (.loc l), some (.int most), some (.loc c), some (.int (i.fmod cs.length)), some (.int x), none], mh) := by
      simp [exs, ex, ev, evs, cmpV, ordV, hlt, subV, getL, h1, h2, b0, b1, asg, biV, one1, intV1, lenV, binV, intV, hne', ex1]
    have mp : 0 < most := by omega
    have mne : ¬ most = 0 := by omega
    have mab : most.natAbs < 1073741824 := by omega
    have spl : ∀ {ss ss' : List MS} {ρ ρ' : Env} {m : MHp} {C : CallF}, exs C mh.length ss ρ mh = some (.nx, ρ', m) → exs C mh.length (ss ++ ss') ρ mh = exs C mh.length ss' ρ' m := fun {ss ss' ρ ρ' m C} h => by
      clear e1
      have gen : ∀ (ss : List MS) (ρ : Env) (m0 : MHp), exs C mh.length ss ρ m0 = some (.nx, ρ', m) → exs C mh.length (ss ++ ss') ρ m0 = exs C mh.length ss' ρ' m := by
        intro ss
        induction ss with
        | nil => intro ρ m0 h; simp only [exs] at h; cases h; rfl
        | cons s ss ih =>
          intro ρ m0 h
          rcases exs_cons h with ⟨ρ1, m1, e, h'⟩ | ⟨_, hn⟩
          · rw [List.cons_append, exs, e]; exact ih ρ1 m1 h'
          · exact absurd rfl hn
      exact gen ss ρ mh h
    rw [callM_eq hT]
    by_cases hbig : x < 1000000000000000000
    · -- the mixed way
      have key : ∀ r : Int, r = (((((x * 48271 + (i + 1) * 69621).fmod 2147483647) * 16807 + (i + 1) * 7919).fmod 1000000007).fdiv 7).fmod most → ∃ ρ, exs (callM T k) mh.length takeD.body [some (.loc l), some (.int most), none, none, none, none] mh = some (.rt (.int r), ρ, mh.set l (some (.lst [.int (i + 1), .loc c]))) := fun r hr => by
        have g1 : (mh.set l (some (.lst [.int (i + 1), .loc c])))[l]? = some (some (.lst [.int (i + 1), .loc c])) := get_set_eq h1
        have g2 : (mh.set l (some (.lst [.int (i + 1), .loc c])))[c]? = some (some (.lst (cs.map .int))) := by rw [get_set_ne (Ne.symm h4)]; exact h2
        have b0' : idx [MV.int (i + 1), MV.loc c] 0 = some (.int (i + 1)) := atI0
        have ix : L2.ixN 2 0 = some 0 := rfl
        have w1 : wr mh.length l (.int (i + 1)) = true := by simp [wr, bd]
        have := spl (ss' := [(.ite (.cmp .ge (.var 4) (.c (.int (1000000000000000000)))) [(.sti (.var 2) (.var 3) (.bin .fdiv (.var 4) (.var 1))), (.ret (.bin .mod (.bi .int [(.var 4)]) (.var 1)))] []), (.sti (.var 0) (.c (.int (0))) (.bin .add (.sub (.var 0) (.c (.int (0)))) (.c (.int (1))))), (.set (.nm 5) (.bin .mod (.bi .int [(.bin .add (.bin .mul (.var 4) (.c (.int (48271)))) (.bin .mul (.sub (.var 0) (.c (.int (0)))) (.c (.int (69621)))))]) (.c (.int (2147483647))))), (.set (.nm 5) (.bin .mod (.bi .int [(.bin .add (.bin .mul (.var 5) (.c (.int (16807)))) (.bin .mul (.sub (.var 0) (.c (.int (0)))) (.c (.int (7919)))))]) (.c (.int (1000000007))))), (.ret (.bin .mod (.bi .int [(.bin .fdiv (.var 5) (.c (.int (7))))]) (.var 1)))]) e1
        refine ⟨[some (.loc l), some (.int most), some (.loc c), some (.int (i.fmod cs.length)), some (.int x), some (.int ((((x * 48271 + (i + 1) * 69621).fmod 2147483647) * 16807 + (i + 1) * 7919).fmod 1000000007))], ?_⟩
        rw [hr]
        show exs (callM T k) mh.length ([(.ite (.cmp .lt (.var 1) (.c (.int (2)))) [(.ret (.c (.int (0))))] []), (.set (.nm 2) (.sub (.var 0) (.c (.int (1))))), (.set (.nm 3) (.bin .mod (.bi .int [(.sub (.var 0) (.c (.int (0))))]) (.bi .len [(.var 2)]))), (.set (.nm 4) (.sub (.var 2) (.var 3)))] ++ _) _ mh = _
        rw [this]
        simp [exs, ex, ev, evs, cmpV, ordV, hbig, subV, getL, h1, g1, b0, b0', asg, biV, one1, intV1, binV, intV, addV, mulV, mne, ix, w1]
      obtain ⟨ρ, e⟩ := key _ rfl
      refine ⟨_, _, run_of' rfl rfl e rfl rfl (by simp), ⟨by simp [hn], c, i + 1, cs, get_set_eq h1, by rw [get_set_ne (Ne.symm h4)]; exact h2, h3, h4⟩, Int.fmod_nonneg_of_pos _ mp, fun _ => Int.fmod_lt_of_pos _ mp, fun z => absurd z hlt⟩
    · have key : ∃ ρ, exs (callM T k) mh.length takeD.body [some (.loc l), some (.int most), none, none, none, none] mh = some (.rt (.int (x.fmod most)), ρ, mh.set c (some (.lst ((cs.set (i.fmod cs.length).toNat (x.fdiv most)).map .int)))) := by
        have ix : L2.ixN cs.length (i.fmod cs.length) = some (i.fmod cs.length).toNat := ixN_in a0 a1
        have w1 : wr mh.length c (.int (x.fdiv most)) = true := by simp [wr, bd]
        have := spl (ss' := [(.ite (.cmp .ge (.var 4) (.c (.int (1000000000000000000)))) [(.sti (.var 2) (.var 3) (.bin .fdiv (.var 4) (.var 1))), (.ret (.bin .mod (.bi .int [(.var 4)]) (.var 1)))] []), (.sti (.var 0) (.c (.int (0))) (.bin .add (.sub (.var 0) (.c (.int (0)))) (.c (.int (1))))), (.set (.nm 5) (.bin .mod (.bi .int [(.bin .add (.bin .mul (.var 4) (.c (.int (48271)))) (.bin .mul (.sub (.var 0) (.c (.int (0)))) (.c (.int (69621)))))]) (.c (.int (2147483647))))), (.set (.nm 5) (.bin .mod (.bi .int [(.bin .add (.bin .mul (.var 5) (.c (.int (16807)))) (.bin .mul (.sub (.var 0) (.c (.int (0)))) (.c (.int (7919)))))]) (.c (.int (1000000007))))), (.ret (.bin .mod (.bi .int [(.bin .fdiv (.var 5) (.c (.int (7))))]) (.var 1)))]) e1
        refine ⟨[some (.loc l), some (.int most), some (.loc c), some (.int (i.fmod cs.length)), some (.int x), none], ?_⟩
        show exs (callM T k) mh.length ([(.ite (.cmp .lt (.var 1) (.c (.int (2)))) [(.ret (.c (.int (0))))] []), (.set (.nm 2) (.sub (.var 0) (.c (.int (1))))), (.set (.nm 3) (.bin .mod (.bi .int [(.sub (.var 0) (.c (.int (0))))]) (.bi .len [(.var 2)]))), (.set (.nm 4) (.sub (.var 2) (.var 3)))] ++ _) _ mh = _
        rw [this]
        simp [exs, ex, ev, evs, cmpV, ordV, hbig, h2, asg, biV, one1, intV1, binV, intV, mne, mab, ix, w1, List.map_set]
      obtain ⟨ρ, e⟩ := key
      refine ⟨_, _, run_of' rfl rfl e rfl rfl (by simp), ⟨by simp [hn], c, i, cs.set (i.fmod cs.length).toNat (x.fdiv most), by rw [get_set_ne h4]; exact h1, get_set_eq h2, by simp [h3], h4⟩, Int.fmod_nonneg_of_pos _ mp, fun _ => Int.fmod_lt_of_pos _ mp, fun z => absurd z hlt⟩
def pickD (it : Nat) : Df := ⟨2, 2, false, [(.ret (.sub (.var 1) (.call it [(.var 0), (.bi .len [(.var 1)])])))]⟩
theorem St.len {l n : Nat} {mh : MHp} (h : St l n mh) : mh.length = n := h.1
theorem pick_ok {T : List Df} {it ip : Nat} (hT : T[it]? = some takeD) (hP : T[ip]? = some (pickD it)) (k : Nat) {l n : Nat} {mh : MHp} (S : St l n mh) (row : List MV) (h0 : row ≠ []) (hr : row.length ≤ 1000) (hd : dats row = true) : ∃ y mh', y ∈ row ∧ callM T (k + 2) ip [.loc l, .lst row] mh = some (y, mh') ∧ St l n mh' := by
  have hp : 0 < row.length := List.length_pos_iff.mpr h0
  obtain ⟨r, mh', e, S', r0, r1, r2⟩ := take_ok hT k S (row.length : Int) (by omega)
  have hlt : r < (row.length : Int) := by
    by_cases h : 2 ≤ (row.length : Int)
    · exact r1 h
    · have := r2 (by omega); omega
  have hl : r.toNat < row.length := by omega
  have hi : idx row r = some row[r.toNat] := by
    have := L2.atI_nat (List.getElem?_eq_getElem hl)
    have e2 : ((r.toNat : Nat) : Int) = r := by omega
    rw [e2] at this
    exact this
  refine ⟨row[r.toNat], mh', List.getElem_mem hl, ?_, S'⟩
  rw [callM_eq hP]
  refine run_of' rfl rfl (ρ := [some (.loc l), some (.lst row)]) (fl := .rt row[r.toNat]) ?_ rfl (dats_iff.mp hd _ (List.getElem_mem hl)) (by rw [S'.1, S.1])
  simp [pickD, exs, ex, ev, evs, biV, one1, lenV, getL, e, subV, hi]
end L2.Mi

set_option Elab.async false
set_option linter.all false
set_option maxRecDepth 100000
set_option maxHeartbeats 4000000
/-! Ev3: the law's state for any table; == of a value with itself; terms as trees. -/
namespace L2.Mi
open PySem PySem.Spec PyProof.Rows
def stateD : Df := ⟨1, 3, true, [(.set (.nm 1) (.al (.comp (.nm 2) [2] (.slcH (.var 0) (.c (.int (63)))) (.c (.bl true)) (.bi .abs [(.var 2)])))), (.ite (.cmp .eq (.bi .len [(.var 1)]) (.c (.int (0)))) [(.set (.nm 1) (.al (.lst [(.c (.int (0)))])))] []), (.ret (.al (.lst [(.c (.int (0))), (.var 1)])))]⟩
theorem state_ok {T : List Df} {is : Nat} (hT : T[is]? = some stateD) (k : Nat) (ns : List Int) : ∃ l n mh, callM T (k + 1) is [.scr ns] [] = some (.loc l, mh) ∧ St l n mh := by
  let g : Int → Int := fun i => if i < 0 then -i else i
  have hc : ∀ (C : CallF), ev C 0 (.comp (.nm 2) [2] (.slcH (.var 0) (.c (.int (63)))) (.c (.bl true)) (.bi .abs [(.var 2)])) [some (.scr ns), none, none] [] = some (.lst (((ns.take 63).map g).map .int), []) := fun C => by
    have hcut : cut (ns.map MV.int) none (some 63) = (ns.take 63).map .int := by
      have := cut_take (xs := ns.map MV.int) (k := 63)
      rw [show ((63 : Nat) : Int) = 63 from rfl] at this
      rw [this, List.map_take]
    have ei : evI C 0 (.slcH (.var 0) (.c (.int (63)))) [some (.scr ns), none, none] [] = some (⟨(ns.take 63).map .int, none⟩, []) := by
      simp [evI, ev, slcV, hcut, itsOf]
    have hz : ((ns.take 63).map MV.int).length ≤ line := by simp; unfold line; omega
    rw [ev_compq, ei]
    simp only [hz, if_true]
    rw [compGo_pure rfl (g := fun x => match x with | .int i => some (.int (g i)) | _ => none)]
    · simp only
      congr 3
      rw [List.filterMap_map, ← List.filterMap_eq_map, ← List.filterMap_eq_map, List.filterMap_filterMap]
      rfl
    · intro x hx
      obtain ⟨i, _, rfl⟩ := List.mem_map.mp hx
      simp [compF, asg, wipeE, ev, evs, biV, one1, absV, g]
  rw [callM_eq hT]
  have z1 : 1 ≤ line := by unfold line; omega
  have z2 : 2 ≤ line := by unfold line; omega
  unfold runD
  rw [if_pos (show [MV.scr ns].length = stateD.np from rfl)]
  by_cases he : (ns.take 63).map g = []
  · refine ⟨2, 3, [some (.lst []), some (.lst [.int 0]), some (.lst [.int 0, .loc 1])], ?_, rfl, 1, 0, [0], rfl, rfl, by simp, by decide⟩
    have e : exs (callM T k) 0 stateD.body [some (.scr ns), none, none] [] = some (.rt (.loc 2), [some (.scr ns), some (.loc 1), none], [some (.lst []), some (.lst [.int 0]), some (.lst [.int 0, .loc 1])]) := by
      have hc' := hc (callM T k)
      rw [he] at hc'
      have c1 : ex (callM T k) 0 (.set (.nm 1) (.al (.comp (.nm 2) [2] (.slcH (.var 0) (.c (.int (63)))) (.c (.bl true)) (.bi .abs [(.var 2)])))) [some (.scr ns), none, none] [] = some (.nx, [some (.scr ns), some (.loc 0), none], [some (.lst [])]) := by
        rw [ex, ev, hc']
        simp [asg]
      rw [stateD, exs, c1]
      simp [exs, ex, ev, evs, biV, one1, lenV, getL, cmpV, eqV_int, z1, z2, asg]
    show (match exs (callM T k) 0 stateD.body [some (.scr ns), none, none] [] with
      | none => none
      | some (fl, _, mh1) => match endV fl with
        | none => none
        | some v => if stateD.live = true then some (v, mh1) else (frz 0 mh1 8 v).map (·, mh1.take 0)) = _
    rw [e]
    rfl
  · refine ⟨1, 2, [some (.lst (((ns.take 63).map g).map .int)), some (.lst [.int 0, .loc 0])], ?_, rfl, 0, 0, (ns.take 63).map g, rfl, rfl, he, by decide⟩
    have e : exs (callM T k) 0 stateD.body [some (.scr ns), none, none] [] = some (.rt (.loc 1), [some (.scr ns), some (.loc 0), none], [some (.lst (((ns.take 63).map g).map .int)), some (.lst [.int 0, .loc 0])]) := by
      have hc' := hc (callM T k)
      have c1 : ex (callM T k) 0 (.set (.nm 1) (.al (.comp (.nm 2) [2] (.slcH (.var 0) (.c (.int (63)))) (.c (.bl true)) (.bi .abs [(.var 2)])))) [some (.scr ns), none, none] [] = some (.nx, [some (.scr ns), some (.loc 0), none], [some (.lst (((ns.take 63).map g).map .int))]) := by
        rw [ex, ev, hc']
        simp [asg]
      generalize hcs : (ns.take 63).map g = cs at he c1 ⊢
      have hne : ¬ (cs.length = 0) := fun z => he (List.length_eq_zero_iff.mp z)
      rw [stateD, exs, c1]
      simp [exs, ex, ev, evs, biV, one1, lenV, getL, cmpV, eqV_int, he, z2, asg]
    show (match exs (callM T k) 0 stateD.body [some (.scr ns), none, none] [] with
      | none => none
      | some (fl, _, mh1) => match endV fl with
        | none => none
        | some v => if stateD.live = true then some (v, mh1) else (frz 0 mh1 8 v).map (·, mh1.take 0)) = _
    rw [e]
    rfl
/-! ### == of a value with itself -/
mutual
theorem eqD_refl : ∀ x : MV, dat x = true → eqD x x = true
  | .non, _ => by unfold eqD toD PyData.eqv; rfl
  | .bl b, _ => by unfold eqD toD PyData.eqv; simp
  | .int i, _ => by unfold eqD toD PyData.eqv; simp
  | .str s, _ => by unfold eqD toD PyData.eqv; simp
  | .tup xs, h => by
    unfold dat at h
    have := eqDs_refl xs h
    unfold eqD toD PyData.eqv
    exact this
  | .lst xs, h => by
    unfold dat at h
    have := eqDs_refl xs h
    unfold eqD toD PyData.eqv
    exact this
  | .fn _, h => by unfold dat at h; cases h
  | .loc _, h => by unfold dat at h; cases h
  | .dct _ _, h => by unfold dat at h; cases h
  | .scr _, h => by unfold dat at h; cases h
theorem eqDs_refl : ∀ xs : List MV, dats xs = true → PyData.eqvAll (toDs xs) (toDs xs) = true
  | [], _ => by unfold toDs PyData.eqvAll; rfl
  | x :: xs, h => by
    unfold dats at h
    rw [Bool.and_eq_true] at h
    have h1 := eqD_refl x h.1
    have h2 := eqDs_refl xs h.2
    unfold eqD at h1
    unfold toDs PyData.eqvAll
    rw [h1, h2]; rfl
end
mutual
/-- how deep lists and tuples stand in one another -/
def dep : MV → Nat
  | .tup xs => deps xs + 1
  | .lst xs => deps xs + 1
  | _ => 0
def deps : List MV → Nat
  | [] => 0
  | x :: xs => max (dep x) (deps xs)
end
mutual
theorem dat_can : ∀ x : MV, dat x = true → PyData.canLay0 (toD x) = true ∧ PyData.depth (toD x) ≤ dep x
  | .non, _ => ⟨rfl, by unfold toD PyData.depth; omega⟩
  | .bl b, _ => ⟨rfl, by unfold toD PyData.depth; omega⟩
  | .int i, _ => ⟨rfl, by unfold toD PyData.depth; omega⟩
  | .str s, h => by
    have := okD_str h
    unfold okD SeqAt.shaped at this
    rw [Bool.and_eq_true] at this
    exact ⟨this.1, by unfold toD PyData.depth; omega⟩
  | .tup xs, h => by
    unfold dat at h
    obtain ⟨h1, h2⟩ := dats_can xs h
    unfold toD
    refine ⟨by unfold PyData.canLay0; exact h1, ?_⟩
    unfold PyData.depth dep
    omega
  | .lst xs, h => by
    unfold dat at h
    obtain ⟨h1, h2⟩ := dats_can xs h
    unfold toD
    refine ⟨by unfold PyData.canLay0; exact h1, ?_⟩
    unfold PyData.depth dep
    omega
  | .fn _, h => by unfold dat at h; cases h
  | .loc _, h => by unfold dat at h; cases h
  | .dct _ _, h => by unfold dat at h; cases h
  | .scr _, h => by unfold dat at h; cases h
theorem dats_can : ∀ xs : List MV, dats xs = true → PyData.canLayAll0 (toDs xs) = true ∧ PyData.depthAll (toDs xs) ≤ deps xs
  | [], _ => ⟨rfl, by unfold toDs PyData.depthAll; omega⟩
  | x :: xs, h => by
    unfold dats at h
    rw [Bool.and_eq_true] at h
    obtain ⟨a1, a2⟩ := dat_can x h.1
    obtain ⟨b1, b2⟩ := dats_can xs h.2
    unfold toDs
    refine ⟨by unfold PyData.canLayAll0; rw [a1, b1]; rfl, ?_⟩
    unfold PyData.depthAll deps
    omega
end
theorem okD_dat {x : MV} (h : dat x = true) (hd : dep x ≤ 64) : okD x = true := by
  obtain ⟨h1, h2⟩ := dat_can x h
  unfold okD SeqAt.shaped
  rw [h1, Bool.true_and]
  exact decide_eq_true (by omega)
theorem eqV_refl (mh : MHp) {x : MV} (h : dat x = true) (hd : dep x ≤ 64) : eqV mh x x = some true := by
  unfold eqV
  rw [frz_dat x h]
  simp only [okD_dat h hd, and_self, if_true, eqD_refl x h]
end L2.Mi

set_option Elab.async false
set_option linter.all false
set_option maxRecDepth 100000
set_option maxHeartbeats 4000000
/-! Ev4: the law's tongues and drawn terms, for any table. -/
namespace L2.Mi
open PySem PySem.Spec PyProof.Rows
mutual
def cnt : MV → Nat
  | .tup xs => 1 + cntT xs
  | _ => 1
def cntT : List MV → Nat
  | [] => 0
  | _ :: xs => cnts xs
def cnts : List MV → Nat
  | [] => 0
  | x :: xs => cnt x + cnts xs
end
theorem cnts_app (xs ys : List MV) : cnts (xs ++ ys) = cnts xs + cnts ys := by
  induction xs with
  | nil => simp [cnts]
  | cons x xs ih => simp only [List.cons_append, cnts, ih]; omega
theorem dats_app (xs ys : List MV) : dats (xs ++ ys) = (dats xs && dats ys) := by
  induction xs with
  | nil => simp [dats]
  | cons x xs ih => simp only [List.cons_append, dats, ih, Bool.and_assoc]
theorem cnt_pos (x : MV) : 1 ≤ cnt x := by
  cases x <;> simp [cnt]
theorem len_cnts : ∀ w : List MV, w.length ≤ cnts w
  | [] => by simp
  | x :: w => by have := len_cnts w; have := cnt_pos x; simp only [cnts, List.length_cons]; omega
abbrev pr (s : Sx) (i : Int) : MV := .tup [.str s, .int i]
def tongues : List (List MV) := [[pr [97] 0, pr [102] 2], [pr [97] 0, pr [98] 0, pr [102] 2, pr [103] 1], [pr [97] 0, pr [98, 49] 0, pr [103] 1, pr [104] 3], [pr [99] 0, pr [102] 2, pr [103] 1]]
def isZ (p : MV) : Bool := match p with | .tup [_, .int i] => decide (i = 0) | _ => false
def tokPG : MV → Bool
  | .tup [.str s, .int i] => decide (0 ≤ i) && decide (i ≤ 3) && dat (.str s)
  | _ => false
def tokG (ps : List MV) : Bool := ps.all tokPG && dats ps && decide (2 ≤ ps.length) && decide (ps.length ≤ 4) && (ps.filter isZ).length != 0
theorem tongues_okG : tongues.all tokG = true := by decide +kernel
structure TokG (ps : List MV) : Prop where
  each : ∀ p ∈ ps, ∃ (s : Sx) (i : Nat), p = pr s i ∧ i ≤ 3 ∧ dat (.str s) = true
  dat : dats ps = true
  l2 : 2 ≤ ps.length
  l4 : ps.length ≤ 4
  zero : ps.filter isZ ≠ []
theorem tokG_of {ps : List MV} (h : ps ∈ tongues) : TokG ps := by
  have := List.all_eq_true.mp tongues_okG ps h
  unfold tokG at this
  simp only [Bool.and_eq_true, decide_eq_true_eq] at this
  obtain ⟨⟨⟨⟨h1, h3⟩, h4⟩, h5⟩, h7⟩ := this
  refine ⟨fun p hp => ?_, h3, h4, h5, fun z => by rw [z] at h7; simp at h7⟩
  have := List.all_eq_true.mp h1 p hp
  unfold tokPG at this
  split at this
  · rename_i s i
    simp only [Bool.and_eq_true, decide_eq_true_eq] at this
    obtain ⟨⟨a, b⟩, d⟩ := this
    refine ⟨s, i.toNat, ?_, by omega, d⟩
    have : ((i.toNat : Nat) : Int) = i := by omega
    rw [this]
  · cases this
def tongueD (ip : Nat) : Df := ⟨1, 1, false, [(.ret (.call ip [(.var 0), (.lst [(.tup [(.tup [(.c (.str [97])), (.c (.int (0)))]), (.tup [(.c (.str [102])), (.c (.int (2)))])]), (.tup [(.tup [(.c (.str [97])), (.c (.int (0)))]), (.tup [(.c (.str [98])), (.c (.int (0)))]), (.tup [(.c (.str [102])), (.c (.int (2)))]), (.tup [(.c (.str [103])), (.c (.int (1)))])]), (.tup [(.tup [(.c (.str [97])), (.c (.int (0)))]), (.tup [(.c (.str [98, 49])), (.c (.int (0)))]), (.tup [(.c (.str [103])), (.c (.int (1)))]), (.tup [(.c (.str [104])), (.c (.int (3)))])]), (.tup [(.tup [(.c (.str [99])), (.c (.int (0)))]), (.tup [(.c (.str [102])), (.c (.int (2)))]), (.tup [(.c (.str [103])), (.c (.int (1)))])])])]))]⟩
theorem tongue_ok {T : List Df} {it ip ig : Nat} (hT : T[it]? = some takeD) (hP : T[ip]? = some (pickD it)) (hG : T[ig]? = some (tongueD ip)) (k : Nat) {l n : Nat} {mh : MHp} (S : St l n mh) : ∃ ps mh', ps ∈ tongues ∧ callM T (k + 3) ig [.loc l] mh = some (.tup ps, mh') ∧ St l n mh' := by
  obtain ⟨y, mh', hy, e, S'⟩ := pick_ok hT hP k S (tongues.map .tup) (by simp [tongues]) (by simp [tongues]) (by decide +kernel)
  obtain ⟨ps, hps, rfl⟩ := List.mem_map.mp hy
  refine ⟨ps, mh', hps, ?_, S'⟩
  rw [callM_eq hG]
  have hd : dat (.tup ps) = true := by unfold dat; exact (tokG_of hps).dat
  refine run_of' rfl rfl (ρ := [some (.loc l)]) (fl := .rt (.tup ps)) ?_ rfl hd (by rw [S'.1, S.1])
  have h1 : 2 ≤ line := by unfold line; omega
  have h2 : 3 ≤ line := by unfold line; omega
  have h3 : 4 ≤ line := by unfold line; omega
  simp only [tongues, pr, List.map] at e
  simp [tongueD, exs, ex, ev, evs, e, h1, h2, h3]
def bnd : Nat → Nat
  | 0 => 1
  | m + 1 => 1 + 3 * bnd m
theorem bnd_pos (m : Nat) : 1 ≤ bnd m := by cases m <;> simp [bnd] <;> omega
theorem cnts_le {b : Nat} : ∀ {xs : List MV}, (∀ x ∈ xs, cnt x ≤ b) → cnts xs ≤ xs.length * b
  | [], _ => by simp [cnts]
  | x :: xs, h => by
    have h1 := h x (by simp)
    have h2 := cnts_le (xs := xs) fun y hy => h y (List.mem_cons_of_mem _ hy)
    simp only [cnts, List.length_cons, Nat.succ_mul]
    omega
structure DrawnG (P : MV → Prop) (b e : Nat) (t : MV) : Prop where
  good : P t
  cnt : cnt t ≤ b
  dep : dep t ≤ e
  dat : dat t = true
theorem deps_le {b : Nat} : ∀ {xs : List MV}, (∀ x ∈ xs, dep x ≤ b) → deps xs ≤ b
  | [], _ => by simp [deps]
  | x :: xs, h => by
    have h1 := h x (by simp)
    have h2 := deps_le (xs := xs) fun y hy => h y (List.mem_cons_of_mem _ hy)
    simp only [deps]
    omega
def termD (it ip im : Nat) : Df := ⟨4, 9, false, [(.ite (.and (.cmp .gt (.bi .len [(.var 2)]) (.c (.int (0)))) (.cmp .eq (.call it [(.var 0), (.ite (.cmp .gt (.var 3) (.c (.int (1)))) (.c (.int (3))) (.c (.int (2))))]) (.c (.int (0))))) [(.ret (.call ip [(.var 0), (.var 2)]))] []), (.set (.nm 4) (.comp (.nm 7) [7] (.var 1) (.or (.cmp .gt (.var 3) (.c (.int (1)))) (.cmp .eq (.sub (.var 7) (.c (.int (1)))) (.c (.int (0))))) (.var 7))), (.set (.tp [(.nm 5), (.nm 6)]) (.call ip [(.var 0), (.var 4)])), (.ret (.bin .add (.tup [(.var 5)]) (.bi .tuple [(.comp (.nm 8) [8] (.rng1 (.var 6)) (.c (.bl true)) (.call im [(.var 0), (.var 1), (.var 2), (.bin .sub (.var 3) (.c (.int (1))))]))])))]⟩
abbrev mEnv (l : Nat) (ps names : List MV) (M : Int) (a b c : Option MV) : Env := [some (.loc l), some (.tup ps), some (.lst names), some (.int M), a, b, c, none, none]
theorem fm_filter (P : MV → Bool) : ∀ xs : List MV, xs.filterMap (fun p => if P p = true then some p else none) = xs.filter P
  | [] => rfl
  | x :: xs => by
    rw [List.filterMap_cons, List.filter_cons, fm_filter P xs]
    cases P x <;> rfl
theorem term_bodyG {T : List Df} {it ip im : Nat} (hT : T[it]? = some takeD) (hPk : T[ip]? = some (pickD it)) {P0 : MV → Prop} {l n : Nat} {ps : List MV} (hps : TokG ps) (hP0 : ∀ s (i : Nat) ys, pr s i ∈ ps → ys.length = i → (∀ y ∈ ys, P0 y) → P0 (.tup (.str s :: ys))) {names : List MV} (hnl : names.length ≤ 1000) (hnd : dats names = true) (hng : ∀ x ∈ names, ∃ s, x = .str s ∧ P0 (.str s))
    {k : Nat} {M : Int} {b e : Nat} {mh : MHp} (hM : 1 ≤ M) (S : St l n mh)
    (rec : 1 < M → ∀ mh, St l n mh → ∃ t mh', callM T (k + 2) im [.loc l, .tup ps, .lst names, .int (M - 1)] mh = some (t, mh') ∧ St l n mh' ∧ DrawnG P0 b e t) :
    ∃ t ρ mh', exs (callM T (k + 2)) mh.length (termD it ip im).body (mEnv l ps names M none none none) mh = some (.rt t, ρ, mh') ∧ St l n mh' ∧ DrawnG P0 (1 + 3 * b) (e + 1) t := by
  have z2 : 2 ≤ line := by unfold line; omega
  have hc1 : ∃ b mh1, ev (callM T (k + 2)) mh.length (.and (.cmp .gt (.bi .len [(.var 2)]) (.c (.int (0)))) (.cmp .eq (.call it [(.var 0), (.ite (.cmp .gt (.var 3) (.c (.int (1)))) (.c (.int (3))) (.c (.int (2))))]) (.c (.int (0))))) (mEnv l ps names M none none none) mh = some (.bl b, mh1) ∧ St l n mh1 ∧ (b = true → names ≠ []) := by
    by_cases hn0 : names = []
    · refine ⟨false, mh, ?_, S, fun h => by cases h⟩
      subst hn0
      simp [mEnv, ev, evs, biV, one1, lenV, getL, cmpV, ordV]
    · have hnl0 : 0 < names.length := List.length_pos_iff.mpr hn0
      obtain ⟨r, mh1, e1, S1, r0, _, _⟩ := take_ok hT (k + 1) S (if 1 < M then 3 else 2) (by split <;> omega)
      refine ⟨decide (r = 0), mh1, ?_, S1, fun _ => hn0⟩
      by_cases h : 1 < M
      · rw [if_pos h] at e1
        have e1 : callM T (k + 2) it [.loc l, .int 3] mh = _ := e1
        simp [mEnv, ev, evs, biV, one1, lenV, getL, cmpV, ordV, hnl0, h, e1, eqV_int]
      · rw [if_neg h] at e1
        have e1 : callM T (k + 2) it [.loc l, .int 2] mh = _ := e1
        simp [mEnv, ev, evs, biV, one1, lenV, getL, cmpV, ordV, hnl0, h, e1, eqV_int]
  obtain ⟨bb, mh1, c1, S1, hbn⟩ := hc1
  cases bb with
  | true =>
    obtain ⟨y, mh2, hy, e2, S2⟩ := pick_ok hT hPk k S1 names (hbn rfl) hnl hnd
    obtain ⟨s, rfl, hs⟩ := hng y hy
    refine ⟨.str s, mEnv l ps names M none none none, mh2, ?_, S2, ⟨hs, by simp only [cnt]; omega, by simp only [dep]; omega, dats_iff.mp hnd _ hy⟩⟩
    rw [termD, exs]
    simp only [ex, c1]
    simp [exs, ex, ev, evs, mEnv, e2]
  | false =>
    -- a pair is drawn
    let P : MV → Bool := fun p => decide (1 < M) || isZ p
    have hg : ev (callM T (k + 2)) mh.length (.comp (.nm 7) [7] (.var 1) (.or (.cmp .gt (.var 3) (.c (.int (1)))) (.cmp .eq (.sub (.var 7) (.c (.int (1)))) (.c (.int (0))))) (.var 7)) (mEnv l ps names M none none none) mh1 = some (.lst (ps.filter P), mh1) := by
      have ei : evI (callM T (k + 2)) mh.length (.var 1) (mEnv l ps names M none none none) mh1 = some (⟨ps, none⟩, mh1) := by simp [evI, ev, itsOf, mEnv]
      have hz : ps.length ≤ line := by have := hps.l4; unfold line; omega
      rw [ev_compq, ei]
      simp only [hz, if_true]
      rw [compGo_pure rfl (g := fun p => if P p = true then some p else none)]
      · simp only
        rw [fm_filter]
      · intro p hp
        obtain ⟨s, i, rfl, hi, _⟩ := hps.each p hp
        by_cases h : 1 < M
        · simp [compF, asg, wipeE, ev, mEnv, cmpV, ordV, h, P]
        · by_cases hi0 : (i : Int) = 0
          · simp [compF, asg, wipeE, ev, mEnv, cmpV, ordV, h, P, subV, atI1, eqV_int, isZ, hi0]
          · have hi0' : ¬ (i = 0) := by omega
            simp [compF, asg, wipeE, ev, mEnv, cmpV, ordV, h, P, subV, atI1, eqV_int, isZ, hi0, hi0']
    have hne : ps.filter P ≠ [] := by
      have hz := hps.zero
      intro z
      apply hz
      rw [List.filter_eq_nil_iff] at z ⊢
      intro p hp q
      exact z p hp (by
        have : isZ p = true := q
        simp [P, this])
    have hfl : (ps.filter P).length ≤ 1000 := Nat.le_trans (List.length_filter_le _ _) (by have := hps.l4; omega)
    have hfd : dats (ps.filter P) = true := dats_iff.mpr fun x hx => dats_iff.mp hps.dat x ((List.mem_filter.mp hx).1)
    obtain ⟨y, mh2, hy, e2, S2⟩ := pick_ok hT hPk k S1 (ps.filter P) hne hfl hfd
    have hyp := (List.mem_filter.mp hy).1
    obtain ⟨s, i, rfl, hi, hds⟩ := hps.each y hyp
    have hi1 : ¬ 1 < M → i = 0 := fun h => by
      have := (List.mem_filter.mp hy).2
      simp [P, h, isZ] at this
      exact this
    -- the parts
    have hpart : ∃ ys mh3, ev (callM T (k + 2)) mh.length (.comp (.nm 8) [8] (.rng1 (.var 6)) (.c (.bl true)) (.call im [(.var 0), (.var 1), (.var 2), (.bin .sub (.var 3) (.c (.int (1))))])) (mEnv l ps names M (some (.lst (ps.filter P))) (some (.str s)) (some (.int i))) mh2 = some (.lst ys, mh3) ∧ St l n mh3 ∧ ys.length = i ∧ ∀ y ∈ ys, DrawnG P0 b e y := by
      have ei : evI (callM T (k + 2)) mh.length (.rng1 (.var 6)) (mEnv l ps names M (some (.lst (ps.filter P))) (some (.str s)) (some (.int i))) mh2 = some (⟨(List.range i).map fun (k : Nat) => .int (k : Int), none⟩, mh2) := by
        have b1 : (-4611686018427387904 : Int) ≤ i := by omega
        have b2 : (i : Int) < 4611686018427387904 := by omega
        simp [evI, ev, mEnv, b1, b2]
      obtain ⟨ys, mh3, q1, q2, q3, q4⟩ := compGo_st (J := ⟨(List.range i).map fun (k : Nat) => MV.int (k : Int), none⟩) rfl (f := compF (callM T (k + 2)) mh.length (.nm 8) [8] (.c (.bl true)) (.call im [(.var 0), (.var 1), (.var 2), (.bin .sub (.var 3) (.c (.int (1))))]) (mEnv l ps names M (some (.lst (ps.filter P))) (some (.str s)) (some (.int i)))) (P := St l n) (R := DrawnG P0 b e) (xs := (List.range i).map fun (k : Nat) => MV.int (k : Int)) S2 (fun x hx m1 Sm => by
        obtain ⟨j, hj, rfl⟩ := List.mem_map.mp hx
        have hj' := List.mem_range.mp hj
        have h1 : 1 < M := Classical.byContradiction fun z => by have := hi1 z; omega
        obtain ⟨t, m2, t1, t2, t3⟩ := rec h1 m1 Sm
        refine ⟨t, m2, ?_, t2, t3⟩
        simp [compF, asg, wipeE, ev, evs, mEnv, binV, intV, t1])
      refine ⟨ys, mh3, ?_, q2, by simpa using q3, q4⟩
      rw [ev_compq, ei]
      have hz : i ≤ line := by unfold line; omega
      simp only [List.length_map, List.length_range, hz, if_true, q1]
    obtain ⟨ys, mh3, e3, S3, hl, hy3⟩ := hpart
    have hdd : dats ys = true := dats_iff.mpr fun x hx => (hy3 x hx).dat
    have hcc : cnts ys ≤ i * b := by rw [← hl]; exact cnts_le fun x hx => (hy3 x hx).cnt
    have hib : i * b ≤ 3 * b := Nat.mul_le_mul_right b hi
    refine ⟨.tup (.str s :: ys), mEnv l ps names M (some (.lst (ps.filter P))) (some (.str s)) (some (.int i)), mh3, ?_, S3, ⟨?_, ?_, ?_, ?_⟩⟩
    · have hz : 1 ≤ line := by unfold line; omega
      have hz2 : 1 + ys.length ≤ line := by unfold line; omega
      rw [termD, exs]
      simp only [ex, c1, exs, hg]
      simp only [asg, mEnv, List.length_cons, List.length_nil, List.set, Nat.reduceAdd, Nat.reduceLT, if_true]
      simp only [mEnv] at e3
      simp [ev, evs, e2, asg, asgs, e3, exs, ex, hz, biV, one1, tupV, getL, binV, addV, hz2]
    · exact hP0 s i ys hyp hl fun y hy => (hy3 y hy).good
    · simp only [cnt, cntT]; omega
    · have := deps_le fun x hx => (hy3 x hx).dep
      simp only [dep, deps]
      omega
    · unfold dat dats; rw [hds, hdd]; rfl
theorem term_ok {T : List Df} {it ip im : Nat} (hT : T[it]? = some takeD) (hPk : T[ip]? = some (pickD it)) (hM : T[im]? = some (termD it ip im)) {P0 : MV → Prop} {l n : Nat} {ps : List MV} (hps : TokG ps) (hP0 : ∀ s (i : Nat) ys, pr s i ∈ ps → ys.length = i → (∀ y ∈ ys, P0 y) → P0 (.tup (.str s :: ys))) {names : List MV} (hnl : names.length ≤ 1000) (hnd : dats names = true) (hng : ∀ x ∈ names, ∃ s, x = .str s ∧ P0 (.str s)) :
    ∀ (m k : Nat) {mh : MHp}, St l n mh → ∃ t mh', callM T (k + m + 3) im [.loc l, .tup ps, .lst names, .int ((m + 1 : Nat) : Int)] mh = some (t, mh') ∧ St l n mh' ∧ DrawnG P0 (bnd m) (m + 1) t := by
  intro m
  induction m with
  | zero =>
    intro k mh S
    obtain ⟨t, ρ, mh', e, S', d⟩ := term_bodyG hT hPk hps hP0 hnl hnd hng (k := k) (M := ((0 + 1 : Nat) : Int)) (b := 0) (e := 0) (mh := mh) (by omega) S (fun h => by exfalso; omega)
    refine ⟨t, mh', ?_, S', d⟩
    rw [callM_eq hM]
    exact run_of' rfl rfl e rfl d.dat (by rw [S'.1, S.1])
  | succ m ih =>
    intro k mh S
    obtain ⟨t, ρ, mh', e, S', d⟩ := term_bodyG hT hPk hps hP0 hnl hnd hng (k := k + m + 1) (M := ((m + 1 + 1 : Nat) : Int)) (b := bnd m) (e := m + 1) (mh := mh) (by omega) S (fun h mh1 S1 => by
      obtain ⟨t, mh2, q, r⟩ := ih k S1
      have e2 : ((m + 1 + 1 : Nat) : Int) - 1 = ((m + 1 : Nat) : Int) := by omega
      rw [e2]
      exact ⟨t, mh2, q, r⟩)
    refine ⟨t, mh', ?_, S', d⟩
    rw [show k + (m + 1) + 3 = (k + m + 1 + 2) + 1 by omega, callM_eq hM]
    exact run_of' rfl rfl e rfl d.dat (by rw [S'.1, S.1])
end L2.Mi

set_option Elab.async false
set_option linter.all false
set_option maxRecDepth 100000
set_option maxHeartbeats 4000000
namespace L2.Mi.k02
open PySem PySem.Spec PyProof.Rows L2.Mi
theorem hTake : T[13]? = some takeD := rfl
theorem hPick : T[14]? = some (pickD 13) := rfl
theorem hTongue : T[15]? = some (tongueD 14) := rfl
theorem hTerm : T[16]? = some (termD 13 14 16) := rfl
theorem hState : T[12]? = some stateD := rfl
def isS : MV → Bool
  | .str _ => true
  | _ => false
mutual
/-- a term: a text, or a tuple of a text and terms -/
def tm : MV → Bool
  | .str _ => true
  | .tup xs => tmT xs
  | _ => false
def tmT : List MV → Bool
  | [] => false
  | h :: xs => isS h && tms xs
def tms : List MV → Bool
  | [] => true
  | x :: xs => tm x && tms xs
end
theorem tms_iff : ∀ {xs : List MV}, tms xs = true ↔ ∀ x ∈ xs, tm x = true
  | [] => by simp [tms]
  | x :: xs => by simp [tms, tms_iff (xs := xs)]
/-- a term is a text, or a tuple of a text and terms -/
theorem tm_cases {t : MV} (h : tm t = true) (hd : dat t = true) : (∃ s, t = .str s) ∨ ∃ s xs, t = .tup (.str s :: xs) ∧ dat (.str s) = true ∧ (∀ x ∈ xs, tm x = true ∧ dat x = true) := by
  cases t with
  | str s => exact .inl ⟨s, rfl⟩
  | tup ys =>
    cases ys with
    | nil => simp [tm, tmT] at h
    | cons y xs =>
      simp only [tm, tmT, Bool.and_eq_true] at h
      cases y with
      | str s =>
        have hds : dats (.str s :: xs) = true := by unfold dat at hd; exact hd
        exact .inr ⟨s, xs, rfl, dats_iff.mp hds _ (by simp), fun x hx => ⟨tms_iff.mp h.2 x hx, dats_iff.mp hds x (List.mem_cons_of_mem _ hx)⟩⟩
      | _ => simp [isS] at h
  | _ => simp [tm] at h
theorem sp_isvar (k : Nat) (v : MV) (mh : MHp) (hd : dat v = true) : callM T (k + 1) 1 [v] mh = some (.bl (isS v), mh) := by
  rw [callM_eq (d := d_is_var) rfl]
  refine run_of' rfl rfl (ρ := [some v]) (fl := .rt (.bl (isS v))) ?_ rfl rfl rfl
  cases v <;> first | (cases hd; done) | simp [d_is_var, exs, ex, ev, isTy, isS]
theorem cnt_le {x : MV} {xs : List MV} (h : x ∈ xs) : cnt x ≤ cnts xs := by
  induction xs with
  | nil => simp at h
  | cons y xs ih =>
    simp only [cnts]
    rcases List.mem_cons.mp h with rfl | h
    · omega
    · have := ih h; omega
theorem ints_map {mh : MHp} (ns : List Int) : intsM mh (.lst (ns.map .int)) = some ns := by
  unfold intsM
  show (ns.map MV.int).mapM intOf = some ns
  induction ns with
  | nil => rfl
  | cons n ns ih => rw [List.map_cons, List.mapM_cons, ih]; rfl
theorem ints_map2 {mh : MHp} {α : Type} (xs : List α) (g : α → Int) : intsM mh (.lst (xs.map (MV.int ∘ g))) = some (xs.map g) := by
  have := ints_map (mh := mh) (xs.map g)
  rw [List.map_map] at this
  exact this
theorem cut1 (h : MV) (xs : List MV) : cut (h :: xs) (some 1) none = xs := by
  have := cut_drop (xs := h :: xs) (k := 1)
  simpa using this
theorem sum_cnts : ∀ xs : List MV, (xs.map fun x => (cnt x : Int)).sum = (cnts xs : Int)
  | [] => by simp [cnts]
  | x :: xs => by simp [cnts, sum_cnts xs]
theorem sp_size : ∀ (N k : Nat) (t : MV) (mh : MHp), cnt t ≤ N → N ≤ 1000 → tm t = true → dat t = true → callM T (k + N + 1) 2 [t] mh = some (.int (cnt t), mh) := by
  intro N
  induction N with
  | zero => intro k t mh hc; have := cnt_pos t; omega
  | succ N ih =>
    intro k t mh hc hN ht hd
    rw [callM_eq (d := d_size) rfl]
    have iv := sp_isvar (k + N) t mh hd
    refine run_of' rfl rfl (ρ := [some t, none]) (fl := .rt (.int (cnt t))) ?_ rfl rfl rfl
    rcases tm_cases ht hd with ⟨s, rfl⟩ | ⟨s, xs, rfl, hds, hx⟩
    · simp only [isS] at iv
      simp [d_size, exs, ex, ev, evs, show k + (N + 1) = k + N + 1 by omega, iv, cnt]
    · simp only [isS] at iv
      simp only [cnt, cntT] at hc
      have hl := len_cnts xs
      have hg : ev (callM T (k + N + 1)) mh.length (.comp (.nm 1) [1] (.slcL (.var 0) (.c (.int (1)))) (.c (.bl true)) (.call 2 [(.var 1)])) [some (.tup (.str s :: xs)), none] mh = some (.lst ((xs.map fun x => (cnt x : Int)).map .int), mh) := by
        have ei : evI (callM T (k + N + 1)) mh.length (.slcL (.var 0) (.c (.int (1)))) [some (.tup (.str s :: xs)), none] mh = some (⟨xs, none⟩, mh) := by
          simp [evI, ev, slcV, cut1, itsOf]
        have hz : xs.length ≤ line := by unfold line; omega
        rw [ev_compq, ei]
        simp only [hz, if_true]
        rw [compGo_pure rfl (g := fun x => some (.int (cnt x)))]
        · simp only
          congr 3
          rw [List.map_map, ← List.filterMap_eq_map]
          rfl
        · intro x hxm
          have hcx := cnt_le hxm
          have := ih k x mh (by omega) (by omega) (hx x hxm).1 (hx x hxm).2
          simp [compF, asg, wipeE, ev, evs, this]
      have hsum := sum_cnts xs
      simp only [d_size, exs, ex]
      rw [show k + (N + 1) = k + N + 1 by omega]
      simp only [List.map, List.replicate, List.append, List.cons_append, List.nil_append]
      simp [ev, evs, iv, ↓hg, biV, one1, ints_map2, hsum, binV, addV, cnt, cntT]
end L2.Mi.k02

set_option Elab.async false
set_option linter.all false
set_option maxRecDepth 100000
set_option maxHeartbeats 4000000
namespace L2.Mi.k02
open PySem PySem.Spec PyProof.Rows L2.Mi
def hasV (acc : List MV) (x : MV) : Bool := acc.any fun z => eqD z x
mutual
/-- the names of a term, each once, in order -/
def vars : MV → List MV
  | .str s => [.str s]
  | .tup xs => varsT xs
  | _ => []
def varsT : List MV → List MV
  | [] => []
  | _ :: xs => varsL [] xs
def varsL : List MV → List MV → List MV
  | acc, [] => acc
  | acc, x :: xs => varsL (acc ++ (vars x).filter fun n => !hasV acc n) xs
end
def AllS (xs : List MV) : Prop := ∀ x ∈ xs, ∃ s, x = .str s ∧ dat x = true
theorem AllS.app {a b : List MV} (h : AllS a) (h' : AllS b) : AllS (a ++ b) := fun x hx => (List.mem_append.mp hx).elim (h x) (h' x)
theorem AllS.filter {a : List MV} {p : MV → Bool} (h : AllS a) : AllS (a.filter p) := fun x hx => h x (List.mem_filter.mp hx).1
theorem AllS.dats {a : List MV} (h : AllS a) : dats a = true := dats_iff.mpr fun x hx => (h x hx).elim fun _ z => z.2
theorem AllS.ok {a : List MV} (h : AllS a) : okD (.lst a) = true := okD_dat (by unfold dat; exact h.dats) (by
  have : deps a ≤ 0 := deps_le fun x hx => by obtain ⟨s, rfl, _⟩ := h x hx; simp [dep]
  simp only [dep]; omega)
mutual
theorem vars_all : ∀ t, tm t = true → dat t = true → AllS (vars t) ∧ (vars t).length ≤ cnt t
  | .str s, h, d => ⟨fun x hx => by simp [vars] at hx; subst hx; exact ⟨s, rfl, d⟩, by simp [vars, cnt]⟩
  | .tup [], h, d => by simp [tm, tmT] at h
  | .tup (y :: xs), h, d => by
    simp only [tm, tmT, Bool.and_eq_true] at h
    have hx : dats xs = true := by unfold dat dats at d; rw [Bool.and_eq_true] at d; exact d.2
    obtain ⟨a, b⟩ := varsL_all [] xs h.2 hx (fun x hx => by simp at hx)
    refine ⟨by simp only [vars, varsT]; exact a, ?_⟩
    simp only [vars, varsT, cnt, cntT]
    simp at b
    omega
  | .non, h, _ => by simp [tm] at h
  | .bl _, h, _ => by simp [tm] at h
  | .int _, h, _ => by simp [tm] at h
  | .fn _, h, _ => by simp [tm] at h
  | .lst _, h, _ => by simp [tm] at h
  | .loc _, h, _ => by simp [tm] at h
  | .dct _ _, h, _ => by simp [tm] at h
  | .scr _, h, _ => by simp [tm] at h
theorem varsL_all : ∀ acc xs, tms xs = true → dats xs = true → AllS acc → AllS (varsL acc xs) ∧ (varsL acc xs).length ≤ acc.length + cnts xs
  | acc, [], h, d, ha => by simp only [varsL]; exact ⟨ha, by simp [cnts]⟩
  | acc, x :: xs, h, d, ha => by
    simp only [tms, Bool.and_eq_true] at h
    simp only [dats, Bool.and_eq_true] at d
    obtain ⟨a, b⟩ := vars_all x h.1 d.1
    obtain ⟨a2, b2⟩ := varsL_all (acc ++ (vars x).filter fun n => !hasV acc n) xs h.2 d.2 (ha.app a.filter)
    have hf := List.length_filter_le (fun n => !hasV acc n) (vars x)
    refine ⟨by simp only [varsL]; exact a2, ?_⟩
    simp only [varsL, cnts]
    rw [List.length_append] at b2
    omega
end
theorem mem_str {mh : MHp} {acc : List MV} {x : MV} (ha : AllS acc) (hx : ∃ s, x = .str s ∧ dat x = true) : memV mh x (.lst acc) = some (hasV acc x) := by
  obtain ⟨s, rfl, hd⟩ := hx
  have e1 : frz 0 mh 8 (.str s) = some (.str s) := frz_dat _ hd
  have e2 : frz 0 mh 8 (.lst acc) = some (.lst acc) := frz_dat _ (by unfold dat; exact ha.dats)
  have o1 := okD_str hd
  have o2 := ha.ok
  unfold memV
  split
  · rename_i h; cases h
  · simp only [e1, e2, o1, o2, and_self, if_true]
    rfl
abbrev nmBody : List MS := [(.set (.nm 1) (.bin .add (.var 1) (.comp (.nm 3) [3] (.call 17 [(.var 2)]) (.cmp .nmem (.var 3) (.var 1)) (.var 3))))]
theorem names_loop {C : CallF} {b : Nat} {t : Option MV} {mh : MHp} {J : Its} (hJ : J.src = none) : ∀ (xs acc : List MV) (o : Option MV), (∀ x ∈ xs, C 17 [x] mh = some (.lst (vars x), mh)) → tms xs = true → dats xs = true → AllS acc → acc.length + cnts xs ≤ 2000 →
    ∃ o', forGo J (forF C b (.nm 2) nmBody) xs [t, some (.lst acc), o, none] mh = some (.nx, [t, some (.lst (varsL acc xs)), o', none], mh)
  | [], acc, o, _, _, _, _, _ => ⟨o, by simp only [varsL]; exact forGo_nil_of hJ⟩
  | x :: xs, acc, o, hC, ht, hd, ha, hl => by
    simp only [tms, Bool.and_eq_true] at ht
    simp only [dats, Bool.and_eq_true] at hd
    simp only [cnts] at hl
    obtain ⟨va, vl⟩ := vars_all x ht.1 hd.1
    have hc := hC x (by simp)
    have hcomp : ev C b (.comp (.nm 3) [3] (.call 17 [(.var 2)]) (.cmp .nmem (.var 3) (.var 1)) (.var 3)) [t, some (.lst acc), some x, none] mh = some (.lst ((vars x).filter fun n => !hasV acc n), mh) := by
      have ei : evI C b (.call 17 [(.var 2)]) [t, some (.lst acc), some x, none] mh = some (⟨vars x, none⟩, mh) := by
        simp [evI, ev, evs, hc, itsOf]
      have hz : (vars x).length ≤ line := by unfold line; omega
      rw [ev_compq, ei]
      simp only [hz, if_true]
      rw [compGo_pure rfl (g := fun n => if (!hasV acc n) = true then some n else none)]
      · simp only
        rw [fm_filter]
      · intro n hn
        have hm := mem_str (mh := mh) ha (va n hn)
        cases hb : hasV acc n <;> rw [hb] at hm <;> simp [compF, asg, wipeE, ev, cmpV, hm]
    have hf := List.length_filter_le (fun n => !hasV acc n) (vars x)
    obtain ⟨F, hF⟩ : ∃ F, F = (vars x).filter fun n => !hasV acc n := ⟨_, rfl⟩
    rw [← hF] at hcomp hf
    have hz2 : acc.length + F.length ≤ line := by unfold line; omega
    have st : forF C b (.nm 2) nmBody x [t, some (.lst acc), o, none] mh = some (.nx, [t, some (.lst (acc ++ F)), some x, none], mh) := by
      simp [forF, asg, exs, ex, ev, ↓hcomp, binV, addV, getL, hz2]
    rw [forGo_cons_of hJ, st]
    obtain ⟨o', e⟩ := names_loop hJ xs (acc ++ F) (some x) (fun y hy => hC y (List.mem_cons_of_mem _ hy)) ht.2 hd.2 (ha.app (by rw [hF]; exact va.filter)) (by rw [List.length_append]; omega)
    refine ⟨o', ?_⟩
    simp only [varsL]
    rw [← hF]
    exact e
theorem sp_names : ∀ (N k : Nat) (t : MV) (mh : MHp), cnt t ≤ N → N ≤ 1000 → tm t = true → dat t = true → callM T (k + N) 17 [t] mh = some (.lst (vars t), mh) := by
  intro N
  induction N with
  | zero => intro k t mh hc; have := cnt_pos t; omega
  | succ N ih =>
    intro k t mh hc hN ht hd
    rw [show k + (N + 1) = k + N + 1 by omega, callM_eq (d := d_l_names) rfl]
    have hva := (vars_all t ht hd).1
    have hdv : dat (.lst (vars t)) = true := by unfold dat; exact hva.dats
    rcases tm_cases ht hd with ⟨s, rfl⟩ | ⟨s, xs, rfl, hds, hx⟩
    · refine run_of' rfl rfl (ρ := [some (.str s), none, none, none]) (fl := .rt (.lst (vars (.str s)))) ?_ rfl hdv rfl
      have z1 : 1 ≤ line := by unfold line; omega
      simp [d_l_names, exs, ex, ev, evs, isTy, vars, z1]
    · simp only [cnt, cntT] at hc
      obtain ⟨o', e⟩ := names_loop (C := callM T (k + N)) (b := mh.length) (t := some (.tup (.str s :: xs))) (mh := mh) (J := ⟨xs, none⟩) rfl xs [] none (fun x hxm => ih k x mh (by have := cnt_le hxm; omega) (by omega) (hx x hxm).1 (hx x hxm).2) (tms_iff.mpr fun x hxm => (hx x hxm).1) (dats_iff.mpr fun x hxm => (hx x hxm).2) (fun x hx => by simp at hx) (by simp; omega)
      refine run_of' rfl rfl (ρ := [some (.tup (.str s :: xs)), some (.lst (varsL [] xs)), o', none]) (fl := .rt (.lst (varsL [] xs))) ?_ (by simp [endV, vars, varsT]) (by have := hdv; simp only [vars, varsT] at this; exact this) rfl
      simp [d_l_names, exs, ex, ↓ex_for, ev, evs, evI, isTy, asg, slcV, cut1, itsOf, e]
end L2.Mi.k02

set_option Elab.async false
set_option linter.all false
set_option maxRecDepth 100000
set_option maxHeartbeats 4000000
namespace L2.Mi.k02
open PySem PySem.Spec PyProof.Rows L2.Mi
theorem top_get {mh : MHp} {o : MO} : (mh ++ [some o])[mh.length]? = some (some o) := by
  rw [List.getElem?_append_right (Nat.le_refl _)]; simp
theorem top_set {mh : MHp} {o o' : MO} : (mh ++ [some o]).set mh.length (some o') = mh ++ [some o'] := by
  rw [List.set_append_right _ _ (Nat.le_refl _)]; simp
theorem take_top {mh : MHp} {o : MO} : (mh ++ [some o]).take mh.length = mh := by simp
abbrev nHp (mh : MHp) (w : List MV) : MHp := mh ++ [some (.lst w)]
theorem frz_top {n : Nat} {mh : MHp} {acc : List MV} (hn : n ≤ mh.length) (hd : dats acc = true) : frz n (nHp mh acc) 8 (.loc mh.length) = some (.lst acc) := by
  unfold frz
  rw [if_neg (by omega)]
  simp only [nHp, top_get]
  rw [frzs_dat acc hd]
  rfl
theorem run_frz {C : CallF} {d : Df} {args : List MV} {mh mh1 : MHp} {fl : Fl} {ρ : Env} {v w : MV} (hl : args.length = d.np) (hv : d.live = false) (e : exs C mh.length d.body (args.map some ++ List.replicate (d.ns - d.np) none) mh = some (fl, ρ, mh1))
    (he : endV fl = some v) (hf : frz mh.length mh1 8 v = some w) : runD C d args mh = some (w, mh1.take mh.length) := by
  unfold runD
  rw [if_pos hl, e]
  simp only [he, hv]
  rw [hf]
  rfl
theorem mem_loc {mh : MHp} {acc : List MV} {x : MV} (ha : AllS acc) (hx : ∃ s, x = .str s ∧ dat x = true) : memV (nHp mh acc) x (.loc mh.length) = some (hasV acc x) := by
  obtain ⟨s, rfl, hd⟩ := hx
  have e1 : frz 0 (nHp mh acc) 8 (.str s) = some (.str s) := frz_dat _ hd
  have e2 := frz_top (n := 0) (mh := mh) (Nat.zero_le _) ha.dats
  have o1 := okD_str hd
  have o2 := ha.ok
  unfold memV
  split
  · rename_i h; cases h
  · simp only [e1, e2, o1, o2, and_self, if_true]
    rfl
abbrev vrBody : List MS := [(.ex (.meth .extend (.var 1) [(.comp (.nm 3) [3] (.call 4 [(.var 2)]) (.cmp .nmem (.var 3) (.var 1)) (.var 3))]))]
theorem vars_loop {C : CallF} {t : Option MV} {mh : MHp} {J : Its} (hJ : J.src = none) : ∀ (xs acc : List MV) (o : Option MV), (∀ x ∈ xs, ∀ mh, C 4 [x] mh = some (.lst (vars x), mh)) → tms xs = true → dats xs = true → AllS acc → acc.length + cnts xs ≤ 2000 →
    ∃ o', forGo J (forF C mh.length (.nm 2) vrBody) xs [t, some (.loc mh.length), o, none] (nHp mh acc) = some (.nx, [t, some (.loc mh.length), o', none], nHp mh (varsL acc xs))
  | [], acc, o, _, _, _, _, _ => ⟨o, by simp only [varsL]; exact forGo_nil_of hJ⟩
  | x :: xs, acc, o, hC, ht, hd, ha, hl => by
    simp only [tms, Bool.and_eq_true] at ht
    simp only [dats, Bool.and_eq_true] at hd
    simp only [cnts] at hl
    obtain ⟨va, vl⟩ := vars_all x ht.1 hd.1
    have hc := hC x (by simp) (nHp mh acc)
    have hcomp : ev C mh.length (.comp (.nm 3) [3] (.call 4 [(.var 2)]) (.cmp .nmem (.var 3) (.var 1)) (.var 3)) [t, some (.loc mh.length), some x, none] (nHp mh acc) = some (.lst ((vars x).filter fun n => !hasV acc n), nHp mh acc) := by
      have ei : evI C mh.length (.call 4 [(.var 2)]) [t, some (.loc mh.length), some x, none] (nHp mh acc) = some (⟨vars x, none⟩, nHp mh acc) := by
        simp [evI, ev, evs, hc, itsOf]
      have hz : (vars x).length ≤ line := by unfold line; omega
      rw [ev_compq, ei]
      simp only [hz, if_true]
      rw [compGo_pure rfl (g := fun n => if (!hasV acc n) = true then some n else none)]
      · simp only
        rw [fm_filter]
      · intro n hn
        have hm := mem_loc (mh := mh) ha (va n hn)
        cases hb : hasV acc n <;> rw [hb] at hm <;> simp [compF, asg, wipeE, ev, cmpV, hm]
    have hf := List.length_filter_le (fun n => !hasV acc n) (vars x)
    obtain ⟨F, hF⟩ : ∃ F, F = (vars x).filter fun n => !hasV acc n := ⟨_, rfl⟩
    rw [← hF] at hcomp hf
    have hz2 : acc.length + F.length ≤ line := by unfold line; omega
    have hw : ∀ y ∈ F, wr mh.length mh.length y = true := fun y hy => by simp [wr]
    have me : ev C mh.length (.meth .extend (.var 1) [(.comp (.nm 3) [3] (.call 4 [(.var 2)]) (.cmp .nmem (.var 3) (.var 1)) (.var 3))]) [t, some (.loc mh.length), some x, none] (nHp mh acc) = some (.non, nHp mh (acc ++ F)) := by
      have l1 : liveL (nHp mh acc) (.loc mh.length) = some (mh.length, acc) := by simp [liveL, nHp, top_get]
      have m1 : methV mh.length (nHp mh acc) .extend (.loc mh.length) [.lst F] = some (.non, nHp mh (acc ++ F)) := by
        simp only [methV, extV, l1, seqOf, getL]
        rw [if_pos ⟨List.all_eq_true.mpr hw, hz2⟩]
        simp only [nHp, top_set]
      have ty : tyM (nHp mh acc) .extend (.loc mh.length) = true := by simp [tyM, l1]
      have v1 : ev C mh.length (.var 1) [t, some (.loc mh.length), some x, none] (nHp mh acc) = some (.loc mh.length, nHp mh acc) := by simp [ev]
      have es : evs C mh.length [(.comp (.nm 3) [3] (.call 4 [(.var 2)]) (.cmp .nmem (.var 3) (.var 1)) (.var 3))] [t, some (.loc mh.length), some x, none] (nHp mh acc) = some ([.lst F], nHp mh acc) := by
        rw [evs, hcomp]; simp only [evs]
      rw [ev, v1]
      simp only [ty, if_true, es, m1]
    have st : forF C mh.length (.nm 2) vrBody x [t, some (.loc mh.length), o, none] (nHp mh acc) = some (.nx, [t, some (.loc mh.length), some x, none], nHp mh (acc ++ F)) := by
      have a0 : asg (nHp mh acc) (.nm 2) x [t, some (.loc mh.length), o, none] = some [t, some (.loc mh.length), some x, none] := by simp [asg]
      unfold forF
      rw [a0]
      simp only
      rw [vrBody, exs, ex, me]
      simp only [exs]
    rw [forGo_cons_of hJ, st]
    obtain ⟨o', e⟩ := vars_loop hJ xs (acc ++ F) (some x) (fun y hy => hC y (List.mem_cons_of_mem _ hy)) ht.2 hd.2 (ha.app (by rw [hF]; exact va.filter)) (by rw [List.length_append]; omega)
    refine ⟨o', ?_⟩
    simp only [varsL]
    rw [← hF]
    exact e
theorem sp_vars : ∀ (N k : Nat) (t : MV) (mh : MHp), cnt t ≤ N → N ≤ 1000 → tm t = true → dat t = true → callM T (k + N + 1) 4 [t] mh = some (.lst (vars t), mh) := by
  intro N
  induction N with
  | zero => intro k t mh hc; have := cnt_pos t; omega
  | succ N ih =>
    intro k t mh hc hN ht hd
    rw [callM_eq (d := d_variables) rfl, show k + (N + 1) = k + N + 1 by omega]
    have iv := sp_isvar (k + N) t mh hd
    have hva := (vars_all t ht hd).1
    have hdv : dat (.lst (vars t)) = true := by unfold dat; exact hva.dats
    rcases tm_cases ht hd with ⟨s, rfl⟩ | ⟨s, xs, rfl, hds, hx⟩
    · refine run_of' rfl rfl (ρ := [some (.str s), none, none, none]) (fl := .rt (.lst (vars (.str s)))) ?_ rfl hdv rfl
      have z1 : 1 ≤ line := by unfold line; omega
      simp only [isS] at iv
      simp [d_variables, exs, ex, ev, evs, iv, vars, z1]
    · simp only [cnt, cntT] at hc
      simp only [isS] at iv
      simp only [vars, varsT] at hva
      obtain ⟨o', e⟩ := vars_loop (C := callM T (k + N + 1)) (t := some (.tup (.str s :: xs))) (mh := mh) (J := ⟨xs, none⟩) rfl xs [] none (fun x hxm mh => ih k x mh (by have := cnt_le hxm; omega) (by omega) (hx x hxm).1 (hx x hxm).2) (tms_iff.mpr fun x hxm => (hx x hxm).1) (dats_iff.mpr fun x hxm => (hx x hxm).2) (fun x hx => by simp at hx) (by simp; omega)
      have := run_frz (C := callM T (k + N + 1)) (d := d_variables) (args := [.tup (.str s :: xs)]) (mh := mh) (mh1 := nHp mh (varsL [] xs)) (fl := .rt (.loc mh.length)) (ρ := [some (.tup (.str s :: xs)), some (.loc mh.length), o', none]) (v := .loc mh.length) (w := .lst (varsL [] xs)) rfl rfl ?_ rfl (frz_top (Nat.le_refl _) hva.dats)
      · rw [take_top] at this
        simp only [vars, varsT]
        exact this
      · show exs (callM T (k + N + 1)) mh.length d_variables.body [some (.tup (.str s :: xs)), none, none, none] mh = _
        have s1 : ex (callM T (k + N + 1)) mh.length (.ite (.call 1 [(.var 0)]) [(.ret (.lst [(.var 0)]))] []) [some (.tup (.str s :: xs)), none, none, none] mh = some (.nx, [some (.tup (.str s :: xs)), none, none, none], mh) := by
          simp [ex, exs, ev, evs, iv]
        have s2 : ex (callM T (k + N + 1)) mh.length (.set (.nm 1) (.al (.lst []))) [some (.tup (.str s :: xs)), none, none, none] mh = some (.nx, [some (.tup (.str s :: xs)), some (.loc mh.length), none, none], nHp mh []) := by
          simp [ex, ev, evs, asg, nHp]
        have ei : evI (callM T (k + N + 1)) mh.length (.slcL (.var 0) (.c (.int (1)))) [some (.tup (.str s :: xs)), some (.loc mh.length), none, none] (nHp mh []) = some (⟨xs, none⟩, nHp mh []) := by
          simp [evI, ev, slcV, cut1, itsOf]
        rw [d_variables, exs, s1]
        simp only
        rw [exs, s2]
        simp only
        rw [exs, ex_for, ei]
        simp only
        rw [e]
        simp [exs, ex, ev]
end L2.Mi.k02

set_option Elab.async false
set_option linter.all false
set_option maxRecDepth 100000
set_option maxHeartbeats 4000000
namespace L2.Mi.k02
open PySem PySem.Spec PyProof.Rows L2.Mi
theorem sp_ground (N k : Nat) (t : MV) (mh : MHp) (hc : cnt t ≤ N) (hN : N ≤ 1000) (ht : tm t = true) (hd : dat t = true) : callM T (k + N + 2) 5 [t] mh = some (.bl (decide ((vars t).length = 0)), mh) := by
  rw [callM_eq (d := d_is_ground) rfl]
  have hv := sp_vars N k t mh hc hN ht hd
  refine run_of' rfl rfl (ρ := [some t]) (fl := .rt (.bl (decide ((vars t).length = 0)))) ?_ rfl rfl rfl
  simp [d_is_ground, exs, ex, ev, evs, hv, biV, one1, lenV, getL, cmpV, eqV_int]
mutual
/-- how often the name s stands in a term -/
def cou (s : Sx) : MV → Nat
  | .str r => if r = s then 1 else 0
  | .tup xs => couT s xs
  | _ => 0
def couT (s : Sx) : List MV → Nat
  | [] => 0
  | _ :: xs => cous s xs
def cous (s : Sx) : List MV → Nat
  | [] => 0
  | x :: xs => cou s x + cous s xs
end
theorem sum_cous (s : Sx) : ∀ xs : List MV, (xs.map fun x => (cou s x : Int)).sum = (cous s xs : Int)
  | [] => by simp [cous]
  | x :: xs => by simp [cous, sum_cous s xs]
theorem sp_count {s : Sx} (hs : dat (.str s) = true) : ∀ (N k : Nat) (t : MV) (mh : MHp), cnt t ≤ N → N ≤ 1000 → tm t = true → dat t = true → callM T (k + N + 1) 6 [t, .str s] mh = some (.int (cou s t), mh) := by
  intro N
  induction N with
  | zero => intro k t mh hc; have := cnt_pos t; omega
  | succ N ih =>
    intro k t mh hc hN ht hd
    rw [callM_eq (d := d_count) rfl, show k + (N + 1) = k + N + 1 by omega]
    have iv := sp_isvar (k + N) t mh hd
    refine run_of' rfl rfl (ρ := [some t, some (.str s), none]) (fl := .rt (.int (cou s t))) ?_ rfl rfl rfl
    rcases tm_cases ht hd with ⟨r, rfl⟩ | ⟨r, xs, rfl, hds, hx⟩
    · simp only [isS] at iv
      have he := eqV_str mh r s hd hs
      by_cases h : r = s
      · simp [h] at he
        subst h
        simp [d_count, exs, ex, ev, evs, iv, cou, cmpV, he]
      · simp [h] at he
        simp [d_count, exs, ex, ev, evs, iv, cou, cmpV, he, h]
    · simp only [isS] at iv
      simp only [cnt, cntT] at hc
      have hl := len_cnts xs
      have hg : ev (callM T (k + N + 1)) mh.length (.comp (.nm 2) [2] (.slcL (.var 0) (.c (.int (1)))) (.c (.bl true)) (.call 6 [(.var 2), (.var 1)])) [some (.tup (.str r :: xs)), some (.str s), none] mh = some (.lst ((xs.map fun x => (cou s x : Int)).map .int), mh) := by
        have ei : evI (callM T (k + N + 1)) mh.length (.slcL (.var 0) (.c (.int (1)))) [some (.tup (.str r :: xs)), some (.str s), none] mh = some (⟨xs, none⟩, mh) := by
          simp [evI, ev, slcV, cut1, itsOf]
        have hz : xs.length ≤ line := by unfold line; omega
        rw [ev_compq, ei]
        simp only [hz, if_true]
        rw [compGo_pure rfl (g := fun x => some (.int (cou s x)))]
        · simp only
          congr 3
          rw [List.map_map, ← List.filterMap_eq_map]
          rfl
        · intro x hxm
          have hcx := cnt_le hxm
          have := ih k x mh (by omega) (by omega) (hx x hxm).1 (hx x hxm).2
          simp [compF, asg, wipeE, ev, evs, this]
      have hsum := sum_cous s xs
      simp only [List.map, List.replicate, List.append, List.cons_append, List.nil_append]
      simp [d_count, exs, ex, ev, evs, iv, ↓hg, biV, one1, ints_map2, hsum, cou, couT]
end L2.Mi.k02

set_option Elab.async false
set_option linter.all false
set_option maxRecDepth 100000
set_option maxHeartbeats 4000000
namespace L2.Mi.k02
open PySem PySem.Spec PyProof.Rows L2.Mi
/-- the part at a position -/
def atF : MV → List Int → Option MV
  | t, [] => some t
  | .tup xs, i :: is => (idx xs i).bind fun x => atF x is
  | _, _ :: _ => none
theorem atF_dat : ∀ (is : List Int) (t r : MV), dat t = true → atF t is = some r → dat r = true
  | [], t, r, h, e => by simp only [atF] at e; cases e; exact h
  | i :: is, t, r, h, e => by
    cases t with
    | tup xs =>
      simp only [atF, Option.bind_eq_some_iff] at e
      obtain ⟨x, e1, e2⟩ := e
      have hx : x ∈ xs := by
        unfold idx L2.atI at e1
        obtain ⟨j, _, e3⟩ := Option.bind_eq_some_iff.mp e1
        exact List.mem_of_getElem? e3
      exact atF_dat is x r (dats_iff.mp (by unfold dat at h; exact h) x hx) e2
    | _ => simp [atF] at e
abbrev atB : List MS := [(.set (.nm 0) (.sub (.var 0) (.var 2)))]
theorem at_loop {C : CallF} {b : Nat} {p : Option MV} {mh : MHp} {J : Its} (hJ : J.src = none) : ∀ (is : List Int) (t r : MV) (o : Option MV), atF t is = some r →
    ∃ o', forGo J (forF C b (.nm 2) atB) (is.map .int) [some t, p, o] mh = some (.nx, [some r, p, o'], mh)
  | [], t, r, o, e => by simp only [atF] at e; cases e; exact ⟨o, forGo_nil_of hJ⟩
  | i :: is, t, r, o, e => by
    cases t with
    | tup xs =>
      simp only [atF, Option.bind_eq_some_iff] at e
      obtain ⟨x, e1, e2⟩ := e
      have st : forF C b (.nm 2) atB (.int i) [some (.tup xs), p, o] mh = some (.nx, [some x, p, some (.int i)], mh) := by
        simp [forF, asg, exs, ex, ev, subV, e1]
      rw [List.map_cons, forGo_cons_of hJ, st]
      exact at_loop hJ is x r _ e2
    | _ => simp [atF] at e
theorem sp_at (k : Nat) {t r : MV} {is : List Int} (mh : MHp) (hd : dat t = true) (e : atF t is = some r) : callM T (k + 1) 9 [t, .tup (is.map .int)] mh = some (r, mh) := by
  rw [callM_eq (d := d_at) rfl]
  obtain ⟨o', h⟩ := at_loop (C := callM T k) (b := mh.length) (p := some (.tup (is.map .int))) (mh := mh) (J := ⟨is.map .int, none⟩) rfl is t r none e
  refine run_of' rfl rfl (ρ := [some r, some (.tup (is.map .int)), o']) (fl := .rt r) ?_ rfl (atF_dat is t r hd e) rfl
  have ei : evI (callM T k) mh.length (.var 1) [some t, some (.tup (is.map .int)), none] mh = some (⟨is.map .int, none⟩, mh) := by simp [evI, ev, itsOf]
  simp only [List.map, List.replicate, List.append, List.cons_append, List.nil_append]
  show exs (callM T k) mh.length d_at.body [some t, some (.tup (is.map .int)), none] mh = _
  rw [d_at, exs, ex_for, ei]
  simp only
  rw [h]
  simp [exs, ex, ev]
theorem sp_lat (k : Nat) {t r : MV} {is : List Int} (mh : MHp) (hd : dat t = true) (e : atF t is = some r) : callM T (k + 1) 19 [t, .tup (is.map .int)] mh = some (r, mh) := by
  rw [callM_eq (d := d_l_at) rfl]
  obtain ⟨o', h⟩ := at_loop (C := callM T k) (b := mh.length) (p := some (.tup (is.map .int))) (mh := mh) (J := ⟨is.map .int, none⟩) rfl is t r none e
  refine run_of' rfl rfl (ρ := [some r, some (.tup (is.map .int)), o']) (fl := .rt r) ?_ rfl (atF_dat is t r hd e) rfl
  have ei : evI (callM T k) mh.length (.var 1) [some t, some (.tup (is.map .int)), none] mh = some (⟨is.map .int, none⟩, mh) := by simp [evI, ev, itsOf]
  show exs (callM T k) mh.length d_l_at.body [some t, some (.tup (is.map .int)), none] mh = _
  rw [d_l_at, exs, ex_for, ei]
  simp only
  rw [h]
  simp [exs, ex, ev]
end L2.Mi.k02

set_option Elab.async false
set_option linter.all false
set_option maxRecDepth 100000
set_option maxHeartbeats 4000000
namespace L2.Mi.k02
open PySem PySem.Spec PyProof.Rows L2.Mi
mutual
/-- how deep a term is -/
def dp : MV → Nat
  | .tup xs => 1 + dpT xs
  | _ => 1
def dpT : List MV → Nat
  | [] => 0
  | _ :: xs => dps xs
def dps : List MV → Nat
  | [] => 0
  | x :: xs => max (dp x) (dps xs)
end
theorem fold_dps : ∀ (xs : List MV) (a : Nat), (xs.map fun x => (dp x : Int)).foldl max (a : Int) = ((max a (dps xs) : Nat) : Int)
  | [], a => by simp [dps]
  | x :: xs, a => by
    simp only [List.map_cons, List.foldl_cons, dps]
    have e : max (a : Int) (dp x : Int) = ((max a (dp x) : Nat) : Int) := by omega
    rw [e, fold_dps xs (max a (dp x)), Nat.max_assoc]
theorem max_dps (xs : List MV) : ((0 : Int) :: xs.map fun x => (dp x : Int)).max? = some ((dps xs : Nat) : Int) := by
  rw [List.max?_cons']
  have := fold_dps xs 0
  rw [show ((0 : Nat) : Int) = 0 from rfl] at this
  rw [this, Nat.zero_max]
theorem ints_map0 {mh : MHp} (xs : List MV) : intsM mh (.lst (.int 0 :: xs.map (MV.int ∘ fun x => (dp x : Int)))) = some (0 :: xs.map fun x => (dp x : Int)) := by
  have := ints_map (mh := mh) (0 :: xs.map fun x => (dp x : Int))
  rw [List.map_cons, List.map_map] at this
  exact this
theorem sp_depth : ∀ (N k : Nat) (t : MV) (mh : MHp), cnt t ≤ N → N ≤ 1000 → tm t = true → dat t = true → callM T (k + N + 1) 3 [t] mh = some (.int (dp t), mh) := by
  intro N
  induction N with
  | zero => intro k t mh hc; have := cnt_pos t; omega
  | succ N ih =>
    intro k t mh hc hN ht hd
    rw [callM_eq (d := d_depth) rfl, show k + (N + 1) = k + N + 1 by omega]
    have iv := sp_isvar (k + N) t mh hd
    refine run_of' rfl rfl (ρ := [some t, none]) (fl := .rt (.int (dp t))) ?_ rfl rfl rfl
    rcases tm_cases ht hd with ⟨s, rfl⟩ | ⟨s, xs, rfl, hds, hx⟩
    · simp only [isS] at iv
      simp [d_depth, exs, ex, ev, evs, iv, dp]
    · simp only [isS] at iv
      simp only [cnt, cntT] at hc
      have hl := len_cnts xs
      have hg : ev (callM T (k + N + 1)) mh.length (.comp (.nm 1) [1] (.slcL (.var 0) (.c (.int (1)))) (.c (.bl true)) (.call 3 [(.var 1)])) [some (.tup (.str s :: xs)), none] mh = some (.lst (xs.map (MV.int ∘ fun x => (dp x : Int))), mh) := by
        have ei : evI (callM T (k + N + 1)) mh.length (.slcL (.var 0) (.c (.int (1)))) [some (.tup (.str s :: xs)), none] mh = some (⟨xs, none⟩, mh) := by
          simp [evI, ev, slcV, cut1, itsOf]
        have hz : xs.length ≤ line := by unfold line; omega
        rw [ev_compq, ei]
        simp only [hz, if_true]
        rw [compGo_pure rfl (g := fun x => some (.int (dp x)))]
        · simp only
          congr 3
          rw [← List.filterMap_eq_map]
          rfl
        · intro x hxm
          have hcx := cnt_le hxm
          have := ih k x mh (by omega) (by omega) (hx x hxm).1 (hx x hxm).2
          simp [compF, asg, wipeE, ev, evs, this]
      have hmax := max_dps xs
      have hz : 1 + xs.length ≤ line := by unfold line; omega
      have z1 : 1 ≤ line := by unfold line; omega
      have hm := ints_map0 (mh := mh) xs
      simp only [List.map, List.replicate, List.append, List.cons_append, List.nil_append]
      simp [d_depth, exs, ex, ev, evs, iv, ↓hg, z1, binV, addV, getL, hz, biV, one1, hm, hmax, dp, dpT]
end L2.Mi.k02

set_option Elab.async false
set_option linter.all false
set_option maxRecDepth 100000
set_option maxHeartbeats 4000000
namespace L2.Mi.k02
open PySem PySem.Spec PyProof.Rows L2.Mi
theorem dps_ge {x : MV} {xs : List MV} (h : x ∈ xs) : dp x ≤ dps xs := by
  induction xs with
  | nil => simp at h
  | cons y xs ih =>
    simp only [dps]
    rcases List.mem_cons.mp h with rfl | h
    · omega
    · have := ih h; omega
theorem dps_mem : ∀ xs : List MV, dps xs = 0 ∨ ∃ x ∈ xs, dp x = dps xs
  | [] => .inl rfl
  | x :: xs => by
    simp only [dps]
    rcases dps_mem xs with h | ⟨y, hy, e⟩
    · exact .inr ⟨x, by simp, by omega⟩
    · by_cases hh : dp x ≤ dps xs
      · exact .inr ⟨y, List.mem_cons_of_mem _ hy, by omega⟩
      · exact .inr ⟨x, by simp, by omega⟩
/-- the last of the sorted depths -/
theorem last_dps (xs : List MV) {l : List Int} (hp : l.Perm (0 :: xs.map fun x => (dp x : Int))) (hs : l.Pairwise (· ≤ ·)) : idx (l.map MV.int) (-1) = some (.int ((dps xs : Nat) : Int)) := by
  have hl : 0 < l.length := by rw [hp.length_eq]; simp
  have hm : ((dps xs : Nat) : Int) ∈ l := by
    refine hp.mem_iff.mpr ?_
    rcases dps_mem xs with h | ⟨x, hx, e⟩
    · rw [h]; simp
    · rw [← e]; exact List.mem_cons_of_mem _ (List.mem_map.mpr ⟨x, hx, rfl⟩)
  have hb : ∀ y ∈ l, y ≤ ((dps xs : Nat) : Int) := fun y hy => by
    rcases List.mem_cons.mp (hp.mem_iff.mp hy) with rfl | h
    · omega
    · obtain ⟨x, hx, rfl⟩ := List.mem_map.mp h
      have := dps_ge hx
      omega
  have hlast : l[l.length - 1]'(by omega) = ((dps xs : Nat) : Int) := by
    refine Int.le_antisymm (hb _ (List.getElem_mem _)) ?_
    obtain ⟨i, hi, e⟩ := List.mem_iff_getElem.mp hm
    rw [← e]
    by_cases h : i = l.length - 1
    · subst h; exact Int.le_refl _
    · exact List.pairwise_iff_getElem.mp hs i (l.length - 1) hi (by omega) (by omega)
  unfold idx L2.atI L2.ixN
  rw [if_neg (by decide), List.length_map, if_pos (by omega)]
  show (l.map MV.int)[(-1 + (l.length : Int)).toNat]? = _
  have e : (-1 + (l.length : Int)).toNat = l.length - 1 := by omega
  rw [e, List.getElem?_map, List.getElem?_eq_getElem (by omega), hlast]
  rfl
end L2.Mi.k02

set_option Elab.async false
set_option linter.all false
set_option maxRecDepth 100000
set_option maxHeartbeats 4000000
namespace L2.Mi.k02
open PySem PySem.Spec PyProof.Rows L2.Mi
theorem sp_ldepth : ∀ (N k : Nat) (t : MV) (mh : MHp), cnt t ≤ N → N ≤ 1000 → tm t = true → dat t = true → callM T (k + N) 21 [t] mh = some (.int (dp t), mh) := by
  intro N
  induction N with
  | zero => intro k t mh hc; have := cnt_pos t; omega
  | succ N ih =>
    intro k t mh hc hN ht hd
    rw [show k + (N + 1) = k + N + 1 by omega, callM_eq (d := d_l_depth) rfl]
    refine run_of' rfl rfl (ρ := [some t, none]) (fl := .rt (.int (dp t))) ?_ rfl rfl rfl
    rcases tm_cases ht hd with ⟨s, rfl⟩ | ⟨s, xs, rfl, hds, hx⟩
    · simp [d_l_depth, exs, ex, ev, evs, isTy, dp]
    · simp only [cnt, cntT] at hc
      have hl := len_cnts xs
      have hg : ev (callM T (k + N)) mh.length (.comp (.nm 1) [1] (.slcL (.var 0) (.c (.int (1)))) (.c (.bl true)) (.call 21 [(.var 1)])) [some (.tup (.str s :: xs)), none] mh = some (.lst (xs.map (MV.int ∘ fun x => (dp x : Int))), mh) := by
        have ei : evI (callM T (k + N)) mh.length (.slcL (.var 0) (.c (.int (1)))) [some (.tup (.str s :: xs)), none] mh = some (⟨xs, none⟩, mh) := by
          simp [evI, ev, slcV, cut1, itsOf]
        have hz : xs.length ≤ line := by unfold line; omega
        rw [ev_compq, ei]
        simp only [hz, if_true]
        rw [compGo_pure rfl (g := fun x => some (.int (dp x)))]
        · simp only
          congr 3
          rw [← List.filterMap_eq_map]
          rfl
        · intro x hxm
          have hcx := cnt_le hxm
          have := ih k x mh (by omega) (by omega) (hx x hxm).1 (hx x hxm).2
          simp [compF, asg, wipeE, ev, evs, this]
      have hz : 1 + xs.length ≤ line := by unfold line; omega
      have z1 : 1 ≤ line := by unfold line; omega
      have hm : (MV.int 0 :: xs.map (MV.int ∘ fun x => (dp x : Int))).mapM intOf = some (0 :: xs.map fun x => (dp x : Int)) := ints_map0 (mh := mh) xs
      obtain ⟨l, hl2⟩ : ∃ l, l = ((0 : Int) :: xs.map fun x => (dp x : Int)).mergeSort fun a b => decide (a ≤ b) := ⟨_, rfl⟩
      have hp : l.Perm (0 :: xs.map fun x => (dp x : Int)) := by rw [hl2]; exact List.mergeSort_perm _ _
      have hs : l.Pairwise (· ≤ ·) := by
        rw [hl2]
        have := List.pairwise_mergeSort (le := fun a b : Int => decide (a ≤ b)) (fun a b c x y => by simp at x y ⊢; omega) (fun a b => by simp; omega) ((0 : Int) :: xs.map fun x => (dp x : Int))
        exact this.imp fun {a b} z => of_decide_eq_true z
      have hlast := last_dps xs hp hs
      have hso : sortedV mh (.lst (.int 0 :: xs.map (MV.int ∘ fun x => (dp x : Int)))) = some (.lst (l.map .int)) := by
        unfold sortedV
        simp only [getL, hm]
        rw [hl2]
      have e1 : ev (callM T (k + N)) mh.length (.bi .sorted [(.bin .add (.lst [(.c (.int (0)))]) (.comp (.nm 1) [1] (.slcL (.var 0) (.c (.int (1)))) (.c (.bl true)) (.call 21 [(.var 1)])))]) [some (.tup (.str s :: xs)), none] mh = some (.lst (l.map .int), mh) := by
        simp [ev, evs, ↓hg, z1, binV, addV, getL, hz, biV, one1, hso]
      simp only [List.map, List.replicate, List.append, List.cons_append, List.nil_append]
      simp [d_l_depth, exs, ex, ev, evs, ↓e1, isTy, subV, getL, hlast, binV, addV, dp, dpT]
end L2.Mi.k02

set_option Elab.async false
set_option linter.all false
set_option maxRecDepth 100000
set_option maxHeartbeats 4000000
namespace L2.Mi.k02
open PySem PySem.Spec PyProof.Rows L2.Mi
/-- a position as a value -/
abbrev pV (p : List Int) : MV := .tup (p.map .int)
mutual
/-- the positions of a term -/
def pls : MV → List (List Int)
  | .tup xs => [] :: plsT xs
  | _ => [[]]
def plsT : List MV → List (List Int)
  | [] => []
  | _ :: xs => plsL 1 xs
def plsL : Nat → List MV → List (List Int)
  | _, [] => []
  | k, x :: xs => (pls x).map (fun p => (k : Int) :: p) ++ plsL (k + 1) xs
end
mutual
theorem pls_len : ∀ t, (pls t).length = cnt t
  | .tup [] => by simp [pls, plsT, cnt, cntT]
  | .tup (_ :: xs) => by
    have := plsL_len 1 xs
    simp only [pls, plsT, cnt, cntT, List.length_cons]
    omega
  | .str _ => by simp [pls, cnt]
  | .non => by simp [pls, cnt]
  | .bl _ => by simp [pls, cnt]
  | .int _ => by simp [pls, cnt]
  | .fn _ => by simp [pls, cnt]
  | .lst _ => by simp [pls, cnt]
  | .loc _ => by simp [pls, cnt]
  | .dct _ _ => by simp [pls, cnt]
  | .scr _ => by simp [pls, cnt]
theorem plsL_len : ∀ (k : Nat) (xs : List MV), (plsL k xs).length = cnts xs
  | k, [] => by simp [plsL, cnts]
  | k, x :: xs => by
    have h1 := pls_len x
    have h2 := plsL_len (k + 1) xs
    simp only [plsL, cnts, List.length_append, List.length_map]
    omega
end
theorem mem_plsL : ∀ {xs : List MV} {k : Nat} {q : List Int}, q ∈ plsL k xs ↔ ∃ (j : Nat) (x : MV) (p : List Int), xs[j]? = some x ∧ q = ((k + j : Nat) : Int) :: p ∧ p ∈ pls x
  | [], k, q => by simp [plsL]
  | x :: xs, k, q => by
    simp only [plsL, List.mem_append, List.mem_map]
    rw [mem_plsL (xs := xs)]
    constructor
    · rintro (⟨p, hp, rfl⟩ | ⟨j, y, p, h1, h2, h3⟩)
      · exact ⟨0, x, p, rfl, rfl, hp⟩
      · exact ⟨j + 1, y, p, by simpa using h1, by rw [h2]; congr 2; omega, h3⟩
    · rintro ⟨j, y, p, h1, h2, h3⟩
      cases j with
      | zero =>
        simp at h1
        subst h1
        exact .inl ⟨p, h3, h2.symm⟩
      | succ j => exact .inr ⟨j, y, p, by simpa using h1, by rw [h2]; congr 2; omega, h3⟩
theorem nil_pls (t : MV) : [] ∈ pls t := by
  cases t <;> simp [pls]
theorem head_pls (t : MV) : (pls t).head? = some [] := by
  cases t <;> simp [pls]
/-- a position that is not the top -/
theorem cons_pls {t : MV} {i : Int} {p : List Int} : i :: p ∈ pls t ↔ ∃ (h : MV) (xs : List MV) (j : Nat) (x : MV), t = .tup (h :: xs) ∧ i = ((1 + j : Nat) : Int) ∧ xs[j]? = some x ∧ p ∈ pls x := by
  cases t with
  | tup ys =>
    cases ys with
    | nil => simp [pls, plsT]
    | cons h xs =>
      simp only [pls, plsT, List.mem_cons]
      rw [mem_plsL]
      constructor
      · rintro (h | ⟨j, x, q, h1, h2, h3⟩)
        · simp at h
        · simp only [List.cons.injEq] at h2
          obtain ⟨h2, h4⟩ := h2
          subst h4
          exact ⟨h, xs, j, x, rfl, h2, h1, h3⟩
      · rintro ⟨h', xs', j, x, e, h2, h1, h3⟩
        simp only [MV.tup.injEq, List.cons.injEq] at e
        obtain ⟨e1, e2⟩ := e
        subst e1 e2
        exact .inr ⟨j, x, p, h1, by rw [h2], h3⟩
  | _ => simp [pls]
theorem get_cons1 {h : MV} {xs : List MV} {j : Nat} {x : MV} (e : xs[j]? = some x) : (h :: xs)[1 + j]? = some x := by
  rw [Nat.add_comm]; simpa using e
theorem pls_at : ∀ (p : List Int) (t : MV), p ∈ pls t → ∃ r, atF t p = some r
  | [], t, _ => ⟨t, by cases t <;> rfl⟩
  | i :: p, t, h => by
    obtain ⟨hd, xs, j, x, rfl, rfl, h1, h2⟩ := cons_pls.mp h
    obtain ⟨r, e⟩ := pls_at p x h2
    refine ⟨r, ?_⟩
    simp only [atF]
    rw [idx_nat (get_cons1 h1)]
    exact e
theorem cnt_get {xs : List MV} {j : Nat} {x : MV} (e : xs[j]? = some x) : cnt x ≤ cnts xs := cnt_le (List.mem_of_getElem? e)
theorem pls_plen : ∀ (p : List Int) (t : MV), p ∈ pls t → p.length < cnt t
  | [], t, _ => by have := cnt_pos t; simp; omega
  | i :: p, t, h => by
    obtain ⟨hd, xs, j, x, rfl, rfl, h1, h2⟩ := cons_pls.mp h
    have := pls_plen p x h2
    have := cnt_get h1
    simp only [List.length_cons, cnt, cntT]
    omega
mutual
theorem pls_ord : ∀ t, (pls t).Pairwise fun a b => HT.lexLt b a = false
  | .tup [] => by simp [pls, plsT]
  | .tup (_ :: xs) => by
    simp only [pls, plsT]
    refine List.pairwise_cons.mpr ⟨fun b _ => ?_, plsL_ord 1 xs⟩
    cases b <;> simp [HT.lexLt]
  | .str _ => by simp [pls]
  | .non => by simp [pls]
  | .bl _ => by simp [pls]
  | .int _ => by simp [pls]
  | .fn _ => by simp [pls]
  | .lst _ => by simp [pls]
  | .loc _ => by simp [pls]
  | .dct _ _ => by simp [pls]
  | .scr _ => by simp [pls]
theorem plsL_ord : ∀ (k : Nat) (xs : List MV), (plsL k xs).Pairwise fun a b => HT.lexLt b a = false
  | k, [] => by simp [plsL]
  | k, x :: xs => by
    simp only [plsL]
    refine List.pairwise_append.mpr ⟨?_, plsL_ord (k + 1) xs, ?_⟩
    · rw [List.pairwise_map]
      exact (pls_ord x).imp fun {a b} h => by simp [HT.lexLt, h]
    · intro a ha b hb
      obtain ⟨p, _, rfl⟩ := List.mem_map.mp ha
      obtain ⟨j, y, q, _, rfl, _⟩ := mem_plsL.mp hb
      have h1 : ¬ (((k + 1 + j : Nat) : Int) < (k : Int)) := by omega
      have h2 : ¬ (((k + 1 + j : Nat) : Int) = (k : Int)) := by omega
      rw [HT.lexLt_cons, if_neg h2]
      exact decide_eq_false h1
end
end L2.Mi.k02

set_option Elab.async false
set_option linter.all false
set_option maxRecDepth 100000
set_option maxHeartbeats 4000000
namespace L2.Mi.k02
open PySem PySem.Spec PyProof.Rows L2.Mi
theorem pV_dat (p : List Int) : dat (pV p) = true := by
  unfold dat
  exact dats_iff.mpr fun x hx => by obtain ⟨i, _, rfl⟩ := List.mem_map.mp hx; rfl
theorem pV_dats (ps : List (List Int)) : dats (ps.map pV) = true := dats_iff.mpr fun x hx => by
  obtain ⟨p, _, rfl⟩ := List.mem_map.mp hx
  exact pV_dat p
/-- the whole numbers from k on -/
def upto : Nat → Nat → List MV
  | _, 0 => []
  | k, n + 1 => .int (k : Int) :: upto (k + 1) n
theorem upto_eq : ∀ (n k : Nat), (List.range n).map (fun (j : Nat) => MV.int ((k : Int) + (j : Int))) = upto k n
  | 0, k => rfl
  | n + 1, k => by
    have e : (List.range n).map (fun (j : Nat) => MV.int ((k : Int) + ((j + 1 : Nat) : Int))) = (List.range n).map fun (j : Nat) => MV.int (((k + 1 : Nat) : Int) + (j : Int)) := List.map_congr_left fun j _ => by
      rw [show (k : Int) + ((j + 1 : Nat) : Int) = ((k + 1 : Nat) : Int) + (j : Int) by omega]
    have h0 : MV.int ((k : Int) + ((0 : Nat) : Int)) = MV.int (k : Int) := by simp
    rw [List.range_succ_eq_map, List.map_cons, List.map_map, upto, ← upto_eq n (k + 1), ← e, h0]
    rfl
/-- the positions of one part, with its number ahead -/
theorem pos_comp {C : CallF} {b k : Nat} {e : ME} {x : MV} {ρ : Env} {mh : MHp} (hρ : ρ.length = 4) (h2 : ρ[2]? = some (some (.int (k : Int)))) (hc : ev C b e ρ mh = some (.lst ((pls x).map pV), mh)) (hI : evI C b e ρ mh = some (⟨(pls x).map pV, none⟩, mh)) (hl : cnt x ≤ 1000) :
    ev C b (.comp (.nm 3) [3] e (.c (.bl true)) (.bin .add (.tup [(.var 2)]) (.var 3))) ρ mh = some (.lst (((pls x).map fun p => (k : Int) :: p).map pV), mh) := by
  have hz : ((pls x).map pV).length ≤ line := by rw [List.length_map, pls_len]; unfold line; omega
  rw [ev_compq, hI]
  simp only [hz, if_true]
  rw [compGo_pure rfl (g := fun v => match v with | .tup ps => some (.tup (.int (k : Int) :: ps)) | _ => none)]
  · simp only
    congr 3
    rw [List.filterMap_map, List.map_map, ← List.filterMap_eq_map]
    rfl
  · intro v hv
    obtain ⟨p, hp, rfl⟩ := List.mem_map.mp hv
    have hpl := pls_plen p x hp
    have z1 : 1 ≤ line := by unfold line; omega
    have z2 : 1 + p.length ≤ line := by unfold line; omega
    obtain ⟨a, b, c, d, rfl⟩ : ∃ a b c d, ρ = [a, b, c, d] := by
      match ρ, hρ with
      | [a, b, c, d], _ => exact ⟨a, b, c, d, rfl⟩
    simp at h2
    subst h2
    simp [compF, asg, wipeE, ev, evs, z1, binV, addV, z2]
abbrev poBody : List MS := [(.ex (.meth .extend (.var 1) [(.comp (.nm 3) [3] (.call 7 [(.sub (.var 0) (.var 2))]) (.c (.bl true)) (.bin .add (.tup [(.var 2)]) (.var 3)))]))]
theorem pos_loop {C : CallF} {all : List MV} {mh : MHp} {J : Its} (hJ : J.src = none) : ∀ (xs : List MV) (k : Nat) (acc : List (List Int)) (o : Option MV), all.drop k = xs → (∀ x ∈ xs, ∀ mh, C 7 [x] mh = some (.lst ((pls x).map pV), mh)) → acc.length + cnts xs ≤ 2000 → cnts xs ≤ 1000 →
    ∃ o', forGo J (forF C mh.length (.nm 2) poBody) (upto k xs.length) [some (.tup all), some (.loc mh.length), o, none] (nHp mh (acc.map pV)) = some (.nx, [some (.tup all), some (.loc mh.length), o', none], nHp mh ((acc ++ plsL k xs).map pV))
  | [], k, acc, o, _, _, _, _ => ⟨o, by simp only [plsL, List.append_nil]; exact forGo_nil_of hJ⟩
  | x :: xs, k, acc, o, hd, hC, hl, hl2 => by
    have hk : all[k]? = some x := by
      have := congrArg (·[0]?) hd
      simpa using this
    have hd' : all.drop (k + 1) = xs := by
      have := congrArg (·.drop 1) hd
      simpa using this
    simp only [cnts] at hl hl2
    have hc := hC x (by simp) (nHp mh (acc.map pV))
    have v1 : ev C mh.length (.call 7 [(.sub (.var 0) (.var 2))]) [some (.tup all), some (.loc mh.length), some (.int (k : Int)), none] (nHp mh (acc.map pV)) = some (.lst ((pls x).map pV), nHp mh (acc.map pV)) := by
      simp [ev, evs, subV, idx_nat hk, hc]
    have v2 : evI C mh.length (.call 7 [(.sub (.var 0) (.var 2))]) [some (.tup all), some (.loc mh.length), some (.int (k : Int)), none] (nHp mh (acc.map pV)) = some (⟨(pls x).map pV, none⟩, nHp mh (acc.map pV)) := by
      simp [evI, ev, evs, subV, idx_nat hk, hc, itsOf]
    have hcomp := pos_comp (k := k) (x := x) rfl rfl v1 v2 (by omega)
    obtain ⟨F, hF⟩ : ∃ F, F = (pls x).map fun p => (k : Int) :: p := ⟨_, rfl⟩
    have hFl : F.length = cnt x := by rw [hF, List.length_map, pls_len]
    rw [← hF] at hcomp
    have hz2 : (acc.map pV).length + (F.map pV).length ≤ line := by rw [List.length_map, List.length_map]; unfold line; omega
    have hw : ∀ y ∈ F.map pV, wr mh.length mh.length y = true := fun y hy => by simp [wr]
    have me : ev C mh.length (.meth .extend (.var 1) [(.comp (.nm 3) [3] (.call 7 [(.sub (.var 0) (.var 2))]) (.c (.bl true)) (.bin .add (.tup [(.var 2)]) (.var 3)))]) [some (.tup all), some (.loc mh.length), some (.int (k : Int)), none] (nHp mh (acc.map pV)) = some (.non, nHp mh ((acc ++ F).map pV)) := by
      have l1 : liveL (nHp mh (acc.map pV)) (.loc mh.length) = some (mh.length, acc.map pV) := by simp [liveL, nHp, top_get]
      have m1 : methV mh.length (nHp mh (acc.map pV)) .extend (.loc mh.length) [.lst (F.map pV)] = some (.non, nHp mh ((acc ++ F).map pV)) := by
        simp only [methV, extV, l1, seqOf, getL]
        rw [if_pos ⟨List.all_eq_true.mpr hw, hz2⟩]
        simp only [nHp, top_set, List.map_append]
      have ty : tyM (nHp mh (acc.map pV)) .extend (.loc mh.length) = true := by simp [tyM, l1]
      have w1 : ev C mh.length (.var 1) [some (.tup all), some (.loc mh.length), some (.int (k : Int)), none] (nHp mh (acc.map pV)) = some (.loc mh.length, nHp mh (acc.map pV)) := by simp [ev]
      have es : evs C mh.length [(.comp (.nm 3) [3] (.call 7 [(.sub (.var 0) (.var 2))]) (.c (.bl true)) (.bin .add (.tup [(.var 2)]) (.var 3)))] [some (.tup all), some (.loc mh.length), some (.int (k : Int)), none] (nHp mh (acc.map pV)) = some ([.lst (F.map pV)], nHp mh (acc.map pV)) := by
        rw [evs, hcomp]; simp only [evs]
      rw [ev, w1]
      simp only [ty, if_true, es, m1]
    have st : forF C mh.length (.nm 2) poBody (.int (k : Int)) [some (.tup all), some (.loc mh.length), o, none] (nHp mh (acc.map pV)) = some (.nx, [some (.tup all), some (.loc mh.length), some (.int (k : Int)), none], nHp mh ((acc ++ F).map pV)) := by
      have a0 : asg (nHp mh (acc.map pV)) (.nm 2) (.int (k : Int)) [some (.tup all), some (.loc mh.length), o, none] = some [some (.tup all), some (.loc mh.length), some (.int (k : Int)), none] := by simp [asg]
      unfold forF
      rw [a0]
      simp only
      rw [poBody, exs, ex, me]
      simp only [exs]
    rw [List.length_cons, upto, forGo_cons_of hJ, st]
    obtain ⟨o', e⟩ := pos_loop hJ xs (k + 1) (acc ++ F) (some (.int (k : Int))) hd' (fun y hy => hC y (List.mem_cons_of_mem _ hy)) (by rw [List.length_append]; omega) (by omega)
    refine ⟨o', ?_⟩
    simp only [plsL]
    rw [← hF, ← List.append_assoc]
    exact e
theorem sp_positions : ∀ (N k : Nat) (t : MV) (mh : MHp), cnt t ≤ N → N ≤ 1000 → tm t = true → dat t = true → callM T (k + N + 1) 7 [t] mh = some (.lst ((pls t).map pV), mh) := by
  intro N
  induction N with
  | zero => intro k t mh hc; have := cnt_pos t; omega
  | succ N ih =>
    intro k t mh hc hN ht hd
    rw [callM_eq (d := d_positions) rfl, show k + (N + 1) = k + N + 1 by omega]
    have iv := sp_isvar (k + N) t mh hd
    have z1 : 1 ≤ line := by unfold line; omega
    have z0 : 0 ≤ line := by unfold line; omega
    rcases tm_cases ht hd with ⟨s, rfl⟩ | ⟨s, xs, rfl, hds, hx⟩
    · refine run_of' rfl rfl (ρ := [some (.str s), none, none, none]) (fl := .rt (.lst ((pls (.str s)).map pV))) ?_ rfl (by unfold dat; exact pV_dats _) rfl
      simp only [isS] at iv
      simp [d_positions, exs, ex, ev, evs, iv, pls, z1, z0]
    · simp only [cnt, cntT] at hc
      simp only [isS] at iv
      have hlx := len_cnts xs
      obtain ⟨o', e⟩ := pos_loop (C := callM T (k + N + 1)) (all := .str s :: xs) (mh := mh) (J := ⟨upto 1 xs.length, none⟩) rfl xs 1 [[]] none rfl (fun x hxm mh => ih k x mh (by have := cnt_le hxm; omega) (by omega) (hx x hxm).1 (hx x hxm).2) (by simp; omega) (by omega)
      have := run_frz (C := callM T (k + N + 1)) (d := d_positions) (args := [.tup (.str s :: xs)]) (mh := mh) (mh1 := nHp mh ((pls (.tup (.str s :: xs))).map pV)) (fl := .rt (.loc mh.length)) (ρ := [some (.tup (.str s :: xs)), some (.loc mh.length), o', none]) (v := .loc mh.length) (w := .lst ((pls (.tup (.str s :: xs))).map pV)) rfl rfl ?_ rfl (frz_top (Nat.le_refl _) (pV_dats _))
      · rw [take_top] at this
        exact this
      · show exs (callM T (k + N + 1)) mh.length d_positions.body [some (.tup (.str s :: xs)), none, none, none] mh = _
        have s1 : ex (callM T (k + N + 1)) mh.length (.ite (.call 1 [(.var 0)]) [(.ret (.lst [(.tup [])]))] []) [some (.tup (.str s :: xs)), none, none, none] mh = some (.nx, [some (.tup (.str s :: xs)), none, none, none], mh) := by
          simp [ex, exs, ev, evs, iv]
        have s2 : ex (callM T (k + N + 1)) mh.length (.set (.nm 1) (.al (.lst [(.tup [])]))) [some (.tup (.str s :: xs)), none, none, none] mh = some (.nx, [some (.tup (.str s :: xs)), some (.loc mh.length), none, none], nHp mh [.tup []]) := by
          simp [ex, ev, evs, asg, nHp, z0, z1]
        have ei : evI (callM T (k + N + 1)) mh.length (.rng2 (.c (.int (1))) (.bi .len [(.var 0)])) [some (.tup (.str s :: xs)), some (.loc mh.length), none, none] (nHp mh [.tup []]) = some (⟨upto 1 xs.length, none⟩, nHp mh [.tup []]) := by
          have u := upto_eq xs.length 1
          have b2 : (xs.length : Int) + 1 < 4611686018427387904 := by omega
          have b3 : (-4611686018427387904 : Int) ≤ (xs.length : Int) + 1 := by omega
          have b4 : ((xs.length : Int) + 1 - 1).toNat = xs.length := by omega
          simp only [Int.natCast_one] at u
          simp [evI, ev, evs, biV, one1, lenV, b2, b3, u]
        rw [d_positions, exs, s1]
        simp only
        rw [exs, s2]
        simp only
        rw [exs, ex_for, ei]
        simp only
        have e' : forGo ⟨upto 1 xs.length, none⟩ (forF (callM T (k + N + 1)) mh.length (.nm 2) poBody) (upto 1 xs.length) [some (.tup (.str s :: xs)), some (.loc mh.length), none, none] (nHp mh [.tup []]) = _ := e
        rw [e']
        simp only [exs, ex, ev]
        simp [pls, plsT]
abbrev plBody : List MS := [(.set (.nm 1) (.bin .add (.var 1) (.comp (.nm 3) [3] (.call 18 [(.sub (.var 0) (.var 2))]) (.c (.bl true)) (.bin .add (.tup [(.var 2)]) (.var 3)))))]
theorem pl_loop {C : CallF} {b : Nat} {all : List MV} {mh : MHp} {J : Its} (hJ : J.src = none) : ∀ (xs : List MV) (k : Nat) (acc : List (List Int)) (o : Option MV), all.drop k = xs → (∀ x ∈ xs, C 18 [x] mh = some (.lst ((pls x).map pV), mh)) → acc.length + cnts xs ≤ 2000 → cnts xs ≤ 1000 →
    ∃ o', forGo J (forF C b (.nm 2) plBody) (upto k xs.length) [some (.tup all), some (.lst (acc.map pV)), o, none] mh = some (.nx, [some (.tup all), some (.lst ((acc ++ plsL k xs).map pV)), o', none], mh)
  | [], k, acc, o, _, _, _, _ => ⟨o, by simp only [plsL, List.append_nil]; exact forGo_nil_of hJ⟩
  | x :: xs, k, acc, o, hd, hC, hl, hl2 => by
    have hk : all[k]? = some x := by
      have := congrArg (·[0]?) hd
      simpa using this
    have hd' : all.drop (k + 1) = xs := by
      have := congrArg (·.drop 1) hd
      simpa using this
    simp only [cnts] at hl hl2
    have hc := hC x (by simp)
    have v1 : ev C b (.call 18 [(.sub (.var 0) (.var 2))]) [some (.tup all), some (.lst (acc.map pV)), some (.int (k : Int)), none] mh = some (.lst ((pls x).map pV), mh) := by
      simp [ev, evs, subV, idx_nat hk, hc]
    have v2 : evI C b (.call 18 [(.sub (.var 0) (.var 2))]) [some (.tup all), some (.lst (acc.map pV)), some (.int (k : Int)), none] mh = some (⟨(pls x).map pV, none⟩, mh) := by
      simp [evI, ev, evs, subV, idx_nat hk, hc, itsOf]
    have hcomp := pos_comp (k := k) (x := x) rfl rfl v1 v2 (by omega)
    obtain ⟨F, hF⟩ : ∃ F, F = (pls x).map fun p => (k : Int) :: p := ⟨_, rfl⟩
    have hFl : F.length = cnt x := by rw [hF, List.length_map, pls_len]
    rw [← hF] at hcomp
    have hz2 : acc.length + F.length ≤ line := by unfold line; omega
    have st : forF C b (.nm 2) plBody (.int (k : Int)) [some (.tup all), some (.lst (acc.map pV)), o, none] mh = some (.nx, [some (.tup all), some (.lst ((acc ++ F).map pV)), some (.int (k : Int)), none], mh) := by
      simp [forF, asg, exs, ex, ev, ↓hcomp, binV, addV, getL, hz2]
    rw [List.length_cons, upto, forGo_cons_of hJ, st]
    obtain ⟨o', e⟩ := pl_loop hJ xs (k + 1) (acc ++ F) (some (.int (k : Int))) hd' (fun y hy => hC y (List.mem_cons_of_mem _ hy)) (by rw [List.length_append]; omega) (by omega)
    refine ⟨o', ?_⟩
    simp only [plsL]
    rw [← hF, ← List.append_assoc]
    exact e
theorem sp_places : ∀ (N k : Nat) (t : MV) (mh : MHp), cnt t ≤ N → N ≤ 1000 → tm t = true → dat t = true → callM T (k + N) 18 [t] mh = some (.lst ((pls t).map pV), mh) := by
  intro N
  induction N with
  | zero => intro k t mh hc; have := cnt_pos t; omega
  | succ N ih =>
    intro k t mh hc hN ht hd
    rw [show k + (N + 1) = k + N + 1 by omega, callM_eq (d := d_l_places) rfl]
    have z1 : 1 ≤ line := by unfold line; omega
    have z0 : 0 ≤ line := by unfold line; omega
    have hdv : dat (.lst ((pls t).map pV)) = true := by unfold dat; exact pV_dats _
    rcases tm_cases ht hd with ⟨s, rfl⟩ | ⟨s, xs, rfl, hds, hx⟩
    · refine run_of' rfl rfl (ρ := [some (.str s), none, none, none]) (fl := .rt (.lst ((pls (.str s)).map pV))) ?_ rfl hdv rfl
      simp [d_l_places, exs, ex, ev, evs, isTy, pls, z1, z0]
    · simp only [cnt, cntT] at hc
      have hlx := len_cnts xs
      obtain ⟨o', e⟩ := pl_loop (C := callM T (k + N)) (b := mh.length) (all := .str s :: xs) (mh := mh) (J := ⟨upto 1 xs.length, none⟩) rfl xs 1 [[]] none rfl (fun x hxm => ih k x mh (by have := cnt_le hxm; omega) (by omega) (hx x hxm).1 (hx x hxm).2) (by simp; omega) (by omega)
      have e' : forGo ⟨upto 1 xs.length, none⟩ (forF (callM T (k + N)) mh.length (.nm 2) plBody) (upto 1 xs.length) [some (.tup (.str s :: xs)), some (.lst [.tup []]), none, none] mh = _ := e
      refine run_of' rfl rfl (ρ := [some (.tup (.str s :: xs)), some (.lst ((pls (.tup (.str s :: xs))).map pV)), o', none]) (fl := .rt (.lst ((pls (.tup (.str s :: xs))).map pV))) ?_ rfl hdv rfl
      have ei : evI (callM T (k + N)) mh.length (.rng2 (.c (.int (1))) (.bi .len [(.var 0)])) [some (.tup (.str s :: xs)), some (.lst [.tup []]), none, none] mh = some (⟨upto 1 xs.length, none⟩, mh) := by
        have u := upto_eq xs.length 1
        have b2 : (xs.length : Int) + 1 < 4611686018427387904 := by omega
        have b3 : (-4611686018427387904 : Int) ≤ (xs.length : Int) + 1 := by omega
        simp only [Int.natCast_one] at u
        simp [evI, ev, evs, biV, one1, lenV, b2, b3, u]
      have s1 : ex (callM T (k + N)) mh.length (.ite (.isi (.var 0) .str) [(.ret (.lst [(.tup [])]))] []) [some (.tup (.str s :: xs)), none, none, none] mh = some (.nx, [some (.tup (.str s :: xs)), none, none, none], mh) := by
        simp [ex, exs, ev, evs, isTy]
      have s2 : ex (callM T (k + N)) mh.length (.set (.nm 1) (.lst [(.tup [])])) [some (.tup (.str s :: xs)), none, none, none] mh = some (.nx, [some (.tup (.str s :: xs)), some (.lst [.tup []]), none, none], mh) := by
        simp [ex, ev, evs, asg, z0, z1]
      show exs (callM T (k + N)) mh.length d_l_places.body [some (.tup (.str s :: xs)), none, none, none] mh = _
      rw [d_l_places, exs, s1]
      simp only
      rw [exs, s2]
      simp only
      rw [exs, ex_for, ei]
      simp only
      rw [e']
      simp only [exs, ex, ev]
      simp [pls, plsT]
/-- the positions stand in order -/
theorem sorted_pls {mh : MHp} (t : MV) : sortedV mh (.lst ((pls t).map pV)) = some (.lst ((pls t).map pV)) := by
  have h1 : ((pls t).map pV).mapM intOf = none := by
    obtain ⟨q, hq⟩ : ∃ q, pls t = [] :: q := by
      have := head_pls t
      cases h : pls t with
      | nil => rw [h] at this; cases this
      | cons a q => rw [h] at this; simp at this; exact ⟨q, by rw [this]⟩
    rw [hq]
    simp [intOf]
  have h2 : ∀ ps : List (List Int), (ps.map pV).mapM tupI = some ps := fun ps => by
    induction ps with
    | nil => rfl
    | cons p ps ih =>
      have hp : tupI (pV p) = some p := by
        show (p.map MV.int).mapM intOf = some p
        have := ints_map (mh := []) p
        unfold intsM at this
        exact this
      rw [List.map_cons, List.mapM_cons, hp, ih]
      rfl
  unfold sortedV
  simp only [getL, h1, h2]
  rw [if_pos ⟨head_pls t, pls_ord t⟩]
end L2.Mi.k02

set_option Elab.async false
set_option linter.all false
set_option maxRecDepth 100000
set_option maxHeartbeats 4000000
namespace L2.Mi.k02
open PySem PySem.Spec PyProof.Rows L2.Mi
/-- the def that puts, calling itself by its number -/
def putD (f : Nat) : Df := ⟨3, 4, false, [(.ite (.cmp .eq (.bi .len [(.var 1)]) (.c (.int (0)))) [(.ret (.var 2))] []), (.set (.nm 3) (.sub (.var 1) (.c (.int (0))))), (.ret (.bin .add (.bin .add (.slcH (.var 0) (.var 3)) (.tup [(.call f [(.sub (.var 0) (.var 3)), (.slcL (.var 1) (.c (.int (1)))), (.var 2)])])) (.slcL (.var 0) (.bin .add (.var 3) (.c (.int (1)))))))]⟩
theorem deps_app (xs ys : List MV) : deps (xs ++ ys) = max (deps xs) (deps ys) := by
  induction xs with
  | nil => simp [deps]
  | cons x xs ih => simp only [List.cons_append, deps, ih]; omega
theorem deps_take (k : Nat) (xs : List MV) : deps (xs.take k) ≤ deps xs := by
  have h := deps_app (xs.take k) (xs.drop k)
  rw [List.take_append_drop] at h
  omega
theorem deps_drop (k : Nat) (xs : List MV) : deps (xs.drop k) ≤ deps xs := by
  have h := deps_app (xs.take k) (xs.drop k)
  rw [List.take_append_drop] at h
  omega
theorem deps_mem {x : MV} {xs : List MV} (h : x ∈ xs) : dep x ≤ deps xs := by
  induction xs with
  | nil => simp at h
  | cons y xs ih =>
    simp only [deps]
    rcases List.mem_cons.mp h with rfl | h
    · omega
    · have := ih h; omega
theorem dats_take {k : Nat} {xs : List MV} (h : dats xs = true) : dats (xs.take k) = true := dats_iff.mpr fun x hx => dats_iff.mp h x (List.mem_of_mem_take hx)
theorem dats_drop {k : Nat} {xs : List MV} (h : dats xs = true) : dats (xs.drop k) = true := dats_iff.mpr fun x hx => dats_iff.mp h x (List.mem_of_mem_drop hx)
theorem put_ok {r : MV} (hr : dat r = true) : ∀ (p : List Int) (t : MV), p ∈ pls t → cnt t ≤ 1000 → dat t = true → ∃ u, dat u = true ∧ dep u ≤ dep t + dep r ∧ ∀ f, T[f]? = some (putD f) → ∀ (k : Nat) (mh : MHp), callM T (k + p.length + 1) f [t, pV p, r] mh = some (u, mh)
  | [], t, _, _, hd => by
    refine ⟨r, hr, by omega, fun f hf k mh => ?_⟩
    rw [callM_eq hf]
    refine run_of' rfl rfl (ρ := [some t, some (pV []), some r, none]) (fl := .rt r) ?_ rfl hr rfl
    simp [putD, exs, ex, ev, evs, biV, one1, lenV, cmpV, eqV_int]
  | i :: p, t, h, hc, hd => by
    obtain ⟨h0, xs, j, x, rfl, rfl, h1, h2⟩ := cons_pls.mp h
    simp only [cnt, cntT] at hc
    have hg := get_cons1 (h := h0) h1
    have hds : dats (h0 :: xs) = true := by unfold dat at hd; exact hd
    have hxm : x ∈ h0 :: xs := List.mem_of_getElem? hg
    obtain ⟨u, du, pu, hu⟩ := put_ok hr p x h2 (by have := cnt_get h1; omega) (dats_iff.mp hds x hxm)
    have hlx := len_cnts xs
    obtain ⟨A, hA⟩ : ∃ A, A = (h0 :: xs).take (1 + j) := ⟨_, rfl⟩
    obtain ⟨B, hB⟩ : ∃ B, B = (h0 :: xs).drop (1 + j + 1) := ⟨_, rfl⟩
    have dA : dats A = true := by rw [hA]; exact dats_take hds
    have dB : dats B = true := by rw [hB]; exact dats_drop hds
    have lA : A.length ≤ 1001 := by rw [hA, List.length_take, List.length_cons]; omega
    have lB : B.length ≤ 1001 := by rw [hB, List.length_drop, List.length_cons]; omega
    have pA := deps_take (1 + j) (h0 :: xs)
    have pB := deps_drop (1 + j + 1) (h0 :: xs)
    have px := deps_mem hxm
    rw [← hA] at pA
    rw [← hB] at pB
    refine ⟨.tup (A ++ [u] ++ B), ?_, ?_, fun f hf k mh => ?_⟩
    · unfold dat
      rw [dats_app, dats_app, dA, dB]
      simp [dats, du]
    · simp only [dep, deps_app, deps]
      simp only [deps] at pA pB px
      omega
    · rw [List.length_cons, show k + (p.length + 1) + 1 = (k + p.length + 1) + 1 by omega, callM_eq hf]
      have hdr : dat (.tup (A ++ [u] ++ B)) = true := by
        unfold dat
        rw [dats_app, dats_app, dA, dB]
        simp [dats, du]
      have hrec := hu f hf k mh
      have c1 : cut (h0 :: xs) none (some ((1 + j : Nat) : Int)) = A := by rw [cut_take, hA]
      have c2 : cut (h0 :: xs) (some (((1 + j : Nat) : Int) + 1)) none = B := by
        have := cut_drop (xs := h0 :: xs) (k := 1 + j + 1)
        rw [show ((1 + j + 1 : Nat) : Int) = ((1 + j : Nat) : Int) + 1 by omega] at this
        rw [this, hB]
      have c3 : cut (MV.int ((1 + j : Nat) : Int) :: p.map MV.int) (some 1) none = p.map MV.int := cut1 _ _
      have c4 := idx_nat hg
      have z1 : A.length + 1 ≤ line := by unfold line; omega
      have z2 : A.length + 1 + B.length ≤ line := by unfold line; omega
      have z3 : 1 ≤ line := by unfold line; omega
      have z4 : ¬ ((p.length : Int) + 1 = 0) := by omega
      have s1 : exs (callM T (k + p.length + 1)) mh.length [(.ite (.cmp .eq (.bi .len [(.var 1)]) (.c (.int (0)))) [(.ret (.var 2))] []), (.set (.nm 3) (.sub (.var 1) (.c (.int (0)))))] [some (.tup (h0 :: xs)), some (pV (((1 + j : Nat) : Int) :: p)), some r, none] mh = some (.nx, [some (.tup (h0 :: xs)), some (pV (((1 + j : Nat) : Int) :: p)), some r, some (.int ((1 + j : Nat) : Int))], mh) := by
        simp [exs, ex, ev, evs, biV, one1, lenV, cmpV, eqV_int, z4, subV, atI0, asg]
      generalize ((1 + j : Nat) : Int) = q at c1 c2 c3 c4 s1 ⊢
      have hrec' : callM T (k + p.length + 1) f [x, .tup (p.map .int), r] mh = some (u, mh) := hrec
      refine run_of' rfl rfl (ρ := [some (.tup (h0 :: xs)), some (pV (q :: p)), some r, some (.int q)]) (fl := .rt (.tup (A ++ [u] ++ B))) ?_ rfl hdr rfl
      show exs (callM T (k + p.length + 1)) mh.length (putD f).body [some (.tup (h0 :: xs)), some (pV (q :: p)), some r, none] mh = _
      rw [putD]
      have s2 : exs (callM T (k + p.length + 1)) mh.length [(.ret (.bin .add (.bin .add (.slcH (.var 0) (.var 3)) (.tup [(.call f [(.sub (.var 0) (.var 3)), (.slcL (.var 1) (.c (.int (1)))), (.var 2)])])) (.slcL (.var 0) (.bin .add (.var 3) (.c (.int (1)))))))] [some (.tup (h0 :: xs)), some (.tup (.int q :: p.map .int)), some r, some (.int q)] mh = some (.rt (.tup (A ++ [u] ++ B)), [some (.tup (h0 :: xs)), some (.tup (.int q :: p.map .int)), some r, some (.int q)], mh) := by
        simp [exs, ex, ev, evs, slcV, subV, c1, c2, c3, c4, hrec', z1, z2, z3, binV, addV]
      rcases exs_cons s1 with ⟨ρ2, mh2, e1, e2⟩ | ⟨_, hn⟩
      · rcases exs_cons e2 with ⟨ρ3, mh3, e3, e4⟩ | ⟨_, hn⟩
        · simp only [exs] at e4
          cases e4
          rw [exs, e1]
          simp only
          rw [exs, e3]
          exact s2
        · exact absurd rfl hn
      · exact absurd rfl hn
end L2.Mi.k02

set_option Elab.async false
set_option linter.all false
set_option maxRecDepth 100000
set_option maxHeartbeats 4000000
namespace L2.Mi.k02
open PySem PySem.Spec PyProof.Rows L2.Mi
/-! the parts of a term -/
mutual
def pts : MV → List MV
  | .tup xs => (fun f => if hasV f (.tup xs) = true then f else f ++ [.tup xs]) (ptsT xs)
  | t => [t]
def ptsT : List MV → List MV
  | [] => []
  | _ :: xs => ptsL [] xs
def ptsL : List MV → List MV → List MV
  | acc, [] => acc
  | acc, x :: xs => ptsL (acc ++ (pts x).filter fun n => !hasV acc n) xs
end
def AllD (d : Nat) (xs : List MV) : Prop := ∀ x ∈ xs, dat x = true ∧ dep x ≤ d
theorem AllD.app {d : Nat} {a b : List MV} (h : AllD d a) (h' : AllD d b) : AllD d (a ++ b) := fun x hx => (List.mem_append.mp hx).elim (h x) (h' x)
theorem AllD.filter {d : Nat} {a : List MV} {p : MV → Bool} (h : AllD d a) : AllD d (a.filter p) := fun x hx => h x (List.mem_filter.mp hx).1
theorem AllD.dats {d : Nat} {a : List MV} (h : AllD d a) : dats a = true := dats_iff.mpr fun x hx => (h x hx).1
theorem AllD.mono {d e : Nat} {a : List MV} (h : AllD d a) (l : d ≤ e) : AllD e a := fun x hx => ⟨(h x hx).1, Nat.le_trans (h x hx).2 l⟩
theorem AllD.ok {d : Nat} {a : List MV} (h : AllD d a) (hd : d ≤ 60) : okD (.lst a) = true := okD_dat (by unfold dat; exact h.dats) (by
  have : deps a ≤ d := deps_le fun x hx => (h x hx).2
  simp only [dep]; omega)
theorem pts_str (s : Sx) : pts (.str s) = [.str s] := by simp [pts]
theorem pts_tup (s : Sx) (xs : List MV) : pts (.tup (.str s :: xs)) = if hasV (ptsL [] xs) (.tup (.str s :: xs)) = true then ptsL [] xs else ptsL [] xs ++ [.tup (.str s :: xs)] := by
  simp only [pts, ptsT]
  first | rfl | congr
mutual
theorem pts_all : ∀ t, dat t = true → AllD (dep t) (pts t) ∧ (pts t).length ≤ cnt t
  | .tup xs, d => by
    have hT : AllD (dep (.tup xs)) (ptsT xs) ∧ (ptsT xs).length ≤ cntT xs := by
      cases xs with
      | nil => exact ⟨fun x hx => by simp [ptsT] at hx, by simp [ptsT]⟩
      | cons y ys =>
        have hx : dats ys = true := by unfold dat dats at d; rw [Bool.and_eq_true] at d; exact d.2
        obtain ⟨a, b⟩ := ptsL_all (dep (.tup (y :: ys))) [] ys hx (fun x hx => by have := deps_mem hx; simp only [dep, deps]; omega) (fun x hx => by simp at hx)
        simp at b
        exact ⟨by simp only [ptsT]; exact a, by simp only [ptsT, cntT]; exact b⟩
    simp only [pts, cnt]
    split
    · exact ⟨hT.1, by omega⟩
    · refine ⟨hT.1.app fun x hx => by simp at hx; subst hx; exact ⟨d, Nat.le_refl _⟩, ?_⟩
      simp only [List.length_append, List.length_cons, List.length_nil]
      omega
  | .str s, d => ⟨fun x hx => by simp [pts] at hx; subst hx; exact ⟨d, Nat.le_refl _⟩, by simp [pts, cnt]⟩
  | .non, d => ⟨fun x hx => by simp [pts] at hx; subst hx; exact ⟨d, Nat.le_refl _⟩, by simp [pts, cnt]⟩
  | .bl _, d => ⟨fun x hx => by simp [pts] at hx; subst hx; exact ⟨d, Nat.le_refl _⟩, by simp [pts, cnt]⟩
  | .int _, d => ⟨fun x hx => by simp [pts] at hx; subst hx; exact ⟨d, Nat.le_refl _⟩, by simp [pts, cnt]⟩
  | .fn _, d => by cases d
  | .lst _, d => ⟨fun x hx => by simp [pts] at hx; subst hx; exact ⟨d, Nat.le_refl _⟩, by simp [pts, cnt]⟩
  | .loc _, d => by cases d
  | .dct _ _, d => by cases d
  | .scr _, d => by cases d
theorem ptsL_all (e : Nat) : ∀ acc xs, dats xs = true → (∀ x ∈ xs, dep x ≤ e) → AllD e acc → AllD e (ptsL acc xs) ∧ (ptsL acc xs).length ≤ acc.length + cnts xs
  | acc, [], d, h, ha => by simp only [ptsL]; exact ⟨ha, by simp [cnts]⟩
  | acc, x :: xs, d, h, ha => by
    simp only [dats, Bool.and_eq_true] at d
    obtain ⟨a, b⟩ := pts_all x d.1
    have hx := h x (by simp)
    obtain ⟨a2, b2⟩ := ptsL_all e (acc ++ (pts x).filter fun n => !hasV acc n) xs d.2 (fun y hy => h y (List.mem_cons_of_mem _ hy)) (ha.app (a.filter.mono hx))
    have hf := List.length_filter_le (fun n => !hasV acc n) (pts x)
    refine ⟨by simp only [ptsL]; exact a2, ?_⟩
    simp only [ptsL, cnts]
    rw [List.length_append] at b2
    omega
end
theorem mem_d {mh : MHp} {d : Nat} {acc : List MV} {x : MV} (hdd : d ≤ 60) (ha : AllD d acc) (hx : dat x = true ∧ dep x ≤ d) : memV mh x (.lst acc) = some (hasV acc x) := by
  have e1 : frz 0 mh 8 x = some x := frz_dat _ hx.1
  have e2 : frz 0 mh 8 (.lst acc) = some (.lst acc) := frz_dat _ (by unfold dat; exact ha.dats)
  have o1 : okD x = true := okD_dat hx.1 (by omega)
  have o2 := ha.ok hdd
  unfold memV
  split
  · rename_i h; cases h
  · simp only [e1, e2, o1, o2, and_self, if_true]
    rfl
theorem mem_dloc {mh : MHp} {d : Nat} {acc : List MV} {x : MV} (hdd : d ≤ 60) (ha : AllD d acc) (hx : dat x = true ∧ dep x ≤ d) : memV (nHp mh acc) x (.loc mh.length) = some (hasV acc x) := by
  have e1 : frz 0 (nHp mh acc) 8 x = some x := frz_dat _ hx.1
  have e2 := frz_top (n := 0) (mh := mh) (Nat.zero_le _) ha.dats
  have o1 : okD x = true := okD_dat hx.1 (by omega)
  have o2 := ha.ok hdd
  unfold memV
  split
  · rename_i h; cases h
  · simp only [e1, e2, o1, o2, and_self, if_true]
    rfl
abbrev lpBody : List MS := [(.set (.nm 1) (.bin .add (.var 1) (.comp (.nm 3) [3] (.call 22 [(.var 2)]) (.cmp .nmem (.var 3) (.var 1)) (.var 3))))]
theorem lp_loop {C : CallF} {b d : Nat} {t : Option MV} {mh : MHp} {J : Its} (hJ : J.src = none) (hdd : d ≤ 60) : ∀ (xs acc : List MV) (o : Option MV), (∀ x ∈ xs, C 22 [x] mh = some (.lst (pts x), mh)) → dats xs = true → (∀ x ∈ xs, dep x ≤ d) → AllD d acc → acc.length + cnts xs ≤ 2000 →
    ∃ o', forGo J (forF C b (.nm 2) lpBody) xs [t, some (.lst acc), o, none] mh = some (.nx, [t, some (.lst (ptsL acc xs)), o', none], mh)
  | [], acc, o, _, _, _, _, _ => ⟨o, by simp only [ptsL]; exact forGo_nil_of hJ⟩
  | x :: xs, acc, o, hC, hd, hp, ha, hl => by
    simp only [dats, Bool.and_eq_true] at hd
    simp only [cnts] at hl
    obtain ⟨va, vl⟩ := pts_all x hd.1
    replace va := va.mono (hp x (by simp))
    have hc := hC x (by simp)
    have hcomp : ev C b (.comp (.nm 3) [3] (.call 22 [(.var 2)]) (.cmp .nmem (.var 3) (.var 1)) (.var 3)) [t, some (.lst acc), some x, none] mh = some (.lst ((pts x).filter fun n => !hasV acc n), mh) := by
      have ei : evI C b (.call 22 [(.var 2)]) [t, some (.lst acc), some x, none] mh = some (⟨pts x, none⟩, mh) := by
        simp [evI, ev, evs, hc, itsOf]
      have hz : (pts x).length ≤ line := by unfold line; omega
      rw [ev_compq, ei]
      simp only [hz, if_true]
      rw [compGo_pure rfl (g := fun n => if (!hasV acc n) = true then some n else none)]
      · simp only
        rw [fm_filter]
      · intro n hn
        have hm := mem_d (mh := mh) hdd ha (va n hn)
        cases hb : hasV acc n <;> rw [hb] at hm <;> simp [compF, asg, wipeE, ev, cmpV, hm]
    have hf := List.length_filter_le (fun n => !hasV acc n) (pts x)
    obtain ⟨F, hF⟩ : ∃ F, F = (pts x).filter fun n => !hasV acc n := ⟨_, rfl⟩
    rw [← hF] at hcomp hf
    have hz2 : acc.length + F.length ≤ line := by unfold line; omega
    have st : forF C b (.nm 2) lpBody x [t, some (.lst acc), o, none] mh = some (.nx, [t, some (.lst (acc ++ F)), some x, none], mh) := by
      simp [forF, asg, exs, ex, ev, ↓hcomp, binV, addV, getL, hz2]
    rw [forGo_cons_of hJ, st]
    obtain ⟨o', e⟩ := lp_loop hJ hdd xs (acc ++ F) (some x) (fun y hy => hC y (List.mem_cons_of_mem _ hy)) hd.2 (fun y hy => hp y (List.mem_cons_of_mem _ hy)) (ha.app (by rw [hF]; exact va.filter)) (by rw [List.length_append]; omega)
    refine ⟨o', ?_⟩
    simp only [ptsL]
    rw [← hF]
    exact e
theorem sp_lparts : ∀ (N k : Nat) (t : MV) (mh : MHp), cnt t ≤ N → N ≤ 1000 → tm t = true → dat t = true → dep t ≤ 60 → callM T (k + N) 22 [t] mh = some (.lst (pts t), mh) := by
  intro N
  induction N with
  | zero => intro k t mh hc; have := cnt_pos t; omega
  | succ N ih =>
    intro k t mh hc hN ht hd hp
    rw [show k + (N + 1) = k + N + 1 by omega, callM_eq (d := d_l_parts) rfl]
    have hva := (pts_all t hd).1
    have hdv : dat (.lst (pts t)) = true := by unfold dat; exact hva.dats
    have z0 : 0 ≤ line := by unfold line; omega
    have z1 : 1 ≤ line := by unfold line; omega
    rcases tm_cases ht hd with ⟨s, rfl⟩ | ⟨s, xs, rfl, hds, hx⟩
    · refine run_of' rfl rfl (ρ := [some (.str s), some (.lst []), none, none]) (fl := .rt (.lst (pts (.str s)))) ?_ rfl hdv rfl
      have hm := mem_d (mh := mh) (d := 60) (acc := []) (x := .str s) (by omega) (fun x hx => by simp at hx) ⟨hd, by simp [dep]⟩
      have hb : hasV [] (.str s) = false := rfl
      rw [hb] at hm
      simp [d_l_parts, exs, ex, ev, evs, isTy, pts_str, z1, z0, asg, cmpV, hm, binV, addV, getL]
    · simp only [cnt, cntT] at hc
      have dx : dats xs = true := dats_iff.mpr fun x hxm => (hx x hxm).2
      have px : ∀ x ∈ xs, dep x ≤ dep (.tup (.str s :: xs)) := fun x hxm => by have := deps_mem hxm; simp only [dep, deps]; omega
      obtain ⟨o', e⟩ := lp_loop (C := callM T (k + N)) (b := mh.length) (d := dep (.tup (.str s :: xs))) (t := some (.tup (.str s :: xs))) (mh := mh) (J := ⟨xs, none⟩) rfl hp xs [] none (fun x hxm => ih k x mh (by have := cnt_le hxm; omega) (by omega) (hx x hxm).1 (hx x hxm).2 (by have := px x hxm; omega)) dx px (fun x hx => by simp at hx) (by simp; omega)
      obtain ⟨fa, fl⟩ := ptsL_all (dep (.tup (.str s :: xs))) [] xs dx px (fun x hx => by simp at hx)
      have hm := mem_d (mh := mh) hp fa (x := .tup (.str s :: xs)) ⟨hd, Nat.le_refl _⟩
      have s1 : ex (callM T (k + N)) mh.length (.set (.nm 1) (.lst [])) [some (.tup (.str s :: xs)), none, none, none] mh = some (.nx, [some (.tup (.str s :: xs)), some (.lst []), none, none], mh) := by
        simp [ex, ev, evs, asg, z0]
      have ei : evI (callM T (k + N)) mh.length (.slcL (.var 0) (.c (.int (1)))) [some (.tup (.str s :: xs)), some (.lst []), none, none] mh = some (⟨xs, none⟩, mh) := by
        simp [evI, ev, slcV, cut1, itsOf]
      have s2 : ex (callM T (k + N)) mh.length (.ite (.not (.isi (.var 0) .str)) [(.for (.nm 2) (.slcL (.var 0) (.c (.int (1)))) lpBody)] []) [some (.tup (.str s :: xs)), some (.lst []), none, none] mh = some (.nx, [some (.tup (.str s :: xs)), some (.lst (ptsL [] xs)), o', none], mh) := by
        rw [ex]
        have c1 : ev (callM T (k + N)) mh.length (.not (.isi (.var 0) .str)) [some (.tup (.str s :: xs)), some (.lst []), none, none] mh = some (.bl true, mh) := by simp [ev, isTy]
        rw [c1]
        simp only
        rw [exs, ex_for, ei]
        simp only
        rw [e]
        simp only [exs]
      simp only [List.length_nil, Nat.zero_add] at fl
      have hpt : pts (.tup (.str s :: xs)) = if hasV (ptsL [] xs) (.tup (.str s :: xs)) = true then ptsL [] xs else ptsL [] xs ++ [.tup (.str s :: xs)] := pts_tup s xs
      rw [hpt] at hdv ⊢
      clear hpt hva e
      generalize hgf : ptsL [] xs = F at *
      have hz3 : F.length + 1 ≤ line := by unfold line; omega
      have hz4 : F.length ≤ line := by unfold line; omega
      refine run_of' rfl rfl (ρ := [some (.tup (.str s :: xs)), some (.lst F), o', none]) (fl := .rt (.lst (if hasV F (.tup (.str s :: xs)) = true then F else F ++ [.tup (.str s :: xs)]))) ?_ rfl hdv rfl
      show exs (callM T (k + N)) mh.length d_l_parts.body [some (.tup (.str s :: xs)), none, none, none] mh = _
      rw [d_l_parts, exs, s1]
      simp only
      rw [exs, s2]
      simp only
      cases hb : hasV F (.tup (.str s :: xs)) <;> rw [hb] at hm <;> simp [exs, ex, ev, evs, cmpV, hm, z0, z1, binV, addV, getL, hz3, hz4]
abbrev ptBody : List MS := [(.ex (.meth .extend (.var 1) [(.comp (.nm 3) [3] (.call 11 [(.var 2)]) (.cmp .nmem (.var 3) (.var 1)) (.var 3))]))]
theorem pt_loop {C : CallF} {d : Nat} {t : Option MV} {mh : MHp} {J : Its} (hJ : J.src = none) (hdd : d ≤ 60) : ∀ (xs acc : List MV) (o : Option MV), (∀ x ∈ xs, ∀ mh, C 11 [x] mh = some (.lst (pts x), mh)) → dats xs = true → (∀ x ∈ xs, dep x ≤ d) → AllD d acc → acc.length + cnts xs ≤ 2000 →
    ∃ o', forGo J (forF C mh.length (.nm 2) ptBody) xs [t, some (.loc mh.length), o, none] (nHp mh acc) = some (.nx, [t, some (.loc mh.length), o', none], nHp mh (ptsL acc xs))
  | [], acc, o, _, _, _, _, _ => ⟨o, by simp only [ptsL]; exact forGo_nil_of hJ⟩
  | x :: xs, acc, o, hC, hd, hp, ha, hl => by
    simp only [dats, Bool.and_eq_true] at hd
    simp only [cnts] at hl
    obtain ⟨va, vl⟩ := pts_all x hd.1
    replace va := va.mono (hp x (by simp))
    have hc := hC x (by simp) (nHp mh acc)
    have hcomp : ev C mh.length (.comp (.nm 3) [3] (.call 11 [(.var 2)]) (.cmp .nmem (.var 3) (.var 1)) (.var 3)) [t, some (.loc mh.length), some x, none] (nHp mh acc) = some (.lst ((pts x).filter fun n => !hasV acc n), nHp mh acc) := by
      have ei : evI C mh.length (.call 11 [(.var 2)]) [t, some (.loc mh.length), some x, none] (nHp mh acc) = some (⟨pts x, none⟩, nHp mh acc) := by
        simp [evI, ev, evs, hc, itsOf]
      have hz : (pts x).length ≤ line := by unfold line; omega
      rw [ev_compq, ei]
      simp only [hz, if_true]
      rw [compGo_pure rfl (g := fun n => if (!hasV acc n) = true then some n else none)]
      · simp only
        rw [fm_filter]
      · intro n hn
        have hm := mem_dloc (mh := mh) hdd ha (va n hn)
        cases hb : hasV acc n <;> rw [hb] at hm <;> simp [compF, asg, wipeE, ev, cmpV, hm]
    have hf := List.length_filter_le (fun n => !hasV acc n) (pts x)
    obtain ⟨F, hF⟩ : ∃ F, F = (pts x).filter fun n => !hasV acc n := ⟨_, rfl⟩
    rw [← hF] at hcomp hf
    have hz2 : acc.length + F.length ≤ line := by unfold line; omega
    have hw : ∀ y ∈ F, wr mh.length mh.length y = true := fun y hy => by simp [wr]
    have me : ev C mh.length (.meth .extend (.var 1) [(.comp (.nm 3) [3] (.call 11 [(.var 2)]) (.cmp .nmem (.var 3) (.var 1)) (.var 3))]) [t, some (.loc mh.length), some x, none] (nHp mh acc) = some (.non, nHp mh (acc ++ F)) := by
      have l1 : liveL (nHp mh acc) (.loc mh.length) = some (mh.length, acc) := by simp [liveL, nHp, top_get]
      have m1 : methV mh.length (nHp mh acc) .extend (.loc mh.length) [.lst F] = some (.non, nHp mh (acc ++ F)) := by
        simp only [methV, extV, l1, seqOf, getL]
        rw [if_pos ⟨List.all_eq_true.mpr hw, hz2⟩]
        simp only [nHp, top_set]
      have ty : tyM (nHp mh acc) .extend (.loc mh.length) = true := by simp [tyM, l1]
      have v1 : ev C mh.length (.var 1) [t, some (.loc mh.length), some x, none] (nHp mh acc) = some (.loc mh.length, nHp mh acc) := by simp [ev]
      have es : evs C mh.length [(.comp (.nm 3) [3] (.call 11 [(.var 2)]) (.cmp .nmem (.var 3) (.var 1)) (.var 3))] [t, some (.loc mh.length), some x, none] (nHp mh acc) = some ([.lst F], nHp mh acc) := by
        rw [evs, hcomp]; simp only [evs]
      rw [ev, v1]
      simp only [ty, if_true, es, m1]
    have st : forF C mh.length (.nm 2) ptBody x [t, some (.loc mh.length), o, none] (nHp mh acc) = some (.nx, [t, some (.loc mh.length), some x, none], nHp mh (acc ++ F)) := by
      have a0 : asg (nHp mh acc) (.nm 2) x [t, some (.loc mh.length), o, none] = some [t, some (.loc mh.length), some x, none] := by simp [asg]
      unfold forF
      rw [a0]
      simp only
      rw [ptBody, exs, ex, me]
      simp only [exs]
    rw [forGo_cons_of hJ, st]
    obtain ⟨o', e⟩ := pt_loop hJ hdd xs (acc ++ F) (some x) (fun y hy => hC y (List.mem_cons_of_mem _ hy)) hd.2 (fun y hy => hp y (List.mem_cons_of_mem _ hy)) (ha.app (by rw [hF]; exact va.filter)) (by rw [List.length_append]; omega)
    refine ⟨o', ?_⟩
    simp only [ptsL]
    rw [← hF]
    exact e
theorem getL_top {mh : MHp} {acc : List MV} : getL (nHp mh acc) (.loc mh.length) = some acc := by simp [getL, nHp, top_get]
theorem sp_parts : ∀ (N k : Nat) (t : MV) (mh : MHp), cnt t ≤ N → N ≤ 1000 → tm t = true → dat t = true → dep t ≤ 60 → callM T (k + N + 1) 11 [t] mh = some (.lst (pts t), mh) := by
  intro N
  induction N with
  | zero => intro k t mh hc; have := cnt_pos t; omega
  | succ N ih =>
    intro k t mh hc hN ht hd hp
    rw [show k + (N + 1) + 1 = (k + N + 1) + 1 by omega, callM_eq (d := d_parts) rfl]
    have iv := sp_isvar (k + N) t mh hd
    have hva := (pts_all t hd).1
    have z0 : 0 ≤ line := by unfold line; omega
    have z1 : 1 ≤ line := by unfold line; omega
    have s1 : ex (callM T (k + N + 1)) mh.length (.set (.nm 1) (.al (.lst []))) [some t, none, none, none] mh = some (.nx, [some t, some (.loc mh.length), none, none], nHp mh []) := by
      simp [ex, ev, evs, asg, nHp, z0]
    rcases tm_cases ht hd with ⟨s, rfl⟩ | ⟨s, xs, rfl, hds, hx⟩
    · have hm := mem_dloc (mh := mh) (d := 60) (acc := []) (x := .str s) (by omega) (fun x hx => by simp at hx) ⟨hd, by simp [dep]⟩
      have hb : hasV [] (.str s) = false := rfl
      rw [hb] at hm
      have iv' := sp_isvar (k + N) (.str s) (nHp mh []) hd
      simp only [isS] at iv'
      have e : exs (callM T (k + N + 1)) mh.length d_parts.body [some (.str s), none, none, none] mh = some (.rt (.lst [.str s]), [some (.str s), some (.loc mh.length), none, none], nHp mh []) := by
        have hgt := getL_top (mh := mh) (acc := [])
        rw [d_parts, exs, s1]
        simp only
        have hgt2 : addV (nHp mh []) (.loc mh.length) (.lst [.str s]) = some (.lst [.str s]) := by
          unfold addV
          simp only [hgt, getL]
          simp [z1]
        generalize nHp mh [] = H at *
        simp [exs, ex, ev, evs, iv', cmpV, hm, z1, binV, hgt2]
      have := run_of (C := callM T (k + N + 1)) (d := d_parts) (args := [.str s]) rfl rfl e rfl (by unfold dat dats; rw [hd]; rfl)
      rw [take_top] at this
      rw [this, pts_str]
    · simp only [cnt, cntT] at hc
      have dx : dats xs = true := dats_iff.mpr fun x hxm => (hx x hxm).2
      have px : ∀ x ∈ xs, dep x ≤ dep (.tup (.str s :: xs)) := fun x hxm => by have := deps_mem hxm; simp only [dep, deps]; omega
      obtain ⟨o', e⟩ := pt_loop (C := callM T (k + N + 1)) (d := dep (.tup (.str s :: xs))) (t := some (.tup (.str s :: xs))) (mh := mh) (J := ⟨xs, none⟩) rfl hp xs [] none (fun x hxm mh => ih k x mh (by have := cnt_le hxm; omega) (by omega) (hx x hxm).1 (hx x hxm).2 (by have := px x hxm; omega)) dx px (fun x hx => by simp at hx) (by simp; omega)
      obtain ⟨fa, fl⟩ := ptsL_all (dep (.tup (.str s :: xs))) [] xs dx px (fun x hx => by simp at hx)
      have hm := mem_dloc (mh := mh) hp fa (x := .tup (.str s :: xs)) ⟨hd, Nat.le_refl _⟩
      have iv' := sp_isvar (k + N) (.tup (.str s :: xs)) (nHp mh []) hd
      simp only [isS] at iv'
      have ei : evI (callM T (k + N + 1)) mh.length (.slcL (.var 0) (.c (.int (1)))) [some (.tup (.str s :: xs)), some (.loc mh.length), none, none] (nHp mh []) = some (⟨xs, none⟩, nHp mh []) := by
        simp [evI, ev, slcV, cut1, itsOf]
      have s2 : ex (callM T (k + N + 1)) mh.length (.ite (.not (.call 1 [(.var 0)])) [(.for (.nm 2) (.slcL (.var 0) (.c (.int (1)))) ptBody)] []) [some (.tup (.str s :: xs)), some (.loc mh.length), none, none] (nHp mh []) = some (.nx, [some (.tup (.str s :: xs)), some (.loc mh.length), o', none], nHp mh (ptsL [] xs)) := by
        rw [ex]
        have c1 : ev (callM T (k + N + 1)) mh.length (.not (.call 1 [(.var 0)])) [some (.tup (.str s :: xs)), some (.loc mh.length), none, none] (nHp mh []) = some (.bl true, nHp mh []) := by simp [ev, evs, iv']
        rw [c1]
        simp only
        rw [exs, ex_for, ei]
        simp only
        rw [e]
        simp only [exs]
      simp only [List.length_nil, Nat.zero_add] at fl
      have hpt : pts (.tup (.str s :: xs)) = if hasV (ptsL [] xs) (.tup (.str s :: xs)) = true then ptsL [] xs else ptsL [] xs ++ [.tup (.str s :: xs)] := pts_tup s xs
      rw [hpt] at hva ⊢
      generalize hgf : ptsL [] xs = F at *
      have hz3 : F.length + 1 ≤ line := by unfold line; omega
      have hgt := getL_top (mh := mh) (acc := F)
      have hgt2 : addV (nHp mh F) (.loc mh.length) (.lst [.tup (.str s :: xs)]) = some (.lst (F ++ [.tup (.str s :: xs)])) := by
        unfold addV
        simp only [hgt, getL]
        simp [hz3]
      have hfz := frz_top (n := mh.length) (mh := mh) (acc := F) (Nat.le_refl _) fa.dats
      have htk := take_top (mh := mh) (o := .lst F)
      have htk : (nHp mh F).take mh.length = mh := htk
      cases hb : hasV F (.tup (.str s :: xs)) with
      | true =>
        rw [hb] at hm
        have e3 : exs (callM T (k + N + 1)) mh.length d_parts.body [some (.tup (.str s :: xs)), none, none, none] mh = some (.rt (.loc mh.length), [some (.tup (.str s :: xs)), some (.loc mh.length), o', none], nHp mh F) := by
          rw [d_parts, exs, s1]
          simp only
          rw [exs, s2]
          simp only
          generalize nHp mh F = H at *
          simp [exs, ex, ev, evs, cmpV, hm]
        have := run_frz (C := callM T (k + N + 1)) (d := d_parts) (args := [.tup (.str s :: xs)]) rfl rfl e3 rfl hfz
        rw [htk] at this
        rw [this]
        rfl
      | false =>
        rw [hb] at hm hva
        have e3 : exs (callM T (k + N + 1)) mh.length d_parts.body [some (.tup (.str s :: xs)), none, none, none] mh = some (.rt (.lst (F ++ [.tup (.str s :: xs)])), [some (.tup (.str s :: xs)), some (.loc mh.length), o', none], nHp mh F) := by
          rw [d_parts, exs, s1]
          simp only
          rw [exs, s2]
          simp only
          generalize nHp mh F = H at *
          simp [exs, ex, ev, evs, cmpV, hm, z1, binV, hgt2]
        have := run_of (C := callM T (k + N + 1)) (d := d_parts) (args := [.tup (.str s :: xs)]) rfl rfl e3 rfl (by unfold dat; exact hva.dats)
        rw [htk] at this
        rw [this]
        rfl
end L2.Mi.k02

set_option Elab.async false
set_option linter.all false
set_option maxRecDepth 100000
set_option maxHeartbeats 4000000
namespace L2.Mi.k02
open PySem PySem.Spec PyProof.Rows L2.Mi
/-- what is_whole says -/
def isW : MV → Int → Int → Bool
  | .int i, lo, hi => decide (lo ≤ i) && decide (i ≤ hi)
  | _, _, _ => false
theorem sp_whole (k : Nat) (v : MV) (lo hi : Int) (mh : MHp) (hd : dat v = true) : callM T (k + 1) 0 [v, .int lo, .int hi] mh = some (.bl (isW v lo hi), mh) := by
  rw [callM_eq (d := d_is_whole) rfl]
  refine run_of' rfl rfl (ρ := [some v, some (.int lo), some (.int hi)]) (fl := .rt (.bl (isW v lo hi))) ?_ rfl rfl rfl
  cases v with
  | int i =>
    by_cases h : i < lo
    · have h' : ¬ lo ≤ i := by omega
      simp [d_is_whole, exs, ex, ev, evs, isTy, isW, cmpV, ordV, h, h']
    · have h' : lo ≤ i := by omega
      by_cases h2 : hi < i
      · have h2' : ¬ i ≤ hi := by omega
        simp [d_is_whole, exs, ex, ev, evs, isTy, isW, cmpV, ordV, h, h', h2, h2']
      · have h2' : i ≤ hi := by omega
        simp [d_is_whole, exs, ex, ev, evs, isTy, isW, cmpV, ordV, h, h', h2, h2']
  | fn _ => cases hd
  | loc _ => cases hd
  | dct _ _ => cases hd
  | scr _ => cases hd
  | _ => simp [d_is_whole, exs, ex, ev, evs, isTy, isW]
/-- what has_position says of a tuple's items -/
def hpB : MV → List MV → Bool
  | _, [] => true
  | .tup (_ :: xs), v :: vs => match v with
    | .int i => if 1 ≤ i ∧ i ≤ xs.length then (match xs[i.toNat - 1]? with
      | some x => hpB x vs
      | none => false) else false
    | _ => false
  | _, _ :: _ => false
abbrev hpBody : List MS := [(.ite (.or (.call 1 [(.var 0)]) (.not (.call 0 [(.var 2), (.c (.int (1))), (.bin .sub (.bi .len [(.var 0)]) (.c (.int (1))))]))) [(.ret (.c (.bl false)))] []), (.set (.nm 0) (.sub (.var 0) (.var 2)))]
theorem hp_loop {k b : Nat} {p : Option MV} {mh : MHp} {J : Its} (hJ : J.src = none) : ∀ (vs : List MV) (t : MV) (o : Option MV), dats vs = true → tm t = true → dat t = true →
    (hpB t vs = true ∧ ∃ t' o', forGo J (forF (callM T (k + 1)) b (.nm 2) hpBody) vs [some t, p, o] mh = some (.nx, [some t', p, o'], mh)) ∨ (hpB t vs = false ∧ ∃ t' o', forGo J (forF (callM T (k + 1)) b (.nm 2) hpBody) vs [some t, p, o] mh = some (.rt (.bl false), [some t', p, o'], mh))
  | [], t, o, _, _, _ => .inl ⟨by unfold hpB; rfl, t, o, forGo_nil_of hJ⟩
  | v :: vs, t, o, hd, ht, hdt => by
    simp only [dats, Bool.and_eq_true] at hd
    have iv := sp_isvar k t mh hdt
    rcases tm_cases ht hdt with ⟨s, rfl⟩ | ⟨s, xs, rfl, hds, hx⟩
    · refine .inr ⟨by unfold hpB; rfl, .str s, some v, ?_⟩
      simp only [isS] at iv
      have st : forF (callM T (k + 1)) b (.nm 2) hpBody v [some (.str s), p, o] mh = some (.rt (.bl false), [some (.str s), p, some v], mh) := by
        simp [forF, asg, exs, ex, ev, evs, iv]
      rw [forGo_cons_of hJ, st]
    · simp only [isS] at iv
      have iw := sp_whole k v 1 (xs.length : Int) mh hd.1
      by_cases hw : isW v 1 (xs.length : Int) = true
      · cases v with
        | int i =>
          simp only [isW, Bool.and_eq_true, decide_eq_true_eq] at hw
          have hw' : isW (.int i) 1 (xs.length : Int) = true := by simp [isW, hw]
          rw [hw'] at iw
          obtain ⟨j, hj⟩ : ∃ j : Nat, i = ((1 + j : Nat) : Int) := ⟨i.toNat - 1, by omega⟩
          have hjl : j < xs.length := by omega
          have e1 : xs[j]? = some xs[j] := List.getElem?_eq_getElem hjl
          have e2 : i.toNat - 1 = j := by omega
          have hB : hpB (.tup (.str s :: xs)) (.int i :: vs) = hpB xs[j] vs := by
            rw [hpB, if_pos hw, e2, e1]
          rw [hB]
          have hxj := hx xs[j] (List.getElem_mem hjl)
          have e3 := idx_nat (get_cons1 (h := .str s) e1)
          rw [← hj] at e3
          have st : forF (callM T (k + 1)) b (.nm 2) hpBody (.int i) [some (.tup (.str s :: xs)), p, o] mh = some (.nx, [some xs[j], p, some (.int i)], mh) := by
            simp [forF, asg, exs, ex, ev, evs, iv, biV, one1, lenV, binV, intV, iw, subV, e3]
          rw [forGo_cons_of hJ, st]
          exact hp_loop hJ vs xs[j] (some (.int i)) hd.2 hxj.1 hxj.2
        | _ => simp [isW] at hw
      · simp only [Bool.not_eq_true] at hw
        rw [hw] at iw
        refine .inr ⟨?_, .tup (.str s :: xs), some v, ?_⟩
        · cases v with
          | int i =>
            simp only [isW, Bool.and_eq_false_iff, decide_eq_false_iff_not] at hw
            rw [hpB, if_neg (by omega)]
          | _ => unfold hpB; rfl
        · have st : forF (callM T (k + 1)) b (.nm 2) hpBody v [some (.tup (.str s :: xs)), p, o] mh = some (.rt (.bl false), [some (.tup (.str s :: xs)), p, some v], mh) := by
            simp [forF, asg, exs, ex, ev, evs, iv, biV, one1, lenV, binV, intV, iw]
          rw [forGo_cons_of hJ, st]
/-- what has_position says -/
def hpV (t : MV) : MV → Bool
  | .tup vs => hpB t vs
  | _ => false
theorem sp_hp (k : Nat) (t v : MV) (mh : MHp) (ht : tm t = true) (hdt : dat t = true) (hd : dat v = true) : callM T (k + 2) 8 [t, v] mh = some (.bl (hpV t v), mh) := by
  rw [callM_eq (d := d_has_position) rfl]
  cases v with
  | tup vs =>
    have hdv : dats vs = true := by unfold dat at hd; exact hd
    have s1 : ex (callM T (k + 1)) mh.length (.ite (.not (.isi (.var 1) .tuple)) [(.ret (.c (.bl false)))] []) [some t, some (.tup vs), none] mh = some (.nx, [some t, some (.tup vs), none], mh) := by
      simp [ex, exs, ev, isTy]
    have ei : evI (callM T (k + 1)) mh.length (.var 1) [some t, some (.tup vs), none] mh = some (⟨vs, none⟩, mh) := by simp [evI, ev, itsOf]
    rcases hp_loop (k := k) (b := mh.length) (p := some (.tup vs)) (mh := mh) (J := ⟨vs, none⟩) rfl vs t none hdv ht hdt with ⟨hb, t', o', e⟩ | ⟨hb, t', o', e⟩
    · refine run_of' rfl rfl (ρ := [some t', some (.tup vs), o']) (fl := .rt (.bl true)) ?_ (by simp [endV, hpV, hb]) rfl rfl
      show exs (callM T (k + 1)) mh.length d_has_position.body [some t, some (.tup vs), none] mh = _
      rw [d_has_position, exs, s1]
      simp only
      rw [exs, ex_for, ei]
      simp only
      rw [e]
      simp [exs, ex, ev]
    · refine run_of' rfl rfl (ρ := [some t', some (.tup vs), o']) (fl := .rt (.bl false)) ?_ (by simp [endV, hpV, hb]) rfl rfl
      show exs (callM T (k + 1)) mh.length d_has_position.body [some t, some (.tup vs), none] mh = _
      rw [d_has_position, exs, s1]
      simp only
      rw [exs, ex_for, ei]
      simp only
      rw [e]
  | fn _ => cases hd
  | loc _ => cases hd
  | dct _ _ => cases hd
  | scr _ => cases hd
  | non =>
    refine run_of' rfl rfl (ρ := [some t, some .non, none]) (fl := .rt (.bl false)) ?_ rfl rfl rfl
    simp [d_has_position, exs, ex, ev, isTy]
  | bl b =>
    refine run_of' rfl rfl (ρ := [some t, some (.bl b), none]) (fl := .rt (.bl false)) ?_ rfl rfl rfl
    simp [d_has_position, exs, ex, ev, isTy]
  | int i =>
    refine run_of' rfl rfl (ρ := [some t, some (.int i), none]) (fl := .rt (.bl false)) ?_ rfl rfl rfl
    simp [d_has_position, exs, ex, ev, isTy]
  | str s =>
    refine run_of' rfl rfl (ρ := [some t, some (.str s), none]) (fl := .rt (.bl false)) ?_ rfl rfl rfl
    simp [d_has_position, exs, ex, ev, isTy]
  | lst xs =>
    refine run_of' rfl rfl (ρ := [some t, some (.lst xs), none]) (fl := .rt (.bl false)) ?_ rfl rfl rfl
    simp [d_has_position, exs, ex, ev, isTy]
/-! the law's own judge of positions -/
theorem hpB_pls : ∀ (p : List Int) (t : MV), tm t = true → dat t = true → hpB t (p.map .int) = decide (p ∈ pls t)
  | [], t, _, _ => by
    have := nil_pls t
    unfold hpB
    simp [this]
  | i :: p, t, ht, hd => by
    rcases tm_cases ht hd with ⟨s, rfl⟩ | ⟨s, xs, rfl, hds, hx⟩
    · rw [List.map_cons, hpB]
      · simp [pls]
      · intro a b h; cases h
    · rw [List.map_cons, hpB]
      by_cases hw : 1 ≤ i ∧ i ≤ xs.length
      · obtain ⟨j, hj⟩ : ∃ j : Nat, i = ((1 + j : Nat) : Int) := ⟨i.toNat - 1, by omega⟩
        have hjl : j < xs.length := by omega
        have e1 : xs[j]? = some xs[j] := List.getElem?_eq_getElem hjl
        have e2 : i.toNat - 1 = j := by omega
        have hxj := hx xs[j] (List.getElem_mem hjl)
        rw [if_pos hw, e2, e1]
        simp only
        rw [hpB_pls p xs[j] hxj.1 hxj.2]
        congr 1
        apply propext
        rw [cons_pls]
        constructor
        · exact fun h => ⟨_, xs, j, _, rfl, hj, e1, h⟩
        · rintro ⟨h, ys, j', x, q1, q2, q3, q4⟩
          simp only [MV.tup.injEq, List.cons.injEq] at q1
          obtain ⟨_, rfl⟩ := q1
          have : j' = j := by omega
          subst this
          rw [e1] at q3
          cases q3
          exact q4
      · rw [if_neg hw]
        symm
        rw [decide_eq_false_iff_not]
        intro h
        obtain ⟨h, ys, j', x, q1, q2, q3, q4⟩ := cons_pls.mp h
        simp only [MV.tup.injEq, List.cons.injEq] at q1
        obtain ⟨_, rfl⟩ := q1
        have := (List.getElem?_eq_some_iff.mp q3).1
        omega
theorem hpB_bad {v : MV} (hv : ∀ i, v ≠ .int i) : ∀ (p : List Int) (t : MV), tm t = true → dat t = true → hpB t (p.map .int ++ [v]) = false
  | [], t, ht, hd => by
    rcases tm_cases ht hd with ⟨s, rfl⟩ | ⟨s, xs, rfl, hds, hx⟩
    · unfold hpB; rfl
    · show hpB (.tup (.str s :: xs)) [v] = false
      cases v with
      | int i => exact absurd rfl (hv i)
      | _ => unfold hpB; rfl
  | i :: p, t, ht, hd => by
    rcases tm_cases ht hd with ⟨s, rfl⟩ | ⟨s, xs, rfl, hds, hx⟩
    · unfold hpB; rfl
    · rw [List.map_cons, List.cons_append, hpB]
      by_cases hw : 1 ≤ i ∧ i ≤ xs.length
      · obtain ⟨j, hj⟩ : ∃ j : Nat, i = ((1 + j : Nat) : Int) := ⟨i.toNat - 1, by omega⟩
        have hjl : j < xs.length := by omega
        have e1 : xs[j]? = some xs[j] := List.getElem?_eq_getElem hjl
        have e2 : i.toNat - 1 = j := by omega
        have hxj := hx xs[j] (List.getElem_mem hjl)
        rw [if_pos hw, e2, e1]
        simp only
        exact hpB_bad hv p xs[j] hxj.1 hxj.2
      · rw [if_neg hw]
/-- == of tuples of whole numbers -/
theorem eqvAll_ints : ∀ (p q : List Int), PyData.eqvAll (toDs (p.map .int)) (toDs (q.map .int)) = decide (p = q)
  | [], [] => by simp [toDs, PyData.eqvAll]
  | [], _ :: _ => by simp [toDs, PyData.eqvAll]
  | _ :: _, [] => by simp [toDs, PyData.eqvAll]
  | a :: p, b :: q => by
    have ih := eqvAll_ints p q
    simp only [List.map_cons, toDs, PyData.eqvAll, ih]
    have e : PyData.eqv (toD (.int a)) (toD (.int b)) = decide (a = b) := by
      unfold toD PyData.eqv; simp [BEq.beq]
    rw [e]
    by_cases h1 : a = b <;> by_cases h2 : p = q <;> simp [h1, h2]
theorem eqD_pV (p q : List Int) : eqD (pV p) (pV q) = decide (p = q) := by
  have := eqvAll_ints p q
  unfold eqD toD PyData.eqv
  exact this
theorem hasV_pV (ps : List (List Int)) (q : List Int) : hasV (ps.map pV) (pV q) = decide (q ∈ ps) := by
  unfold hasV
  rw [List.any_map]
  apply Bool.eq_iff_iff.mpr
  simp only [List.any_eq_true, Function.comp, eqD_pV, decide_eq_true_eq]
  constructor
  · rintro ⟨x, hx, rfl⟩; exact hx
  · exact fun h => ⟨q, h, rfl⟩
theorem eqvAll_non : ∀ (q p : List Int), PyData.eqvAll (toDs (q.map .int)) (toDs (p.map .int ++ [.non])) = false
  | [], [] => by simp [toDs, PyData.eqvAll]
  | [], _ :: _ => by simp [toDs, PyData.eqvAll]
  | a :: q, [] => by
    simp only [List.map_cons, List.map_nil, List.nil_append, toDs, PyData.eqvAll]
    have e : PyData.eqv (toD (.int a)) (toD .non) = false := by unfold toD PyData.eqv; rfl
    rw [e]; rfl
  | a :: q, b :: p => by
    have ih := eqvAll_non q p
    simp only [List.map_cons, List.cons_append, toDs, PyData.eqvAll, ih, Bool.and_false]
theorem hasV_non (ps : List (List Int)) (p : List Int) : hasV (ps.map pV) (.tup (p.map .int ++ [.non])) = false := by
  unfold hasV
  rw [List.any_map, List.any_eq_false]
  intro q _
  have := eqvAll_non q p
  simp only [Function.comp]
  unfold eqD toD PyData.eqv
  rw [this]
  simp
end L2.Mi.k02

set_option Elab.async false
set_option linter.all false
set_option maxRecDepth 100000
set_option maxHeartbeats 4000000
namespace L2.Mi.k02
open PySem PySem.Spec PyProof.Rows L2.Mi
/-! the variables where they stand -/
def stG (t : MV) (p : List Int) : Option MV := match atF t p with
  | some (.str s) => some (.str s)
  | _ => none
mutual
def lvs : MV → List MV
  | .str s => [.str s]
  | .tup xs => lvsT xs
  | _ => []
def lvsT : List MV → List MV
  | [] => []
  | _ :: xs => lvsL xs
def lvsL : List MV → List MV
  | [] => []
  | x :: xs => lvs x ++ lvsL xs
end
mutual
theorem st_lvs : ∀ t : MV, (pls t).filterMap (stG t) = lvs t
  | .str s => by simp [pls, lvs, stG, atF]
  | .tup [] => by simp [pls, plsT, lvs, lvsT, stG, atF]
  | .tup (h :: xs) => by
    have e : stG (.tup (h :: xs)) [] = none := by simp [stG, atF]
    simp only [pls, plsT, lvs, lvsT, List.filterMap_cons, e]
    exact st_lvsL (h :: xs) 1 xs rfl
  | .non => by simp [pls, lvs, stG, atF]
  | .bl _ => by simp [pls, lvs, stG, atF]
  | .int _ => by simp [pls, lvs, stG, atF]
  | .fn _ => by simp [pls, lvs, stG, atF]
  | .lst _ => by simp [pls, lvs, stG, atF]
  | .loc _ => by simp [pls, lvs, stG, atF]
  | .dct _ _ => by simp [pls, lvs, stG, atF]
  | .scr _ => by simp [pls, lvs, stG, atF]
theorem st_lvsL (all : List MV) : ∀ (k : Nat) (xs : List MV), all.drop k = xs → (plsL k xs).filterMap (stG (.tup all)) = lvsL xs
  | k, [], _ => by simp [plsL, lvsL]
  | k, x :: xs, h => by
    have hk : all[k]? = some x := by
      have := congrArg (·[0]?) h
      simpa using this
    have hd' : all.drop (k + 1) = xs := by
      have := congrArg (·.drop 1) h
      simpa using this
    simp only [plsL, lvsL, List.filterMap_append, List.filterMap_map]
    rw [st_lvsL all (k + 1) xs hd', ← st_lvs x]
    congr 2
    funext p
    simp [stG, atF, idx_nat hk]
end
mutual
theorem lvs_str : ∀ t, dat t = true → AllS (lvs t)
  | .str s, d => fun x hx => by simp [lvs] at hx; subst hx; exact ⟨s, rfl, d⟩
  | .tup [], d => fun x hx => by simp [lvs, lvsT] at hx
  | .tup (_ :: xs), d => by
    have hx : dats xs = true := by unfold dat dats at d; rw [Bool.and_eq_true] at d; exact d.2
    simp only [lvs, lvsT]
    exact lvsL_str xs hx
  | .non, _ => fun x hx => by simp [lvs] at hx
  | .bl _, _ => fun x hx => by simp [lvs] at hx
  | .int _, _ => fun x hx => by simp [lvs] at hx
  | .fn _, _ => fun x hx => by simp [lvs] at hx
  | .lst _, _ => fun x hx => by simp [lvs] at hx
  | .loc _, _ => fun x hx => by simp [lvs] at hx
  | .dct _ _, _ => fun x hx => by simp [lvs] at hx
  | .scr _, _ => fun x hx => by simp [lvs] at hx
theorem lvsL_str : ∀ xs, dats xs = true → AllS (lvsL xs)
  | [], _ => fun x hx => by simp [lvsL] at hx
  | x :: xs, d => by
    simp only [dats, Bool.and_eq_true] at d
    simp only [lvsL]
    exact (lvs_str x d.1).app (lvsL_str xs d.2)
end
def isE (s : Sx) : MV → Bool
  | .str r => decide (r = s)
  | _ => false
mutual
theorem cou_lvs (s : Sx) : ∀ t, cou s t = ((lvs t).filter (isE s)).length
  | .str r => by by_cases h : r = s <;> simp [cou, lvs, isE, h]
  | .tup [] => by simp [cou, couT, lvs, lvsT]
  | .tup (_ :: xs) => by simp only [cou, couT, lvs, lvsT]; exact cous_lvs s xs
  | .non => by simp [cou, lvs]
  | .bl _ => by simp [cou, lvs]
  | .int _ => by simp [cou, lvs]
  | .fn _ => by simp [cou, lvs]
  | .lst _ => by simp [cou, lvs]
  | .loc _ => by simp [cou, lvs]
  | .dct _ _ => by simp [cou, lvs]
  | .scr _ => by simp [cou, lvs]
theorem cous_lvs (s : Sx) : ∀ xs, cous s xs = ((lvsL xs).filter (isE s)).length
  | [] => by simp [cous, lvsL]
  | x :: xs => by simp [cous, lvsL, cou_lvs s x, cous_lvs s xs, List.filter_append]
end
theorem lvs_len (t : MV) : (lvs t).length ≤ cnt t := by
  rw [← st_lvs, ← pls_len]
  exact List.length_filterMap_le _ _
end L2.Mi.k02

set_option Elab.async false
set_option linter.all false
set_option maxRecDepth 100000
set_option maxHeartbeats 4000000
namespace L2.Mi.k02
open PySem PySem.Spec PyProof.Rows L2.Mi
abbrev LE (sc : Option MV) (l : Nat) (o2 o3 o4 o5 o6 o7 o8 o9 o10 o11 o12 : Option MV) : Env := [sc, some (.loc l), o2, o3, o4, o5, o6, o7, o8, o9, o10, o11, o12, none, none, none]
noncomputable abbrev CC : CallF := callM T 140
/-- a term as the law draws one -/
structure TmOk (t : MV) : Prop where
  tm : tm t = true
  dat : dat t = true
  cnt : cnt t ≤ 121
  dep : dep t ≤ 5
theorem tupI_pV (p : List Int) : tupI (pV p) = some p := by
  show (p.map MV.int).mapM intOf = some p
  have := ints_map (mh := []) p
  unfold intsM at this
  exact this
theorem isTy_str {v : MV} {mh : MHp} (hd : dat v = true) : isTy v .str mh = some (isS v) := by
  cases v <;> first | (cases hd; done) | rfl
def isB : MV → Bool
  | .bl _ => true
  | _ => false
theorem isTy_bool {v : MV} {mh : MHp} (hd : dat v = true) : isTy v .bool mh = some (isB v) := by
  cases v <;> first | (cases hd; done) | rfl
theorem hP0 : ∀ (ps : List MV) s (i : Nat) ys, pr s i ∈ ps → ys.length = i → (∀ y ∈ ys, tm y = true) → tm (.tup (.str s :: ys)) = true := fun ps s i ys _ _ h => by
  unfold tm tmT
  rw [tms_iff.mpr h]
  rfl
theorem pV_deps (ps : List (List Int)) : dep (.lst (ps.map pV)) ≤ 2 := by
  have : deps (ps.map pV) ≤ 1 := deps_le fun x hx => by
    obtain ⟨p, _, rfl⟩ := List.mem_map.mp hx
    have : deps (p.map MV.int) ≤ 0 := deps_le fun y hy => by obtain ⟨i, _, rfl⟩ := List.mem_map.mp hy; simp [dep]
    simp only [dep]
    omega
  simp only [dep]
  omega
theorem atF_dep : ∀ (is : List Int) (t r : MV), atF t is = some r → dep r ≤ dep t
  | [], t, r, e => by simp only [atF] at e; cases e; omega
  | i :: is, t, r, e => by
    cases t with
    | tup xs =>
      simp only [atF, Option.bind_eq_some_iff] at e
      obtain ⟨x, e1, e2⟩ := e
      have hx : x ∈ xs := by
        unfold idx L2.atI at e1
        obtain ⟨j, _, e3⟩ := Option.bind_eq_some_iff.mp e1
        exact List.mem_of_getElem? e3
      have := atF_dep is x r e2
      have := deps_mem hx
      simp only [dep]
      omega
    | _ => simp [atF] at e
section
variable {sc : Option MV} {l n : Nat} {o2 o3 o4 o5 o6 o7 o8 o9 o10 o11 o12 : Option MV} {mh : MHp}
theorem s1_ok (S : St l n mh) : ∃ ps mh', ps ∈ tongues ∧ ex CC 0 (.set (.nm 3) (.call 15 [(.var 1)])) (LE sc l o2 o3 o4 o5 o6 o7 o8 o9 o10 o11 o12) mh = some (.nx, LE sc l o2 (some (.tup ps)) o4 o5 o6 o7 o8 o9 o10 o11 o12, mh') ∧ St l n mh' := by
  obtain ⟨ps, mh', hps, e, S'⟩ := tongue_ok hTake hPick hTongue 137 S
  refine ⟨ps, mh', hps, ?_, S'⟩
  have e : callM T 140 15 [.loc l] mh = _ := e
  simp [ex, ev, evs, e, asg]
theorem s2_ok {ps : List MV} (hps : ps ∈ tongues) (S : St l n mh) : ∃ t mh', ex CC 0 (.set (.nm 4) (.call 16 [(.var 1), (.var 3), (.call 14 [(.var 1), (.lst [(.lst []), (.lst [(.c (.str [88]))]), (.lst [(.c (.str [88])), (.c (.str [89])), (.c (.str [90]))])])]), (.c (.int (5)))])) (LE sc l o2 (some (.tup ps)) o4 o5 o6 o7 o8 o9 o10 o11 o12) mh = some (.nx, LE sc l o2 (some (.tup ps)) (some t) o5 o6 o7 o8 o9 o10 o11 o12, mh') ∧ St l n mh' ∧ TmOk t := by
  obtain ⟨y, mh1, hy, e1, S1⟩ := pick_ok hTake hPick 138 S [.lst [], .lst [.str [88]], .lst [.str [88], .str [89], .str [90]]] (by simp) (by simp) (by decide)
  have hn : ∃ names, y = .lst names ∧ names.length ≤ 1000 ∧ dats names = true ∧ ∀ x ∈ names, ∃ s, x = .str s ∧ tm (.str s) = true := by
    simp only [List.mem_cons, List.not_mem_nil, or_false] at hy
    rcases hy with rfl | rfl | rfl <;> exact ⟨_, rfl, by simp, by decide, by simp [tm]⟩
  obtain ⟨names, rfl, n1, n2, n3⟩ := hn
  obtain ⟨t, mh2, e2, S2, d⟩ := term_ok hTake hPick hTerm (P0 := fun t => tm t = true) (tokG_of hps) (hP0 ps) n1 n2 n3 4 133 S1
  have e1 : callM T 140 14 [.loc l, .lst [.lst [], .lst [.str [88]], .lst [.str [88], .str [89], .str [90]]]] mh = _ := e1
  have e2 : callM T 140 16 [.loc l, .tup ps, .lst names, .int 5] mh1 = _ := e2
  refine ⟨t, mh2, ?_, S2, ⟨d.good, d.dat, d.cnt, d.dep⟩⟩
  have z0 : 0 ≤ line := by unfold line; omega
  have z1 : 1 ≤ line := by unfold line; omega
  have z3 : 3 ≤ line := by unfold line; omega
  simp [ex, ev, evs, z0, z1, z3, e1, e2, asg]
variable {t : MV} (ht : TmOk t)
include ht
theorem s3_ok : ex CC 0 (.set (.nm 5) (.call 18 [(.var 4)])) (LE sc l o2 o3 (some t) o5 o6 o7 o8 o9 o10 o11 o12) mh = some (.nx, LE sc l o2 o3 (some t) (some (.lst ((pls t).map pV))) o6 o7 o8 o9 o10 o11 o12, mh) := by
  have e : callM T 140 18 [t] mh = _ := sp_places 121 19 t mh ht.cnt (by omega) ht.tm ht.dat
  simp [ex, ev, evs, e, asg]
theorem s4_ok : ex CC 0 (.set (.nm 6) (.call 17 [(.var 4)])) (LE sc l o2 o3 (some t) o5 o6 o7 o8 o9 o10 o11 o12) mh = some (.nx, LE sc l o2 o3 (some t) o5 (some (.lst (vars t))) o7 o8 o9 o10 o11 o12, mh) := by
  have e : callM T 140 17 [t] mh = _ := sp_names 121 19 t mh ht.cnt (by omega) ht.tm ht.dat
  simp [ex, ev, evs, e, asg]
theorem s5_ok : ex CC 0 (.set (.nm 7) (.comp (.nm 8) [8] (.var 5) (.isi (.call 19 [(.var 4), (.var 8)]) .str) (.call 19 [(.var 4), (.var 8)]))) (LE sc l o2 o3 (some t) (some (.lst ((pls t).map pV))) o6 o7 o8 o9 o10 o11 o12) mh = some (.nx, LE sc l o2 o3 (some t) (some (.lst ((pls t).map pV))) o6 (some (.lst (lvs t))) o8 o9 o10 o11 o12, mh) := by
  have hg : ev CC 0 (.comp (.nm 8) [8] (.var 5) (.isi (.call 19 [(.var 4), (.var 8)]) .str) (.call 19 [(.var 4), (.var 8)])) (LE sc l o2 o3 (some t) (some (.lst ((pls t).map pV))) o6 o7 o8 o9 o10 o11 o12) mh = some (.lst (lvs t), mh) := by
    have ei : evI CC 0 (.var 5) (LE sc l o2 o3 (some t) (some (.lst ((pls t).map pV))) o6 o7 o8 o9 o10 o11 o12) mh = some (⟨(pls t).map pV, none⟩, mh) := by
      simp [evI, ev, itsOf]
    have hz : ((pls t).map pV).length ≤ line := by rw [List.length_map, pls_len]; have := ht.cnt; unfold line; omega
    rw [ev_compq, ei]
    simp only [hz, if_true]
    rw [compGo_pure rfl (g := fun v => (tupI v).bind (stG t))]
    · simp only
      rw [List.filterMap_map, ← st_lvs t]
      congr 3
      congr 1
      funext p
      simp only [Function.comp, tupI_pV, Option.bind_some]
    · intro v hv
      obtain ⟨p, hp, rfl⟩ := List.mem_map.mp hv
      obtain ⟨r, hr⟩ := pls_at p t hp
      have e : callM T 140 19 [t, .tup (p.map .int)] mh = _ := sp_lat 139 mh ht.dat hr
      have dr := atF_dat p t r ht.dat hr
      have it := isTy_str (mh := mh) dr
      have tv := tupI_pV p
      simp only [pV] at tv
      simp only [tv, Option.bind_some, stG, hr]
      cases r with
      | str s => simp only [isS] at it; simp [compF, asg, wipeE, ev, evs, e, it]
      | _ => simp only [isS] at it; simp [compF, asg, wipeE, ev, evs, e, it]
  rw [ex, hg]
  simp [asg]
theorem s6_ok : ex CC 0 (.ite (.or (.cmp .ne (.call 2 [(.var 4)]) (.bi .len [(.var 5)])) (.or (.cmp .ne (.call 3 [(.var 4)]) (.call 21 [(.var 4)])) (.or (.cmp .ne (.call 4 [(.var 4)]) (.var 6)) (.cmp .ne (.call 5 [(.var 4)]) (.cmp .eq (.bi .len [(.var 6)]) (.c (.int (0)))))))) [(.ret (.c (.bl false)))] []) (LE sc l o2 o3 (some t) (some (.lst ((pls t).map pV))) (some (.lst (vars t))) o7 o8 o9 o10 o11 o12) mh = some (.nx, LE sc l o2 o3 (some t) (some (.lst ((pls t).map pV))) (some (.lst (vars t))) o7 o8 o9 o10 o11 o12, mh) := by
  have e2 : callM T 140 2 [t] mh = _ := sp_size 121 18 t mh ht.cnt (by omega) ht.tm ht.dat
  have e3 : callM T 140 3 [t] mh = _ := sp_depth 121 18 t mh ht.cnt (by omega) ht.tm ht.dat
  have e21 : callM T 140 21 [t] mh = _ := sp_ldepth 121 19 t mh ht.cnt (by omega) ht.tm ht.dat
  have e4 : callM T 140 4 [t] mh = _ := sp_vars 121 18 t mh ht.cnt (by omega) ht.tm ht.dat
  have e5 : callM T 140 5 [t] mh = _ := sp_ground 121 17 t mh ht.cnt (by omega) ht.tm ht.dat
  have hva := (vars_all t ht.tm ht.dat).1
  have r4 : eqV mh (.lst (vars t)) (.lst (vars t)) = some true := eqV_refl mh (by unfold dat; exact hva.dats) (by
    have : deps (vars t) ≤ 0 := deps_le fun x hx => by obtain ⟨s, rfl, _⟩ := hva x hx; simp [dep]
    simp only [dep]; omega)
  have hl := pls_len t
  generalize vars t = V at *
  simp [ex, exs, ev, evs, e2, e3, e21, e4, e5, biV, one1, lenV, getL, hl, cmpV, eqV_int, r4, eqV_bl]
theorem s7_ok : ex CC 0 (.ite (.or (.cmp .ne (.call 7 [(.var 4)]) (.var 5)) (.or (.cmp .ne (.var 5) (.bi .sorted [(.var 5)])) (.cmp .ne (.call 11 [(.var 4)]) (.call 22 [(.var 4)])))) [(.ret (.c (.bl false)))] []) (LE sc l o2 o3 (some t) (some (.lst ((pls t).map pV))) o6 o7 o8 o9 o10 o11 o12) mh = some (.nx, LE sc l o2 o3 (some t) (some (.lst ((pls t).map pV))) o6 o7 o8 o9 o10 o11 o12, mh) := by
  have e7 : callM T 140 7 [t] mh = _ := sp_positions 121 18 t mh ht.cnt (by omega) ht.tm ht.dat
  have e11 : callM T 140 11 [t] mh = _ := sp_parts 121 18 t mh ht.cnt (by omega) ht.tm ht.dat (by have := ht.dep; omega)
  have e22 : callM T 140 22 [t] mh = _ := sp_lparts 121 19 t mh ht.cnt (by omega) ht.tm ht.dat (by have := ht.dep; omega)
  have hs := sorted_pls (mh := mh) t
  have hpa := (pts_all t ht.dat).1
  have rP : eqV mh (.lst (pts t)) (.lst (pts t)) = some true := eqV_refl mh (by unfold dat; exact hpa.dats) (by
    have : deps (pts t) ≤ dep t := deps_le fun x hx => (hpa x hx).2
    have := ht.dep
    simp only [dep]; omega)
  have rQ : eqV mh (.lst ((pls t).map pV)) (.lst ((pls t).map pV)) = some true := eqV_refl mh (by unfold dat; exact pV_dats _) (by have := pV_deps (pls t); omega)
  generalize (pls t).map pV = P at *
  generalize pts t = Q at *
  simp [ex, exs, ev, evs, e7, e11, e22, biV, one1, cmpV, rP, rQ, hs]
theorem s8_ok : ex CC 0 (.ite (.cmp .ne (.comp (.nm 13) [13] (.bin .add (.var 6) (.lst [(.c (.str [81]))])) (.c (.bl true)) (.call 6 [(.var 4), (.var 13)])) (.comp (.nm 13) [13] (.bin .add (.var 6) (.lst [(.c (.str [81]))])) (.c (.bl true)) (.bi .len [(.comp (.nm 14) [14] (.var 7) (.cmp .eq (.var 14) (.var 13)) (.var 14))]))) [(.ret (.c (.bl false)))] []) (LE sc l o2 o3 (some t) o5 (some (.lst (vars t))) (some (.lst (lvs t))) o8 o9 o10 o11 o12) mh = some (.nx, LE sc l o2 o3 (some t) o5 (some (.lst (vars t))) (some (.lst (lvs t))) o8 o9 o10 o11 o12, mh) := by
  obtain ⟨hva, hvl⟩ := vars_all t ht.tm ht.dat
  have hc := ht.cnt
  have hN : AllS (vars t ++ [.str [81]]) := hva.app fun x hx => by simp at hx; subst hx; exact ⟨_, rfl, by decide⟩
  have hls := lvs_str t ht.dat
  have hll := lvs_len t
  have hlen : (vars t).length + 1 ≤ line := by unfold line; omega
  obtain ⟨N, hNe⟩ : ∃ N, N = vars t ++ [.str [81]] := ⟨_, rfl⟩
  have hNl : N.length ≤ line := by rw [hNe, List.length_append]; exact hlen
  rw [← hNe] at hN
  have ei : evI CC 0 (.bin .add (.var 6) (.lst [(.c (.str [81]))])) (LE sc l o2 o3 (some t) o5 (some (.lst (vars t))) (some (.lst (lvs t))) o8 o9 o10 o11 o12) mh = some (⟨N, none⟩, mh) := by
    have z1 : 1 ≤ line := by unfold line; omega
    rw [hNe]
    simp [evI, ev, evs, z1, binV, addV, getL, hlen, itsOf]
  have g1 : ev CC 0 (.comp (.nm 13) [13] (.bin .add (.var 6) (.lst [(.c (.str [81]))])) (.c (.bl true)) (.call 6 [(.var 4), (.var 13)])) (LE sc l o2 o3 (some t) o5 (some (.lst (vars t))) (some (.lst (lvs t))) o8 o9 o10 o11 o12) mh = some (.lst (N.filterMap fun v => match v with | .str s => some (.int (cou s t)) | _ => none), mh) := by
    rw [ev_compq, ei]
    simp only [hNl, if_true]
    rw [compGo_pure rfl (g := fun v => match v with | .str s => some (.int (cou s t)) | _ => none)]
    intro x hx
    obtain ⟨s, rfl, hs⟩ := hN x hx
    have e : callM T 140 6 [t, .str s] mh = _ := sp_count hs 121 18 t mh hc (by omega) ht.tm ht.dat
    simp [compF, asg, wipeE, ev, evs, e]
  have g2 : ev CC 0 (.comp (.nm 13) [13] (.bin .add (.var 6) (.lst [(.c (.str [81]))])) (.c (.bl true)) (.bi .len [(.comp (.nm 14) [14] (.var 7) (.cmp .eq (.var 14) (.var 13)) (.var 14))])) (LE sc l o2 o3 (some t) o5 (some (.lst (vars t))) (some (.lst (lvs t))) o8 o9 o10 o11 o12) mh = some (.lst (N.filterMap fun v => match v with | .str s => some (.int (cou s t)) | _ => none), mh) := by
    rw [ev_compq, ei]
    simp only [hNl, if_true]
    rw [compGo_pure rfl (g := fun v => match v with | .str s => some (.int (cou s t)) | _ => none)]
    intro x hx
    obtain ⟨s, rfl, hs⟩ := hN x hx
    have inn : ev CC 0 (.comp (.nm 14) [14] (.var 7) (.cmp .eq (.var 14) (.var 13)) (.var 14)) [sc, some (.loc l), o2, o3, some t, o5, some (.lst (vars t)), some (.lst (lvs t)), o8, o9, o10, o11, o12, some (.str s), none, none] mh = some (.lst ((lvs t).filter (isE s)), mh) := by
      have ej : evI CC 0 (.var 7) [sc, some (.loc l), o2, o3, some t, o5, some (.lst (vars t)), some (.lst (lvs t)), o8, o9, o10, o11, o12, some (.str s), none, none] mh = some (⟨lvs t, none⟩, mh) := by simp [evI, ev, itsOf]
      have hz : (lvs t).length ≤ line := by unfold line; omega
      rw [ev_compq, ej]
      simp only [hz, if_true]
      rw [compGo_pure rfl (g := fun e => if isE s e = true then some e else none)]
      · simp only
        rw [fm_filter]
      · intro e he
        obtain ⟨r, rfl, hr⟩ := hls e he
        have q := eqV_str mh r s hr hs
        by_cases h : r = s
        · simp [h] at q
          simp [compF, asg, wipeE, ev, cmpV, h, q, isE]
        · simp [h] at q
          simp [compF, asg, wipeE, ev, cmpV, h, q, isE]
    have hcl := cou_lvs s t
    simp [compF, asg, wipeE, ev, evs, ↓inn, biV, one1, lenV, getL, hcl]
  obtain ⟨R, hR⟩ : ∃ R, R = N.filterMap fun v => match v with | .str s => some (MV.int (cou s t)) | _ => none := ⟨_, rfl⟩
  rw [← hR] at g1 g2
  have hRi : ∀ x ∈ R, ∃ i, x = .int i := fun x hx => by
    rw [hR] at hx
    obtain ⟨v, _, hv⟩ := List.mem_filterMap.mp hx
    split at hv
    · cases hv; exact ⟨_, rfl⟩
    · cases hv
  have rR : eqV mh (.lst R) (.lst R) = some true := eqV_refl mh (by unfold dat; exact dats_iff.mpr fun x hx => by obtain ⟨i, rfl⟩ := hRi x hx; rfl) (by
    have : deps R ≤ 0 := deps_le fun x hx => by obtain ⟨i, rfl⟩ := hRi x hx; simp [dep]
    simp only [dep]; omega)
  have c : ev CC 0 (.cmp .ne (.comp (.nm 13) [13] (.bin .add (.var 6) (.lst [(.c (.str [81]))])) (.c (.bl true)) (.call 6 [(.var 4), (.var 13)])) (.comp (.nm 13) [13] (.bin .add (.var 6) (.lst [(.c (.str [81]))])) (.c (.bl true)) (.bi .len [(.comp (.nm 14) [14] (.var 7) (.cmp .eq (.var 14) (.var 13)) (.var 14))]))) (LE sc l o2 o3 (some t) o5 (some (.lst (vars t))) (some (.lst (lvs t))) o8 o9 o10 o11 o12) mh = some (.bl false, mh) := by
    rw [ev, g1]
    simp only
    rw [g2]
    simp [cmpV, rR]
  rw [ex, c]
  simp only [exs]
theorem s9_ok (S : St l n mh) : ∃ p mh', p ∈ pls t ∧ ex CC 0 (.set (.nm 8) (.call 14 [(.var 1), (.var 5)])) (LE sc l o2 o3 o4 (some (.lst ((pls t).map pV))) o6 o7 o8 o9 o10 o11 o12) mh = some (.nx, LE sc l o2 o3 o4 (some (.lst ((pls t).map pV))) o6 o7 (some (pV p)) o9 o10 o11 o12, mh') ∧ St l n mh' := by
  have hl := pls_len t
  have hc := ht.cnt
  have hcp := cnt_pos t
  obtain ⟨y, mh', hy, e, S'⟩ := pick_ok hTake hPick 138 S ((pls t).map pV) (fun h => by
    have := congrArg List.length h
    rw [List.length_map, hl] at this
    simp at this
    omega) (by rw [List.length_map]; omega) (pV_dats _)
  obtain ⟨p, hp, rfl⟩ := List.mem_map.mp hy
  have e : callM T 140 14 [.loc l, .lst ((pls t).map pV)] mh = _ := e
  refine ⟨p, mh', hp, ?_, S'⟩
  generalize (pls t).map pV = P at *
  simp [ex, ev, evs, e, asg]
omit ht in
theorem s10_ok {ps : List MV} (hps : ps ∈ tongues) (S : St l n mh) : ∃ r mh', ex CC 0 (.set (.nm 9) (.call 16 [(.var 1), (.var 3), (.lst [(.c (.str [88])), (.c (.str [87]))]), (.c (.int (3)))])) (LE sc l o2 (some (.tup ps)) o4 o5 o6 o7 o8 o9 o10 o11 o12) mh = some (.nx, LE sc l o2 (some (.tup ps)) o4 o5 o6 o7 o8 (some r) o10 o11 o12, mh') ∧ St l n mh' ∧ dat r = true ∧ dep r ≤ 3 := by
  obtain ⟨t, mh2, e2, S2, d⟩ := term_ok hTake hPick hTerm (P0 := fun t => tm t = true) (names := [.str [88], .str [87]]) (tokG_of hps) (hP0 ps) (by simp) (by decide) (by simp [tm]) 2 135 S
  have e2 : callM T 140 16 [.loc l, .tup ps, .lst [.str [88], .str [87]], .int 3] mh = _ := e2
  refine ⟨t, mh2, ?_, S2, d.dat, d.dep⟩
  have z2 : 2 ≤ line := by unfold line; omega
  simp [ex, ev, evs, z2, e2, asg]
theorem s11_ok {p : List Int} (hp : p ∈ pls t) {r : MV} (hr : dat r = true) (hr3 : dep r ≤ 3) : ex CC 0 (.ite (.or (.cmp .ne (.call 9 [(.var 4), (.var 8)]) (.call 19 [(.var 4), (.var 8)])) (.cmp .ne (.call 10 [(.var 4), (.var 8), (.var 9)]) (.call 20 [(.var 4), (.var 8), (.var 9)]))) [(.ret (.c (.bl false)))] []) (LE sc l o2 o3 (some t) o5 o6 o7 (some (pV p)) (some r) o10 o11 o12) mh = some (.nx, LE sc l o2 o3 (some t) o5 o6 o7 (some (pV p)) (some r) o10 o11 o12, mh) := by
  obtain ⟨x, hx⟩ := pls_at p t hp
  have hd5 := ht.dep
  have hc := ht.cnt
  have hpl := pls_plen p t hp
  have e9 : callM T 140 9 [t, pV p] mh = _ := sp_at 139 mh ht.dat hx
  have e19 : callM T 140 19 [t, pV p] mh = _ := sp_lat 139 mh ht.dat hx
  obtain ⟨u, du, pu, hu⟩ := put_ok hr p t hp (by omega) ht.dat
  have e10 := hu 10 rfl (139 - p.length) mh
  have e20 := hu 20 rfl (139 - p.length) mh
  rw [show 139 - p.length + p.length + 1 = 140 by omega] at e10 e20
  have rx : eqV mh x x = some true := eqV_refl mh (atF_dat p t x ht.dat hx) (by have := atF_dep p t x hx; omega)
  have ru : eqV mh u u = some true := eqV_refl mh du (by omega)
  generalize pV p = q at *
  simp [ex, exs, ev, evs, e9, e19, e10, e20, cmpV, rx, ru]
end
/-- what is due for a value -/
def dueV (P : List MV) : MV → Bool
  | .tup vs => hasV P (.tup vs) && decide ((vs.filter isB).length = 0)
  | _ => false
abbrev valBody : List MS := [(.set (.nm 11) (.and (.isi (.var 10) .tuple) (.and (.cmp .mem (.var 10) (.var 5)) (.cmp .eq (.bi .len [(.comp (.nm 15) [15] (.var 10) (.isi (.var 15) .bool) (.var 15))]) (.c (.int (0))))))), (.set (.nm 12) (.call 8 [(.var 4), (.var 10)])), (.ite (.or (.not (.isi (.var 12) .bool)) (.cmp .ne (.var 12) (.var 11))) [(.ret (.c (.bl false)))] [])]
section
variable {sc : Option MV} {l n : Nat} {o2 o3 o6 o7 o8 o9 o10 o11 o12 : Option MV} {mh : MHp} {t : MV} (ht : TmOk t)
include ht
theorem val_step {v : MV} (hd : dat v = true) (hp : dep v ≤ 2) (hl : ∀ vs, v = .tup vs → vs.length ≤ 1000) (he : dueV ((pls t).map pV) v = hpV t v) :
    forF CC 0 (.nm 10) valBody v (LE sc l o2 o3 (some t) (some (.lst ((pls t).map pV))) o6 o7 o8 o9 o10 o11 o12) mh = some (.nx, LE sc l o2 o3 (some t) (some (.lst ((pls t).map pV))) o6 o7 o8 o9 (some v) (some (.bl (hpV t v))) (some (.bl (hpV t v))), mh) := by
  have e8 : callM T 140 8 [t, v] mh = _ := sp_hp 138 t v mh ht.tm ht.dat hd
  have aP : AllD 2 ((pls t).map pV) := fun x hx => by
    obtain ⟨p, hpp, rfl⟩ := List.mem_map.mp hx
    refine ⟨pV_dat p, ?_⟩
    have : deps (p.map MV.int) ≤ 0 := deps_le fun y hy => by obtain ⟨i, _, rfl⟩ := List.mem_map.mp hy; simp [dep]
    simp only [dep]
    omega
  generalize (pls t).map pV = P at *
  have due : ev CC 0 (.and (.isi (.var 10) .tuple) (.and (.cmp .mem (.var 10) (.var 5)) (.cmp .eq (.bi .len [(.comp (.nm 15) [15] (.var 10) (.isi (.var 15) .bool) (.var 15))]) (.c (.int (0)))))) (LE sc l o2 o3 (some t) (some (.lst P)) o6 o7 o8 o9 (some v) o11 o12) mh = some (.bl (dueV P v), mh) := by
    cases v with
    | tup vs =>
      have hm := mem_d (mh := mh) (by omega) aP (x := .tup vs) ⟨hd, hp⟩
      have hdv : dats vs = true := by unfold dat at hd; exact hd
      have hl' := hl vs rfl
      have hcm : ev CC 0 (.comp (.nm 15) [15] (.var 10) (.isi (.var 15) .bool) (.var 15)) (LE sc l o2 o3 (some t) (some (.lst P)) o6 o7 o8 o9 (some (.tup vs)) o11 o12) mh = some (.lst (vs.filter isB), mh) := by
        have ei : evI CC 0 (.var 10) (LE sc l o2 o3 (some t) (some (.lst P)) o6 o7 o8 o9 (some (.tup vs)) o11 o12) mh = some (⟨vs, none⟩, mh) := by simp [evI, ev, itsOf]
        have hz : vs.length ≤ line := by unfold line; omega
        rw [ev_compq, ei]
        simp only [hz, if_true]
        rw [compGo_pure rfl (g := fun e => if isB e = true then some e else none)]
        · simp only
          rw [fm_filter]
        · intro x hx
          have ib := isTy_bool (mh := mh) (dats_iff.mp hdv x hx)
          cases hb : isB x <;> rw [hb] at ib <;> simp [compF, asg, wipeE, ev, ib]
      have h0 : ev CC 0 (.cmp .eq (.bi .len [(.comp (.nm 15) [15] (.var 10) (.isi (.var 15) .bool) (.var 15))]) (.c (.int (0)))) (LE sc l o2 o3 (some t) (some (.lst P)) o6 o7 o8 o9 (some (.tup vs)) o11 o12) mh = some (.bl (decide ((vs.filter isB).length = 0)), mh) := by
        rw [ev, ev, evs, hcm]
        generalize vs.filter isB = W
        simp [evs, biV, one1, lenV, getL, ev, cmpV, eqV_int]
      have h1 : ev CC 0 (.isi (.var 10) .tuple) (LE sc l o2 o3 (some t) (some (.lst P)) o6 o7 o8 o9 (some (.tup vs)) o11 o12) mh = some (.bl true, mh) := by simp [ev, isTy]
      have h2 : ev CC 0 (.cmp .mem (.var 10) (.var 5)) (LE sc l o2 o3 (some t) (some (.lst P)) o6 o7 o8 o9 (some (.tup vs)) o11 o12) mh = some (.bl (hasV P (.tup vs)), mh) := by simp [ev, cmpV, hm]
      rw [ev, h1]
      simp only
      rw [ev, h2]
      show _ = some (MV.bl (hasV P (.tup vs) && decide ((vs.filter isB).length = 0)), mh)
      cases hb : hasV P (.tup vs) with
      | true => simpa using h0
      | false => rfl
    | fn _ => cases hd
    | loc _ => cases hd
    | dct _ _ => cases hd
    | scr _ => cases hd
    | _ => simp [ev, isTy, dueV]
  rw [he] at due
  have t1 : ex CC 0 (.set (.nm 11) (.and (.isi (.var 10) .tuple) (.and (.cmp .mem (.var 10) (.var 5)) (.cmp .eq (.bi .len [(.comp (.nm 15) [15] (.var 10) (.isi (.var 15) .bool) (.var 15))]) (.c (.int (0))))))) (LE sc l o2 o3 (some t) (some (.lst P)) o6 o7 o8 o9 (some v) o11 o12) mh = some (.nx, LE sc l o2 o3 (some t) (some (.lst P)) o6 o7 o8 o9 (some v) (some (.bl (hpV t v))) o12, mh) := by
    rw [ex, due]
    simp [asg]
  have t0 : asg mh (.nm 10) v (LE sc l o2 o3 (some t) (some (.lst P)) o6 o7 o8 o9 o10 o11 o12) = some (LE sc l o2 o3 (some t) (some (.lst P)) o6 o7 o8 o9 (some v) o11 o12) := by simp [asg]
  unfold forF
  rw [t0]
  simp only
  rw [valBody, exs, t1]
  simp [exs, ex, ev, evs, e8, asg, isTy, cmpV, eqV_bl]
theorem val_loop {J : Its} (hJ : J.src = none) : ∀ (xs : List MV) (o10 o11 o12 : Option MV), (∀ v ∈ xs, dat v = true ∧ dep v ≤ 2 ∧ (∀ vs, v = .tup vs → vs.length ≤ 1000) ∧ dueV ((pls t).map pV) v = hpV t v) →
    ∃ p10 p11 p12, forGo J (forF CC 0 (.nm 10) valBody) xs (LE sc l o2 o3 (some t) (some (.lst ((pls t).map pV))) o6 o7 o8 o9 o10 o11 o12) mh = some (.nx, LE sc l o2 o3 (some t) (some (.lst ((pls t).map pV))) o6 o7 o8 o9 p10 p11 p12, mh)
  | [], o10, o11, o12, _ => ⟨_, _, _, forGo_nil_of hJ⟩
  | v :: xs, o10, o11, o12, h => by
    obtain ⟨h1, h2, h3, h4⟩ := h v (by simp)
    rw [forGo_cons_of hJ, val_step ht h1 h2 h3 h4]
    exact val_loop hJ xs _ _ _ fun w hw => h w (List.mem_cons_of_mem _ hw)
theorem int_due (q : List Int) : dueV ((pls t).map pV) (pV q) = hpV t (pV q) := by
  have e1 : (q.map MV.int).filter isB = [] := by
    rw [List.filter_eq_nil_iff]
    intro x hx
    obtain ⟨i, _, rfl⟩ := List.mem_map.mp hx
    simp [isB]
  have e2 := hasV_pV (pls t) q
  have e3 := hpB_pls q t ht.tm ht.dat
  simp only [dueV, hpV, pV] at *
  rw [e1, e2, e3]
  simp
abbrev vals (p : List Int) : List MV := [pV p, .tup (p.map .int ++ [.int 1]), .tup (p.map .int ++ [.int 9]), .tup (p.map .int ++ [.int 0]), .tup (p.map .int ++ [.int (-1)]), .tup (p.map .int ++ [.bl true]), .tup (p.map .int ++ [.non]), .lst (p.map .int), .non, .int 5]
theorem vals_ok {p : List Int} (hp : p.length ≤ 900) : ∀ v ∈ vals p, dat v = true ∧ dep v ≤ 2 ∧ (∀ vs, v = .tup vs → vs.length ≤ 1000) ∧ dueV ((pls t).map pV) v = hpV t v := by
  have dI : ∀ q : List Int, dats (q.map MV.int) = true := fun q => dats_iff.mpr fun x hx => by obtain ⟨i, _, rfl⟩ := List.mem_map.mp hx; rfl
  have pI : ∀ q : List Int, deps (q.map MV.int) ≤ 0 := fun q => deps_le fun y hy => by obtain ⟨i, _, rfl⟩ := List.mem_map.mp hy; simp [dep]
  have hI : ∀ i : Int, dat (.tup (p.map .int ++ [.int i])) = true ∧ dep (.tup (p.map .int ++ [.int i])) ≤ 2 ∧ (∀ vs, MV.tup (p.map .int ++ [.int i]) = .tup vs → vs.length ≤ 1000) ∧ dueV ((pls t).map pV) (.tup (p.map .int ++ [.int i])) = hpV t (.tup (p.map .int ++ [.int i])) := fun i => by
    have e : MV.tup (p.map .int ++ [.int i]) = pV (p ++ [i]) := by simp [pV]
    rw [e]
    refine ⟨pV_dat _, ?_, fun vs h => ?_, int_due ht _⟩
    · have := pI (p ++ [i])
      simp only [dep]; omega
    · cases h; simp; omega
  have hX : ∀ x : MV, dat x = true → dep x = 0 → (∀ i, x ≠ .int i) → hasV ((pls t).map pV) (.tup (p.map .int ++ [x])) = false ∨ isB x = true → dat (.tup (p.map .int ++ [x])) = true ∧ dep (.tup (p.map .int ++ [x])) ≤ 2 ∧ (∀ vs, MV.tup (p.map .int ++ [x]) = .tup vs → vs.length ≤ 1000) ∧ dueV ((pls t).map pV) (.tup (p.map .int ++ [x])) = hpV t (.tup (p.map .int ++ [x])) := fun x dx px hx hc => by
    refine ⟨?_, ?_, fun vs h => ?_, ?_⟩
    · unfold dat; rw [dats_app, dI]; simp [dats, dx]
    · have := pI p
      simp only [dep, deps_app, deps]; omega
    · cases h; simp; omega
    · have := hpB_bad hx p t ht.tm ht.dat
      simp only [hpV, this, dueV]
      rcases hc with h | h
      · rw [h]; rfl
      · have : ¬ (((p.map MV.int ++ [x]).filter isB).length = 0) := by
          rw [List.filter_append]
          simp [h]
        rw [decide_eq_false this, Bool.and_false]
  intro v hv
  simp only [vals, List.mem_cons, List.not_mem_nil, or_false] at hv
  rcases hv with rfl | rfl | rfl | rfl | rfl | rfl | rfl | rfl | rfl | rfl
  · refine ⟨pV_dat _, ?_, fun vs h => ?_, int_due ht _⟩
    · have := pI p
      simp only [dep]; omega
    · cases h; simp; omega
  · exact hI 1
  · exact hI 9
  · exact hI 0
  · exact hI (-1)
  · exact hX (.bl true) rfl rfl (fun i h => by cases h) (.inr rfl)
  · exact hX .non rfl rfl (fun i h => by cases h) (.inl (hasV_non _ _))
  · refine ⟨by unfold dat; exact dI p, ?_, fun vs h => (by cases h), rfl⟩
    have := pI p
    simp only [dep]; omega
  · exact ⟨rfl, by simp [dep], fun vs h => (by cases h), rfl⟩
  · exact ⟨rfl, by simp [dep], fun vs h => (by cases h), rfl⟩
theorem s12_ok {p : List Int} (hp : p ∈ pls t) : ∃ p10 p11 p12, ex CC 0 (.for (.nm 10) (.lst [(.var 8), (.bin .add (.var 8) (.tup [(.c (.int (1)))])), (.bin .add (.var 8) (.tup [(.c (.int (9)))])), (.bin .add (.var 8) (.tup [(.c (.int (0)))])), (.bin .add (.var 8) (.tup [(.neg (.c (.int (1))))])), (.bin .add (.var 8) (.tup [(.c (.bl true))])), (.bin .add (.var 8) (.tup [(.c .non)])), (.bi .list [(.var 8)]), (.c .non), (.c (.int (5)))]) valBody) (LE sc l o2 o3 (some t) (some (.lst ((pls t).map pV))) o6 o7 (some (pV p)) o9 o10 o11 o12) mh = some (.nx, LE sc l o2 o3 (some t) (some (.lst ((pls t).map pV))) o6 o7 (some (pV p)) o9 p10 p11 p12, mh) := by
  have hpl := pls_plen p t hp
  have hc := ht.cnt
  obtain ⟨p10, p11, p12, e⟩ := val_loop (sc := sc) (l := l) (o2 := o2) (o3 := o3) (o6 := o6) (o7 := o7) (o8 := some (pV p)) (o9 := o9) (mh := mh) ht (J := ⟨vals p, none⟩) rfl (vals p) o10 o11 o12 (vals_ok ht (by omega))
  refine ⟨p10, p11, p12, ?_⟩
  rw [ex_for]
  have ei : evI CC 0 (.lst [(.var 8), (.bin .add (.var 8) (.tup [(.c (.int (1)))])), (.bin .add (.var 8) (.tup [(.c (.int (9)))])), (.bin .add (.var 8) (.tup [(.c (.int (0)))])), (.bin .add (.var 8) (.tup [(.neg (.c (.int (1))))])), (.bin .add (.var 8) (.tup [(.c (.bl true))])), (.bin .add (.var 8) (.tup [(.c .non)])), (.bi .list [(.var 8)]), (.c .non), (.c (.int (5)))]) (LE sc l o2 o3 (some t) (some (.lst ((pls t).map pV))) o6 o7 (some (pV p)) o9 o10 o11 o12) mh = some (⟨vals p, none⟩, mh) := by
    have z1 : 1 ≤ line := by unfold line; omega
    have z2 : p.length + 1 ≤ line := by unfold line; omega
    have z10 : 10 ≤ line := by unfold line; omega
    simp [evI, ev, evs, z1, binV, addV, z2, biV, one1, lstV, z10, itsOf]
  rw [ei]
  exact e
end
end L2.Mi.k02

set_option Elab.async false
set_option linter.all false
set_option maxRecDepth 100000
set_option maxHeartbeats 4000000
namespace L2.Mi.k02
open PySem PySem.Spec PyProof.Rows L2.Mi
theorem ex_go {C : CallF} {base : Nat} {s : MS} {ss : List MS} {ρ ρ1 : Env} {mh mh1 : MHp} {r : Option (Fl × Env × MHp)} (h : ex C base s ρ mh = some (.nx, ρ1, mh1)) (h2 : exs C base ss ρ1 mh1 = r) : exs C base (s :: ss) ρ mh = r := by
  rw [exs, h]; exact h2
def turnBody : List MS := match d_law.body with
  | [_, .for _ _ b, _] => b
  | _ => []
theorem turn_ok {sc : Option MV} {l n : Nat} {o2 o3 o4 o5 o6 o7 o8 o9 o10 o11 o12 : Option MV} {mh : MHp} {x : MV} (S : St l n mh) :
    ∃ p3 p4 p5 p6 p7 p8 p9 p10 p11 p12 mh', forF CC 0 (.nm 2) turnBody x (LE sc l o2 o3 o4 o5 o6 o7 o8 o9 o10 o11 o12) mh = some (.nx, LE sc l (some x) p3 p4 p5 p6 p7 p8 p9 p10 p11 p12, mh') ∧ St l n mh' := by
  obtain ⟨ps, mh1, hps, e1, S1⟩ := s1_ok (sc := sc) (o2 := some x) (o3 := o3) (o4 := o4) (o5 := o5) (o6 := o6) (o7 := o7) (o8 := o8) (o9 := o9) (o10 := o10) (o11 := o11) (o12 := o12) S
  obtain ⟨t, mh2, e2, S2, ht⟩ := s2_ok (sc := sc) (o2 := some x) (o4 := o4) (o5 := o5) (o6 := o6) (o7 := o7) (o8 := o8) (o9 := o9) (o10 := o10) (o11 := o11) (o12 := o12) hps S1
  obtain ⟨p, mh3, hp, e9, S3⟩ := s9_ok (sc := sc) (o2 := some x) (o3 := some (.tup ps)) (o4 := some t) (o6 := some (.lst (vars t))) (o7 := some (.lst (lvs t))) (o8 := o8) (o9 := o9) (o10 := o10) (o11 := o11) (o12 := o12) ht S2
  obtain ⟨r, mh4, e10, S4, hr, hr3⟩ := s10_ok (sc := sc) (o2 := some x) (o4 := some t) (o5 := some (.lst ((pls t).map pV))) (o6 := some (.lst (vars t))) (o7 := some (.lst (lvs t))) (o8 := some (pV p)) (o9 := o9) (o10 := o10) (o11 := o11) (o12 := o12) hps S3
  obtain ⟨p10, p11, p12, e12⟩ := s12_ok (sc := sc) (l := l) (o2 := some x) (o3 := some (.tup ps)) (o6 := some (.lst (vars t))) (o7 := some (.lst (lvs t))) (o9 := some r) (o10 := o10) (o11 := o11) (o12 := o12) (mh := mh4) ht hp
  refine ⟨some (.tup ps), some t, some (.lst ((pls t).map pV)), some (.lst (vars t)), some (.lst (lvs t)), some (pV p), some r, p10, p11, p12, mh4, ?_, S4⟩
  have t0 : asg mh (.nm 2) x (LE sc l o2 o3 o4 o5 o6 o7 o8 o9 o10 o11 o12) = some (LE sc l (some x) o3 o4 o5 o6 o7 o8 o9 o10 o11 o12) := by simp [asg]
  unfold forF
  rw [t0]
  exact ex_go e1 (ex_go e2 (ex_go (s3_ok ht) (ex_go (s4_ok ht) (ex_go (s5_ok ht) (ex_go (s6_ok ht) (ex_go (s7_ok ht) (ex_go (s8_ok ht) (ex_go e9 (ex_go e10 (ex_go (s11_ok ht hp hr hr3) (ex_go e12 rfl)))))))))))
theorem turns {sc : Option MV} {l n : Nat} {J : Its} (hJ : J.src = none) : ∀ (xs : List MV) (o2 o3 o4 o5 o6 o7 o8 o9 o10 o11 o12 : Option MV) (mh : MHp), St l n mh →
    ∃ p2 p3 p4 p5 p6 p7 p8 p9 p10 p11 p12 mh', forGo J (forF CC 0 (.nm 2) turnBody) xs (LE sc l o2 o3 o4 o5 o6 o7 o8 o9 o10 o11 o12) mh = some (.nx, LE sc l p2 p3 p4 p5 p6 p7 p8 p9 p10 p11 p12, mh') ∧ St l n mh'
  | [], _, _, _, _, _, _, _, _, _, _, _, mh, S => ⟨_, _, _, _, _, _, _, _, _, _, _, _, forGo_nil_of hJ, S⟩
  | x :: xs, o2, o3, o4, o5, o6, o7, o8, o9, o10, o11, o12, mh, S => by
    obtain ⟨p3, p4, p5, p6, p7, p8, p9, p10, p11, p12, mh1, e, S1⟩ := turn_ok (sc := sc) (o2 := o2) (o3 := o3) (o4 := o4) (o5 := o5) (o6 := o6) (o7 := o7) (o8 := o8) (o9 := o9) (o10 := o10) (o11 := o11) (o12 := o12) (x := x) S
    rw [forGo_cons_of hJ, e]
    exact turns hJ xs _ _ _ _ _ _ _ _ _ _ _ mh1 S1
theorem law_true (ns : List Int) : ∃ mh, callM T 141 23 [.scr ns] [] = some (.bl true, mh) := by
  obtain ⟨l, n, mh0, e0, S0⟩ := state_ok hState 139 ns
  have a0 : ex CC 0 (.set (.nm 1) (.call 12 [(.var 0)])) [some (.scr ns), none, none, none, none, none, none, none, none, none, none, none, none, none, none, none] [] = some (.nx, LE (some (.scr ns)) l none none none none none none none none none none none, mh0) := by
    have e0 : callM T 140 12 [.scr ns] [] = some (.loc l, mh0) := e0
    simp [ex, ev, evs, e0, asg, LE]
  obtain ⟨p2, p3, p4, p5, p6, p7, p8, p9, p10, p11, p12, mh1, e1, S1⟩ := turns (sc := some (.scr ns)) (J := ⟨(List.range 4).map fun (k : Nat) => .int (k : Int), none⟩) rfl ((List.range 4).map fun (k : Nat) => MV.int (k : Int)) none none none none none none none none none none none mh0 S0
  have a1 : ex CC 0 (.for (.nm 2) (.rng1 (.c (.int (4)))) turnBody) (LE (some (.scr ns)) l none none none none none none none none none none none) mh0 = some (.nx, LE (some (.scr ns)) l p2 p3 p4 p5 p6 p7 p8 p9 p10 p11 p12, mh1) := by
    rw [ex_for]
    have : evI CC 0 (.rng1 (.c (.int (4)))) (LE (some (.scr ns)) l none none none none none none none none none none none) mh0 = some (⟨(List.range 4).map fun (k : Nat) => .int (k : Int), none⟩, mh0) := by simp [evI, ev]
    rw [this]
    exact e1
  have body : exs CC 0 d_law.body [some (.scr ns), none, none, none, none, none, none, none, none, none, none, none, none, none, none, none] [] = some (.rt (.bl true), LE (some (.scr ns)) l p2 p3 p4 p5 p6 p7 p8 p9 p10 p11 p12, mh1) := by
    refine ex_go a0 (ex_go a1 ?_)
    simp [exs, ex, ev]
  refine ⟨mh1.take 0, ?_⟩
  rw [callM_eq (d := d_law) rfl]
  exact run_of rfl rfl body rfl rfl
end L2.Mi.k02

set_option Elab.async false
set_option linter.all false
set_option maxRecDepth 100000
set_option maxHeartbeats 4000000

namespace L2.Mi.k02
open PySem PySem.Spec PyProof.Rows L2.Mi L2
/-! the table -/
theorem bd_is_whole {P : Program} {w : World} {K : PySem.W.Frag} {mg : Str → Option Value} {base : Heap} {fd : FuncData} (F : FunD K "is_whole" "is_whole" (defArgs s_is_whole) (defBody s_is_whole) (defScope s_is_whole) [] [] (He.ga K "is_whole") fd) : Binds K fd P_is_whole [] := F.bindsN fun _ _ _ _ _ _ us hl => match us, hl with | [_, _, _], _ => rfl
theorem bd_is_var {P : Program} {w : World} {K : PySem.W.Frag} {mg : Str → Option Value} {base : Heap} {fd : FuncData} (F : FunD K "is_var" "is_var" (defArgs s_is_var) (defBody s_is_var) (defScope s_is_var) [] [] (He.ga K "is_var") fd) : Binds K fd P_is_var [] := F.bindsN fun _ _ _ _ _ _ us hl => match us, hl with | [_], _ => rfl
theorem bd_size {P : Program} {w : World} {K : PySem.W.Frag} {mg : Str → Option Value} {base : Heap} {fd : FuncData} (F : FunD K "size" "size" (defArgs s_size) (defBody s_size) (defScope s_size) [] [] (He.ga K "size") fd) : Binds K fd P_size [] := F.bindsN fun _ _ _ _ _ _ us hl => match us, hl with | [_], _ => rfl
theorem bd_depth {P : Program} {w : World} {K : PySem.W.Frag} {mg : Str → Option Value} {base : Heap} {fd : FuncData} (F : FunD K "depth" "depth" (defArgs s_depth) (defBody s_depth) (defScope s_depth) [] [] (He.ga K "depth") fd) : Binds K fd P_depth [] := F.bindsN fun _ _ _ _ _ _ us hl => match us, hl with | [_], _ => rfl
theorem bd_variables {P : Program} {w : World} {K : PySem.W.Frag} {mg : Str → Option Value} {base : Heap} {fd : FuncData} (F : FunD K "variables" "variables" (defArgs s_variables) (defBody s_variables) (defScope s_variables) [] [] (He.ga K "variables") fd) : Binds K fd P_variables [] := F.bindsN fun _ _ _ _ _ _ us hl => match us, hl with | [_], _ => rfl
theorem bd_is_ground {P : Program} {w : World} {K : PySem.W.Frag} {mg : Str → Option Value} {base : Heap} {fd : FuncData} (F : FunD K "is_ground" "is_ground" (defArgs s_is_ground) (defBody s_is_ground) (defScope s_is_ground) [] [] (He.ga K "is_ground") fd) : Binds K fd P_is_ground [] := F.bindsN fun _ _ _ _ _ _ us hl => match us, hl with | [_], _ => rfl
theorem bd_count {P : Program} {w : World} {K : PySem.W.Frag} {mg : Str → Option Value} {base : Heap} {fd : FuncData} (F : FunD K "count" "count" (defArgs s_count) (defBody s_count) (defScope s_count) [] [] (He.ga K "count") fd) : Binds K fd P_count [] := F.bindsN fun _ _ _ _ _ _ us hl => match us, hl with | [_, _], _ => rfl
theorem bd_positions {P : Program} {w : World} {K : PySem.W.Frag} {mg : Str → Option Value} {base : Heap} {fd : FuncData} (F : FunD K "positions" "positions" (defArgs s_positions) (defBody s_positions) (defScope s_positions) [] [] (He.ga K "positions") fd) : Binds K fd P_positions [] := F.bindsN fun _ _ _ _ _ _ us hl => match us, hl with | [_], _ => rfl
theorem bd_has_position {P : Program} {w : World} {K : PySem.W.Frag} {mg : Str → Option Value} {base : Heap} {fd : FuncData} (F : FunD K "has_position" "has_position" (defArgs s_has_position) (defBody s_has_position) (defScope s_has_position) [] [] (He.ga K "has_position") fd) : Binds K fd P_has_position [] := F.bindsN fun _ _ _ _ _ _ us hl => match us, hl with | [_, _], _ => rfl
theorem bd_at {P : Program} {w : World} {K : PySem.W.Frag} {mg : Str → Option Value} {base : Heap} {fd : FuncData} (F : FunD K "at" "at" (defArgs s_at) (defBody s_at) (defScope s_at) [] [] (He.ga K "at") fd) : Binds K fd P_at [] := F.bindsN fun _ _ _ _ _ _ us hl => match us, hl with | [_, _], _ => rfl
theorem bd_put {P : Program} {w : World} {K : PySem.W.Frag} {mg : Str → Option Value} {base : Heap} {fd : FuncData} (F : FunD K "put" "put" (defArgs s_put) (defBody s_put) (defScope s_put) [] [] (He.ga K "put") fd) : Binds K fd P_put [] := F.bindsN fun _ _ _ _ _ _ us hl => match us, hl with | [_, _, _], _ => rfl
theorem bd_parts {P : Program} {w : World} {K : PySem.W.Frag} {mg : Str → Option Value} {base : Heap} {fd : FuncData} (F : FunD K "parts" "parts" (defArgs s_parts) (defBody s_parts) (defScope s_parts) [] [] (He.ga K "parts") fd) : Binds K fd P_parts [] := F.bindsN fun _ _ _ _ _ _ us hl => match us, hl with | [_], _ => rfl
theorem bd_l_state {P : Program} {w : World} {K : PySem.W.Frag} {mg : Str → Option Value} {base : Heap} {fd : FuncData} (F : FunD K "_law_state" "_law_state" (defArgs s_l_state) (defBody s_l_state) (defScope s_l_state) [] [] (He.ga K "_law_state") fd) : Binds K fd P_l_state [] := F.bindsN fun _ _ _ _ _ _ us hl => match us, hl with | [_], _ => rfl
theorem bd_l_take {P : Program} {w : World} {K : PySem.W.Frag} {mg : Str → Option Value} {base : Heap} {fd : FuncData} (F : FunD K "_law_take" "_law_take" (defArgs s_l_take) (defBody s_l_take) (defScope s_l_take) [] [] (He.ga K "_law_take") fd) : Binds K fd P_l_take [] := F.bindsN fun _ _ _ _ _ _ us hl => match us, hl with | [_, _], _ => rfl
theorem bd_l_pick {P : Program} {w : World} {K : PySem.W.Frag} {mg : Str → Option Value} {base : Heap} {fd : FuncData} (F : FunD K "_law_pick" "_law_pick" (defArgs s_l_pick) (defBody s_l_pick) (defScope s_l_pick) [] [] (He.ga K "_law_pick") fd) : Binds K fd P_l_pick [] := F.bindsN fun _ _ _ _ _ _ us hl => match us, hl with | [_, _], _ => rfl
theorem bd_l_tongue {P : Program} {w : World} {K : PySem.W.Frag} {mg : Str → Option Value} {base : Heap} {fd : FuncData} (F : FunD K "_law_tongue" "_law_tongue" (defArgs s_l_tongue) (defBody s_l_tongue) (defScope s_l_tongue) [] [] (He.ga K "_law_tongue") fd) : Binds K fd P_l_tongue [] := F.bindsN fun _ _ _ _ _ _ us hl => match us, hl with | [_], _ => rfl
theorem bd_l_term {P : Program} {w : World} {K : PySem.W.Frag} {mg : Str → Option Value} {base : Heap} {fd : FuncData} (F : FunD K "_law_term" "_law_term" (defArgs s_l_term) (defBody s_l_term) (defScope s_l_term) [] [] (He.ga K "_law_term") fd) : Binds K fd P_l_term [] := F.bindsN fun _ _ _ _ _ _ us hl => match us, hl with | [_, _, _, _], _ => rfl
theorem bd_l_names {P : Program} {w : World} {K : PySem.W.Frag} {mg : Str → Option Value} {base : Heap} {fd : FuncData} (F : FunD K "_law_names" "_law_names" (defArgs s_l_names) (defBody s_l_names) (defScope s_l_names) [] [] (He.ga K "_law_names") fd) : Binds K fd P_l_names [] := F.bindsN fun _ _ _ _ _ _ us hl => match us, hl with | [_], _ => rfl
theorem bd_l_places {P : Program} {w : World} {K : PySem.W.Frag} {mg : Str → Option Value} {base : Heap} {fd : FuncData} (F : FunD K "_law_places" "_law_places" (defArgs s_l_places) (defBody s_l_places) (defScope s_l_places) [] [] (He.ga K "_law_places") fd) : Binds K fd P_l_places [] := F.bindsN fun _ _ _ _ _ _ us hl => match us, hl with | [_], _ => rfl
theorem bd_l_at {P : Program} {w : World} {K : PySem.W.Frag} {mg : Str → Option Value} {base : Heap} {fd : FuncData} (F : FunD K "_law_at" "_law_at" (defArgs s_l_at) (defBody s_l_at) (defScope s_l_at) [] [] (He.ga K "_law_at") fd) : Binds K fd P_l_at [] := F.bindsN fun _ _ _ _ _ _ us hl => match us, hl with | [_, _], _ => rfl
theorem bd_l_with {P : Program} {w : World} {K : PySem.W.Frag} {mg : Str → Option Value} {base : Heap} {fd : FuncData} (F : FunD K "_law_with" "_law_with" (defArgs s_l_with) (defBody s_l_with) (defScope s_l_with) [] [] (He.ga K "_law_with") fd) : Binds K fd P_l_with [] := F.bindsN fun _ _ _ _ _ _ us hl => match us, hl with | [_, _, _], _ => rfl
theorem bd_l_depth {P : Program} {w : World} {K : PySem.W.Frag} {mg : Str → Option Value} {base : Heap} {fd : FuncData} (F : FunD K "_law_depth" "_law_depth" (defArgs s_l_depth) (defBody s_l_depth) (defScope s_l_depth) [] [] (He.ga K "_law_depth") fd) : Binds K fd P_l_depth [] := F.bindsN fun _ _ _ _ _ _ us hl => match us, hl with | [_], _ => rfl
theorem bd_l_parts {P : Program} {w : World} {K : PySem.W.Frag} {mg : Str → Option Value} {base : Heap} {fd : FuncData} (F : FunD K "_law_parts" "_law_parts" (defArgs s_l_parts) (defBody s_l_parts) (defScope s_l_parts) [] [] (He.ga K "_law_parts") fd) : Binds K fd P_l_parts [] := F.bindsN fun _ _ _ _ _ _ us hl => match us, hl with | [_], _ => rfl
theorem bd_law {P : Program} {w : World} {K : PySem.W.Frag} {mg : Str → Option Value} {base : Heap} {fd : FuncData} (F : FunD K "law" "law" (defArgs s_law) (defBody s_law) (defScope s_law) [] [] (He.ga K "law") fd) : Binds K fd P_law [] := F.bindsN fun _ _ _ _ _ _ us hl => match us, hl with | [_], _ => rfl
abbrev DD (K : PySem.W.Frag) (x : Str) (st : Stmt) : Prop := ∃ fd, FunD K x x (defArgs st) (defBody st) (defScope st) [] [] (He.ga K x) fd
structure DF (K : PySem.W.Frag) : Prop where
  d_is_whole : DD K "is_whole" s_is_whole
  d_is_var : DD K "is_var" s_is_var
  d_size : DD K "size" s_size
  d_depth : DD K "depth" s_depth
  d_variables : DD K "variables" s_variables
  d_is_ground : DD K "is_ground" s_is_ground
  d_count : DD K "count" s_count
  d_positions : DD K "positions" s_positions
  d_has_position : DD K "has_position" s_has_position
  d_at : DD K "at" s_at
  d_put : DD K "put" s_put
  d_parts : DD K "parts" s_parts
  d_l_state : DD K "_law_state" s_l_state
  d_l_take : DD K "_law_take" s_l_take
  d_l_pick : DD K "_law_pick" s_l_pick
  d_l_tongue : DD K "_law_tongue" s_l_tongue
  d_l_term : DD K "_law_term" s_l_term
  d_l_names : DD K "_law_names" s_l_names
  d_l_places : DD K "_law_places" s_l_places
  d_l_at : DD K "_law_at" s_l_at
  d_l_with : DD K "_law_with" s_l_with
  d_l_depth : DD K "_law_depth" s_l_depth
  d_l_parts : DD K "_law_parts" s_l_parts
  d_law : DD K "law" s_law
theorem table {P : Program} {w : World} {K : PySem.W.Frag} {mg : Str → Option Value} {base : Heap} (g : GF K mg) (D : DF K) : ∀ f a, (gb K).fa f = some a → DefOk P w K mg base (gb K) T f a := by
  intro f a h
  by_cases h0 : f = 0
  · subst h0
    have e : some (He.ga K "is_whole") = some a := h
    cases e
    obtain ⟨fd, F⟩ := D.d_is_whole
    exact ⟨d_is_whole, "is_whole", "is_whole", s_is_whole, fd, N_is_whole, P_is_whole, rfl, F, sc_is_whole, rfl, rfl, bd_is_whole (P := P) (w := w) (mg := mg) (base := base) F, fun k C cdv A outer s H E FF hr => b_is_whole g _ cdv A outer s H E FF hr⟩
  by_cases h1 : f = 1
  · subst h1
    have e : some (He.ga K "is_var") = some a := h
    cases e
    obtain ⟨fd, F⟩ := D.d_is_var
    exact ⟨d_is_var, "is_var", "is_var", s_is_var, fd, N_is_var, P_is_var, rfl, F, sc_is_var, rfl, rfl, bd_is_var (P := P) (w := w) (mg := mg) (base := base) F, fun k C cdv A outer s H E FF hr => b_is_var g _ cdv A outer s H E FF hr⟩
  by_cases h2 : f = 2
  · subst h2
    have e : some (He.ga K "size") = some a := h
    cases e
    obtain ⟨fd, F⟩ := D.d_size
    exact ⟨d_size, "size", "size", s_size, fd, N_size, P_size, rfl, F, sc_size, rfl, rfl, bd_size (P := P) (w := w) (mg := mg) (base := base) F, fun k C cdv A outer s H E FF hr => b_size g _ cdv A outer s H E FF hr⟩
  by_cases h3 : f = 3
  · subst h3
    have e : some (He.ga K "depth") = some a := h
    cases e
    obtain ⟨fd, F⟩ := D.d_depth
    exact ⟨d_depth, "depth", "depth", s_depth, fd, N_depth, P_depth, rfl, F, sc_depth, rfl, rfl, bd_depth (P := P) (w := w) (mg := mg) (base := base) F, fun k C cdv A outer s H E FF hr => b_depth g _ cdv A outer s H E FF hr⟩
  by_cases h4 : f = 4
  · subst h4
    have e : some (He.ga K "variables") = some a := h
    cases e
    obtain ⟨fd, F⟩ := D.d_variables
    exact ⟨d_variables, "variables", "variables", s_variables, fd, N_variables, P_variables, rfl, F, sc_variables, rfl, rfl, bd_variables (P := P) (w := w) (mg := mg) (base := base) F, fun k C cdv A outer s H E FF hr => b_variables g _ cdv A outer s H E FF hr⟩
  by_cases h5 : f = 5
  · subst h5
    have e : some (He.ga K "is_ground") = some a := h
    cases e
    obtain ⟨fd, F⟩ := D.d_is_ground
    exact ⟨d_is_ground, "is_ground", "is_ground", s_is_ground, fd, N_is_ground, P_is_ground, rfl, F, sc_is_ground, rfl, rfl, bd_is_ground (P := P) (w := w) (mg := mg) (base := base) F, fun k C cdv A outer s H E FF hr => b_is_ground g _ cdv A outer s H E FF hr⟩
  by_cases h6 : f = 6
  · subst h6
    have e : some (He.ga K "count") = some a := h
    cases e
    obtain ⟨fd, F⟩ := D.d_count
    exact ⟨d_count, "count", "count", s_count, fd, N_count, P_count, rfl, F, sc_count, rfl, rfl, bd_count (P := P) (w := w) (mg := mg) (base := base) F, fun k C cdv A outer s H E FF hr => b_count g _ cdv A outer s H E FF hr⟩
  by_cases h7 : f = 7
  · subst h7
    have e : some (He.ga K "positions") = some a := h
    cases e
    obtain ⟨fd, F⟩ := D.d_positions
    exact ⟨d_positions, "positions", "positions", s_positions, fd, N_positions, P_positions, rfl, F, sc_positions, rfl, rfl, bd_positions (P := P) (w := w) (mg := mg) (base := base) F, fun k C cdv A outer s H E FF hr => b_positions g _ cdv A outer s H E FF hr⟩
  by_cases h8 : f = 8
  · subst h8
    have e : some (He.ga K "has_position") = some a := h
    cases e
    obtain ⟨fd, F⟩ := D.d_has_position
    exact ⟨d_has_position, "has_position", "has_position", s_has_position, fd, N_has_position, P_has_position, rfl, F, sc_has_position, rfl, rfl, bd_has_position (P := P) (w := w) (mg := mg) (base := base) F, fun k C cdv A outer s H E FF hr => b_has_position g _ cdv A outer s H E FF hr⟩
  by_cases h9 : f = 9
  · subst h9
    have e : some (He.ga K "at") = some a := h
    cases e
    obtain ⟨fd, F⟩ := D.d_at
    exact ⟨d_at, "at", "at", s_at, fd, N_at, P_at, rfl, F, sc_at, rfl, rfl, bd_at (P := P) (w := w) (mg := mg) (base := base) F, fun k C cdv A outer s H E FF hr => b_at g _ cdv A outer s H E FF hr⟩
  by_cases h10 : f = 10
  · subst h10
    have e : some (He.ga K "put") = some a := h
    cases e
    obtain ⟨fd, F⟩ := D.d_put
    exact ⟨d_put, "put", "put", s_put, fd, N_put, P_put, rfl, F, sc_put, rfl, rfl, bd_put (P := P) (w := w) (mg := mg) (base := base) F, fun k C cdv A outer s H E FF hr => b_put g _ cdv A outer s H E FF hr⟩
  by_cases h11 : f = 11
  · subst h11
    have e : some (He.ga K "parts") = some a := h
    cases e
    obtain ⟨fd, F⟩ := D.d_parts
    exact ⟨d_parts, "parts", "parts", s_parts, fd, N_parts, P_parts, rfl, F, sc_parts, rfl, rfl, bd_parts (P := P) (w := w) (mg := mg) (base := base) F, fun k C cdv A outer s H E FF hr => b_parts g _ cdv A outer s H E FF hr⟩
  by_cases h12 : f = 12
  · subst h12
    have e : some (He.ga K "_law_state") = some a := h
    cases e
    obtain ⟨fd, F⟩ := D.d_l_state
    exact ⟨d_l_state, "_law_state", "_law_state", s_l_state, fd, N_l_state, P_l_state, rfl, F, sc_l_state, rfl, rfl, bd_l_state (P := P) (w := w) (mg := mg) (base := base) F, fun k C cdv A outer s H E FF hr => b_l_state g _ cdv A outer s H E FF hr⟩
  by_cases h13 : f = 13
  · subst h13
    have e : some (He.ga K "_law_take") = some a := h
    cases e
    obtain ⟨fd, F⟩ := D.d_l_take
    exact ⟨d_l_take, "_law_take", "_law_take", s_l_take, fd, N_l_take, P_l_take, rfl, F, sc_l_take, rfl, rfl, bd_l_take (P := P) (w := w) (mg := mg) (base := base) F, fun k C cdv A outer s H E FF hr => b_l_take g _ cdv A outer s H E FF hr⟩
  by_cases h14 : f = 14
  · subst h14
    have e : some (He.ga K "_law_pick") = some a := h
    cases e
    obtain ⟨fd, F⟩ := D.d_l_pick
    exact ⟨d_l_pick, "_law_pick", "_law_pick", s_l_pick, fd, N_l_pick, P_l_pick, rfl, F, sc_l_pick, rfl, rfl, bd_l_pick (P := P) (w := w) (mg := mg) (base := base) F, fun k C cdv A outer s H E FF hr => b_l_pick g _ cdv A outer s H E FF hr⟩
  by_cases h15 : f = 15
  · subst h15
    have e : some (He.ga K "_law_tongue") = some a := h
    cases e
    obtain ⟨fd, F⟩ := D.d_l_tongue
    exact ⟨d_l_tongue, "_law_tongue", "_law_tongue", s_l_tongue, fd, N_l_tongue, P_l_tongue, rfl, F, sc_l_tongue, rfl, rfl, bd_l_tongue (P := P) (w := w) (mg := mg) (base := base) F, fun k C cdv A outer s H E FF hr => b_l_tongue g _ cdv A outer s H E FF hr⟩
  by_cases h16 : f = 16
  · subst h16
    have e : some (He.ga K "_law_term") = some a := h
    cases e
    obtain ⟨fd, F⟩ := D.d_l_term
    exact ⟨d_l_term, "_law_term", "_law_term", s_l_term, fd, N_l_term, P_l_term, rfl, F, sc_l_term, rfl, rfl, bd_l_term (P := P) (w := w) (mg := mg) (base := base) F, fun k C cdv A outer s H E FF hr => b_l_term g _ cdv A outer s H E FF hr⟩
  by_cases h17 : f = 17
  · subst h17
    have e : some (He.ga K "_law_names") = some a := h
    cases e
    obtain ⟨fd, F⟩ := D.d_l_names
    exact ⟨d_l_names, "_law_names", "_law_names", s_l_names, fd, N_l_names, P_l_names, rfl, F, sc_l_names, rfl, rfl, bd_l_names (P := P) (w := w) (mg := mg) (base := base) F, fun k C cdv A outer s H E FF hr => b_l_names g _ cdv A outer s H E FF hr⟩
  by_cases h18 : f = 18
  · subst h18
    have e : some (He.ga K "_law_places") = some a := h
    cases e
    obtain ⟨fd, F⟩ := D.d_l_places
    exact ⟨d_l_places, "_law_places", "_law_places", s_l_places, fd, N_l_places, P_l_places, rfl, F, sc_l_places, rfl, rfl, bd_l_places (P := P) (w := w) (mg := mg) (base := base) F, fun k C cdv A outer s H E FF hr => b_l_places g _ cdv A outer s H E FF hr⟩
  by_cases h19 : f = 19
  · subst h19
    have e : some (He.ga K "_law_at") = some a := h
    cases e
    obtain ⟨fd, F⟩ := D.d_l_at
    exact ⟨d_l_at, "_law_at", "_law_at", s_l_at, fd, N_l_at, P_l_at, rfl, F, sc_l_at, rfl, rfl, bd_l_at (P := P) (w := w) (mg := mg) (base := base) F, fun k C cdv A outer s H E FF hr => b_l_at g _ cdv A outer s H E FF hr⟩
  by_cases h20 : f = 20
  · subst h20
    have e : some (He.ga K "_law_with") = some a := h
    cases e
    obtain ⟨fd, F⟩ := D.d_l_with
    exact ⟨d_l_with, "_law_with", "_law_with", s_l_with, fd, N_l_with, P_l_with, rfl, F, sc_l_with, rfl, rfl, bd_l_with (P := P) (w := w) (mg := mg) (base := base) F, fun k C cdv A outer s H E FF hr => b_l_with g _ cdv A outer s H E FF hr⟩
  by_cases h21 : f = 21
  · subst h21
    have e : some (He.ga K "_law_depth") = some a := h
    cases e
    obtain ⟨fd, F⟩ := D.d_l_depth
    exact ⟨d_l_depth, "_law_depth", "_law_depth", s_l_depth, fd, N_l_depth, P_l_depth, rfl, F, sc_l_depth, rfl, rfl, bd_l_depth (P := P) (w := w) (mg := mg) (base := base) F, fun k C cdv A outer s H E FF hr => b_l_depth g _ cdv A outer s H E FF hr⟩
  by_cases h22 : f = 22
  · subst h22
    have e : some (He.ga K "_law_parts") = some a := h
    cases e
    obtain ⟨fd, F⟩ := D.d_l_parts
    exact ⟨d_l_parts, "_law_parts", "_law_parts", s_l_parts, fd, N_l_parts, P_l_parts, rfl, F, sc_l_parts, rfl, rfl, bd_l_parts (P := P) (w := w) (mg := mg) (base := base) F, fun k C cdv A outer s H E FF hr => b_l_parts g _ cdv A outer s H E FF hr⟩
  by_cases h23 : f = 23
  · subst h23
    have e : some (He.ga K "law") = some a := h
    cases e
    obtain ⟨fd, F⟩ := D.d_law
    exact ⟨d_law, "law", "law", s_law, fd, N_law, P_law, rfl, F, sc_law, rfl, rfl, bd_law (P := P) (w := w) (mg := mg) (base := base) F, fun k C cdv A outer s H E FF hr => b_law g _ cdv A outer s H E FF hr⟩
  exfalso
  have : faO K f = none := by
    unfold faO
    split <;> first | contradiction | rfl
  rw [show (gb K).fa f = faO K f from rfl, this] at h
  cases h
/-! the head -/
def h_is_whole : He.DefD := ⟨("is_whole", none), "is_whole", "is_whole", defArgs s_is_whole, defBody s_is_whole, defScope s_is_whole, [], []⟩
def h_is_var : He.DefD := ⟨("is_var", none), "is_var", "is_var", defArgs s_is_var, defBody s_is_var, defScope s_is_var, [], []⟩
def h_size : He.DefD := ⟨("size", none), "size", "size", defArgs s_size, defBody s_size, defScope s_size, [], []⟩
def h_depth : He.DefD := ⟨("depth", none), "depth", "depth", defArgs s_depth, defBody s_depth, defScope s_depth, [], []⟩
def h_variables : He.DefD := ⟨("variables", none), "variables", "variables", defArgs s_variables, defBody s_variables, defScope s_variables, [], []⟩
def h_is_ground : He.DefD := ⟨("is_ground", none), "is_ground", "is_ground", defArgs s_is_ground, defBody s_is_ground, defScope s_is_ground, [], []⟩
def h_count : He.DefD := ⟨("count", none), "count", "count", defArgs s_count, defBody s_count, defScope s_count, [], []⟩
def h_positions : He.DefD := ⟨("positions", none), "positions", "positions", defArgs s_positions, defBody s_positions, defScope s_positions, [], []⟩
def h_has_position : He.DefD := ⟨("has_position", none), "has_position", "has_position", defArgs s_has_position, defBody s_has_position, defScope s_has_position, [], []⟩
def h_at : He.DefD := ⟨("at", none), "at", "at", defArgs s_at, defBody s_at, defScope s_at, [], []⟩
def h_put : He.DefD := ⟨("put", none), "put", "put", defArgs s_put, defBody s_put, defScope s_put, [], []⟩
def h_parts : He.DefD := ⟨("parts", none), "parts", "parts", defArgs s_parts, defBody s_parts, defScope s_parts, [], []⟩
def h_l_state : He.DefD := ⟨("_law_state", none), "_law_state", "_law_state", defArgs s_l_state, defBody s_l_state, defScope s_l_state, [], []⟩
def h_l_take : He.DefD := ⟨("_law_take", none), "_law_take", "_law_take", defArgs s_l_take, defBody s_l_take, defScope s_l_take, [], []⟩
def h_l_pick : He.DefD := ⟨("_law_pick", none), "_law_pick", "_law_pick", defArgs s_l_pick, defBody s_l_pick, defScope s_l_pick, [], []⟩
def h_l_tongue : He.DefD := ⟨("_law_tongue", none), "_law_tongue", "_law_tongue", defArgs s_l_tongue, defBody s_l_tongue, defScope s_l_tongue, [], []⟩
def h_l_term : He.DefD := ⟨("_law_term", none), "_law_term", "_law_term", defArgs s_l_term, defBody s_l_term, defScope s_l_term, [], []⟩
def h_l_names : He.DefD := ⟨("_law_names", none), "_law_names", "_law_names", defArgs s_l_names, defBody s_l_names, defScope s_l_names, [], []⟩
def h_l_places : He.DefD := ⟨("_law_places", none), "_law_places", "_law_places", defArgs s_l_places, defBody s_l_places, defScope s_l_places, [], []⟩
def h_l_at : He.DefD := ⟨("_law_at", none), "_law_at", "_law_at", defArgs s_l_at, defBody s_l_at, defScope s_l_at, [], []⟩
def h_l_with : He.DefD := ⟨("_law_with", none), "_law_with", "_law_with", defArgs s_l_with, defBody s_l_with, defScope s_l_with, [], []⟩
def h_l_depth : He.DefD := ⟨("_law_depth", none), "_law_depth", "_law_depth", defArgs s_l_depth, defBody s_l_depth, defScope s_l_depth, [], []⟩
def h_l_parts : He.DefD := ⟨("_law_parts", none), "_law_parts", "_law_parts", defArgs s_l_parts, defBody s_l_parts, defScope s_l_parts, [], []⟩
def h_law : He.DefD := ⟨("law", none), "law", "law", defArgs s_law, defBody s_law, defScope s_law, [], []⟩
def fn : List He.DefD := [h_is_whole, h_is_var, h_size, h_depth, h_variables, h_is_ground, h_count, h_positions, h_has_position, h_at, h_put, h_parts, h_l_state, h_l_take, h_l_pick, h_l_tongue, h_l_term, h_l_names, h_l_places, h_l_at, h_l_with, h_l_depth, h_l_parts, h_law]
def fa : List He.Fa := [.free "abs", .free "bool", .free "int", .free "isinstance", .free "len", .free "list", .free "max", .free "range", .free "sorted", .free "str", .free "sum", .free "tuple", .glo "_law_at", .glo "_law_depth", .glo "_law_names", .glo "_law_parts", .glo "_law_pick", .glo "_law_places", .glo "_law_state", .glo "_law_take", .glo "_law_term", .glo "_law_tongue", .glo "_law_with", .glo "at", .glo "count", .glo "depth", .glo "has_position", .glo "is_ground", .glo "is_var", .glo "is_whole", .glo "parts", .glo "positions", .glo "put", .glo "size", .glo "variables", .glo "is_whole", .glo "is_var", .glo "size", .glo "depth", .glo "variables", .glo "is_ground", .glo "count", .glo "positions", .glo "has_position", .glo "at", .glo "put", .glo "parts", .glo "_law_state", .glo "_law_take", .glo "_law_pick", .glo "_law_tongue", .glo "_law_term", .glo "_law_names", .glo "_law_places", .glo "_law_at", .glo "_law_with", .glo "_law_depth", .glo "_law_parts", .glo "law"]
abbrev R : PySem.W.OpenRow := PySem.W.OpenLaw.row PySem.Challenge.rw_termwright_k02_parts_of_terms
abbrev hk : PySem.W.Hook := He.hookD 4 fa fn
def ob (s : PySem.W.SharedT) : He.AlD := He.obsDG 4 fa fn (HandSHeadRun.getT s)
theorem ob_eq (s : PySem.W.SharedT) : ob s = hk.obs s.abs := He.obsDG_eq (HandSHeadRun.getT_eq s)
theorem run (w : World) : HandSHeadRun.RunEq R (PySem.W.view R.prog [26]) hk ob 4000 ["is_whole", "is_var", "size", "depth", "variables", "is_ground", "count", "positions", "has_position", "at", "put", "parts", "_law_state", "_law_take", "_law_pick", "_law_tongue", "_law_term", "_law_put", "_law_names", "_law_places", "_law_at", "_law_with", "_law_depth", "_law_parts"] w := by
  intro os
  kernel_rfl
theorem facts {K : PySem.W.Frag} {h : Heap} {mg : Str → Option Value} (X : K.In h) (G : h.Ns mainGlobals mg) (c : He.SaysD fa fn K) : GF K mg ∧ DF K := by
  refine ⟨⟨He.free_ok X G (c.fact 0 (f := .free "abs") rfl), He.free_ok X G (c.fact 1 (f := .free "bool") rfl), He.free_ok X G (c.fact 2 (f := .free "int") rfl), He.free_ok X G (c.fact 3 (f := .free "isinstance") rfl), He.free_ok X G (c.fact 4 (f := .free "len") rfl), He.free_ok X G (c.fact 5 (f := .free "list") rfl), He.free_ok X G (c.fact 6 (f := .free "max") rfl), He.free_ok X G (c.fact 7 (f := .free "range") rfl), He.free_ok X G (c.fact 8 (f := .free "sorted") rfl), He.free_ok X G (c.fact 9 (f := .free "str") rfl), He.free_ok X G (c.fact 10 (f := .free "sum") rfl), He.free_ok X G (c.fact 11 (f := .free "tuple") rfl), He.glo_ok X G (c.fact 12 (f := .glo "_law_at") rfl), He.glo_ok X G (c.fact 13 (f := .glo "_law_depth") rfl), He.glo_ok X G (c.fact 14 (f := .glo "_law_names") rfl), He.glo_ok X G (c.fact 15 (f := .glo "_law_parts") rfl), He.glo_ok X G (c.fact 16 (f := .glo "_law_pick") rfl), He.glo_ok X G (c.fact 17 (f := .glo "_law_places") rfl), He.glo_ok X G (c.fact 18 (f := .glo "_law_state") rfl), He.glo_ok X G (c.fact 19 (f := .glo "_law_take") rfl), He.glo_ok X G (c.fact 20 (f := .glo "_law_term") rfl), He.glo_ok X G (c.fact 21 (f := .glo "_law_tongue") rfl), He.glo_ok X G (c.fact 22 (f := .glo "_law_with") rfl), He.glo_ok X G (c.fact 23 (f := .glo "at") rfl), He.glo_ok X G (c.fact 24 (f := .glo "count") rfl), He.glo_ok X G (c.fact 25 (f := .glo "depth") rfl), He.glo_ok X G (c.fact 26 (f := .glo "has_position") rfl), He.glo_ok X G (c.fact 27 (f := .glo "is_ground") rfl), He.glo_ok X G (c.fact 28 (f := .glo "is_var") rfl), He.glo_ok X G (c.fact 29 (f := .glo "is_whole") rfl), He.glo_ok X G (c.fact 30 (f := .glo "parts") rfl), He.glo_ok X G (c.fact 31 (f := .glo "positions") rfl), He.glo_ok X G (c.fact 32 (f := .glo "put") rfl), He.glo_ok X G (c.fact 33 (f := .glo "size") rfl), He.glo_ok X G (c.fact 34 (f := .glo "variables") rfl)⟩, ⟨c.def_ 0 (d := h_is_whole) rfl, c.def_ 1 (d := h_is_var) rfl, c.def_ 2 (d := h_size) rfl, c.def_ 3 (d := h_depth) rfl, c.def_ 4 (d := h_variables) rfl, c.def_ 5 (d := h_is_ground) rfl, c.def_ 6 (d := h_count) rfl, c.def_ 7 (d := h_positions) rfl, c.def_ 8 (d := h_has_position) rfl, c.def_ 9 (d := h_at) rfl, c.def_ 10 (d := h_put) rfl, c.def_ 11 (d := h_parts) rfl, c.def_ 12 (d := h_l_state) rfl, c.def_ 13 (d := h_l_take) rfl, c.def_ 14 (d := h_l_pick) rfl, c.def_ 15 (d := h_l_tongue) rfl, c.def_ 16 (d := h_l_term) rfl, c.def_ 17 (d := h_l_names) rfl, c.def_ 18 (d := h_l_places) rfl, c.def_ 19 (d := h_l_at) rfl, c.def_ 20 (d := h_l_with) rfl, c.def_ 21 (d := h_l_depth) rfl, c.def_ 22 (d := h_l_parts) rfl, c.def_ 23 (d := h_law) rfl⟩⟩
theorem holds_of (LT : ∀ ns : List Int, ns.length ≤ 63 → ∃ mh, callM T 141 23 [.scr ns] [] = some (.bl true, mh)) : PySem.Challenge.rw_termwright_k02_parts_of_terms.Holds := by
  open PySem.W PySem.Calls in
  w_on; o_law
  refine HandSHeadRun.head_any (r := PySem.W.OpenLaw.row PySem.Challenge.rw_termwright_k02_parts_of_terms) (q := PySem.W.view (PySem.W.OpenLaw.row PySem.Challenge.rw_termwright_k02_parts_of_terms).prog [26]) (H := hk) (ob := ob) (M := 4000) (loose := ["is_whole", "is_var", "size", "depth", "variables", "is_ground", "count", "positions", "has_position", "at", "put", "parts", "_law_state", "_law_take", "_law_pick", "_law_tongue", "_law_term", "_law_put", "_law_names", "_law_places", "_law_at", "_law_with", "_law_depth", "_law_parts"]) (d := HandSHeadRun.topDef (PySem.W.OpenLaw.row PySem.Challenge.rw_termwright_k02_parts_of_terms).prog 26) (kwd := []) ob_eq
    (by kernel_rfl) (fun s => by kernel_rfl) run (by kernel_rfl) (by kernel_rfl) (by kernel_rfl) (by rfl) (by first | assumption | decide +kernel) (by decide +kernel) ⟨rfl, rfl, rfl, rfl, rfl, by decide +kernel⟩ ?hw ?hc
  case hw => w_witness2
  case hc =>
    refine L2.walk_ofE (l := PySem.Challenge.rw_termwright_k02_parts_of_terms) (n := 63) (k := 141) (x := "script") (CX := L2.CX0) rfl (by decide) (by kernel_rfl) ⟨rfl, by decide, by decide⟩ ?F (fun _ _ _ _ z => z)
    intro w mg fa h Y G hmg0
    obtain ⟨K, KX, c⟩ := Y
    have hmg : mg ("law" : PySem.Str) = some (.ref fa) := by
      have e : (HandSHeadRun.topDef (PySem.W.OpenLaw.row PySem.Challenge.rw_termwright_k02_parts_of_terms).prog 26).name = ("law" : PySem.Str) := by kernel_rfl
      rw [← e]
      exact hmg0
    obtain ⟨g, D⟩ := facts KX G c
    have e := hmg.symm.trans (He.glo_ok KX G (c.fact 58 (f := .glo "law") rfl))
    cases e
    obtain ⟨fd, F⟩ := D.d_law
    have b := FunD.bindsA (ps := P_law) F fun _ _ _ _ _ _ us hl => match us, hl with | [_], _ => rfl
    refine ⟨K, fd, spC (gb K) (callM T 141) 23 1, KX, fun s v => b s [v] rfl, fun H a ns hl _ hS => ?_, fun base _ _ => ?_⟩
    · obtain ⟨mh, e⟩ := LT ns hl
      exact sp_law (G := gb K) e hS
    · exact fnOk_of (fnC_of (table g D) 140) rfl F sc_law rfl fun k C cdv A outer s H E FF hr => b_law g _ cdv A outer s H E FF hr
end L2.Mi.k02

theorem PySem.Challenge.cw_termwright_k02_parts_of_terms_holds : PySem.Challenge.rw_termwright_k02_parts_of_terms.Holds := by
  exact L2.Mi.k02.holds_of fun ns _ => L2.Mi.k02.law_true ns
