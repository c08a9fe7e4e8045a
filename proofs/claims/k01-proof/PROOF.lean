import PyProof.Rows.All
import Wide.All
import OpenK.AllK
import Wide.FinOn
import KE.KStateDown
import HandS.ForMost
import HandS.IsInst
import HandS.Deep
import HandS.TupAny
import HandS.DictComp
import HandS.CallLocal
import HandS.Wide
import HandS.Defaults
import HandS.WordsExc
import HandS.Head0
import HandS.Head1
import HandS.Head2
import HandS.HeadEnd
import HandS.HeadHook1
import HandS.HeadHook2
import HandS.TupLe
import PyProof.AutoSeq1
import PyProof.ListStr
import HandS.Walk
import HandS.Comp
import HandS.Words
import HandS.List
import KE.KRevSl
import HandS.Codes
import PySem.Challenge.RW_termwright_k01_signs_and_terms
set_option Elab.async false
set_option linter.all false
set_option maxRecDepth 100000
set_option maxHeartbeats 4000000
/-! Mini1: tree values, the little heap, the evaluator of the little language. -/
namespace L2.Mi
open PySem PySem.Spec PyProof.Rows

abbrev Sx := List Nat
abbrev MKey := Sum Int Sx
/-- a value: a tree; loc: a live (changeable) object; fn: a def of the text; scr: the law's script -/
inductive MV where
  | non | bl (b : Bool) | int (i : Int) | str (s : Sx) | fn (f : Nat)
  | tup (xs : List MV) | lst (xs : List MV) | loc (l : Nat) | dct (ks : List MKey) (vs : List MV) | scr (ns : List Int)
inductive MO where
  | lst (xs : List MV) | dct (ks : List MKey) (vs : List MV)
abbrev MHp := List (Option MO)
abbrev Env := List (Option MV)

inductive Op | add | sub | mul | fdiv | mod
inductive Cop | eq | ne | lt | le | gt | ge | mem | nmem | is | isn
inductive Ty | int | bool | str | tuple | list | dict
inductive Bi | len | abs | int | strI | tuple | list | all | any | sum | max | min
inductive Me | append | extend | pop | popAt | upper | get2
inductive Tg | nm (i : Nat) | tp (ts : List Tg)
inductive ME where
  | var (i : Nat)
  | c (v : MV)
  | bin (o : Op) (a b : ME)
  | neg (a : ME)
  | cmp (o : Cop) (a b : ME)
  | chn (o o' : Cop) (a b c : ME)
  | and (a b : ME) | or (a b : ME) | not (a : ME) | ite (c a b : ME)
  | tup (es : List ME) | lst (es : List ME) | dnew
  | call (f : Nat) (es : List ME) | callv (i : Nat) (es : List ME)
  | bi (f : Bi) (es : List ME) | isi (e : ME) (t : Ty)
  | meth (m : Me) (o : ME) (es : List ME)
  | sub (a i : ME) | slcL (a lo : ME) | slcH (a hi : ME) | slcB (a lo hi : ME) | rev (a : ME)
  | comp (tg : Tg) (own : List Nat) (it : ME) (cond : ME) (e : ME)
  | dcomp (tg : Tg) (own : List Nat) (it : ME) (cond : ME) (k e : ME)
  | rng1 (a : ME) | rng2 (a b : ME) | zip (a b : ME)
  | al (e : ME)
inductive MS where
  | ex (e : ME)
  | set (t : Tg) (e : ME)
  | par (i j : Nat) (a b : ME)
  | ret (e : ME)
  | ite (c : ME) (a b : List MS)
  | for (t : Tg) (it : ME) (body : List MS)
  | while (c : ME) (body : List MS)
  | sti (o i e : ME)
  | aug (i : Nat) (o : Op) (e : ME)
  | pass | brk | cnt

/-- a call: the def's number, its arguments, the heap -/
abbrev CallF := Nat → List MV → MHp → Option (MV × MHp)

/-! ### values -/
abbrev line : Nat := 16777216
/-- the items of a list -/
def getL (mh : MHp) : MV → Option (List MV)
  | .lst xs => some xs
  | .loc l => match mh[l]? with
    | some (some (.lst xs)) => some xs
    | _ => none
  | _ => none
def getD (mh : MHp) : MV → Option (List MKey × List MV)
  | .dct ks vs => some (ks, vs)
  | .loc l => match mh[l]? with
    | some (some (.dct ks vs)) => some (ks, vs)
    | _ => none
  | _ => none
mutual
/-- live objects with numbers from n on are read out -/
def frz (n : Nat) (mh : MHp) : Nat → MV → Option MV
  | k, .tup xs => (frzs n mh k xs).map .tup
  | k, .lst xs => (frzs n mh k xs).map .lst
  | k, .dct ks vs => (frzs n mh k vs).map (.dct ks)
  | k, .loc l => if l < n then some (.loc l) else match k with
    | 0 => none
    | k + 1 => match mh[l]? with
      | some (some (.lst xs)) => (frzs n mh k xs).map .lst
      | some (some (.dct ks vs)) => (frzs n mh k vs).map (.dct ks)
      | _ => none
  | _, .non => some .non
  | _, .bl b => some (.bl b)
  | _, .int i => some (.int i)
  | _, .str s => some (.str s)
  | _, .fn f => some (.fn f)
  | _, .scr ns => some (.scr ns)
def frzs (n : Nat) (mh : MHp) : Nat → List MV → Option (List MV)
  | _, [] => some []
  | k, x :: xs => match frz n mh k x with
    | none => none
    | some y => (frzs n mh k xs).map (y :: ·)
end

mutual
/-- plain data -/
def toD : MV → PyData
  | .non => .none
  | .bl b => .bool b
  | .int i => .int i
  | .str s => .str ⟨s.toArray⟩
  | .tup xs => .tuple (toDs xs)
  | .lst xs => .list (toDs xs)
  | .scr ns => .list (ns.map .int)
  | .fn _ => .dict []
  | .loc _ => .dict []
  | .dct _ _ => .dict []
def toDs : List MV → List PyData
  | [] => []
  | x :: xs => toD x :: toDs xs
end
/-- data that == serves -/
def okD (x : MV) : Bool := SeqAt.shaped (toD x)
def eqD (x y : MV) : Bool := PyData.eqv (toD x) (toD y)
def idx {α : Type} (xs : List α) (i : Int) : Option α := L2.atI xs i
def cut {α : Type} (xs : List α) (lo hi : Option Int) : List α := (xs.drop (HT.sIx xs.length 0 lo)).take (HT.sIx xs.length xs.length hi - HT.sIx xs.length 0 lo)

/-! ### operations -/
def addV (mh : MHp) (x y : MV) : Option MV := match x, y with
  | .int i, .int j => some (.int (i + j))
  | .str s, .str t => if s.length + t.length ≤ line then some (.str (s ++ t)) else none
  | .tup xs, .tup ys => if xs.length + ys.length ≤ line then some (.tup (xs ++ ys)) else none
  | x, y => match getL mh x with
    | none => none
    | some xs => match getL mh y with
      | none => none
      | some ys => if xs.length + ys.length ≤ line then some (.lst (xs ++ ys)) else none
def mulV (x y : MV) : Option MV := match x, y with
  | .int i, .int j => if (-(2 ^ 64) < i ∧ i < 2 ^ 64) ∨ (-(2 ^ 64) < j ∧ j < 2 ^ 64) then some (.int (i * j)) else none
  | .str s, .int j => if 0 ≤ j ∧ j ≤ 1000000 ∧ s.length * j.toNat ≤ line then some (.str (List.replicate j.toNat s).flatten) else none
  | _, _ => none
def intV (f : Int → Int → Option Int) (x y : MV) : Option MV := match x, y with
  | .int i, .int j => (f i j).map .int
  | _, _ => none
def binV (mh : MHp) : Op → MV → MV → Option MV
  | .add, x, y => addV mh x y
  | .mul, x, y => mulV x y
  | .sub, x, y => intV (fun i j => some (i - j)) x y
  | .fdiv, x, y => intV (fun i j => if j ≠ 0 ∧ j.natAbs < 1073741824 then some (i.fdiv j) else none) x y
  | .mod, x, y => intV (fun i j => if j ≠ 0 then some (i.fmod j) else none) x y
def eqV (mh : MHp) (x y : MV) : Option Bool := match frz 0 mh 8 x with
  | none => none
  | some x' => match frz 0 mh 8 y with
    | none => none
    | some y' => if okD x' = true ∧ okD y' = true then some (eqD x' y') else none
def memV (mh : MHp) (x y : MV) : Option Bool := match x, y with
  | .str [c], .str t => some (decide (c ∈ t))
  | x, y => match frz 0 mh 8 x with
    | none => none
    | some x' => match frz 0 mh 8 y with
      | some (.lst ys) => if okD x' = true ∧ okD (.lst ys) = true then some (ys.any fun z => eqD z x') else none
      | _ => none
def ordV (x y : MV) : Option (Bool × Bool) := match x, y with
  | .int i, .int j => some (decide (i < j), decide (j < i))
  | .str s, .str t => some (decide (s < t), decide (t < s))
  | _, _ => none
def isV : MV → MV → Option Bool
  | .non, .non => some true
  | _, .non => some false
  | .bl a, .bl b => some (decide (a = b))
  | _, _ => none
def cmpV (mh : MHp) : Cop → MV → MV → Option Bool
  | .eq, x, y => eqV mh x y
  | .ne, x, y => (eqV mh x y).map (!·)
  | .mem, x, y => memV mh x y
  | .nmem, x, y => (memV mh x y).map (!·)
  | .lt, x, y => (ordV x y).map fun p => p.1
  | .gt, x, y => (ordV x y).map fun p => p.2
  | .le, x, y => (ordV x y).map fun p => !p.2
  | .ge, x, y => (ordV x y).map fun p => !p.1
  | .is, x, y => isV x y
  | .isn, x, y => (isV x y).map (!·)
def subV (mh : MHp) : MV → MV → Option MV
  | .tup xs, .int i => idx xs i
  | .str s, .int i => if s.length ≤ line then (idx s i).map fun c => .str [c] else none
  | x, .int i => match getL mh x with
    | some xs => idx xs i
    | none => none
  | _, _ => none
def slcV (mh : MHp) (x : MV) (lo hi : Option Int) : Option MV := match x with
  | .tup xs => some (.tup (cut xs lo hi))
  | .str s => if s.length ≤ line then some (.str (cut s lo hi)) else none
  | .scr ns => some (.lst (cut (ns.map .int) lo hi))
  | x => (getL mh x).map fun xs => .lst (cut xs lo hi)
def isTy : MV → Ty → MHp → Option Bool
  | .non, _, _ => some false
  | .bl _, t, _ => some (match t with | .bool => true | .int => true | _ => false)
  | .int _, t, _ => some (match t with | .int => true | _ => false)
  | .str _, t, _ => some (match t with | .str => true | _ => false)
  | .tup _, t, _ => some (match t with | .tuple => true | _ => false)
  | .lst _, t, _ => some (match t with | .list => true | _ => false)
  | .dct _ _, t, _ => some (match t with | .dict => true | _ => false)
  | .loc l, t, mh => match mh[l]? with
    | some (some (.lst _)) => some (match t with | .list => true | _ => false)
    | some (some (.dct _ _)) => some (match t with | .dict => true | _ => false)
    | _ => none
  | .fn _, _, _ => none
  | .scr _, _, _ => none
def blOf : MV → Option Bool
  | .bl b => some b
  | _ => none
def intOf : MV → Option Int
  | .int i => some i
  | _ => none
def one1 (f : MV → Option MV) : List MV → Option MV
  | [x] => f x
  | _ => none
def lenV (mh : MHp) (x : MV) : Option MV := match x with
  | .str s => if s.length ≤ line then some (.int s.length) else none
  | .tup xs => some (.int xs.length)
  | x => (getL mh x).map fun xs => .int xs.length
def absV (x : MV) : Option MV := match x with
  | .int i => some (.int (if i < 0 then -i else i))
  | _ => none
def intV1 (x : MV) : Option MV := match x with
  | .int i => some (.int i)
  | .bl b => some (.int (if b = true then 1 else 0))
  | _ => none
def strV (x : MV) : Option MV := match x with
  | .int i => if i.natAbs.log2 < 1920 then some (.str (toString i : Str).cps.toList) else none
  | _ => none
def tupV (mh : MHp) (x : MV) : Option MV := match x with
  | .tup xs => some (.tup xs)
  | x => (getL mh x).map .tup
def lstV (mh : MHp) (x : MV) : Option MV := match x with
  | .tup xs => some (.lst xs)
  | .str s => if s.length ≤ line then some (.lst (s.map fun c => .str [c])) else none
  | x => (getL mh x).map .lst
def bls (mh : MHp) (x : MV) : Option (List Bool) := (getL mh x).bind fun xs => xs.mapM blOf
def intsM (mh : MHp) (x : MV) : Option (List Int) := (getL mh x).bind fun xs => xs.mapM intOf
def biV (mh : MHp) : Bi → List MV → Option MV
  | .len, xs => one1 (lenV mh) xs
  | .abs, xs => one1 absV xs
  | .int, xs => one1 intV1 xs
  | .strI, xs => one1 strV xs
  | .tuple, xs => one1 (tupV mh) xs
  | .list, xs => one1 (lstV mh) xs
  | .all, xs => one1 (fun x => (bls mh x).map fun bs => .bl (bs.all id)) xs
  | .any, xs => one1 (fun x => (bls mh x).map fun bs => .bl (bs.any id)) xs
  | .sum, xs => one1 (fun x => (intsM mh x).map fun ns => .int ns.sum) xs
  | .max, xs => one1 (fun x => (intsM mh x).bind fun ns => ns.max?.map .int) xs
  | .min, xs => one1 (fun x => (intsM mh x).bind fun ns => ns.min?.map .int) xs
mutual
/-- all live objects within have numbers below n -/
def bd (n : Nat) : MV → Bool
  | .tup xs => bds n xs
  | .lst xs => bds n xs
  | .dct _ vs => bds n vs
  | .loc l => decide (l < n)
  | .non => true
  | .bl _ => true
  | .int _ => true
  | .str _ => true
  | .fn _ => true
  | .scr _ => true
def bds (n : Nat) : List MV → Bool
  | [] => true
  | x :: xs => bd n x && bds n xs
end
/-- what may be written into the object l while a frame that began at base runs -/
def wr (base l : Nat) (x : MV) : Bool := decide (base ≤ l) || bd l x
def upperC (s : Sx) : Sx := (Txt.upper ⟨s.toArray⟩).cps.toList
/-- the live list l -/
def liveL (mh : MHp) (x : MV) : Option (Nat × List MV) := match x with
  | .loc l => match mh[l]? with
    | some (some (.lst xs)) => some (l, xs)
    | _ => none
  | _ => none
/-- the receiver's kind, ahead of the arguments -/
def tyM (mh : MHp) : Me → MV → Bool
  | .upper, .str _ => true
  | .append, x => (liveL mh x).isSome
  | .extend, x => (liveL mh x).isSome
  | .pop, x => (liveL mh x).isSome
  | .popAt, x => (liveL mh x).isSome
  | _, _ => false
/-- the items of a list or a tuple -/
def seqOf (mh : MHp) (x : MV) : Option (List MV) := match x with
  | .tup ys => some ys
  | x => getL mh x
def appV (base : Nat) (mh : MHp) (o : MV) (es : List MV) : Option (MV × MHp) := match liveL mh o, es with
  | some (l, xs), [x] => if wr base l x = true ∧ xs.length < line then some (.non, mh.set l (some (.lst (xs ++ [x])))) else none
  | _, _ => none
def extV (base : Nat) (mh : MHp) (o : MV) (es : List MV) : Option (MV × MHp) := match liveL mh o, es with
  | some (l, xs), [x] => match seqOf mh x with
    | some ys => if (ys.all (wr base l)) = true ∧ xs.length + ys.length ≤ line then some (.non, mh.set l (some (.lst (xs ++ ys)))) else none
    | none => none
  | _, _ => none
def popV (mh : MHp) (o : MV) (es : List MV) : Option (MV × MHp) := match liveL mh o, es with
  | some (l, xs), [] => (xs[xs.length - 1]?).map fun y => (y, mh.set l (some (.lst xs.dropLast)))
  | _, _ => none
def popAtV (mh : MHp) (o : MV) (es : List MV) : Option (MV × MHp) := match liveL mh o, es with
  | some (l, xs), [.int i] => if -(2 ^ 63) ≤ i ∧ i < 2 ^ 63 then (match seqIndex? i xs.length with
      | none => none
      | some k => (xs[k]?).map fun y => (y, mh.set l (some (.lst (xs.eraseIdx k))))) else none
  | _, _ => none
def uppV (mh : MHp) (o : MV) (es : List MV) : Option (MV × MHp) := match o, es with
  | .str s, [] => if s.length ≤ 5592405 then some (.str (upperC s), mh) else none
  | _, _ => none
def methV (base : Nat) (mh : MHp) : Me → MV → List MV → Option (MV × MHp)
  | .append, o, es => appV base mh o es
  | .extend, o, es => extV base mh o es
  | .pop, o, es => popV mh o es
  | .popAt, o, es => popAtV mh o es
  | .upper, o, es => uppV mh o es
  | .get2, _, _ => none
mutual
def asg (mh : MHp) : Tg → MV → Env → Option Env
  | .nm i, v, ρ => if i < ρ.length then some (ρ.set i (some v)) else none
  | .tp ts, v, ρ => match v with
    | .tup xs => asgs mh ts xs ρ
    | _ => none
def asgs (mh : MHp) : List Tg → List MV → Env → Option Env
  | [], [], ρ => some ρ
  | t :: ts, x :: xs, ρ => match asg mh t x ρ with
    | none => none
    | some ρ' => asgs mh ts xs ρ'
  | _, _, _ => none
end
def wipeE (ρ : Env) : List Nat → Env
  | [] => ρ
  | v :: vs => (wipeE ρ vs).set v none
/-- what a loop walks: the items; the live list that they are read from -/
structure Its where
  items : List MV
  src : Option Nat := none
def Its.ok (J : Its) (mh : MHp) : Prop := match J.src with
  | none => True
  | some l => mh[l]? = some (some (.lst J.items))
def itsOf (mh : MHp) : MV → Option Its
  | .tup xs => some ⟨xs, none⟩
  | .lst xs => some ⟨xs, none⟩
  | .str s => some ⟨s.map fun c => .str [c], none⟩
  | .loc l => match mh[l]? with
    | some (some (.lst xs)) => some ⟨xs, some l⟩
    | _ => none
  | _ => none
open Classical in
noncomputable def compGo (J : Its) (f : MV → MHp → Option (Option MV × MHp)) : List MV → MHp → Option (List MV × MHp)
  | [], mh => if J.ok mh then some ([], mh) else none
  | x :: xs, mh => if J.ok mh then (match f x mh with
    | none => none
    | some (r, mh1) => match compGo J f xs mh1 with
      | none => none
      | some (rs, mh2) => some (r.toList ++ rs, mh2)) else none

inductive Fl where
  | nx | bk | ct | rt (v : MV)
open Classical in
noncomputable def forGo (J : Its) (f : MV → Env → MHp → Option (Fl × Env × MHp)) : List MV → Env → MHp → Option (Fl × Env × MHp)
  | [], ρ, mh => if J.ok mh then some (.nx, ρ, mh) else none
  | x :: xs, ρ, mh => if J.ok mh then (match f x ρ mh with
    | none => none
    | some (.nx, ρ1, mh1) => forGo J f xs ρ1 mh1
    | some (.ct, ρ1, mh1) => forGo J f xs ρ1 mh1
    | some (.bk, ρ1, mh1) => some (.nx, ρ1, mh1)
    | some (.rt v, ρ1, mh1) => some (.rt v, ρ1, mh1)) else none
def whileN (c : Env → MHp → Option (Bool × MHp)) (f : Env → MHp → Option (Fl × Env × MHp)) : Nat → Env → MHp → Option (Fl × Env × MHp)
  | 0, _, _ => none
  | n + 1, ρ, mh => match c ρ mh with
    | none => none
    | some (false, mh1) => some (.nx, ρ, mh1)
    | some (true, mh1) => match f ρ mh1 with
      | none => none
      | some (.nx, ρ1, mh2) => whileN c f n ρ1 mh2
      | some (.ct, ρ1, mh2) => whileN c f n ρ1 mh2
      | some (.bk, ρ1, mh2) => some (.nx, ρ1, mh2)
      | some (.rt v, ρ1, mh2) => some (.rt v, ρ1, mh2)
open Classical in
noncomputable def whileM (c : Env → MHp → Option (Bool × MHp)) (f : Env → MHp → Option (Fl × Env × MHp)) (ρ : Env) (mh : MHp) : Option (Fl × Env × MHp) :=
  if h : ∃ n, whileN c f n ρ mh ≠ none then whileN c f (Classical.choose h) ρ mh else none

/-! ### the evaluator -/
section
variable (C : CallF) (base : Nat)
mutual
noncomputable def ev : ME → Env → MHp → Option (MV × MHp)
  | .var i, ρ, mh => match ρ[i]? with
    | some (some v) => some (v, mh)
    | _ => none
  | .c v, _, mh => some (v, mh)
  | .bin o a b, ρ, mh => match ev a ρ mh with
    | none => none
    | some (x, mh1) => match ev b ρ mh1 with
      | none => none
      | some (y, mh2) => (binV mh2 o x y).map (·, mh2)
  | .neg a, ρ, mh => match ev a ρ mh with
    | some (.int i, mh1) => some (.int (-i), mh1)
    | _ => none
  | .cmp o a b, ρ, mh => match ev a ρ mh with
    | none => none
    | some (x, mh1) => match ev b ρ mh1 with
      | none => none
      | some (y, mh2) => (cmpV mh2 o x y).map (.bl ·, mh2)
  | .chn o o' a b c, ρ, mh => match ev a ρ mh with
    | none => none
    | some (x, mh1) => match ev b ρ mh1 with
      | none => none
      | some (y, mh2) => match cmpV mh2 o x y with
        | none => none
        | some false => some (.bl false, mh2)
        | some true => match ev c ρ mh2 with
          | none => none
          | some (z, mh3) => (cmpV mh3 o' y z).map (.bl ·, mh3)
  | .and a b, ρ, mh => match ev a ρ mh with
    | some (.bl true, mh1) => ev b ρ mh1
    | some (.bl false, mh1) => some (.bl false, mh1)
    | _ => none
  | .or a b, ρ, mh => match ev a ρ mh with
    | some (.bl false, mh1) => ev b ρ mh1
    | some (.bl true, mh1) => some (.bl true, mh1)
    | _ => none
  | .not a, ρ, mh => match ev a ρ mh with
    | some (.bl b, mh1) => some (.bl (!b), mh1)
    | _ => none
  | .ite c a b, ρ, mh => match ev c ρ mh with
    | some (.bl true, mh1) => ev a ρ mh1
    | some (.bl false, mh1) => ev b ρ mh1
    | _ => none
  | .tup es, ρ, mh => match evs es ρ mh with
    | none => none
    | some (xs, mh1) => if xs.length ≤ line then some (.tup xs, mh1) else none
  | .lst es, ρ, mh => match evs es ρ mh with
    | none => none
    | some (xs, mh1) => if xs.length ≤ line then some (.lst xs, mh1) else none
  | .dnew, _, mh => some (.dct [] [], mh)
  | .call f es, ρ, mh => match evs es ρ mh with
    | none => none
    | some (xs, mh1) => C f xs mh1
  | .callv i es, ρ, mh => match ρ[i]? with
    | some (some (.fn f)) => match evs es ρ mh with
      | none => none
      | some (xs, mh1) => C f xs mh1
    | _ => none
  | .bi f es, ρ, mh => match evs es ρ mh with
    | none => none
    | some (xs, mh1) => (biV mh1 f xs).map (·, mh1)
  | .isi e t, ρ, mh => match ev e ρ mh with
    | none => none
    | some (x, mh1) => (isTy x t mh1).map (.bl ·, mh1)
  | .meth m o es, ρ, mh => match ev o ρ mh with
    | none => none
    | some (x, mh1) => if tyM mh1 m x = true then (match evs es ρ mh1 with
      | none => none
      | some (xs, mh2) => methV base mh2 m x xs) else none
  | .sub a i, ρ, mh => match ev a ρ mh with
    | none => none
    | some (x, mh1) => match ev i ρ mh1 with
      | none => none
      | some (y, mh2) => (subV mh2 x y).map (·, mh2)
  | .slcL a lo, ρ, mh => match ev a ρ mh with
    | none => none
    | some (x, mh1) => match ev lo ρ mh1 with
      | some (.int l, mh2) => (slcV mh2 x (some l) none).map (·, mh2)
      | _ => none
  | .slcH a hi, ρ, mh => match ev a ρ mh with
    | none => none
    | some (x, mh1) => match ev hi ρ mh1 with
      | some (.int l, mh2) => (slcV mh2 x none (some l)).map (·, mh2)
      | _ => none
  | .slcB a lo hi, ρ, mh => match ev a ρ mh with
    | none => none
    | some (x, mh1) => match ev lo ρ mh1 with
      | some (.int l, mh2) => match ev hi ρ mh2 with
        | some (.int h, mh3) => (slcV mh3 x (some l) (some h)).map (·, mh3)
        | _ => none
      | _ => none
  | .rev a, ρ, mh => match ev a ρ mh with
    | some (.tup xs, mh1) => some (.tup xs.reverse, mh1)
    | _ => none
  | .comp tg own it cond e, ρ, mh => match evI it ρ mh with
    | none => none
    | some (J, mh1) => if J.items.length ≤ line then (match compGo J (fun x mh2 => match asg mh2 tg x (wipeE ρ own) with
        | none => none
        | some ρ' => match ev cond ρ' mh2 with
          | some (.bl true, mh3) => match ev e ρ' mh3 with
            | none => none
            | some (y, mh4) => some (some y, mh4)
          | some (.bl false, mh3) => some (none, mh3)
          | _ => none) J.items mh1 with
      | none => none
      | some (ys, mh5) => some (.lst ys, mh5)) else none
  | .al e, ρ, mh => match ev e ρ mh with
    | some (.lst xs, mh1) => some (.loc mh1.length, mh1 ++ [some (.lst xs)])
    | some (.dct ks vs, mh1) => some (.loc mh1.length, mh1 ++ [some (.dct ks vs)])
    | _ => none
  | .dcomp .., _, _ => none
  | .rng1 _, _, _ => none
  | .rng2 .., _, _ => none
  | .zip .., _, _ => none
noncomputable def evs : List ME → Env → MHp → Option (List MV × MHp)
  | [], _, mh => some ([], mh)
  | e :: es, ρ, mh => match ev e ρ mh with
    | none => none
    | some (x, mh1) => match evs es ρ mh1 with
      | none => none
      | some (xs, mh2) => some (x :: xs, mh2)
noncomputable def evI : ME → Env → MHp → Option (Its × MHp)
  | .rng1 a, ρ, mh => match ev a ρ mh with
    | some (.int n, mh1) => if -(2 ^ 62) ≤ n ∧ n < 2 ^ 62 then some (⟨(List.range n.toNat).map fun (k : Nat) => .int (k : Int), none⟩, mh1) else none
    | _ => none
  | .rng2 a b, ρ, mh => match ev a ρ mh with
    | some (.int i, mh1) => match ev b ρ mh1 with
      | some (.int j, mh2) => if -(2 ^ 62) ≤ i ∧ i < 2 ^ 62 ∧ -(2 ^ 62) ≤ j ∧ j < 2 ^ 62 then some (⟨(List.range (j - i).toNat).map fun (k : Nat) => .int (i + (k : Int)), none⟩, mh2) else none
      | _ => none
    | _ => none
  | e, ρ, mh => match ev e ρ mh with
    | none => none
    | some (v, mh1) => (itsOf mh1 v).map (·, mh1)
end
mutual
noncomputable def ex : MS → Env → MHp → Option (Fl × Env × MHp)
  | .ex e, ρ, mh => match ev C base e ρ mh with
    | none => none
    | some (_, mh1) => some (.nx, ρ, mh1)
  | .set t e, ρ, mh => match ev C base e ρ mh with
    | none => none
    | some (v, mh1) => match asg mh1 t v ρ with
      | none => none
      | some ρ' => some (.nx, ρ', mh1)
  | .par i j a b, ρ, mh => match ev C base a ρ mh with
    | none => none
    | some (x, mh1) => match ev C base b ρ mh1 with
      | none => none
      | some (y, mh2) => if i < ρ.length ∧ j < ρ.length then some (.nx, (ρ.set i (some x)).set j (some y), mh2) else none
  | .ret e, ρ, mh => match ev C base e ρ mh with
    | none => none
    | some (v, mh1) => some (.rt v, ρ, mh1)
  | .ite c a b, ρ, mh => match ev C base c ρ mh with
    | some (.bl true, mh1) => exs a ρ mh1
    | some (.bl false, mh1) => exs b ρ mh1
    | _ => none
  | .for t it body, ρ, mh => match evI C base it ρ mh with
    | none => none
    | some (J, mh1) => forGo J (fun x ρ1 mh2 => match asg mh2 t x ρ1 with
      | none => none
      | some ρ2 => exs body ρ2 mh2) J.items ρ mh1
  | .while c body, ρ, mh => whileM (fun ρ1 mh1 => match ev C base c ρ1 mh1 with
      | some (.bl b, mh2) => some (b, mh2)
      | _ => none) (fun ρ1 mh1 => exs body ρ1 mh1) ρ mh
  | .sti o i e, ρ, mh => match ev C base e ρ mh with
    | none => none
    | some (v, mh1) => match ev C base o ρ mh1 with
      | some (.loc l, mh2) => match ev C base i ρ mh2 with
        | some (.int k, mh3) => match mh3[l]? with
          | some (some (.lst xs)) => match L2.ixN xs.length k with
            | none => none
            | some j => if wr base l v = true then some (.nx, ρ, mh3.set l (some (.lst (xs.set j v)))) else none
          | _ => none
        | _ => none
      | _ => none
  | .aug i o e, ρ, mh => match ρ[i]? with
    | some (some (.int x)) => match ev C base e ρ mh with
      | some (.int y, mh1) => match o with
        | .add => some (.nx, ρ.set i (some (.int (x + y))), mh1)
        | .sub => some (.nx, ρ.set i (some (.int (x - y))), mh1)
        | _ => none
      | _ => none
    | _ => none
  | .pass, ρ, mh => some (.nx, ρ, mh)
  | .brk, ρ, mh => some (.bk, ρ, mh)
  | .cnt, ρ, mh => some (.ct, ρ, mh)
noncomputable def exs : List MS → Env → MHp → Option (Fl × Env × MHp)
  | [], ρ, mh => some (.nx, ρ, mh)
  | s :: ss, ρ, mh => match ex s ρ mh with
    | some (.nx, ρ1, mh1) => exs ss ρ1 mh1
    | r => r
end
end
/-- a def: its parameters' number, its names' number, whether what it makes stays live, its body -/
structure Df where
  np : Nat
  ns : Nat
  live : Bool
  body : List MS
def endV : Fl → Option MV
  | .nx => some .non
  | .rt v => some v
  | _ => none
noncomputable def runD (C : CallF) (d : Df) (args : List MV) (mh : MHp) : Option (MV × MHp) :=
  if args.length = d.np then
    match exs C mh.length d.body (args.map some ++ List.replicate (d.ns - d.np) none) mh with
    | none => none
    | some (fl, _, mh1) => match endV fl with
      | none => none
      | some v => if d.live = true then some (v, mh1) else (frz mh.length mh1 8 v).map (·, mh1.take mh.length)
  else none
noncomputable def callM (T : List Df) : Nat → CallF
  | 0, _, _, _ => none
  | k + 1, f, args, mh => match T[f]? with
    | none => none
    | some d => runD (callM T k) d args mh
end L2.Mi

set_option Elab.async false
set_option linter.all false
set_option maxRecDepth 100000
set_option maxHeartbeats 4000000
/-! Mini2: how values and the little heap stand for the layer's; what is kept. -/
namespace L2.Mi
open PySem PySem.Spec PyProof.Rows

structure Wd where
  H : Hp
  β : List Addr
  mh : MHp
  ex : List Addr
  bs : List Nat
def Wd.base (W : Wd) : Nat := W.bs.headD 0
structure Gb where
  K : PySem.W.Frag
  fa : Nat → Option Addr
def Wd.live (W : Wd) (a : Addr) : Prop := ∃ (l : Nat) (o : MO), W.mh[l]? = some (some o) ∧ W.β[l]? = some a
def kOf : MKey → Key
  | .inl i => .inl i
  | .inr s => .inr ⟨s.toArray⟩
abbrev noH : Hp := fun _ => none
mutual
def Rep (G : Gb) (W : Wd) : MV → V → Prop
  | .non, v => v = .non
  | .bl b, v => v = .bl b
  | .int i, v => v = .int i
  | .str s, v => v = .str ⟨s.toArray⟩
  | .fn f, v => ∃ a, G.fa f = some a ∧ v = .ref a
  | .tup xs, v => ∃ a vs, v = .ref a ∧ SqT G.K W.H a vs ∧ Reps G W xs vs
  | .lst xs, v => ∃ a vs, v = .ref a ∧ W.H a = some (.lst vs) ∧ (¬ W.live a ∧ a ∉ W.ex) ∧ Reps G W xs vs
  | .dct ks ms, v => ∃ a vs, v = .ref a ∧ W.H a = some (.dK ((ks.map kOf).zip vs)) ∧ (¬ W.live a ∧ a ∉ W.ex) ∧ ks.length = ms.length ∧ Reps G W ms vs
  | .loc l, v => ∃ a, v = .ref a ∧ W.β[l]? = some a
  | .scr ns, v => ∃ a, v = .ref a ∧ ((Rd W.H a (.lst (ns.map .int)) ∧ ¬ W.live a ∧ a ∉ W.ex) ∨ SqL G.K noH a (ns.map .int))
def Reps (G : Gb) (W : Wd) : List MV → List V → Prop
  | [], vs => vs = []
  | x :: xs, vs => ∃ v r, vs = v :: r ∧ Rep G W x v ∧ Reps G W xs r
end
def ORep (G : Gb) (W : Wd) : MO → Addr → Prop
  | .lst xs, a => ∃ vs, W.H a = some (.lst vs) ∧ Reps G W xs vs
  | .dct ks ms, a => ∃ vs, W.H a = some (.dK ((ks.map kOf).zip vs)) ∧ ks.length = ms.length ∧ Reps G W ms vs
def obd (n : Nat) : MO → Bool
  | .lst xs => bds n xs
  | .dct _ vs => bds n vs
def NoTup (u : HO) : Prop := (∀ xs, u ≠ .tup xs) ∧ ∀ o v, u ≠ .frz o v
structure Sim (G : Gb) (W : Wd) : Prop where
  len : W.β.length = W.mh.length
  ble : ∀ b ∈ W.bs, b ≤ W.mh.length
  top : ∀ b ∈ W.bs, b ≤ W.base
  obj : ∀ (l : Nat) (o : MO), W.mh[l]? = some (some o) → ∀ a, W.β[l]? = some a → ORep G W o a
  inj : ∀ (l l' : Nat) (a : Addr) (o o' : MO), W.mh[l]? = some (some o) → W.mh[l']? = some (some o') → W.β[l]? = some a → W.β[l']? = some a → l = l'
  exo : ∀ a ∈ W.ex, ∃ u, W.H a = some u ∧ NoTup u
  exl : ∀ a ∈ W.ex, ¬ W.live a
  bnd : ∀ b ∈ W.bs, ∀ (l : Nat) (o : MO), l < b → W.mh[l]? = some (some o) → obd b o = true
structure Keep (A B : Wd) : Prop where
  ex : ∀ a ∈ A.ex, a ∈ B.ex
  exn : ∀ a ∈ B.ex, a ∈ A.ex ∨ A.H a = none
  dom : ∀ a, A.H a ≠ none → B.H a ≠ none
  bs : B.bs = A.bs
  pre : ∃ t, B.β = A.β ++ t
  obj : ∀ a o, A.H a = some o → ¬ A.live a → B.H a = some o
  liv : ∀ a, B.live a → A.live a ∨ A.H a = none

theorem ORep.at {G : Gb} {W : Wd} {o : MO} {a : Addr} (h : ORep G W o a) : ∃ u, W.H a = some u ∧ NoTup u := by
  cases o with
  | lst xs => obtain ⟨vs, e, _⟩ := h; exact ⟨_, e, ⟨(fun _ z => nomatch z), (fun _ _ z => nomatch z)⟩⟩
  | dct ks ms => obtain ⟨vs, e, _⟩ := h; exact ⟨_, e, ⟨(fun _ z => nomatch z), (fun _ _ z => nomatch z)⟩⟩
theorem Sim.liveAt {G : Gb} {W : Wd} (S : Sim G W) {a : Addr} (h : W.live a) : ∃ u, W.H a = some u ∧ NoTup u := by
  obtain ⟨l, o, e1, e2⟩ := h
  exact (S.obj l o e1 a e2).at
theorem SqT_cases {K : PySem.W.Frag} {H H' : Hp} {a : Addr} {vs : List V} (h : SqT K H a vs) (k : ∀ u, H a = some u → ¬ NoTup u → H' a = some u) : SqT K H' a vs := by
  rcases h with (h | ⟨o, h⟩) | h
  · exact .inl (.inl (k _ h fun z => z.1 _ rfl))
  · exact .inl (.inr ⟨o, k _ h fun z => z.2 _ _ rfl⟩)
  · exact .inr h
theorem Keep.tup {G : Gb} {A B : Wd} (S : Sim G A) (k : Keep A B) {a : Addr} {vs : List V} (h : SqT G.K A.H a vs) : SqT G.K B.H a vs :=
  SqT_cases h fun u e n => k.obj a u e fun z => by
    obtain ⟨w, e', n'⟩ := S.liveAt z
    rw [e] at e'; cases e'
    exact n n'
theorem Keep.off {A B : Wd} (k : Keep A B) {a : Addr} {u : HO} (e : A.H a = some u) (n : ¬ A.live a ∧ a ∉ A.ex) : B.H a = some u ∧ ¬ B.live a ∧ a ∉ B.ex := by
  refine ⟨k.obj a u e n.1, fun z => ?_, fun z => (k.exn a z).elim n.2 fun z => by rw [e] at z; cases z⟩
  rcases k.liv a z with z | z
  · exact n.1 z
  · rw [e] at z; cases z
theorem pre_get {α : Type} {xs t : List α} {l : Nat} {a : α} (h : xs[l]? = some a) : (xs ++ t)[l]? = some a := by
  rw [List.getElem?_append_left (List.getElem?_eq_some_iff.mp h).1]; exact h
mutual
theorem Rep.keep {G : Gb} {A B : Wd} (S : Sim G A) (k : Keep A B) : ∀ (x : MV) (v : V), Rep G A x v → Rep G B x v
  | .non, v, h => h
  | .bl b, v, h => h
  | .int i, v, h => h
  | .str s, v, h => h
  | .fn f, v, h => h
  | .tup xs, v, h => by
    unfold Rep at h ⊢
    obtain ⟨a, vs, e, h1, h2⟩ := h
    exact ⟨a, vs, e, k.tup S h1, Reps.keep S k xs vs h2⟩
  | .lst xs, v, h => by
    unfold Rep at h ⊢
    obtain ⟨a, vs, e, h1, h2, h3⟩ := h
    obtain ⟨q1, q2⟩ := k.off h1 h2
    exact ⟨a, vs, e, q1, q2, Reps.keep S k xs vs h3⟩
  | .dct ks ms, v, h => by
    unfold Rep at h ⊢
    obtain ⟨a, vs, e, h1, h2, h3, h4⟩ := h
    obtain ⟨q1, q2⟩ := k.off h1 h2
    exact ⟨a, vs, e, q1, q2, h3, Reps.keep S k ms vs h4⟩
  | .loc l, v, h => by
    unfold Rep at h ⊢
    obtain ⟨a, e, h1⟩ := h
    obtain ⟨t, ht⟩ := k.pre
    exact ⟨a, e, by rw [ht]; exact pre_get h1⟩
  | .scr ns, v, h => by
    unfold Rep at h ⊢
    obtain ⟨a, e, h1⟩ := h
    refine ⟨a, e, ?_⟩
    rcases h1 with ⟨h1, h2⟩ | h1
    · rcases h1 with h1 | ⟨o, h1⟩
      · obtain ⟨q1, q2⟩ := k.off h1 h2
        exact .inl ⟨.inl q1, q2⟩
      · obtain ⟨q1, q2⟩ := k.off h1 h2
        exact .inl ⟨.inr ⟨o, q1⟩, q2⟩
    · exact .inr h1
theorem Reps.keep {G : Gb} {A B : Wd} (S : Sim G A) (k : Keep A B) : ∀ (xs : List MV) (vs : List V), Reps G A xs vs → Reps G B xs vs
  | [], vs, h => h
  | x :: xs, vs, h => by
    unfold Reps at h ⊢
    obtain ⟨v, r, e, h1, h2⟩ := h
    exact ⟨v, r, e, Rep.keep S k x v h1, Reps.keep S k xs r h2⟩
end
theorem Reps.len {G : Gb} {W : Wd} : ∀ {xs : List MV} {vs : List V}, Reps G W xs vs → xs.length = vs.length
  | [], vs, h => by unfold Reps at h; subst h; rfl
  | x :: xs, vs, h => by
    unfold Reps at h
    obtain ⟨v, r, rfl, _, h2⟩ := h
    rw [List.length_cons, List.length_cons, Reps.len h2]
theorem Reps.app {G : Gb} {W : Wd} : ∀ {xs ys : List MV} {vs ws : List V}, Reps G W xs vs → Reps G W ys ws → Reps G W (xs ++ ys) (vs ++ ws)
  | [], ys, vs, ws, h, h' => by unfold Reps at h; subst h; exact h'
  | x :: xs, ys, vs, ws, h, h' => by
    unfold Reps at h
    obtain ⟨v, r, rfl, h1, h2⟩ := h
    show Reps G W (x :: (xs ++ ys)) (v :: (r ++ ws))
    unfold Reps
    exact ⟨v, _, rfl, h1, Reps.app h2 h'⟩
theorem Reps.one {G : Gb} {W : Wd} {x : MV} {v : V} (h : Rep G W x v) : Reps G W [x] [v] := by
  unfold Reps
  exact ⟨v, [], rfl, h, by unfold Reps; rfl⟩
theorem Reps.get {G : Gb} {W : Wd} : ∀ {xs : List MV} {vs : List V} {i : Nat} {x : MV}, Reps G W xs vs → xs[i]? = some x → ∃ v, vs[i]? = some v ∧ Rep G W x v
  | [], vs, i, x, h, e => by simp at e
  | y :: xs, vs, i, x, h, e => by
    unfold Reps at h
    obtain ⟨v, r, rfl, h1, h2⟩ := h
    cases i with
    | zero => simp at e; subst e; exact ⟨v, rfl, h1⟩
    | succ i =>
      simp only [List.getElem?_cons_succ] at e ⊢
      exact Reps.get h2 e
theorem Reps.all {G : Gb} {W : Wd} : ∀ {xs : List MV} {vs : List V} (f : MV → MV → Prop), Reps G W xs vs → True := fun _ _ => trivial
theorem Reps.of {G : Gb} {W : Wd} : ∀ {xs : List MV} {vs : List V}, xs.length = vs.length → (∀ (i : Nat) x v, xs[i]? = some x → vs[i]? = some v → Rep G W x v) → Reps G W xs vs
  | [], vs, hl, _ => by
    unfold Reps
    cases vs with
    | nil => rfl
    | cons => simp at hl
  | x :: xs, [], hl, _ => by simp at hl
  | x :: xs, v :: vs, hl, h => by
    unfold Reps
    exact ⟨v, vs, rfl, h 0 x v rfl rfl, Reps.of (by simpa using hl) fun i x' v' e1 e2 => h (i + 1) x' v' (by simpa using e1) (by simpa using e2)⟩
theorem Reps.at {G : Gb} {W : Wd} {xs : List MV} {vs : List V} (h : Reps G W xs vs) {i : Nat} {x : MV} {v : V} (e1 : xs[i]? = some x) (e2 : vs[i]? = some v) : Rep G W x v := by
  obtain ⟨v', q, r⟩ := h.get e1
  have : v = v' := Option.some.inj (e2.symm.trans q)
  subst this
  exact r
theorem Reps.set {G : Gb} {W : Wd} {xs : List MV} {vs : List V} (h : Reps G W xs vs) {x : MV} {v : V} (r : Rep G W x v) (j : Nat) : Reps G W (xs.set j x) (vs.set j v) := by
  refine Reps.of (by rw [List.length_set, List.length_set]; exact h.len) fun i y w e1 e2 => ?_
  by_cases hij : j = i
  · subst hij
    have l1 := (List.getElem?_eq_some_iff.mp e1).1
    have l2 := (List.getElem?_eq_some_iff.mp e2).1
    rw [List.length_set] at l1 l2
    rw [List.getElem?_set_self l1] at e1
    rw [List.getElem?_set_self l2] at e2
    cases e1; cases e2; exact r
  · rw [List.getElem?_set_ne hij] at e1 e2
    exact h.at e1 e2
theorem Reps.take {G : Gb} {W : Wd} {xs : List MV} {vs : List V} (h : Reps G W xs vs) (n : Nat) : Reps G W (xs.take n) (vs.take n) := by
  refine Reps.of (by rw [List.length_take, List.length_take, h.len]) fun i y w e1 e2 => ?_
  rw [List.getElem?_take] at e1 e2
  by_cases hn : i < n
  · rw [if_pos hn] at e1 e2
    exact h.at e1 e2
  · rw [if_neg hn] at e1
    cases e1
theorem Reps.drop {G : Gb} {W : Wd} {xs : List MV} {vs : List V} (h : Reps G W xs vs) (n : Nat) : Reps G W (xs.drop n) (vs.drop n) := by
  refine Reps.of (by rw [List.length_drop, List.length_drop, h.len]) fun i y w e1 e2 => ?_
  rw [List.getElem?_drop] at e1 e2
  exact h.at e1 e2
theorem Reps.eraseIdx {G : Gb} {W : Wd} {xs : List MV} {vs : List V} (h : Reps G W xs vs) (n : Nat) : Reps G W (xs.eraseIdx n) (vs.eraseIdx n) := by
  rw [List.eraseIdx_eq_take_drop_succ, List.eraseIdx_eq_take_drop_succ]
  exact (h.take n).app (h.drop (n + 1))
theorem Reps.dropLast {G : Gb} {W : Wd} {xs : List MV} {vs : List V} (h : Reps G W xs vs) : Reps G W xs.dropLast vs.dropLast := by
  rw [List.dropLast_eq_take, List.dropLast_eq_take, h.len]
  exact h.take _

/-! ### what is kept -/
theorem Keep.refl (A : Wd) : Keep A A := ⟨fun _ h => h, fun _ h => .inl h, fun _ h => h, rfl, ⟨[], by simp⟩, fun _ _ h _ => h, fun _ h => .inl h⟩
theorem Keep.trans {A B C : Wd} (k : Keep A B) (k' : Keep B C) : Keep A C where
  ex := fun a h => k'.ex a (k.ex a h)
  exn := fun a h => (k'.exn a h).elim (fun h => k.exn a h) fun h => .inr (Classical.byContradiction fun n => k.dom a n h)
  dom := fun a h => k'.dom a (k.dom a h)
  bs := k'.bs.trans k.bs
  pre := by
    obtain ⟨t, e⟩ := k.pre
    obtain ⟨t', e'⟩ := k'.pre
    exact ⟨t ++ t', by rw [e', e, List.append_assoc]⟩
  obj := fun a o h n => k'.obj a o (k.obj a o h n) fun z => (k.liv a z).elim n fun z => by rw [h] at z; cases z
  liv := fun a z => (k'.liv a z).elim (fun z => k.liv a z) fun z => by
    cases e : A.H a with
    | none => exact .inr rfl
    | some o =>
      refine .inl (Classical.byContradiction fun n => ?_)
      have := k.obj a o e n
      rw [z] at this; cases this
abbrev Wd.up (W : Wd) (p : Addr) (o : HO) : Wd := { W with H := upd W.H p o }
theorem upd_dom {H : Hp} {p : Addr} {o : HO} : ∀ a, H a ≠ none → upd H p o a ≠ none := fun a h => by
  by_cases e : a = p
  · subst e; rw [upd_same]; exact fun z => nomatch z
  · rw [upd_ne e]; exact h
theorem keep_new {W : Wd} {p : Addr} {o : HO} (h : W.H p = none) : Keep W (W.up p o) :=
  ⟨fun _ h => h, fun _ h => .inl h, upd_dom, rfl, ⟨[], by simp⟩, fun a u e _ => by show upd W.H p o a = _; rw [upd_ne (ne_of_none e h)]; exact e, fun a z => .inl z⟩
theorem ORep.keep {G : Gb} {A B : Wd} (S : Sim G A) (k : Keep A B) {o : MO} {a : Addr} (h : ORep G A o a) (e : B.H a = A.H a) : ORep G B o a := by
  cases o with
  | lst xs => obtain ⟨vs, q, r⟩ := h; exact ⟨vs, e.trans q, Reps.keep S k _ _ r⟩
  | dct ks ms => obtain ⟨vs, q, l, r⟩ := h; exact ⟨vs, e.trans q, l, Reps.keep S k _ _ r⟩
theorem Sim.new {G : Gb} {W : Wd} (S : Sim G W) {p : Addr} {o : HO} (h : W.H p = none) : Sim G (W.up p o) where
  len := S.len
  ble := S.ble
  top := S.top
  obj := fun l u e a q => by
    have r := S.obj l u e a q
    refine r.keep S (keep_new h) ?_
    obtain ⟨v, e', _⟩ := r.at
    exact upd_ne (ne_of_none e' h)
  inj := S.inj
  exo := fun a ha => by
    obtain ⟨u, e, n⟩ := S.exo a ha
    exact ⟨u, by show upd W.H p o a = _; rw [upd_ne (ne_of_none e h)]; exact e, n⟩
  exl := S.exl
  bnd := S.bnd
theorem off_new {G : Gb} {W : Wd} (S : Sim G W) {p : Addr} (h : W.H p = none) : ¬ W.live p ∧ p ∉ W.ex :=
  ⟨(fun z => by obtain ⟨u, e, _⟩ := S.liveAt z; rw [h] at e; exact nomatch e), (fun z => by obtain ⟨u, e, _⟩ := S.exo p z; rw [h] at e; exact nomatch e)⟩
/-- a new tuple, a new list that never changes -/
theorem rep_tup {G : Gb} {W : Wd} (S : Sim G W) {p : Addr} {xs : List MV} {vs : List V} (h : W.H p = none) (r : Reps G W xs vs) : Rep G (W.up p (.tup vs)) (.tup xs) (.ref p) := by
  unfold Rep
  exact ⟨p, vs, rfl, .inl (.inl upd_same), Reps.keep S (keep_new h) _ _ r⟩
theorem rep_lst {G : Gb} {W : Wd} (S : Sim G W) {p : Addr} {xs : List MV} {vs : List V} (h : W.H p = none) (r : Reps G W xs vs) : Rep G (W.up p (.lst vs)) (.lst xs) (.ref p) := by
  unfold Rep
  exact ⟨p, vs, rfl, upd_same, off_new S h, Reps.keep S (keep_new h) _ _ r⟩
/-- the live object l is written -/
abbrev Wd.wr (W : Wd) (l : Nat) (a : Addr) (o : HO) (u : MO) : Wd := { W with H := upd W.H a o, mh := W.mh.set l (some u) }
theorem set_get {mh : MHp} {l l' : Nat} {u v : MO} (h : (mh.set l (some u))[l']? = some (some v)) : (l' = l ∧ v = u ∧ l < mh.length) ∨ (l' ≠ l ∧ mh[l']? = some (some v)) := by
  by_cases e : l = l'
  · subst e
    have l1 := (List.getElem?_eq_some_iff.mp h).1
    rw [List.length_set] at l1
    rw [List.getElem?_set_self l1] at h
    cases h; exact .inl ⟨rfl, rfl, l1⟩
  · rw [List.getElem?_set_ne e] at h
    exact .inr ⟨fun z => e z.symm, h⟩
theorem keep_wr {G : Gb} {W : Wd} {l : Nat} {a : Addr} {o : HO} {u v : MO} (S : Sim G W) (h1 : W.mh[l]? = some (some v)) (h2 : W.β[l]? = some a) : Keep W (W.wr l a o u) := by
  refine ⟨fun _ h => h, fun _ h => .inl h, upd_dom, rfl, ⟨[], by simp⟩, fun c w e n => ?_, fun c z => .inl ?_⟩
  · show upd W.H a o c = _
    rw [upd_ne fun z => n (by rw [z]; exact ⟨l, v, h1, h2⟩)]; exact e
  · obtain ⟨l', o', e1, e2⟩ := z
    rcases set_get e1 with ⟨rfl, _, _⟩ | ⟨_, e1⟩
    · rw [h2] at e2; cases e2; exact ⟨_, v, h1, h2⟩
    · exact ⟨l', o', e1, e2⟩
theorem Sim.wr {G : Gb} {W : Wd} {l : Nat} {a : Addr} {o : HO} {u v : MO} (S : Sim G W) (h1 : W.mh[l]? = some (some v)) (h2 : W.β[l]? = some a) (hr : ORep G (W.wr l a o u) u a) (nt : NoTup o) (hb : ∀ b ∈ W.bs, l < b → obd b u = true) : Sim G (W.wr l a o u) where
  len := by show W.β.length = (W.mh.set l (some u)).length; rw [List.length_set]; exact S.len
  ble := fun b hb => by show b ≤ (W.mh.set l (some u)).length; rw [List.length_set]; exact S.ble b hb
  top := S.top
  obj := fun l' w e c q => by
    rcases set_get e with ⟨rfl, rfl, _⟩ | ⟨ne, e⟩
    · have q' : W.β[l']? = some c := q
      rw [h2] at q'; cases q'; exact hr
    · have r := S.obj l' w e c q
      refine r.keep S (keep_wr S h1 h2) ?_
      exact upd_ne fun z => ne (S.inj l' l a w v e h1 (by rw [← z]; exact q) h2)
  inj := fun l1 l2 c o1 o2 e1 e2 q1 q2 => by
    have f : ∀ {l' o'}, (W.mh.set l (some u))[l']? = some (some o') → ∃ o'', W.mh[l']? = some (some o'') := fun {l' o'} e => by
      rcases set_get e with ⟨rfl, _, _⟩ | ⟨_, e⟩
      · exact ⟨v, h1⟩
      · exact ⟨_, e⟩
    obtain ⟨_, e1'⟩ := f e1
    obtain ⟨_, e2'⟩ := f e2
    exact S.inj l1 l2 c _ _ e1' e2' q1 q2
  exo := fun c hc => by
    obtain ⟨w, e, n⟩ := S.exo c hc
    have hn : c ≠ a := fun z => S.exl c hc (by rw [z]; exact ⟨l, v, h1, h2⟩)
    exact ⟨w, by show upd W.H a o c = _; rw [upd_ne hn]; exact e, n⟩
  exl := fun c hc z => S.exl c hc (by
    obtain ⟨l', o', e1, e2⟩ := z
    rcases set_get e1 with ⟨rfl, _, _⟩ | ⟨_, e1⟩
    · exact ⟨_, v, h1, e2⟩
    · exact ⟨l', o', e1, e2⟩)
  bnd := fun b hbs l' w hl e => by
    rcases set_get e with ⟨rfl, rfl, _⟩ | ⟨_, e⟩
    · exact hb b hbs hl
    · exact S.bnd b hbs l' w hl e
/-- a new live object -/
abbrev Wd.al (W : Wd) (p : Addr) (o : HO) (u : MO) : Wd := { W with H := upd W.H p o, β := W.β ++ [p], mh := W.mh ++ [some u] }
theorem app_get {α : Type} {xs : List α} {x y : α} {l : Nat} (h : (xs ++ [x])[l]? = some y) : xs[l]? = some y ∨ (l = xs.length ∧ y = x) := by
  by_cases hl : l < xs.length
  · rw [List.getElem?_append_left hl] at h; exact .inl h
  · rw [List.getElem?_append_right (by omega)] at h
    have : l - xs.length = 0 := by
      have := (List.getElem?_eq_some_iff.mp h).1
      simp at this; omega
    rw [this] at h
    simp at h
    exact .inr ⟨by omega, h.symm⟩
theorem keep_al {G : Gb} {W : Wd} (S : Sim G W) {p : Addr} {o : HO} {u : MO} (h : W.H p = none) : Keep W (W.al p o u) := by
  refine ⟨fun _ h => h, fun _ h => .inl h, upd_dom, rfl, ⟨[p], rfl⟩, fun c w e n => ?_, fun c z => ?_⟩
  · show upd W.H p o c = _
    rw [upd_ne (ne_of_none e h)]; exact e
  · obtain ⟨l, o', e1, e2⟩ := z
    rcases app_get e1 with e1 | ⟨rfl, _⟩
    · have hl : l < W.β.length := by rw [S.len]; exact (List.getElem?_eq_some_iff.mp e1).1
      have e2' : (W.β ++ [p])[l]? = some c := e2
      rw [List.getElem?_append_left hl] at e2'
      exact .inl ⟨l, o', e1, e2'⟩
    · have e2' : (W.β ++ [p])[W.mh.length]? = some c := e2
      rw [← S.len, List.getElem?_append_right (Nat.le_refl _)] at e2'
      simp at e2'
      subst e2'
      exact .inr h
theorem Sim.al {G : Gb} {W : Wd} (S : Sim G W) {p : Addr} {o : HO} {u : MO} (h : W.H p = none) (hr : ORep G (W.al p o u) u p) (nt : NoTup o) : Sim G (W.al p o u) where
  len := by show (W.β ++ [p]).length = (W.mh ++ [some u]).length; rw [List.length_append, List.length_append, S.len]; rfl
  ble := fun b hb => by show b ≤ (W.mh ++ [some u]).length; rw [List.length_append]; exact Nat.le_trans (S.ble b hb) (Nat.le_add_right _ _)
  top := S.top
  obj := fun l w e c q => by
    have q' : (W.β ++ [p])[l]? = some c := q
    rcases app_get e with e | ⟨rfl, e9⟩
    · have hl : l < W.β.length := by rw [S.len]; exact (List.getElem?_eq_some_iff.mp e).1
      rw [List.getElem?_append_left hl] at q'
      have r := S.obj l w e c q'
      refine r.keep S (keep_al S h) ?_
      obtain ⟨v, e', _⟩ := r.at
      exact upd_ne (ne_of_none e' h)
    · have e' : w = u := Option.some.inj e9
      subst e'
      rw [← S.len, List.getElem?_append_right (Nat.le_refl _)] at q'
      simp at q'
      subst q'
      exact hr
  inj := fun l1 l2 c o1 o2 e1 e2 q1 q2 => by
    have key : ∀ {l o'}, (W.mh ++ [some u])[l]? = some (some o') → (W.β ++ [p])[l]? = some c → (W.mh[l]? = some (some o') ∧ W.β[l]? = some c ∧ c ≠ p) ∨ (l = W.mh.length ∧ c = p) := fun {l o'} e q => by
      rcases app_get e with e | ⟨rfl, _⟩
      · have hl : l < W.β.length := by rw [S.len]; exact (List.getElem?_eq_some_iff.mp e).1
        rw [List.getElem?_append_left hl] at q
        refine .inl ⟨e, q, ?_⟩
        obtain ⟨v, e', _⟩ := (S.obj l _ e c q).at
        exact ne_of_none e' h
      · rw [← S.len, List.getElem?_append_right (Nat.le_refl _)] at q
        simp at q
        exact .inr ⟨rfl, q.symm⟩
    rcases key e1 q1 with ⟨a1, a2, a3⟩ | ⟨a1, a2⟩
    · rcases key e2 q2 with ⟨b1, b2, b3⟩ | ⟨b1, b2⟩
      · exact S.inj l1 l2 c _ _ a1 b1 a2 b2
      · exact absurd b2 a3
    · rcases key e2 q2 with ⟨b1, b2, b3⟩ | ⟨b1, b2⟩
      · exact absurd a2 b3
      · rw [a1, b1]
  exo := fun c hc => by
    obtain ⟨w, e, n⟩ := S.exo c hc
    exact ⟨w, by show upd W.H p o c = _; rw [upd_ne (ne_of_none e h)]; exact e, n⟩
  exl := fun c hc z => by
    rcases (keep_al S h).liv c z with z | z
    · exact S.exl c hc z
    · obtain ⟨w, e, n⟩ := S.exo c hc
      rw [z] at e; cases e
  bnd := fun b hbs l w hl e => by
    rcases app_get e with e | ⟨rfl, _⟩
    · exact S.bnd b hbs l w hl e
    · exact absurd (Nat.lt_of_lt_of_le hl (S.ble b hbs)) (Nat.lt_irrefl _)
/-! ### names -/
def Envs (G : Gb) (W : Wd) (ρ : Env) (σ : L2.St) : Prop := ρ.length = σ.length ∧ ∀ (i : Nat) (v : MV), ρ[i]? = some (some v) → ∃ x, σ[i]? = some (some x) ∧ Rep G W v x
theorem Envs.keep {G : Gb} {A B : Wd} {ρ : Env} {σ : St} (h : Envs G A ρ σ) (S : Sim G A) (k : Keep A B) : Envs G B ρ σ :=
  ⟨h.1, fun i v e => let ⟨x, q, r⟩ := h.2 i v e; ⟨x, q, Rep.keep S k _ _ r⟩⟩
theorem Envs.set {G : Gb} {W : Wd} {ρ : Env} {σ : St} (h : Envs G W ρ σ) {v : MV} {x : V} (r : Rep G W v x) (i : Nat) : Envs G W (ρ.set i (some v)) (σ.set i (some x)) := by
  refine ⟨by rw [List.length_set, List.length_set]; exact h.1, fun j u e => ?_⟩
  by_cases hij : i = j
  · subst hij
    have l1 := (List.getElem?_eq_some_iff.mp e).1
    rw [List.length_set] at l1
    rw [List.getElem?_set_self l1] at e
    cases e
    exact ⟨x, List.getElem?_set_self (by rw [← h.1]; exact l1), r⟩
  · rw [List.getElem?_set_ne hij] at e ⊢
    exact h.2 j u e
theorem Envs.wipe {G : Gb} {W : Wd} {ρ : Env} {σ : St} (h : Envs G W ρ σ) : ∀ vs : List Nat, Envs G W (wipeE ρ vs) (L2.wipe σ vs)
  | [] => h
  | v :: vs => by
    have ih := Envs.wipe h vs
    refine ⟨by unfold wipeE L2.wipe; rw [List.length_set, List.length_set]; exact ih.1, fun j u e => ?_⟩
    unfold wipeE at e
    unfold L2.wipe
    by_cases hij : v = j
    · subst hij
      have l1 := (List.getElem?_eq_some_iff.mp e).1
      rw [List.length_set] at l1
      rw [List.getElem?_set_self l1] at e
      cases e
    · rw [List.getElem?_set_ne hij] at e ⊢
      exact ih.2 j u e
end L2.Mi

set_option Elab.async false
set_option linter.all false
set_option maxRecDepth 100000
set_option maxHeartbeats 4000000
/-! Mini3: the operations of the evaluator are the layer's. -/
namespace L2.Mi
open PySem PySem.Spec PyProof.Rows

/-- what is wanted behind an evaluation that began in A -/
def Post (G : Gb) (A : Wd) (mh' : MHp) (v : MV) (Q : VK) : Prop := ∀ (B : Wd) (x : V), Keep A B → B.mh = mh' → Sim G B → Rep G B v x → Q x B.H
theorem Post.here {G : Gb} {A : Wd} {v : MV} {x : V} {Q : VK} (h : Post G A A.mh v Q) (S : Sim G A) (r : Rep G A v x) : Q x A.H := h A x (Keep.refl A) rfl S r
theorem Post.step {G : Gb} {A B : Wd} {mh' : MHp} {v : MV} {Q : VK} (h : Post G A mh' v Q) (k : Keep A B) : Post G B mh' v Q := fun C x k' e S r => h C x (k.trans k') e S r
theorem Post.newTup {G : Gb} {A : Wd} {xs : List MV} {vs : List V} {Q : VK} {p : Addr} (h : Post G A A.mh (.tup xs) Q) (S : Sim G A) (r : Reps G A xs vs) (hp : A.H p = none) : Q (.ref p) (upd A.H p (.tup vs)) :=
  h (A.up p (.tup vs)) (.ref p) (keep_new hp) rfl (S.new hp) (rep_tup S hp r)
theorem Post.newLst {G : Gb} {A : Wd} {xs : List MV} {vs : List V} {Q : VK} {p : Addr} (h : Post G A A.mh (.lst xs) Q) (S : Sim G A) (r : Reps G A xs vs) (hp : A.H p = none) : Q (.ref p) (upd A.H p (.lst vs)) :=
  h (A.up p (.lst vs)) (.ref p) (keep_new hp) rfl (S.new hp) (rep_lst S hp r)

theorem OpR.or {X : Cx} {f : Value → Value → Sem Value} {r r' : R2} (h : OpR X f r) (h' : OpR X f r') : OpR X f (fun x y H Q => r x y H Q ∨ r' x y H Q) := by
  intro pins s σ H x y v u Q I rx ry q
  rcases q with q | q
  · exact h pins s σ H x y v u Q I rx ry q
  · exact h' pins s σ H x y v u Q I rx ry q
theorem CallR.or {X : Cx} {f : Value} {r r' : List V → Hp → VK → Prop} (h : CallR X f r) (h' : CallR X f r') : CallR X f (fun xs H Q => r xs H Q ∨ r' xs H Q) := by
  intro pins s σ H xs us Q I r q
  rcases q with q | q
  · exact h pins s σ H xs us Q I r q
  · exact h' pins s σ H xs us Q I r q
theorem MtR.or' {X : Cx} {id : String} {r r' : V → List V → Hp → VK → Prop} (h : MtR X id r) (h' : MtR X id r') : MtR X id (fun x xs H Q => r x xs H Q ∨ r' x xs H Q) := MtR.or h h'

/-! ### shapes -/
section
variable {G : Gb} {A : Wd}
theorem Rep.int_ {i : Int} {v : V} (h : Rep G A (.int i) v) : v = .int i := by unfold Rep at h; exact h
theorem Rep.str_ {s : Sx} {v : V} (h : Rep G A (.str s) v) : v = .str ⟨s.toArray⟩ := by unfold Rep at h; exact h
theorem Rep.bl_ {b : Bool} {v : V} (h : Rep G A (.bl b) v) : v = .bl b := by unfold Rep at h; exact h
theorem Rep.non_ {v : V} (h : Rep G A .non v) : v = .non := by unfold Rep at h; exact h
theorem Rep.tup_ {xs : List MV} {v : V} (h : Rep G A (.tup xs) v) : ∃ a vs, v = .ref a ∧ SqT G.K A.H a vs ∧ Reps G A xs vs := by unfold Rep at h; exact h
theorem Rep.loc_ {l : Nat} {v : V} (h : Rep G A (.loc l) v) : ∃ a, v = .ref a ∧ A.β[l]? = some a := by unfold Rep at h; exact h
theorem rep_int (i : Int) : Rep G A (.int i) (.int i) := by unfold Rep; rfl
theorem rep_str (s : Sx) : Rep G A (.str s) (.str ⟨s.toArray⟩) := by unfold Rep; rfl
theorem rep_bl (b : Bool) : Rep G A (.bl b) (.bl b) := by unfold Rep; rfl
theorem rep_non : Rep G A .non .non := by unfold Rep; rfl
/-- a list that is read: its items -/
theorem getL_rep (S : Sim G A) {x : MV} {v : V} {xs : List MV} (e : getL A.mh x = some xs) (h : Rep G A x v) : ∃ a vs, v = .ref a ∧ A.H a = some (.lst vs) ∧ Reps G A xs vs := by
  cases x with
  | lst ys =>
    cases e
    unfold Rep at h
    obtain ⟨a, vs, e1, e2, _, r⟩ := h
    exact ⟨a, vs, e1, e2, r⟩
  | loc l =>
    simp only [getL] at e
    split at e
    · rename_i ys hl
      cases e
      obtain ⟨a, e1, e2⟩ := h.loc_
      obtain ⟨vs, e3, r⟩ := S.obj l _ hl a e2
      exact ⟨a, vs, e1, e3, r⟩
    · cases e
  | _ => exact absurd e (by simp [getL])
theorem Reps.map_int {ns : List Int} : Reps G A (ns.map .int) (ns.map .int) := by
  induction ns with
  | nil => unfold Reps; rfl
  | cons n ns ih => rw [List.map_cons, List.map_cons]; unfold Reps; exact ⟨_, _, rfl, rep_int n, ih⟩
theorem Reps.blOf : ∀ {xs : List MV} {vs : List V} {bs : List Bool}, Reps G A xs vs → xs.mapM blOf = some bs → vs = bs.map .bl
  | [], vs, bs, h, e => by
    unfold Reps at h
    simp at e
    subst e h
    rfl
  | x :: xs, vs, bs, h, e => by
    unfold Reps at h
    obtain ⟨v, r, rfl, h1, h2⟩ := h
    simp only [List.mapM_cons, Option.bind_eq_bind, Option.bind_eq_some_iff] at e
    obtain ⟨b, e1, cs, e2, e3⟩ := e
    cases x with
    | bl b' =>
      cases e1
      cases e3
      rw [h1.bl_, Reps.blOf h2 e2]
      rfl
    | _ => exact absurd e1 (by simp [Mi.blOf])
theorem Reps.intOf : ∀ {xs : List MV} {vs : List V} {bs : List Int}, Reps G A xs vs → xs.mapM intOf = some bs → vs = bs.map .int
  | [], vs, bs, h, e => by
    unfold Reps at h
    simp at e
    subst e h
    rfl
  | x :: xs, vs, bs, h, e => by
    unfold Reps at h
    obtain ⟨v, r, rfl, h1, h2⟩ := h
    simp only [List.mapM_cons, Option.bind_eq_bind, Option.bind_eq_some_iff] at e
    obtain ⟨b, e1, cs, e2, e3⟩ := e
    cases x with
    | int i' =>
      cases e1
      cases e3
      rw [h1.int_, Reps.intOf h2 e2]
      rfl
    | _ => exact absurd e1 (by simp [Mi.intOf])
theorem str_len (s : Sx) : (⟨s.toArray⟩ : Str).length = s.length := by simp [Str.length]
theorem str_app (s t : Sx) : (⟨s.toArray⟩ : Str) ++ ⟨t.toArray⟩ = ⟨(s ++ t).toArray⟩ := by
  show (Str.mk (s.toArray ++ t.toArray) : Str) = _
  rw [List.append_toArray]
end

/-! ### data -/
section
variable {G : Gb} {A : Wd}
theorem canLay_dct {xs : List MV} : PyData.canLay0 (.dict []) = false := rfl
mutual
theorem frz_dp (S : Sim G A) : ∀ (k : Nat) (x x' : MV) (v : V), frz 0 A.mh k x = some x' → PyData.canLay0 (toD x') = true → Rep G A x v → Dp G.K A.H v (toD x')
  | k, .non, x', v, e, c, h => by
    unfold frz at e; cases e; rw [h.non_]; unfold toD; exact .non
  | k, .bl b, x', v, e, c, h => by
    unfold frz at e; cases e; rw [h.bl_]; unfold toD; exact .bl b
  | k, .int i, x', v, e, c, h => by
    unfold frz at e; cases e; rw [h.int_]; unfold toD; exact .int i
  | k, .str s, x', v, e, c, h => by
    unfold frz at e; cases e; rw [h.str_]; unfold toD; exact .str _
  | k, .fn f, x', v, e, c, h => by
    unfold frz at e; cases e; unfold toD at c; exact absurd c (by decide)
  | k, .scr ns, x', v, e, c, h => by
    unfold frz at e; cases e
    unfold Rep at h
    obtain ⟨a, rfl, h⟩ := h
    unfold toD
    have sq : SqL G.K A.H a (ns.map .int) := by
      rcases h with ⟨h, _⟩ | (h | h)
      · exact .inl h
      · rcases h with h | ⟨o, h⟩ <;> exact nomatch h
      · exact .inr h
    exact .lst sq (DpAll_ints ns)
  | k, .dct ks vs, x', v, e, c, h => by
    unfold frz at e
    cases q : frzs 0 A.mh k vs with
    | none => rw [q] at e; exact nomatch e
    | some ys => rw [q] at e; cases e; unfold toD at c; exact absurd c (by decide)
  | k, .tup xs, x', v, e, c, h => by
    unfold frz at e
    cases q : frzs 0 A.mh k xs with
    | none => rw [q] at e; exact nomatch e
    | some ys =>
      rw [q] at e; cases e
      obtain ⟨a, vs, rfl, h1, h2⟩ := h.tup_
      unfold toD at c ⊢
      exact .tup h1 (frzs_dp S k xs ys vs q c h2)
  | k, .lst xs, x', v, e, c, h => by
    unfold frz at e
    cases q : frzs 0 A.mh k xs with
    | none => rw [q] at e; exact nomatch e
    | some ys =>
      rw [q] at e; cases e
      unfold Rep at h
      obtain ⟨a, vs, rfl, h1, _, h2⟩ := h
      unfold toD at c ⊢
      exact .lst (SqL.of h1) (frzs_dp S k xs ys vs q c h2)
  | 0, .loc l, x', v, e, c, h => by
    unfold frz at e
    simp at e
  | k + 1, .loc l, x', v, e, c, h => by
    unfold frz at e
    simp only [Nat.not_lt_zero, if_false] at e
    obtain ⟨a, rfl, e2⟩ := h.loc_
    split at e
    · rename_i xs hl
      cases q : frzs 0 A.mh k xs with
      | none => rw [q] at e; exact nomatch e
      | some ys =>
        rw [q] at e; cases e
        obtain ⟨vs, e3, r⟩ := S.obj l _ hl a e2
        unfold toD at c ⊢
        exact .lst (SqL.of e3) (frzs_dp S k xs ys vs q c r)
    · rename_i ks vs hl
      cases q : frzs 0 A.mh k vs with
      | none => rw [q] at e; exact nomatch e
      | some ys => rw [q] at e; cases e; unfold toD at c; exact absurd c (by decide)
    · exact nomatch e
  termination_by k x => (k, sizeOf x)
theorem frzs_dp (S : Sim G A) : ∀ (k : Nat) (xs ys : List MV) (vs : List V), frzs 0 A.mh k xs = some ys → PyData.canLayAll0 (toDs ys) = true → Reps G A xs vs → DpAll G.K A.H vs (toDs ys)
  | k, [], ys, vs, e, c, h => by
    unfold frzs at e; cases e
    unfold Reps at h; subst h
    unfold toDs; exact .nil
  | k, x :: xs, ys, vs, e, c, h => by
    unfold frzs at e
    unfold Reps at h
    obtain ⟨v, r, rfl, h1, h2⟩ := h
    cases q : frz 0 A.mh k x with
    | none => rw [q] at e; exact nomatch e
    | some y =>
      rw [q] at e
      simp only at e
      cases q2 : frzs 0 A.mh k xs with
      | none => rw [q2] at e; exact nomatch e
      | some ys' =>
        rw [q2] at e; cases e
        unfold toDs at c ⊢
        unfold PyData.canLayAll0 at c
        rw [Bool.and_eq_true] at c
        exact .cons (frz_dp S k x y v q c.1 h1) (frzs_dp S k xs ys' r q2 c.2 h2)
  termination_by k xs => (k, sizeOf xs)
theorem DpAll_ints {K : PySem.W.Frag} {H : Hp} : ∀ ns : List Int, DpAll K H (ns.map .int) (ns.map .int)
  | [] => .nil
  | n :: ns => .cons (.int n) (DpAll_ints ns)
end
theorem okD_can {x : MV} (h : okD x = true) : PyData.canLay0 (toD x) = true := SeqAt.canLay_of_shaped h

/-! ### readings of the operations -/
theorem eqV_dp (S : Sim G A) {x y : MV} {vx vy : V} {c : Bool} (e : eqV A.mh x y = some c) (rx : Rep G A x vx) (ry : Rep G A y vy) :
    ∃ d d', Dp G.K A.H vx d ∧ Dp G.K A.H vy d' ∧ SeqAt.shaped d = true ∧ SeqAt.shaped d' = true ∧ PyData.eqv d d' = c := by
  unfold eqV at e
  cases q : frz 0 A.mh 8 x with
  | none => rw [q] at e; exact nomatch e
  | some x' =>
    rw [q] at e
    simp only at e
    cases q2 : frz 0 A.mh 8 y with
    | none => rw [q2] at e; exact nomatch e
    | some y' =>
      rw [q2] at e
      simp only at e
      split at e
      · rename_i hk
        cases e
        exact ⟨_, _, frz_dp S 8 x x' vx q (okD_can hk.1) rx, frz_dp S 8 y y' vy q2 (okD_can hk.2) ry, hk.1, hk.2, rfl⟩
      · exact nomatch e
end
end L2.Mi

set_option Elab.async false
set_option linter.all false
set_option maxRecDepth 100000
set_option maxHeartbeats 4000000
/-! Mini4: operators and comparisons. -/
namespace L2.Mi
open PySem PySem.Spec PyProof.Rows

/-! ### a text so many times -/
theorem foldl_app (x : Array Nat) : ∀ (n : Nat) (a : Array Nat), ((List.replicate n x).foldl (· ++ ·) a).toList = a.toList ++ (List.replicate n x.toList).flatten
  | 0, a => by simp
  | n + 1, a => by
    rw [List.replicate_succ, List.foldl_cons, foldl_app x n, List.replicate_succ, List.flatten_cons]
    simp
theorem str_toList_eq {x y : Str} (h : x.cps.toList = y.cps.toList) : x = y := by
  cases x; cases y
  simp only at h
  exact congrArg Str.mk (Array.toList_inj.mp h)
def rMulS : R2 := fun x y H Q => ∃ (s : Str) (n : Int), x = .str s ∧ y = .int n ∧ 0 ≤ n ∧ n ≤ 1000000 ∧ s.length * n.toNat ≤ sizeLine ∧ Q (.str ⟨(List.replicate n.toNat s.cps.toList).flatten.toArray⟩) H
theorem op_mulS {X : Cx} : OpR X (binaryOp .Mult) rMulS := by
  intro pins s σ H x y v u Q I rx ry h
  obtain ⟨z, n, rfl, rfl, h0, h1, h2, q⟩ := h
  obtain ⟨t, rfl⟩ := rx
  obtain ⟨t', rfl⟩ := ry
  refine PySem.P.mul_str ?_ (fun h => ?_) (fun h _ => ?_) ?_
  · rw [decide_eq_false (by omega), decide_eq_false (by omega)]; rfl
  · intro hz hh
    have e1 : (z.length : Int) ≤ 16777216 := by
      have : z.length * 1 ≤ z.length * n.toNat := Nat.mul_le_mul_left _ (by omega)
      have h2' : z.length * n.toNat ≤ 16777216 := h2
      omega
    have e2 : (16777216 : Int) ≤ (2 ^ 63 - 1) / n := by
      have : 0 < n := by omega
      rw [Int.le_ediv_iff_mul_le this]
      omega
    omega
  · have h2' : z.length * n.toNat ≤ sizeLine := h2
    exact decide_eq_false (by omega)
  · split
    · rename_i hn
      have e : n.toNat = 0 := by omega
      refine ⟨by decide, .str Str.empty, H, I.tok _, ⟨_, rfl⟩, ?_⟩
      rw [e] at q
      exact q
    · split
      · rename_i hn hb
        refine ⟨.str z, H, I, ⟨_, rfl⟩, ?_⟩
        have e : (⟨(List.replicate n.toNat z.cps.toList).flatten.toArray⟩ : Str) = z := by
          apply str_toList_eq
          rw [Bool.or_eq_true] at hb
          rcases hb with hb | hb
          · have e : n.toNat = 1 := by
              have : n = 1 := by simpa using hb
              omega
            rw [e]; simp
          · have e : z.cps.toList = [] := by
              have : z.length = 0 := by simpa using hb
              have : z.cps.toList.length = 0 := by simpa [Str.length] using this
              exact List.length_eq_zero_iff.mp this
            rw [e]; simp
        rw [e] at q
        exact q
      · refine ⟨?_, .str _, H, I.tok _, ⟨_, rfl⟩, ?_⟩
        · show (⟨(List.replicate n.toNat z.cps).foldl (· ++ ·) #[]⟩ : Str).length ≤ _
          have : (⟨(List.replicate n.toNat z.cps).foldl (· ++ ·) #[]⟩ : Str).length = z.length * n.toNat := by
            show Array.size _ = _
            rw [← Array.length_toList, foldl_app]
            simp [Str.length, Nat.mul_comm]
          rw [this]
          exact h2
        · have e : (⟨(List.replicate n.toNat z.cps).foldl (· ++ ·) #[]⟩ : Str) = ⟨(List.replicate n.toNat z.cps.toList).flatten.toArray⟩ := by
            apply str_toList_eq
            rw [foldl_app]
            simp
          rw [e]
          exact q

def opOf : Op → Operator
  | .add => .Add
  | .sub => .Sub
  | .mul => .Mult
  | .fdiv => .FloorDiv
  | .mod => .Mod
def rAddS : R2 := fun x y H Q => ∃ i j, x = .str i ∧ y = .str j ∧ i.length + j.length ≤ sizeLine ∧ Q (.str (i ++ j)) H
def opR (K : PySem.W.Frag) : Op → R2
  | .add => fun x y H Q => rI0 (fun i j => .int (i + j)) x y H Q ∨ rAddS x y H Q ∨ rCatA K x y H Q ∨ rCat x y H Q
  | .sub => rI0 fun i j => .int (i - j)
  | .mul => fun x y H Q => rI CMul (fun i j => .int (i * j)) x y H Q ∨ rMulS x y H Q
  | .fdiv => rI CDivN fun i j => .int (i.fdiv j)
  | .mod => rI (fun _ j => j ≠ 0) fun i j => .int (i.fmod j)
theorem op_ok {X : Cx} : ∀ o : Op, OpR X (binaryOp (opOf o)) (opR X.K o)
  | .add => op_add.or (op_add_str.or (op_catA.or op_cat))
  | .sub => op_sub
  | .mul => op_mul.or op_mulS
  | .fdiv => op_fdivN
  | .mod => op_modN
section
variable {G : Gb} {A : Wd}
theorem opR_of (S : Sim G A) {o : Op} {x y v : MV} {vx vy : V} {Q : VK} (e : binV A.mh o x y = some v) (rx : Rep G A x vx) (ry : Rep G A y vy) (h : Post G A A.mh v Q) : opR G.K o vx vy A.H Q := by
  have lists : ∀ {xs ys : List MV}, getL A.mh x = some xs → getL A.mh y = some ys → xs.length + ys.length ≤ line → v = .lst (xs ++ ys) → rCat vx vy A.H Q := by
    intro xs ys e1 e2 hz ev
    subst ev
    obtain ⟨a, vs, rfl, h1, r1⟩ := getL_rep S e1 rx
    obtain ⟨b, ws, rfl, h2, r2⟩ := getL_rep S e2 ry
    refine ⟨a, b, vs, ws, rfl, rfl, h1, h2, ?_, fun p hp => h.newLst S (r1.app r2) hp⟩
    rw [← r1.len, ← r2.len]
    exact hz
  cases o with
  | add =>
    simp only [binV, addV] at e
    split at e
    · rename_i i j
      cases e
      exact .inl ⟨i, j, rx.int_, ry.int_, h.here S (rep_int _)⟩
    · rename_i s t
      split at e
      · rename_i hz
        cases e
        refine .inr (.inl ⟨⟨s.toArray⟩, ⟨t.toArray⟩, rx.str_, ry.str_, by rw [str_len, str_len]; exact hz, ?_⟩)
        rw [str_app]
        exact h.here S (rep_str _)
      · cases e
    · rename_i xs ys
      split at e
      · rename_i hz
        cases e
        obtain ⟨a, vs, rfl, h1, r1⟩ := rx.tup_
        obtain ⟨b, ws, rfl, h2, r2⟩ := ry.tup_
        refine .inr (.inr (.inl ⟨a, b, vs, ws, rfl, rfl, h1, h2, by rw [← r1.len, ← r2.len]; exact hz, fun e => ?_, fun _ e => ?_, fun _ _ p hp => h.newTup S (r1.app r2) hp⟩))
        · subst e
          have : xs = [] := List.length_eq_zero_iff.mp r1.len
          subst this
          exact h.here S ry
        · subst e
          have : ys = [] := List.length_eq_zero_iff.mp r2.len
          subst this
          rw [List.append_nil] at h
          exact h.here S rx
      · cases e
    · split at e
      · cases e
      · rename_i xs e1
        split at e
        · cases e
        · rename_i ys e2
          split at e
          · rename_i hz
            cases e
            exact .inr (.inr (.inr (lists e1 e2 hz rfl)))
          · cases e
  | sub =>
    simp only [binV, intV] at e
    split at e
    · rename_i i j
      cases e
      exact ⟨i, j, rx.int_, ry.int_, h.here S (rep_int _)⟩
    · cases e
  | mul =>
    simp only [binV, mulV] at e
    split at e
    · rename_i i j
      split at e
      · rename_i hz
        cases e
        exact .inl ⟨i, j, rx.int_, ry.int_, hz, h.here S (rep_int _)⟩
      · cases e
    · rename_i s j
      split at e
      · rename_i hz
        cases e
        exact .inr ⟨⟨s.toArray⟩, j, rx.str_, ry.int_, hz.1, hz.2.1, by rw [str_len]; exact hz.2.2, h.here S (rep_str _)⟩
      · cases e
    · cases e
  | fdiv =>
    simp only [binV, intV] at e
    split at e
    · rename_i i j
      split at e
      · rename_i hz
        cases e
        exact ⟨i, j, rx.int_, ry.int_, hz, h.here S (rep_int _)⟩
      · cases e
    · cases e
  | mod =>
    simp only [binV, intV] at e
    split at e
    · rename_i i j
      split at e
      · rename_i hz
        cases e
        exact ⟨i, j, rx.int_, ry.int_, hz, h.here S (rep_int _)⟩
      · cases e
    · cases e

/-! ### comparisons -/
theorem any_toDs (d : PyData) : ∀ ys : List MV, (toDs ys).any (fun z => PyData.eqv z d) = ys.any fun z => PyData.eqv (toD z) d
  | [] => rfl
  | y :: ys => by
    unfold toDs
    rw [List.any_cons, List.any_cons, any_toDs d ys]
end
def copOf : Cop → CmpOp
  | .eq => .Eq
  | .ne => .NotEq
  | .lt => .Lt
  | .le => .LtE
  | .gt => .Gt
  | .ge => .GtE
  | .mem => .In
  | .nmem => .NotIn
  | .is => .Is
  | .isn => .IsNot
def rInS1 (f : Bool → Bool) : R2 := fun x y H Q => ∃ (c : Nat) (z : Str), x = .str ⟨#[c]⟩ ∧ y = .str z ∧ Q (.bl (f (decide (c ∈ z.cps.toList)))) H
def rStr (f : List Nat → List Nat → Bool) : R2 := fun x y H Q => ∃ i j, x = .str i ∧ y = .str j ∧ Q (.bl (f i.cps.toList j.cps.toList)) H
def rIsM (f : Bool → Bool) : R2 := fun x y H Q => (y = .non ∧ Q (.bl (f (decide (x = .non)))) H) ∨ ∃ a b, x = .bl a ∧ y = .bl b ∧ Q (.bl (f (decide (a = b)))) H
def copR (K : PySem.W.Frag) : Cop → R2
  | .eq => rEqD K
  | .ne => rNeD K
  | .lt => fun x y H Q => rI0 (fun i j => .bl (decide (i < j))) x y H Q ∨ rStr (fun i j => decide (i < j)) x y H Q
  | .le => fun x y H Q => rI0 (fun i j => .bl (decide (i ≤ j))) x y H Q ∨ rStr (fun i j => !decide (j < i)) x y H Q
  | .gt => fun x y H Q => rI0 (fun i j => .bl (decide (j < i))) x y H Q ∨ rStr (fun i j => decide (j < i)) x y H Q
  | .ge => fun x y H Q => rI0 (fun i j => .bl (decide (j ≤ i))) x y H Q ∨ rStr (fun i j => !decide (i < j)) x y H Q
  | .mem => fun x y H Q => rInS1 id x y H Q ∨ rInD K x y H Q
  | .nmem => fun x y H Q => rInS1 (!·) x y H Q ∨ rNotInD K x y H Q
  | .is => rIsM id
  | .isn => rIsM (!·)
theorem cop_ok {X : Cx} (hu : X.A.units + 65 < cLine) : ∀ o : Cop, OpR X (compareOp (copOf o)) (copR X.K o)
  | .eq => op_eqD (by omega)
  | .ne => op_neD (by omega)
  | .lt => op_lt.or op_lt_str
  | .le => op_le.or op_le_str
  | .gt => op_gt.or op_gt_str
  | .ge => op_ge.or op_ge_str
  | .mem => op_in_sign.or (op_inD hu)
  | .nmem => op_notIn_sign.or (op_notInD hu)
  | .is => op_isN.or op_is_bl
  | .isn => op_notN.or op_isnot_bl
section
variable {G : Gb} {A : Wd}
theorem rep_one (c : Nat) : (V.str ⟨[c].toArray⟩) = .str ⟨#[c]⟩ := rfl
theorem Rep.not_non {x : MV} {v : V} (h : Rep G A x v) (hx : x ≠ .non) : v ≠ .non := by
  intro e
  subst e
  cases x with
  | non => exact hx rfl
  | bl b => exact nomatch h.bl_
  | int i => exact nomatch h.int_
  | str s => exact nomatch h.str_
  | fn f => unfold Rep at h; obtain ⟨a, _, e⟩ := h; exact nomatch e
  | tup xs => obtain ⟨a, vs, e, _⟩ := h.tup_; exact nomatch e
  | lst xs => unfold Rep at h; obtain ⟨a, vs, e, _⟩ := h; exact nomatch e
  | loc l => obtain ⟨a, e, _⟩ := h.loc_; exact nomatch e
  | dct ks vs => unfold Rep at h; obtain ⟨a, vs, e, _⟩ := h; exact nomatch e
  | scr ns => unfold Rep at h; obtain ⟨a, e, _⟩ := h; exact nomatch e
theorem mem_of (S : Sim G A) {x y : MV} {c : Bool} {vx vy : V} {f : Bool → Bool} {Q : VK} (e : memV A.mh x y = some c) (rx : Rep G A x vx) (ry : Rep G A y vy) (h : Q (.bl (f c)) A.H) :
    rInS1 f vx vy A.H Q ∨ ∃ d ds, Dp G.K A.H vx d ∧ Dp G.K A.H vy (.list ds) ∧ SeqAt.shaped d = true ∧ SeqAt.shaped (.list ds) = true ∧ Q (.bl (f (ds.any fun z => PyData.eqv z d))) A.H := by
  unfold memV at e
  split at e
  · rename_i c' t
    cases e
    refine .inl ⟨c', ⟨t.toArray⟩, rx.str_, ry.str_, ?_⟩
    exact h
  · cases q : frz 0 A.mh 8 x with
    | none => rw [q] at e; exact nomatch e
    | some x' =>
      rw [q] at e
      simp only at e
      split at e
      · rename_i ys q2
        split at e
        · rename_i hk
          cases e
          refine .inr ⟨toD x', toDs ys, frz_dp S 8 x x' vx q (okD_can hk.1) rx, ?_, hk.1, ?_, ?_⟩
          · have := frz_dp S 8 y _ vy q2 (okD_can hk.2) ry
            unfold toD at this
            exact this
          · have := hk.2
            unfold okD toD at this
            exact this
          · rw [any_toDs]
            exact h
        · exact nomatch e
      · exact nomatch e
theorem dec_le {i j : Int} : decide (i ≤ j) = !decide (j < i) := by
  rw [Bool.eq_iff_iff]; simp
theorem copR_of (S : Sim G A) {o : Cop} {x y : MV} {c : Bool} {vx vy : V} {Q : VK} (e : cmpV A.mh o x y = some c) (rx : Rep G A x vx) (ry : Rep G A y vy) (h : Q (.bl c) A.H) : copR G.K o vx vy A.H Q := by
  have ord : ∀ {p : Bool × Bool}, ordV x y = some p → (∃ i j : Int, vx = .int i ∧ vy = .int j ∧ p = (decide (i < j), decide (j < i))) ∨ ∃ s t : Str, vx = .str s ∧ vy = .str t ∧ p = (decide (s.cps.toList < t.cps.toList), decide (t.cps.toList < s.cps.toList)) := by
    intro p e
    unfold ordV at e
    split at e
    · cases e
      exact .inl ⟨_, _, rx.int_, ry.int_, rfl⟩
    · cases e
      exact .inr ⟨_, _, rx.str_, ry.str_, rfl⟩
    · exact nomatch e
  have is : ∀ {c : Bool} {f : Bool → Bool}, isV x y = some c → Q (.bl (f c)) A.H → rIsM f vx vy A.H Q := by
    intro c f e h
    unfold isV at e
    split at e
    · cases e
      refine .inl ⟨ry.non_, ?_⟩
      rw [rx.non_, decide_eq_true rfl]
      exact h
    · cases e
      refine .inl ⟨ry.non_, ?_⟩
      rw [decide_eq_false (rx.not_non (by assumption))]
      exact h
    · cases e
      exact .inr ⟨_, _, rx.bl_, ry.bl_, h⟩
    · exact nomatch e
  cases o with
  | eq =>
    obtain ⟨d, d', h1, h2, h3, h4, h5⟩ := eqV_dp S e rx ry
    exact ⟨d, d', h1, h2, h3, h4, by rw [h5]; exact h⟩
  | ne =>
    simp only [cmpV, Option.map_eq_some_iff] at e
    obtain ⟨c', e, rfl⟩ := e
    obtain ⟨d, d', h1, h2, h3, h4, h5⟩ := eqV_dp S e rx ry
    exact ⟨d, d', h1, h2, h3, h4, by rw [h5]; exact h⟩
  | mem => exact mem_of (f := id) S e rx ry h
  | nmem =>
    simp only [cmpV, Option.map_eq_some_iff] at e
    obtain ⟨c', e, rfl⟩ := e
    exact mem_of (f := (!·)) S e rx ry h
  | lt =>
    simp only [cmpV, Option.map_eq_some_iff] at e
    obtain ⟨p, e, rfl⟩ := e
    rcases ord e with ⟨i, j, h1, h2, rfl⟩ | ⟨i, j, h1, h2, rfl⟩
    · exact .inl ⟨i, j, h1, h2, h⟩
    · exact .inr ⟨i, j, h1, h2, h⟩
  | gt =>
    simp only [cmpV, Option.map_eq_some_iff] at e
    obtain ⟨p, e, rfl⟩ := e
    rcases ord e with ⟨i, j, h1, h2, rfl⟩ | ⟨i, j, h1, h2, rfl⟩
    · exact .inl ⟨i, j, h1, h2, h⟩
    · exact .inr ⟨i, j, h1, h2, h⟩
  | le =>
    simp only [cmpV, Option.map_eq_some_iff] at e
    obtain ⟨p, e, rfl⟩ := e
    rcases ord e with ⟨i, j, h1, h2, rfl⟩ | ⟨i, j, h1, h2, rfl⟩
    · exact .inl ⟨i, j, h1, h2, by dsimp only; rw [dec_le]; exact h⟩
    · exact .inr ⟨i, j, h1, h2, h⟩
  | ge =>
    simp only [cmpV, Option.map_eq_some_iff] at e
    obtain ⟨p, e, rfl⟩ := e
    rcases ord e with ⟨i, j, h1, h2, rfl⟩ | ⟨i, j, h1, h2, rfl⟩
    · exact .inl ⟨i, j, h1, h2, by dsimp only; rw [dec_le]; exact h⟩
    · exact .inr ⟨i, j, h1, h2, h⟩
  | is => exact is (f := id) e h
  | isn =>
    simp only [cmpV, Option.map_eq_some_iff] at e
    obtain ⟨c', e, rfl⟩ := e
    exact is (f := (!·)) e h
end
end L2.Mi

set_option Elab.async false
set_option linter.all false
set_option maxRecDepth 100000
set_option maxHeartbeats 4000000
/-! Mini5: list.extend of a tuple, list of a text; subscripts, slices, built-ins, methods. -/
namespace PySem.AutoSeq1
open PySem PySem.Spec PyProof.Rows
theorem list_extend_tupAny (l : Addr) (items : Array Value) (n : Nat) (b : Addr) (dd : Option Addr) (sl : Array (Option Value)) (items2 : Array Value) (n2 : Nat) (hs0 : ¬(!items.isEmpty && Builtin.List.listTooLong (items.size + items2.size)) = true) (hs1 : items.size ≤ sizeLine) (hs2 : items.size + items2.size ≤ sizeLine + 1 := by seq_fits) :
    Meets (Builtin.«list.extend» ⟨[.ref l, .ref b], []⟩) (fun _ R s => s.heap.get? l = some { cls := .type "list", dict := none, data := .seq items n, slots := #[] } ∧ s.heap.get? b = some { cls := .type "tuple", dict := dd, data := .seq items2 n2, slots := sl } ∧ R (.ok (.ret Value.none)) { s with heap := s.heap.update l (Obj.mapSeq fun x => x ++ items2), toks := s.toks }) :=
  .of_wp fun prog w A R s h => by
    obtain ⟨hp, g, d, tk, os⟩ := s; obtain ⟨hl, hb, h⟩ := h; have f1 := idx_int; have f2 := sub_tuple_tuple; have f3 := sub_list_list; have f4 := sub_tuple_list; have f5 := sub_list_tuple;
    have hz' : (items ++ items2).size ≤ sizeLine + 1 := by rw [Array.size_append]; exact hs2
    wp_walk using (wpAny_updateSeq hl rfl (hz := hs1) (_hz' := hz')), wpAny_loadPart' hl, wpAny_loadPart' hb; exact ⟨_, rfl, h⟩
end PySem.AutoSeq1
namespace L2.Mi
open PySem PySem.Spec PyProof.Rows
def rExtT (K : PySem.W.Frag) : V → List V → Hp → VK → Prop := fun x vs H Q => ∃ l b xs zs, x = .ref l ∧ vs = [.ref b] ∧ H l = some (.lst xs) ∧ SqT K H b zs ∧ xs.length + zs.length ≤ sizeLine ∧ Q .non (upd H l (.lst (xs ++ zs)))
theorem mt_extT {X : Cx} : MtM X "list.extend" (rExtT X.K) := by
  intro pins s σ H x vs v us Q I rx rv h
  obtain ⟨l, b, xs, zs, rfl, rfl, hH, hB, hz, q⟩ := h
  cases rx
  obtain ⟨u, rfl, ru⟩ := rv.one
  cases ru
  obtain ⟨z, its, n, r, hl, e⟩ := I.lstM hH
  obtain ⟨its2, r2, pt, hz2⟩ := I.tuple hB
  obtain ⟨⟨cls, dd, data, sl⟩, e2, hc, n2, hd⟩ := id pt
  simp only at hc hd
  subst hc hd
  have hl2 := r2.length
  have hsz : its.toArray.size + its2.toArray.size ≤ sizeLine := by rw [List.size_toArray, List.size_toArray]; omega
  have hlong : ¬ (!its.toArray.isEmpty && Builtin.List.listTooLong (its.toArray.size + its2.toArray.size)) = true := by
    rw [notLongL hsz, Bool.and_false]
    exact Bool.false_ne_true
  refine call_meets F.slot_list_extend ⟨_, e, rfl⟩ F.entry_list_extend (F.args_list_extend_2 _ _)
    (AutoSeq1.list_extend_tupAny l its.toArray n b dd sl its2.toArray n2 hlong (by rw [List.size_toArray]; omega) (by omega)) ⟨e, e2, ?_⟩
  refine ⟨.non, _, I.lset (its' := its ++ its2) hH e (by simp) (r.append r2) ?_, rfl, q⟩
  rw [List.length_append]
  omega

theorem call_listS {X : Cx} (hc : X.calm = true) : CallR X (.type "list") (fun xs H Q => ∃ z : Str, xs = [.str z] ∧ z.length ≤ sizeLine ∧ ∀ p, H p = none → Q (.ref p) (upd H p (.lst (z.cps.toList.map fun c => .str ⟨#[c]⟩)))) := by
  intro pins s σ H xs us Q I r h
  obtain ⟨z, rfl, hz, q⟩ := h
  obtain ⟨u, rfl, rx⟩ := vals1 r
  obtain ⟨t, rfl⟩ := rx
  refine PySem.call_list_str (I.ok.hd hc) z t (hn := hz) fun h' tk acc' c' hk hS' hacc => ?_
  have hl : acc'.toList.length = z.cps.toList.length := by simp [hacc.1]
  have rv : Vals (z.cps.toList.map fun c => V.str ⟨#[c]⟩) acc'.toList := by
    have gen : ∀ (cs : List Nat) (us : List Value), us.length = cs.length → (∀ (j : Nat) v, us[j]? = some v → ∃ c u, cs[j]? = some c ∧ v = Value.str ⟨#[c]⟩ u) → Vals (cs.map fun c => V.str ⟨#[c]⟩) us := by
      intro cs
      induction cs with
      | nil => intro us h1 _; cases us with | nil => exact .nil | cons => simp at h1
      | cons c cs ih =>
        intro us h1 h2
        cases us with
        | nil => simp at h1
        | cons u us =>
          obtain ⟨c', t', e1, e2⟩ := h2 0 u rfl
          have : c = c' := by simpa using e1
          subst this
          exact .cons ⟨t', e2⟩ (ih us (by simpa using h1) fun j v hj => by simpa using h2 (j + 1) v (by simpa using hj))
    refine gen _ _ hl fun j v hj => ?_
    obtain ⟨c, u, e1, e2⟩ := hacc.2 j v (by simpa using hj)
    exact ⟨c, u, by simpa using e1, e2⟩
  have hf : H s.heap.objs.size = none := I.hok.fresh (Nat.le_refl _)
  refine ⟨.ref s.heap.objs.size, _, I.laid (t' := tk) hk (Nat.le_refl _) (show ObjOk X.prog X.w _ h' _ (.lst _) from ⟨?_, acc'.toList, c', rv, by simpa using hS'⟩), rfl, q _ hf⟩
  rw [List.length_map, Array.length_toList]
  exact hz

section
variable {G : Gb} {A : Wd}
theorem idx_rep {xs : List MV} {vs : List V} (r : Reps G A xs vs) {i : Int} {x : MV} (e : idx xs i = some x) : ∃ v, atI vs i = some v ∧ Rep G A x v := by
  unfold idx atI at e
  cases q : ixN xs.length i with
  | none => rw [q] at e; exact nomatch e
  | some j =>
    rw [q] at e
    obtain ⟨v, h1, h2⟩ := r.get (show xs[j]? = some x from e)
    refine ⟨v, ?_, h2⟩
    unfold atI
    rw [← r.len, q]
    exact h1
/-! ### subscripts -/
theorem sub_of (S : Sim G A) {x y v : MV} {vx vy : V} {Q : VK} (e : subV A.mh x y = some v) (rx : Rep G A x vx) (ry : Rep G A y vy) (h : Post G A A.mh v Q) : rIx G.K vx vy A.H Q := by
  unfold subV at e
  split at e
  · rename_i xs i
    obtain ⟨a, vs, rfl, h1, r⟩ := rx.tup_
    obtain ⟨w, h2, h3⟩ := idx_rep r e
    exact .inr (.inl ⟨a, vs, i, w, rfl, ry.int_, h1, h2, h.here S h3⟩)
  · rename_i s i
    split at e
    · rename_i hz
      simp only [Option.map_eq_some_iff] at e
      obtain ⟨c, e, rfl⟩ := e
      refine .inr (.inr ⟨⟨s.toArray⟩, i, c, rx.str_, ry.int_, by rw [str_len]; exact hz, e, ?_⟩)
      exact h.here S (rep_str [c])
    · cases e
  · split at e
    · rename_i xs e1
      obtain ⟨a, vs, rfl, h1, r⟩ := getL_rep S e1 rx
      obtain ⟨w, h2, h3⟩ := idx_rep r e
      exact .inl ⟨a, vs, _, w, rfl, ry.int_, SqL.of h1, h2, h.here S h3⟩
    · cases e
  · cases e
/-! ### slices -/
theorem cut_rep {xs : List MV} {vs : List V} (r : Reps G A xs vs) (lo hi : Option Int) : Reps G A (cut xs lo hi) (cutV vs lo hi) := by
  unfold cut cutV
  rw [r.len]
  exact (r.drop _).take _
theorem cut_whole {α : Type} {xs : List α} {lo hi : Option Int} (h : HT.sIx xs.length 0 lo = 0 ∧ HT.sIx xs.length xs.length hi = xs.length) : cut xs lo hi = xs := by
  unfold cut
  rw [h.1, h.2]
  simp
def slR (K : PySem.W.Frag) : V → Option Int → Option Int → Hp → VK → Prop := fun x lo hi H Q => rSlL K x lo hi H Q ∨ rSlA K x lo hi H Q ∨ rSlS x lo hi H Q
theorem sl_ok {X : Cx} : SlR X (slR X.K) := sl_list.or (sl_tupA.or sl_str)
theorem slc_of (S : Sim G A) {x v : MV} {lo hi : Option Int} {vx : V} {Q : VK} (e : slcV A.mh x lo hi = some v) (rx : Rep G A x vx) (h : Post G A A.mh v Q) : slR G.K vx lo hi A.H Q := by
  unfold slcV at e
  split at e
  · rename_i xs
    cases e
    obtain ⟨a, vs, rfl, h1, r⟩ := rx.tup_
    refine .inr (.inl ⟨a, vs, rfl, h1, fun w => ?_, fun _ p hp => h.newTup S (cut_rep r lo hi) hp⟩)
    rw [← r.len] at w
    rw [cut_whole w] at h
    exact h.here S rx
  · rename_i s
    split at e
    · rename_i hz
      cases e
      refine .inr (.inr ⟨⟨s.toArray⟩, rx.str_, by rw [str_len]; exact hz, ?_⟩)
      have q := h.here S (rep_str (cut s lo hi))
      unfold cut at q
      unfold L2.cutS
      rw [str_len]
      exact q
    · cases e
  · rename_i ns
    cases e
    unfold Rep at rx
    obtain ⟨a, rfl, hq⟩ := rx
    have sq : SqL G.K A.H a (ns.map .int) := by
      rcases hq with ⟨h, _⟩ | (h | h)
      · exact .inl h
      · rcases h with h | ⟨o, h⟩ <;> exact nomatch h
      · exact .inr h
    exact .inl ⟨a, _, rfl, sq, fun p hp => h.newLst S (cut_rep Reps.map_int lo hi) hp⟩
  · simp only [Option.map_eq_some_iff] at e
    obtain ⟨xs, e, rfl⟩ := e
    obtain ⟨a, vs, rfl, h1, r⟩ := getL_rep S e rx
    exact .inl ⟨a, vs, rfl, SqL.of h1, fun p hp => h.newLst S (cut_rep r lo hi) hp⟩
/-! ### built-ins -/
theorem Reps.one_ {x : MV} {vs : List V} (h : Reps G A [x] vs) : ∃ v, vs = [v] ∧ Rep G A x v := by
  unfold Reps at h
  obtain ⟨v, r, rfl, h1, h2⟩ := h
  unfold Reps at h2
  subst h2
  exact ⟨v, rfl, h1⟩
theorem Reps.nil_ {vs : List V} (h : Reps G A [] vs) : vs = [] := by
  unfold Reps at h; exact h
/-- the arguments of a call of a built-in, by its reading -/
def BiS (f : Bi) (r : PySem.W.Frag → List V → Hp → VK → Prop) : Prop :=
  ∀ (G : Gb) (A : Wd) (xs : List MV) (v : MV) (vs : List V) (Q : VK), Sim G A → biV A.mh f xs = some v → Reps G A xs vs → Post G A A.mh v Q → r G.K vs A.H Q
theorem one1_some {f : MV → Option MV} {xs : List MV} {v : MV} (h : one1 f xs = some v) : ∃ x, xs = [x] ∧ f x = some v := by
  unfold one1 at h
  split at h
  · exact ⟨_, rfl, h⟩
  · cases h
theorem bls_rep (S : Sim G A) {x : MV} {bs : List Bool} {w : V} (e : bls A.mh x = some bs) (r : Rep G A x w) : ∃ a, w = .ref a ∧ SqL G.K A.H a (bs.map .bl) := by
  unfold bls at e
  rw [Option.bind_eq_some_iff] at e
  obtain ⟨xs, e1, e2⟩ := e
  obtain ⟨a, vs, rfl, h1, r1⟩ := getL_rep S e1 r
  rw [r1.blOf e2] at h1
  exact ⟨a, rfl, SqL.of h1⟩
theorem ints_rep (S : Sim G A) {x : MV} {bs : List Int} {w : V} (e : intsM A.mh x = some bs) (r : Rep G A x w) : ∃ a, w = .ref a ∧ SqL G.K A.H a (bs.map .int) := by
  unfold intsM at e
  rw [Option.bind_eq_some_iff] at e
  obtain ⟨xs, e1, e2⟩ := e
  obtain ⟨a, vs, rfl, h1, r1⟩ := getL_rep S e1 r
  rw [r1.intOf e2] at h1
  exact ⟨a, rfl, SqL.of h1⟩
end
def rLen (K : PySem.W.Frag) : List V → Hp → VK → Prop := fun xs H Q => ∃ x n, xs = [x] ∧ LenV K x H n ∧ Q (.int n) H
theorem bi_len : BiS .len rLen := by
  intro G A xs v vs Q S e r h
  obtain ⟨x, hx, e'⟩ := one1_some e
  subst hx
  replace e := e'
  clear e'
  obtain ⟨w, rfl, rx⟩ := r.one_
  unfold lenV at e
  split at e
  · split at e
    · rename_i hz
      cases e
      exact ⟨_, _, rfl, by rw [rx.str_]; exact ⟨by rw [str_len]; exact hz, rfl⟩, by rw [str_len]; exact h.here S (rep_int _)⟩
    · cases e
  · cases e
    obtain ⟨a, ws, rfl, h1, r1⟩ := rx.tup_
    exact ⟨_, _, rfl, .inr ⟨ws, h1, rfl⟩, by rw [← r1.len]; exact h.here S (rep_int _)⟩
  · simp only [Option.map_eq_some_iff] at e
    obtain ⟨ys, e, rfl⟩ := e
    obtain ⟨a, ws, rfl, h1, r1⟩ := getL_rep S e rx
    exact ⟨_, _, rfl, .inl ⟨ws, SqL.of h1, rfl⟩, by rw [← r1.len]; exact h.here S (rep_int _)⟩
def rAbs (_ : PySem.W.Frag) : List V → Hp → VK → Prop := fun xs H Q => ∃ i, xs = [.int i] ∧ Q (.int (if i < 0 then -i else i)) H
theorem bi_abs : BiS .abs rAbs := by
  intro G A xs v vs Q S e r h
  obtain ⟨x, hx, e'⟩ := one1_some e
  subst hx
  replace e := e'
  clear e'
  obtain ⟨w, rfl, rx⟩ := r.one_
  unfold Mi.absV at e
  split at e
  · cases e
    exact ⟨_, by rw [rx.int_], h.here S (rep_int _)⟩
  · cases e
def rInt1 (_ : PySem.W.Frag) : List V → Hp → VK → Prop := fun xs H Q => (∃ i, xs = [.int i] ∧ Q (.int i) H) ∨ ∃ k, xs = [.bl k] ∧ Q (.int (if k then 1 else 0)) H
theorem bi_int : BiS .int rInt1 := by
  intro G A xs v vs Q S e r h
  obtain ⟨x, hx, e'⟩ := one1_some e
  subst hx
  replace e := e'
  clear e'
  obtain ⟨w, rfl, rx⟩ := r.one_
  unfold intV1 at e
  split at e
  · cases e
    exact .inl ⟨_, by rw [rx.int_], h.here S (rep_int _)⟩
  · cases e
    exact .inr ⟨_, by rw [rx.bl_], h.here S (rep_int _)⟩
  · cases e
def rStrI (_ : PySem.W.Frag) : List V → Hp → VK → Prop := fun xs H Q => ∃ i, xs = [.int i] ∧ i.natAbs.log2 < 1920 ∧ Q (.str (toString i)) H
theorem bi_strI : BiS .strI rStrI := by
  intro G A xs v vs Q S e r h
  obtain ⟨x, hx, e'⟩ := one1_some e
  subst hx
  replace e := e'
  clear e'
  obtain ⟨w, rfl, rx⟩ := r.one_
  unfold strV at e
  split at e
  · split at e
    · rename_i hz
      cases e
      refine ⟨_, by rw [rx.int_], hz, ?_⟩
      have q := h.here S (rep_str _)
      have e2 : ∀ z : Str, (⟨z.cps.toList.toArray⟩ : Str) = z := fun z => str_toList_eq (by simp)
      rw [e2] at q
      exact q
    · cases e
  · cases e
def rTupC (K : PySem.W.Frag) : List V → Hp → VK → Prop := fun xs H Q => ∃ p ys, xs = [.ref p] ∧ ((SqL K H p ys ∧ ∀ l, H l = none → Q (.ref l) (upd H l (.tup ys))) ∨ (SqT K H p ys ∧ Q (.ref p) H))
theorem bi_tuple : BiS .tuple rTupC := by
  intro G A xs v vs Q S e r h
  obtain ⟨x, hx, e'⟩ := one1_some e
  subst hx
  replace e := e'
  clear e'
  obtain ⟨w, rfl, rx⟩ := r.one_
  unfold tupV at e
  split at e
  · cases e
    obtain ⟨a, ws, rfl, h1, r1⟩ := rx.tup_
    exact ⟨a, ws, rfl, .inr ⟨h1, h.here S rx⟩⟩
  · simp only [Option.map_eq_some_iff] at e
    obtain ⟨ys, e, rfl⟩ := e
    obtain ⟨a, ws, rfl, h1, r1⟩ := getL_rep S e rx
    exact ⟨a, ws, rfl, .inl ⟨SqL.of h1, fun l hl => h.newTup S r1 hl⟩⟩
def rLstC (K : PySem.W.Frag) : List V → Hp → VK → Prop := fun xs H Q => (∃ p ys, xs = [.ref p] ∧ (SqL K H p ys ∨ SqT K H p ys) ∧ ∀ l, H l = none → Q (.ref l) (upd H l (.lst ys))) ∨
  ∃ z : Str, xs = [.str z] ∧ z.length ≤ sizeLine ∧ ∀ p, H p = none → Q (.ref p) (upd H p (.lst (z.cps.toList.map fun c => .str ⟨#[c]⟩)))
theorem call_lstC {X : Cx} (hc : X.calm = true) : CallR X (.type "list") (rLstC X.K) := call_list_of.or (call_listS hc)
theorem Reps.signs {G : Gb} {A : Wd} : ∀ s : Sx, Reps G A (s.map fun c => .str [c]) (s.map fun c => V.str ⟨#[c]⟩)
  | [] => by unfold Reps; rfl
  | c :: s => by rw [List.map_cons, List.map_cons]; unfold Reps; exact ⟨_, _, rfl, rep_str [c], Reps.signs s⟩
theorem bi_list : BiS .list rLstC := by
  intro G A xs v vs Q S e r h
  obtain ⟨x, hx, e'⟩ := one1_some e
  subst hx
  replace e := e'
  clear e'
  obtain ⟨w, rfl, rx⟩ := r.one_
  unfold lstV at e
  split at e
  · cases e
    obtain ⟨a, ws, rfl, h1, r1⟩ := rx.tup_
    exact .inl ⟨a, ws, rfl, .inr h1, fun l hl => h.newLst S r1 hl⟩
  · split at e
    · rename_i hz
      cases e
      exact .inr ⟨_, by rw [rx.str_], by rw [str_len]; exact hz, fun l hl => h.newLst S (Reps.signs _) hl⟩
    · cases e
  · simp only [Option.map_eq_some_iff] at e
    obtain ⟨ys, e, rfl⟩ := e
    obtain ⟨a, ws, rfl, h1, r1⟩ := getL_rep S e rx
    exact .inl ⟨a, ws, rfl, .inl (SqL.of h1), fun l hl => h.newLst S r1 hl⟩
theorem bi_all : BiS .all rAll := by
  intro G A xs v vs Q S e r h
  obtain ⟨x, hx, e'⟩ := one1_some e
  subst hx
  replace e := e'
  clear e'
  obtain ⟨w, rfl, rx⟩ := r.one_
  simp only [Option.map_eq_some_iff] at e
  obtain ⟨bs, e, rfl⟩ := e
  obtain ⟨a, rfl, h1⟩ := bls_rep S e rx
  exact ⟨a, bs, rfl, h1, h.here S (rep_bl _)⟩
theorem bi_any : BiS .any rAny := by
  intro G A xs v vs Q S e r h
  obtain ⟨x, hx, e'⟩ := one1_some e
  subst hx
  replace e := e'
  clear e'
  obtain ⟨w, rfl, rx⟩ := r.one_
  simp only [Option.map_eq_some_iff] at e
  obtain ⟨bs, e, rfl⟩ := e
  obtain ⟨a, rfl, h1⟩ := bls_rep S e rx
  exact ⟨a, bs, rfl, h1, h.here S (rep_bl _)⟩
theorem bi_sum : BiS .sum rSum := by
  intro G A xs v vs Q S e r h
  obtain ⟨x, hx, e'⟩ := one1_some e
  subst hx
  replace e := e'
  clear e'
  obtain ⟨w, rfl, rx⟩ := r.one_
  simp only [Option.map_eq_some_iff] at e
  obtain ⟨bs, e, rfl⟩ := e
  obtain ⟨a, rfl, h1⟩ := ints_rep S e rx
  exact ⟨a, bs, rfl, h1, h.here S (rep_int _)⟩
theorem bi_max : BiS .max rMax := by
  intro G A xs v vs Q S e r h
  obtain ⟨x, hx, e'⟩ := one1_some e
  subst hx
  replace e := e'
  clear e'
  obtain ⟨w, rfl, rx⟩ := r.one_
  rw [Option.bind_eq_some_iff] at e
  obtain ⟨ns, e, e2⟩ := e
  simp only [Option.map_eq_some_iff] at e2
  obtain ⟨m, e2, rfl⟩ := e2
  obtain ⟨a, rfl, h1⟩ := ints_rep S e rx
  have hm := List.max?_eq_some_iff.mp e2
  refine ⟨a, ns, rfl, h1, List.length_pos_of_mem hm.1, fun m' h2 h3 => ?_⟩
  have : m' = m := Int.le_antisymm (hm.2 m' h2) (h3 m hm.1)
  rw [this]
  exact h.here S (rep_int _)
theorem bi_min : BiS .min rMin := by
  intro G A xs v vs Q S e r h
  obtain ⟨x, hx, e'⟩ := one1_some e
  subst hx
  replace e := e'
  clear e'
  obtain ⟨w, rfl, rx⟩ := r.one_
  rw [Option.bind_eq_some_iff] at e
  obtain ⟨ns, e, e2⟩ := e
  simp only [Option.map_eq_some_iff] at e2
  obtain ⟨m, e2, rfl⟩ := e2
  obtain ⟨a, rfl, h1⟩ := ints_rep S e rx
  have hm := List.min?_eq_some_iff.mp e2
  refine ⟨a, ns, rfl, h1, List.length_pos_of_mem hm.1, fun m' h2 h3 => ?_⟩
  have : m' = m := Int.le_antisymm (h3 m hm.1) (hm.2 m' h2)
  rw [this]
  exact h.here S (rep_int _)

/-! ### methods -/
section
variable {G : Gb} {A : Wd}
theorem bd_of : (n : Nat) → (S : Sim G A) → (A.mh.length ≤ n) → True := fun _ _ _ => trivial
theorem liveL_rep (S : Sim G A) {o : MV} {l : Nat} {xs : List MV} {w : V} (e : liveL A.mh o = some (l, xs)) (r : Rep G A o w) :
    A.mh[l]? = some (some (.lst xs)) ∧ ∃ a vs, A.β[l]? = some a ∧ w = .ref a ∧ A.H a = some (.lst vs) ∧ Reps G A xs vs := by
  unfold liveL at e
  split at e
  · split at e
    · rename_i l' ys hl
      cases e
      obtain ⟨a, rfl, e2⟩ := r.loc_
      obtain ⟨vs, e3, r3⟩ := S.obj _ _ hl a e2
      exact ⟨hl, a, vs, e2, rfl, e3, r3⟩
    · cases e
  · cases e
theorem bds_app (n : Nat) : ∀ xs ys : List MV, bds n (xs ++ ys) = (bds n xs && bds n ys)
  | [], ys => by simp [bds]
  | x :: xs, ys => by
    show (bd n x && bds n (xs ++ ys)) = ((bd n x && bds n xs) && bds n ys)
    rw [bds_app n xs ys, Bool.and_assoc]
mutual
theorem bd_mono {n m : Nat} (h : n ≤ m) : ∀ x : MV, bd n x = true → bd m x = true
  | .tup xs, e => by unfold bd at e ⊢; exact bds_mono h xs e
  | .lst xs, e => by unfold bd at e ⊢; exact bds_mono h xs e
  | .dct _ vs, e => by unfold bd at e ⊢; exact bds_mono h vs e
  | .loc l, e => by
    unfold bd at e ⊢
    have : l < n := of_decide_eq_true e
    exact decide_eq_true (by omega)
  | .non, e => e
  | .bl _, e => e
  | .int _, e => e
  | .str _, e => e
  | .fn _, e => e
  | .scr _, e => e
theorem bds_mono {n m : Nat} (h : n ≤ m) : ∀ xs : List MV, bds n xs = true → bds m xs = true
  | [], e => by unfold bds; rfl
  | x :: xs, e => by
    unfold bds at e ⊢
    rw [Bool.and_eq_true] at e ⊢
    exact ⟨bd_mono h x e.1, bds_mono h xs e.2⟩
end
/-- what may be written keeps the bounds of all frames -/
theorem wr_bd (S : Sim G A) {l : Nat} {x : MV} (h : wr A.base l x = true) {b : Nat} (hb : b ∈ A.bs) (hl : l < b) : bd b x = true := by
  unfold wr at h
  rw [Bool.or_eq_true] at h
  rcases h with h | h
  · have h1 : A.base ≤ l := of_decide_eq_true h
    have := S.top b hb
    omega
  · exact bd_mono (by omega) x h
theorem wrs_bd (S : Sim G A) {l : Nat} : ∀ {xs : List MV}, xs.all (wr A.base l) = true → ∀ {b : Nat}, b ∈ A.bs → l < b → bds b xs = true
  | [], _, b, _, _ => by unfold bds; rfl
  | x :: xs, h, b, hb, hl => by
    rw [List.all_cons, Bool.and_eq_true] at h
    unfold bds
    rw [wr_bd S h.1 hb hl, wrs_bd S h.2 hb hl]
    rfl
theorem bds_sub {n : Nat} : ∀ {xs : List MV}, bds n xs = true → ∀ {ys : List MV}, (∀ y ∈ ys, y ∈ xs) → bds n ys = true := by
  intro xs h ys
  have all : ∀ {xs : List MV}, bds n xs = true → ∀ x ∈ xs, bd n x = true := by
    intro xs
    induction xs with
    | nil => intro _ x hx; exact absurd hx (by simp)
    | cons y ys ih =>
      intro h x hx
      unfold bds at h
      rw [Bool.and_eq_true] at h
      rcases List.mem_cons.mp hx with rfl | hx
      · exact h.1
      · exact ih h.2 x hx
  induction ys with
  | nil => intro _; unfold bds; rfl
  | cons y ys ih =>
    intro hs
    unfold bds
    rw [all h y (hs y (by simp)), ih fun z hz => hs z (List.mem_cons_of_mem _ hz)]
    rfl
theorem lst_wr (S : Sim G A) {l : Nat} {a : Addr} {xs ys : List MV} {ws : List V} (hl : A.mh[l]? = some (some (.lst xs))) (hb : A.β[l]? = some a) (r : Reps G A ys ws) (hbd : ∀ b ∈ A.bs, l < b → bds b ys = true) :
    Keep A (A.wr l a (.lst ws) (.lst ys)) ∧ Sim G (A.wr l a (.lst ws) (.lst ys)) := by
  have k : Keep A (A.wr l a (.lst ws) (.lst ys)) := keep_wr S hl hb
  exact ⟨k, S.wr hl hb ⟨ws, upd_same, Reps.keep S k _ _ r⟩ ⟨(fun _ z => nomatch z), (fun _ _ z => nomatch z)⟩ hbd⟩
/-- the reading of a method, where what is wanted behind it is told by a post of the new heap -/
def MeS (m : Me) (r : PySem.W.Frag → V → List V → Hp → VK → Prop) : Prop :=
  ∀ (G : Gb) (A : Wd) (o : MV) (xs : List MV) (v : MV) (mh' : MHp) (w : V) (vs : List V) (Q : VK), Sim G A → methV A.base A.mh m o xs = some (v, mh') → Rep G A o w → Reps G A xs vs → Post G A mh' v Q → r G.K w vs A.H Q
end
theorem me_append : MeS .append (fun _ => rAppend) := by
  intro G A o xs v mh' w vs Q S e ro r h
  simp only [methV, appV] at e
  split at e
  · rename_i l ys x e1
    split at e
    · rename_i hc
      cases e
      obtain ⟨hl, a, ws, hb, rfl, hH, rr⟩ := liveL_rep S e1 ro
      obtain ⟨y, rfl, ry⟩ := r.one_
      obtain ⟨k, S'⟩ := lst_wr S hl hb (rr.app (Reps.one ry)) fun b hbs hlb => by
        rw [bds_app]
        have h1 : bds b ys = true := S.bnd b hbs l _ hlb hl
        rw [h1]
        show (true && (bd b x && true)) = true
        rw [wr_bd S hc.1 hbs hlb]
        rfl
      exact ⟨a, ws, y, rfl, rfl, hH, by rw [← rr.len]; exact hc.2, h _ .non k rfl S' rep_non⟩
    · cases e
  · cases e
def rExtB (K : PySem.W.Frag) : V → List V → Hp → VK → Prop := fun x vs H Q => rExtend x vs H Q ∨ rExtT K x vs H Q
theorem mt_extB {X : Cx} : MtR X "list.extend" (rExtB X.K) := MtR.or mt_extend mt_extT
theorem me_extend : MeS .extend rExtB := by
  intro G A o xs v mh' w vs Q S e ro r h
  simp only [methV, extV] at e
  split at e
  · rename_i l ys x e1
    split at e
    · rename_i zs e2
      split at e
      · rename_i hc
        cases e
        obtain ⟨hl, a, ws, hb, rfl, hH, rr⟩ := liveL_rep S e1 ro
        obtain ⟨y, rfl, ry⟩ := r.one_
        have bdd : ∀ b ∈ A.bs, l < b → bds b (ys ++ zs) = true := fun b hbs hlb => by
          rw [bds_app]
          have h1 : bds b ys = true := S.bnd b hbs l _ hlb hl
          rw [h1, wrs_bd S hc.1 hbs hlb]
          rfl
        unfold seqOf at e2
        split at e2
        · cases e2
          obtain ⟨b, us, rfl, h1, r1⟩ := ry.tup_
          obtain ⟨k, S'⟩ := lst_wr S hl hb (rr.app r1) bdd
          exact .inr ⟨a, b, ws, us, rfl, rfl, hH, h1, by rw [← rr.len, ← r1.len]; exact hc.2, h _ .non k rfl S' rep_non⟩
        · obtain ⟨b, us, rfl, h1, r1⟩ := getL_rep S e2 ry
          obtain ⟨k, S'⟩ := lst_wr S hl hb (rr.app r1) bdd
          exact .inl ⟨a, b, ws, us, rfl, rfl, hH, h1, by rw [← rr.len, ← r1.len]; exact hc.2, h _ .non k rfl S' rep_non⟩
      · cases e
    · cases e
  · cases e
theorem me_pop : MeS .pop (fun _ => rPop) := by
  intro G A o xs v mh' w vs Q S e ro r h
  simp only [methV, popV] at e
  split at e
  · rename_i l ys e1
    simp only [Option.map_eq_some_iff] at e
    obtain ⟨y, e2, e3⟩ := e
    cases e3
    obtain ⟨hl, a, ws, hb, rfl, hH, rr⟩ := liveL_rep S e1 ro
    obtain ⟨u, hu, ru⟩ := rr.get e2
    obtain ⟨k, S'⟩ := lst_wr S hl hb rr.dropLast fun b hbs hlb => bds_sub (S.bnd b hbs l _ hlb hl) fun z hz => List.dropLast_subset _ hz
    exact ⟨a, ws, u, rfl, r.nil_, hH, by rw [← rr.len]; exact hu, h _ u k rfl S' (Rep.keep S k _ _ ru)⟩
  · cases e
theorem me_popAt : MeS .popAt (fun _ => rPopAt) := by
  intro G A o xs v mh' w vs Q S e ro r h
  simp only [methV, popAtV] at e
  split at e
  · rename_i l ys i e1
    split at e
    · rename_i hi
      split at e
      · cases e
      · rename_i j e4
        simp only [Option.map_eq_some_iff] at e
        obtain ⟨y, e2, e3⟩ := e
        cases e3
        obtain ⟨hl, a, ws, hb, rfl, hH, rr⟩ := liveL_rep S e1 ro
        obtain ⟨u, hu, ru⟩ := rr.get e2
        obtain ⟨z, rfl, rz⟩ := r.one_
        obtain ⟨k, S'⟩ := lst_wr S hl hb (rr.eraseIdx j) fun b hbs hlb => bds_sub (S.bnd b hbs l _ hlb hl) fun z hz => List.mem_of_mem_eraseIdx hz
        exact ⟨a, ws, i, j, u, rfl, by rw [rz.int_], hH, hi.1, hi.2, by rw [← rr.len]; exact e4, hu, h _ u k rfl S' (Rep.keep S k _ _ ru)⟩
    · cases e
  · cases e
def rUpp (_ : PySem.W.Frag) : V → List V → Hp → VK → Prop := fun x xs H Q => ∃ a, x = .str a ∧ xs = [] ∧ a.length ≤ 5592405 ∧ Q (.str (Txt.upper a)) H
theorem me_upper : MeS .upper rUpp := by
  intro G A o xs v mh' w vs Q S e ro r h
  simp only [methV, uppV] at e
  split at e
  · split at e
    · rename_i s hz
      cases e
      refine ⟨_, ro.str_, r.nil_, by rw [str_len]; exact hz, ?_⟩
      have q := h.here S (rep_str _)
      unfold upperC at q
      have e2 : (⟨(Txt.upper ⟨s.toArray⟩).cps.toList.toArray⟩ : Str) = Txt.upper ⟨s.toArray⟩ := str_toList_eq (by simp)
      rw [e2] at q
      exact q
    · cases e
  · cases e
end L2.Mi

set_option Elab.async false
set_option linter.all false
set_option maxRecDepth 100000
set_option maxHeartbeats 4000000
/-! Mini6: expressions. -/
namespace L2.Mi
open PySem PySem.Spec PyProof.Rows

section
variable (G : Gb) (C : CallF)
/-- an expression by the evaluator -/
def tE (m : ME) : TE := fun σ H Q => ∃ (A : Wd) (ρ : Env) (v : MV) (mh' : MHp), A.H = H ∧ Sim G A ∧ Envs G A ρ σ ∧ ev C A.base m ρ A.mh = some (v, mh') ∧ Post G A mh' v Q
def tT (m : ME) : TT := fun σ H Q => ∃ (A : Wd) (ρ : Env) (c : Bool) (mh' : MHp), A.H = H ∧ Sim G A ∧ Envs G A ρ σ ∧ ev C A.base m ρ A.mh = some (.bl c, mh') ∧ ∀ B, Keep A B → B.mh = mh' → Sim G B → Q c B.H
def tEs (ms : List ME) : TA := fun σ H Q => ∃ (A : Wd) (ρ : Env) (vs : List MV) (mh' : MHp), A.H = H ∧ Sim G A ∧ Envs G A ρ σ ∧ evs C A.base ms ρ A.mh = some (vs, mh') ∧ ∀ B xs, Keep A B → B.mh = mh' → Sim G B → Reps G B vs xs → Q xs B.H
end
theorem Keep.base {A B : Wd} (k : Keep A B) : B.base = A.base := by unfold Wd.base; rw [k.bs]

theorem _root_.L2.PE.mono {X : Cx} {e : Expr} {t t' : TE} (h : PE X e t) (k : ∀ σ H Q, t' σ H Q → t σ H Q) : PE X e t' := ⟨fun pins s σ H Q I q => h.run pins s σ H Q I (k σ H Q q)⟩
theorem _root_.L2.PT.mono {X : Cx} {e : Expr} {t t' : TT} (h : PT X e t) (k : ∀ σ H Q, t' σ H Q → t σ H Q) : PT X e t' := ⟨fun pins s σ H Q I q => h.run pins s σ H Q I (k σ H Q q)⟩
theorem _root_.L2.PW.mono {X : Cx} {e : Expr} {t t' : TT} (h : PW X e t) (k : ∀ σ H Q, t' σ H Q → t σ H Q) : PW X e t' := ⟨fun wh pins s σ H Q I q => h.run wh pins s σ H Q I (k σ H Q q)⟩
theorem _root_.L2.PA.mono {X : Cx} {es : List Expr} {t t' : TA} (h : PA X es t) (k : ∀ σ H Q, t' σ H Q → t σ H Q) : PA X es t' := ⟨fun pos pins s σ H Q I q => h.run pos pins s σ H Q I (k σ H Q q)⟩

section
variable {G : Gb} {C : CallF} {A : Wd} {ρ : Env} {σ : L2.St}
theorem tE.go {m : ME} {v : MV} {mh1 : MHp} {Q : VK} (S : Sim G A) (N : Envs G A ρ σ) (e : ev C A.base m ρ A.mh = some (v, mh1))
    (h : ∀ B x, Keep A B → B.mh = mh1 → Sim G B → Envs G B ρ σ → Rep G B v x → Q x B.H) : tE G C m σ A.H Q :=
  ⟨A, ρ, v, mh1, rfl, S, N, e, fun B x k em SB r => h B x k em SB (N.keep S k) r⟩
theorem tT.go {m : ME} {c : Bool} {mh1 : MHp} {Q : Bool → Hp → Prop} (S : Sim G A) (N : Envs G A ρ σ) (e : ev C A.base m ρ A.mh = some (.bl c, mh1))
    (h : ∀ B, Keep A B → B.mh = mh1 → Sim G B → Envs G B ρ σ → Q c B.H) : tT G C m σ A.H Q :=
  ⟨A, ρ, c, mh1, rfl, S, N, e, fun B k em SB => h B k em SB (N.keep S k)⟩
theorem tEs.go {ms : List ME} {vs : List MV} {mh1 : MHp} {Q : List V → Hp → Prop} (S : Sim G A) (N : Envs G A ρ σ) (e : evs C A.base ms ρ A.mh = some (vs, mh1))
    (h : ∀ B xs, Keep A B → B.mh = mh1 → Sim G B → Envs G B ρ σ → Reps G B vs xs → Q xs B.H) : tEs G C ms σ A.H Q :=
  ⟨A, ρ, vs, mh1, rfl, S, N, e, fun B xs k em SB r => h B xs k em SB (N.keep S k) r⟩
/-- the evaluation goes on in B -/
theorem ev.at {A B : Wd} {m : ME} {mh1 : MHp} {r : Option (MV × MHp)} (k : Keep A B) (em : B.mh = mh1) (e : ev C A.base m ρ mh1 = r) : ev C B.base m ρ B.mh = r := by rw [k.base, em]; exact e
theorem evs.at {A B : Wd} {m : List ME} {mh1 : MHp} {r : Option (List MV × MHp)} (k : Keep A B) (em : B.mh = mh1) (e : evs C A.base m ρ mh1 = r) : evs C B.base m ρ B.mh = r := by rw [k.base, em]; exact e
end

section
variable {G : Gb} {C : CallF} {X : Cx} {pos p : Pos} {e a b c : Expr} {ma mb mc m : ME}
/-! ### names, constants -/
theorem se_var {i : Nat} {x : Str} (hN : X.N[i]? = some x) (hv : Vis X.env.scope x) (hd : (x == ("__debug__" : Str)) = false := by decide) (hcd : (x == ("__classdict__" : Str)) = false := by decide) : PE X (.Name x pos) (tE G C (.var i)) := by
  refine (pe_var hN hv hd hcd).mono fun σ H Q h => ?_
  obtain ⟨A, ρ, v, mh', rfl, S, N, e, q⟩ := h
  simp only [ev] at e
  split at e
  · rename_i w hw
    cases e
    obtain ⟨x, h1, h2⟩ := N.2 i _ hw
    exact ⟨x, h1, Post.here q S h2⟩
  · cases e
theorem se_c {v : V} {mv : MV} (h : PE X e (tC v)) (hr : ∀ A, Rep G A mv v) : PE X e (tE G C (.c mv)) := by
  refine h.mono fun σ H Q h => ?_
  obtain ⟨A, ρ, w, mh', rfl, S, N, e, q⟩ := h
  simp only [ev] at e
  cases e
  exact Post.here q S (hr A)
theorem se_int {i j} : PE X (.Constant (.int i) j pos) (tE G C (.c (.int i))) := se_c pe_int fun _ => rep_int i
theorem se_bl {b j} : PE X (.Constant (.bool b) j pos) (tE G C (.c (.bl b))) := se_c pe_bl fun _ => rep_bl b
theorem se_non {j} : PE X (.Constant .none j pos) (tE G C (.c .non)) := se_c pe_non fun _ => rep_non
theorem se_str {x : Str} {j} {s : Sx} (h : x = ⟨s.toArray⟩) : PE X (.Constant (.str x) j pos) (tE G C (.c (.str s))) := by
  subst h
  exact se_c pe_str fun _ => rep_str s
/-- a module's number -/
theorem se_glob {x : Str} {i : Int} {t : Tok} (hg : Gl X x) (hm : X.mg x = some (.int i t)) (hd : (x == ("__debug__" : Str)) = false := by decide) : PE X (.Name x pos) (tE G C (.c (.int i))) :=
  se_c (pe_glob (v := .int i) hg hm ⟨t, rfl⟩ hd) fun _ => rep_int i
/-- a def as a value -/
theorem se_fn {x : Str} {f : Nat} {a : Addr} (hg : Gl X x) (hm : X.mg x = some (.ref a)) (hf : G.fa f = some a) (hd : (x == ("__debug__" : Str)) = false := by decide) : PE X (.Name x pos) (tE G C (.c (.fn f))) :=
  se_c (pe_glob (v := .ref a) hg hm rfl hd) fun _ => by unfold Rep; exact ⟨a, hf, rfl⟩
/-! ### operators -/
theorem se_bin {o : Op} (hK : X.K = G.K) (ha : PE X a (tE G C ma)) (hb : PE X b (tE G C mb)) : PE X (.BinOp a (opOf o) b pos) (tE G C (.bin o ma mb)) := by
  refine (pe_op (op_ok (X := X) o) ha hb).mono fun σ H Q h => ?_
  obtain ⟨A, ρ, v, mh', rfl, S, N, e, q⟩ := h
  simp only [ev] at e
  split at e
  · cases e
  rename_i x mh1 e1
  split at e
  · cases e
  rename_i y mh2 e2
  simp only [Option.map_eq_some_iff] at e
  obtain ⟨w, e3, e4⟩ := e
  cases e4
  refine tE.go S N e1 fun B vx kB em SB NB rx => tE.go SB NB (ev.at kB em e2) fun B2 vy k2 em2 S2 N2 ry => ?_
  rw [hK]
  refine opR_of S2 (by rw [em2]; exact e3) (Rep.keep SB k2 _ _ rx) ry ?_
  rw [em2]
  exact Post.step q (kB.trans k2)
theorem se_neg (ha : PE X a (tE G C ma)) : PE X (.UnaryOp .USub a pos) (tE G C (.neg ma)) := by
  refine (pe_un un_neg ha).mono fun σ H Q h => ?_
  obtain ⟨A, ρ, v, mh', rfl, S, N, e, q⟩ := h
  simp only [ev] at e
  split at e
  · rename_i i mh1 e1
    cases e
    exact tE.go S N e1 fun B vx kB em SB NB rx => ⟨i, rx.int_, q B _ kB em SB (rep_int _)⟩
  · cases e
theorem ev_cmp {o : Cop} {base : Nat} {ρ : Env} {mh mh' : MHp} {v : MV} (e : ev C base (.cmp o ma mb) ρ mh = some (v, mh')) :
    ∃ x mh1 y c, ev C base ma ρ mh = some (x, mh1) ∧ ev C base mb ρ mh1 = some (y, mh') ∧ cmpV mh' o x y = some c ∧ v = .bl c := by
  simp only [ev] at e
  split at e
  · cases e
  rename_i x mh1 e1
  split at e
  · cases e
  rename_i y mh2 e2
  simp only [Option.map_eq_some_iff] at e
  obtain ⟨w, e3, e4⟩ := e
  cases e4
  exact ⟨x, mh1, y, w, e1, e2, e3, rfl⟩
theorem se_cmp {o : Cop} (hK : X.K = G.K) (hu : X.A.units + 65 < cLine) (hm : behindInMarks (copOf o) b = false) (ha : PE X a (tE G C ma)) (hb : PE X b (tE G C mb)) : PE X (.Compare a [copOf o] [b] pos) (tE G C (.cmp o ma mb)) := by
  refine (pe_cmpR (cop_ok (X := X) hu o) ha hb hm).mono fun σ H Q h => ?_
  obtain ⟨A, ρ, v, mh', rfl, S, N, e, q⟩ := h
  obtain ⟨x, mh1, y, c, e1, e2, e3, rfl⟩ := ev_cmp e
  refine tE.go S N e1 fun B vx kB em SB NB rx => tE.go SB NB (ev.at kB em e2) fun B2 vy k2 em2 S2 N2 ry => ?_
  rw [hK]
  exact copR_of S2 (by rw [em2]; exact e3) (Rep.keep SB k2 _ _ rx) ry (q B2 _ (kB.trans k2) em2 S2 (rep_bl c))
theorem st_cmp {o : Cop} (hK : X.K = G.K) (hu : X.A.units + 65 < cLine) (hm : behindInMarks (copOf o) b = false) (ha : PE X a (tE G C ma)) (hb : PE X b (tE G C mb)) : PT X (.Compare a [copOf o] [b] pos) (tT G C (.cmp o ma mb)) := by
  refine (pt_cmpR (cop_ok (X := X) hu o) ha hb hm).mono fun σ H Q h => ?_
  obtain ⟨A, ρ, c', mh', rfl, S, N, e, q⟩ := h
  obtain ⟨x, mh1, y, c, e1, e2, e3, e4⟩ := ev_cmp e
  cases e4
  refine tE.go S N e1 fun B vx kB em SB NB rx => tE.go SB NB (ev.at kB em e2) fun B2 vy k2 em2 S2 N2 ry => ?_
  rw [hK]
  exact copR_of S2 (by rw [em2]; exact e3) (Rep.keep SB k2 _ _ rx) ry ⟨c', rfl, q B2 (kB.trans k2) em2 S2⟩
theorem ev_chn {o o' : Cop} {base : Nat} {ρ : Env} {mh mh' : MHp} {v : MV} (e : ev C base (.chn o o' ma mb mc) ρ mh = some (v, mh')) :
    ∃ x mh1 y mh2, ev C base ma ρ mh = some (x, mh1) ∧ ev C base mb ρ mh1 = some (y, mh2) ∧ ((cmpV mh2 o x y = some false ∧ v = .bl false ∧ mh' = mh2) ∨ (cmpV mh2 o x y = some true ∧ ∃ z c, ev C base mc ρ mh2 = some (z, mh') ∧ cmpV mh' o' y z = some c ∧ v = .bl c)) := by
  simp only [ev] at e
  split at e
  · cases e
  rename_i x mh1 e1
  split at e
  · cases e
  rename_i y mh2 e2
  refine ⟨x, mh1, y, mh2, e1, e2, ?_⟩
  split at e
  · cases e
  · rename_i e3
    cases e
    exact .inl ⟨e3, rfl, rfl⟩
  · rename_i e3
    split at e
    · cases e
    rename_i z mh3 e4
    simp only [Option.map_eq_some_iff] at e
    obtain ⟨w, e5, e6⟩ := e
    cases e6
    exact .inr ⟨e3, z, w, e4, e5, rfl⟩
theorem chn_go {o o' : Cop} {A : Wd} {ρ : Env} {σ : L2.St} {v : MV} {mh' : MHp} {Q : VK} (hK : X.K = G.K) (S : Sim G A) (N : Envs G A ρ σ) (e : ev C A.base (.chn o o' ma mb mc) ρ A.mh = some (v, mh')) (q : Post G A mh' v Q) :
    tChain (copR X.K o) (copR X.K o') (tE G C ma) (tE G C mb) (tE G C mc) σ A.H Q := by
  obtain ⟨x, mh1, y, mh2, e1, e2, h⟩ := ev_chn e
  refine tE.go S N e1 fun B vx kB em SB NB rx => tE.go SB NB (ev.at kB em e2) fun B2 vy k2 em2 S2 N2 ry => ?_
  rw [hK]
  rcases h with ⟨e3, rfl, rfl⟩ | ⟨e3, z, c, e4, e5, rfl⟩
  · refine copR_of S2 (by rw [em2]; exact e3) (Rep.keep SB k2 _ _ rx) ry ⟨false, rfl, ?_⟩
    rw [if_neg Bool.false_ne_true]
    exact q B2 _ (kB.trans k2) em2 S2 (rep_bl false)
  · refine copR_of S2 (by rw [em2]; exact e3) (Rep.keep SB k2 _ _ rx) ry ⟨true, rfl, ?_⟩
    rw [if_pos rfl]
    refine tE.go S2 N2 (ev.at (kB.trans k2) em2 e4) fun B3 vz k3 em3 S3 N3 rz => ?_
    exact copR_of S3 (by rw [em3]; exact e5) (Rep.keep S2 k3 _ _ ry) rz (q B3 _ ((kB.trans k2).trans k3) em3 S3 (rep_bl c))
theorem se_chn {o o' : Cop} (hK : X.K = G.K) (hu : X.A.units + 65 < cLine) (ha : PE X a (tE G C ma)) (hb : PE X b (tE G C mb)) (hc : PE X c (tE G C mc))
    (hm : lastMarks [copOf o, copOf o'] [b, c] = false := by with_unfolding_all rfl) : PE X (.Compare a [copOf o, copOf o'] [b, c] pos) (tE G C (.chn o o' ma mb mc)) := by
  refine (pe_chain (cop_ok (X := X) hu o) (cop_ok (X := X) hu o') ha hb hc hm).mono fun σ H Q h => ?_
  obtain ⟨A, ρ, v, mh', rfl, S, N, e, q⟩ := h
  exact chn_go hK S N e q
theorem st_chn {o o' : Cop} (hK : X.K = G.K) (hu : X.A.units + 65 < cLine) (ha : PE X a (tE G C ma)) (hb : PE X b (tE G C mb)) (hc : PE X c (tE G C mc))
    (hm : lastMarks [copOf o, copOf o'] [b, c] = false := by with_unfolding_all rfl) : PT X (.Compare a [copOf o, copOf o'] [b, c] pos) (tT G C (.chn o o' ma mb mc)) := by
  refine (pt_chain (cop_ok (X := X) hu o) (cop_ok (X := X) hu o') ha hb hc hm).mono fun σ H Q h => ?_
  obtain ⟨A, ρ, v, mh', rfl, S, N, e, q⟩ := h
  refine chn_go hK S N e fun B x k em SB r => ⟨v, r.bl_, q B k em SB⟩
/-! ### tests, and, or, not -/
theorem st_val (h : PE X e (tE G C m)) (he : ∀ whole, isTrue e X.env whole = (do let v ← whole; standAt e.pos; holding [v] (truthy v)) := by intro _; rfl) : PT X e (tT G C m) := by
  refine (pt_val h he).mono fun σ H Q h => ?_
  obtain ⟨A, ρ, c, mh', rfl, S, N, e, q⟩ := h
  exact tE.go S N e fun B x k em SB _ r => ⟨c, r.bl_, q B k em SB⟩
theorem ev_and {base : Nat} {ρ : Env} {mh mh' : MHp} {v : MV} (e : ev C base (.and ma mb) ρ mh = some (v, mh')) : (∃ mh1, ev C base ma ρ mh = some (.bl true, mh1) ∧ ev C base mb ρ mh1 = some (v, mh')) ∨ (ev C base ma ρ mh = some (.bl false, mh') ∧ v = .bl false) := by
  simp only [ev] at e
  split at e
  · rename_i mh1 e1; exact .inl ⟨mh1, e1, e⟩
  · rename_i mh1 e1; cases e; exact .inr ⟨e1, rfl⟩
  · cases e
theorem ev_or {base : Nat} {ρ : Env} {mh mh' : MHp} {v : MV} (e : ev C base (.or ma mb) ρ mh = some (v, mh')) : (∃ mh1, ev C base ma ρ mh = some (.bl false, mh1) ∧ ev C base mb ρ mh1 = some (v, mh')) ∨ (ev C base ma ρ mh = some (.bl true, mh') ∧ v = .bl true) := by
  simp only [ev] at e
  split at e
  · rename_i mh1 e1; exact .inl ⟨mh1, e1, e⟩
  · rename_i mh1 e1; cases e; exact .inr ⟨e1, rfl⟩
  · cases e
theorem sw_and1 (ha : PT X a (tT G C ma)) : PW X (.BoolOp .And [a] pos) (tT G C ma) := pw_and1 ha
theorem sw_or1 (ha : PT X a (tT G C ma)) : PW X (.BoolOp .Or [a] pos) (tT G C ma) := pw_or1 ha
theorem sw_and {rest : List Expr} (ha : PT X a (tT G C ma)) (hb : PW X (.BoolOp .And (b :: rest) pos) (tT G C mb)) : PW X (.BoolOp .And (a :: b :: rest) pos) (tT G C (.and ma mb)) := by
  refine (pw_and ha hb).mono fun σ H Q h => ?_
  obtain ⟨A, ρ, c, mh', rfl, S, N, e, q⟩ := h
  rcases ev_and e with ⟨mh1, e1, e2⟩ | ⟨e1, e2⟩
  · refine tT.go S N e1 fun B k em SB NB => ?_
    rw [if_pos rfl]
    exact tT.go SB NB (ev.at k em e2) fun B2 k2 em2 S2 _ => q B2 (k.trans k2) em2 S2
  · cases e2
    refine tT.go S N e1 fun B k em SB NB => ?_
    rw [if_neg Bool.false_ne_true]
    exact q B k em SB
theorem sw_or {rest : List Expr} (ha : PT X a (tT G C ma)) (hb : PW X (.BoolOp .Or (b :: rest) pos) (tT G C mb)) : PW X (.BoolOp .Or (a :: b :: rest) pos) (tT G C (.or ma mb)) := by
  refine (pw_or ha hb).mono fun σ H Q h => ?_
  obtain ⟨A, ρ, c, mh', rfl, S, N, e, q⟩ := h
  rcases ev_or e with ⟨mh1, e1, e2⟩ | ⟨e1, e2⟩
  · refine tT.go S N e1 fun B k em SB NB => ?_
    rw [if_neg Bool.false_ne_true]
    exact tT.go SB NB (ev.at k em e2) fun B2 k2 em2 S2 _ => q B2 (k.trans k2) em2 S2
  · cases e2
    refine tT.go S N e1 fun B k em SB NB => ?_
    rw [if_pos rfl]
    exact q B k em SB
theorem ev_not {base : Nat} {ρ : Env} {mh mh' : MHp} {v : MV} (e : ev C base (.not ma) ρ mh = some (v, mh')) : ∃ b, ev C base ma ρ mh = some (.bl b, mh') ∧ v = .bl (!b) := by
  simp only [ev] at e
  split at e
  · cases e; exact ⟨_, by assumption, rfl⟩
  · cases e
theorem st_not (ha : PT X a (tT G C ma)) : PT X (.UnaryOp .Not a pos) (tT G C (.not ma)) := by
  refine (pt_not ha).mono fun σ H Q h => ?_
  obtain ⟨A, ρ, c, mh', rfl, S, N, e, q⟩ := h
  obtain ⟨b, e1, e2⟩ := ev_not e
  cases e2
  exact tT.go S N e1 fun B k em SB _ => q B k em SB
theorem se_one {op} (h : PE X a (tE G C ma)) : PE X (.BoolOp op [a] pos) (tE G C ma) := pe_one h
theorem se_and {rest : List Expr} (ha : PE X a (tE G C ma)) (hb : PE X (.BoolOp .And (b :: rest) pos) (tE G C mb)) : PE X (.BoolOp .And (a :: b :: rest) pos) (tE G C (.and ma mb)) := by
  refine (pe_and ha hb).mono fun σ H Q h => ?_
  obtain ⟨A, ρ, v, mh', rfl, S, N, e, q⟩ := h
  rcases ev_and e with ⟨mh1, e1, e2⟩ | ⟨e1, rfl⟩
  · refine tE.go S N e1 fun B x k em SB NB r => ⟨true, r.bl_, ?_⟩
    rw [if_pos rfl]
    exact tE.go SB NB (ev.at k em e2) fun B2 x2 k2 em2 S2 _ r2 => q B2 x2 (k.trans k2) em2 S2 r2
  · refine tE.go S N e1 fun B x k em SB NB r => ⟨false, r.bl_, ?_⟩
    rw [if_neg Bool.false_ne_true]
    exact q B _ k em SB (rep_bl false)
theorem se_or {rest : List Expr} (ha : PE X a (tE G C ma)) (hb : PE X (.BoolOp .Or (b :: rest) pos) (tE G C mb)) : PE X (.BoolOp .Or (a :: b :: rest) pos) (tE G C (.or ma mb)) := by
  refine (pe_or ha hb).mono fun σ H Q h => ?_
  obtain ⟨A, ρ, v, mh', rfl, S, N, e, q⟩ := h
  rcases ev_or e with ⟨mh1, e1, e2⟩ | ⟨e1, rfl⟩
  · refine tE.go S N e1 fun B x k em SB NB r => ⟨false, r.bl_, ?_⟩
    rw [if_neg Bool.false_ne_true]
    exact tE.go SB NB (ev.at k em e2) fun B2 x2 k2 em2 S2 _ r2 => q B2 x2 (k.trans k2) em2 S2 r2
  · refine tE.go S N e1 fun B x k em SB NB r => ⟨true, r.bl_, ?_⟩
    rw [if_pos rfl]
    exact q B _ k em SB (rep_bl true)
theorem se_not (ha : PE X a (tE G C ma)) : PE X (.UnaryOp .Not a pos) (tE G C (.not ma)) := by
  refine (pe_not ha).mono fun σ H Q h => ?_
  obtain ⟨A, ρ, v, mh', rfl, S, N, e, q⟩ := h
  obtain ⟨b, e1, rfl⟩ := ev_not e
  exact tE.go S N e1 fun B x k em SB _ r => ⟨b, r.bl_, q B _ k em SB (rep_bl _)⟩
theorem ev_ite {base : Nat} {ρ : Env} {mh mh' : MHp} {v : MV} (e : ev C base (.ite mc ma mb) ρ mh = some (v, mh')) : ∃ b mh1, ev C base mc ρ mh = some (.bl b, mh1) ∧ ev C base (if b = true then ma else mb) ρ mh1 = some (v, mh') := by
  simp only [ev] at e
  split at e
  · rename_i mh1 e1; exact ⟨true, mh1, e1, by rw [if_pos rfl]; exact e⟩
  · rename_i mh1 e1; exact ⟨false, mh1, e1, by rw [if_neg Bool.false_ne_true]; exact e⟩
  · cases e
theorem se_ite (hc : PT X c (tT G C mc)) (ha : PE X a (tE G C ma)) (hb : PE X b (tE G C mb)) : PE X (.IfExp c a b pos) (tE G C (.ite mc ma mb)) := by
  refine (pe_ifExp hc ha hb).mono fun σ H Q h => ?_
  obtain ⟨A, ρ, v, mh', rfl, S, N, e, q⟩ := h
  obtain ⟨b, mh1, e1, e2⟩ := ev_ite e
  refine tT.go S N e1 fun B k em SB NB => ?_
  cases b with
  | true =>
    rw [if_pos rfl] at e2 ⊢
    exact tE.go SB NB (ev.at k em e2) fun B2 x2 k2 em2 S2 _ r2 => q B2 x2 (k.trans k2) em2 S2 r2
  | false =>
    rw [if_neg Bool.false_ne_true] at e2 ⊢
    exact tE.go SB NB (ev.at k em e2) fun B2 x2 k2 em2 S2 _ r2 => q B2 x2 (k.trans k2) em2 S2 r2
/-! ### arguments, displays -/
theorem sa_nil : PA X [] (tEs G C []) := by
  refine pa_nil.mono fun σ H Q h => ?_
  obtain ⟨A, ρ, vs, mh', rfl, S, N, e, q⟩ := h
  simp only [evs] at e
  cases e
  exact q A [] (Keep.refl A) rfl S (by unfold Reps; rfl)
theorem evs_cons {ms : List ME} {base : Nat} {ρ : Env} {mh mh' : MHp} {vs : List MV} (e : evs C base (m :: ms) ρ mh = some (vs, mh')) : ∃ x mh1 xs, ev C base m ρ mh = some (x, mh1) ∧ evs C base ms ρ mh1 = some (xs, mh') ∧ vs = x :: xs := by
  simp only [evs] at e
  split at e
  · cases e
  rename_i x mh1 e1
  split at e
  · cases e
  rename_i xs mh2 e2
  cases e
  exact ⟨x, mh1, xs, e1, e2, rfl⟩
theorem sa_cons {es : List Expr} {ms : List ME} (ha : PE X e (tE G C m)) (hr : PA X es (tEs G C ms)) (hs : starEach (e :: es) X.env = (false, eval e X.env) :: starEach es X.env := by rfl) : PA X (e :: es) (tEs G C (m :: ms)) := by
  refine (pa_cons ha hr hs).mono fun σ H Q h => ?_
  obtain ⟨A, ρ, vs, mh', rfl, S, N, e, q⟩ := h
  obtain ⟨x, mh1, xs, e1, e2, rfl⟩ := evs_cons e
  refine tE.go S N e1 fun B vx k em SB NB rx => tEs.go SB NB (evs.at k em e2) fun B2 ys k2 em2 S2 _ r2 => ?_
  refine q B2 _ (k.trans k2) em2 S2 ?_
  unfold Reps
  exact ⟨vx, ys, rfl, Rep.keep SB k2 _ _ rx, r2⟩
theorem se_tup {es : List Expr} {ms : List ME} {x1} (h : PA X es (tEs G C ms)) : PE X (.Tuple es x1 pos) (tE G C (.tup ms)) := by
  refine (pe_tup h).mono fun σ H Q h => ?_
  obtain ⟨A, ρ, v, mh', rfl, S, N, e, q⟩ := h
  simp only [ev] at e
  split at e
  · cases e
  rename_i xs mh1 e1
  split at e
  · rename_i hz
    cases e
    refine tEs.go S N e1 fun B ys k em SB _ r => ⟨by rw [← r.len]; exact hz, fun p hp => ?_⟩
    have q' := Post.step q k
    rw [← em] at q'
    exact q'.newTup SB r hp
  · cases e
theorem ev_lst {ms : List ME} {base : Nat} {ρ : Env} {mh mh' : MHp} {v : MV} (e : ev C base (.lst ms) ρ mh = some (v, mh')) : ∃ xs, evs C base ms ρ mh = some (xs, mh') ∧ xs.length ≤ line ∧ v = .lst xs := by
  simp only [ev] at e
  split at e
  · cases e
  rename_i xs mh1 e1
  split at e
  · rename_i hz
    cases e
    exact ⟨xs, e1, hz, rfl⟩
  · cases e
theorem se_lst {es : List Expr} {ms : List ME} (h : PA X es (tEs G C ms)) : PE X (.List es pos) (tE G C (.lst ms)) := by
  refine (pe_lst h).mono fun σ H Q h => ?_
  obtain ⟨A, ρ, v, mh', rfl, S, N, e, q⟩ := h
  obtain ⟨xs, e1, hz, rfl⟩ := ev_lst e
  refine tEs.go S N e1 fun B ys k em SB _ r => ⟨by rw [← r.len]; exact hz, fun p hp => ?_⟩
  have q' := Post.step q k
  rw [← em] at q'
  exact q'.newLst SB r hp
theorem ev_al {base : Nat} {ρ : Env} {mh mh' : MHp} {v : MV} (e : ev C base (.al m) ρ mh = some (v, mh')) : (∃ xs mh1, ev C base m ρ mh = some (.lst xs, mh1) ∧ v = .loc mh1.length ∧ mh' = mh1 ++ [some (.lst xs)]) ∨ (∃ ks vs mh1, ev C base m ρ mh = some (.dct ks vs, mh1) ∧ v = .loc mh1.length ∧ mh' = mh1 ++ [some (.dct ks vs)]) := by
  simp only [ev] at e
  split at e
  · rename_i xs mh1 e1; cases e; exact .inl ⟨xs, mh1, e1, rfl, rfl⟩
  · rename_i ks vs mh1 e1; cases e; exact .inr ⟨ks, vs, mh1, e1, rfl, rfl⟩
  · cases e
/-- a new list is laid as a live object -/
theorem Post.alLst {A : Wd} {xs : List MV} {vs : List V} {Q : VK} {p : Addr} (h : Post G A (A.mh ++ [some (.lst xs)]) (.loc A.mh.length) Q) (S : Sim G A) (r : Reps G A xs vs) (hp : A.H p = none) : Q (.ref p) (upd A.H p (.lst vs)) := by
  have k : Keep A (A.al p (.lst vs) (.lst xs)) := keep_al S hp
  refine h (A.al p (.lst vs) (.lst xs)) (.ref p) k rfl (S.al hp ⟨vs, upd_same, Reps.keep S k _ _ r⟩ ⟨(fun _ z => nomatch z), (fun _ _ z => nomatch z)⟩) ?_
  unfold Rep
  refine ⟨p, rfl, ?_⟩
  show (A.β ++ [p])[A.mh.length]? = some p
  rw [← S.len, List.getElem?_append_right (Nat.le_refl _)]
  simp
theorem sal_lst {es : List Expr} {ms : List ME} (h : PA X es (tEs G C ms)) : PE X (.List es pos) (tE G C (.al (.lst ms))) := by
  refine (pe_lst h).mono fun σ H Q h => ?_
  obtain ⟨A, ρ, v, mh', rfl, S, N, e, q⟩ := h
  rcases ev_al e with ⟨xs, mh1, e9, rfl, rfl⟩ | ⟨ks, vs, mh1, e9, rfl, rfl⟩
  · obtain ⟨ys, e1, hz, e2⟩ := ev_lst e9
    cases e2
    refine tEs.go S N e1 fun B ys k em SB _ r => ⟨by rw [← r.len]; exact hz, fun p hp => ?_⟩
    have q' := Post.step q k
    rw [← em] at q'
    exact q'.alLst SB r hp
  · obtain ⟨ys, e1, hz, e2⟩ := ev_lst e9
    cases e2
/-! ### built-ins -/
theorem ev_bi {f : Bi} {ms : List ME} {base : Nat} {ρ : Env} {mh mh' : MHp} {v : MV} (e : ev C base (.bi f ms) ρ mh = some (v, mh')) : ∃ xs, evs C base ms ρ mh = some (xs, mh') ∧ biV mh' f xs = some v := by
  simp only [ev] at e
  split at e
  · cases e
  rename_i xs mh1 e1
  simp only [Option.map_eq_some_iff] at e
  obtain ⟨w, e3, e4⟩ := e
  cases e4
  exact ⟨xs, e1, e3⟩
theorem bi_go {f : Bi} {ms : List ME} {r : PySem.W.Frag → List V → Hp → VK → Prop} (hr : BiS f r) (hK : X.K = G.K) {σ : L2.St} {H : Hp} {Q : VK} (h : tE G C (.bi f ms) σ H Q) : tCB (r X.K) (tEs G C ms) σ H Q := by
  obtain ⟨A, ρ, v, mh', rfl, S, N, e, q⟩ := h
  obtain ⟨xs, e1, e2⟩ := ev_bi e
  refine tEs.go S N e1 fun B ys k em SB _ rr => ?_
  rw [hK]
  have q' := Post.step q k
  rw [← em] at q'
  exact hr G B xs v ys Q SB (by rw [em]; exact e2) rr q'
theorem se_biB {f : Bi} {id : String} {es : List Expr} {ms : List ME} {r : PySem.W.Frag → List V → Hp → VK → Prop} {x : Str} (hr : BiS f r) (hc : CallR X (.builtin id) (r X.K)) (hK : X.K = G.K) (hg : Gl X x) (hm : X.mg x = none) (hv : bootBuiltins x = some (.builtin id)) (ha : PA X (e :: es) (tEs G C ms)) (hn : x ≠ "__name__" := by decide) (hdb : (x == ("__debug__" : Str)) = false := by decide)
    (he : starEach (e :: es) X.env = (false, eval e X.env) :: starEach es X.env := by rfl) (hpl : (backTo pos (starEach es X.env)).any (·.1) = false := by rfl) : PE X (.Call (.Name x p) (e :: es) [] pos) (tE G C (.bi f ms)) :=
  (pe_callB hc hg hm hv ha hn hdb he hpl).mono fun _ _ _ h => bi_go hr hK h
theorem se_biT {f : Bi} {id : String} {es : List Expr} {ms : List ME} {r : PySem.W.Frag → List V → Hp → VK → Prop} {x : Str} (hr : BiS f r) (hc : CallR X (.type id) (r X.K)) (hK : X.K = G.K) (hg : Gl X x) (hm : X.mg x = none) (hv : bootBuiltins x = some (.type id)) (ha : PA X (e :: es) (tEs G C ms)) (hn : x ≠ "__name__" := by decide) (hdb : (x == ("__debug__" : Str)) = false := by decide)
    (he : starEach (e :: es) X.env = (false, eval e X.env) :: starEach es X.env := by rfl) (hpl : (backTo pos (starEach es X.env)).any (·.1) = false := by rfl) : PE X (.Call (.Name x p) (e :: es) [] pos) (tE G C (.bi f ms)) :=
  (pe_callTy hc hg hm hv ha hn hdb he hpl).mono fun _ _ _ h => bi_go hr hK h
end
end L2.Mi

set_option Elab.async false
set_option linter.all false
set_option maxRecDepth 100000
set_option maxHeartbeats 4000000
/-! Mini7: calls, isinstance, methods, subscripts, slices. -/
namespace L2.Mi
open PySem PySem.Spec PyProof.Rows

/-! ### calls of defs -/
/-- a def's promise: what the calls' function C tells -/
def spC (G : Gb) (C : CallF) (f n : Nat) : Sp := fun vs H Q _ => vs.length = n ∧ ∃ (A : Wd) (args : List MV) (r : MV) (mh' : MHp), A.H = H ∧ Sim G A ∧ Reps G A args vs ∧ C f args A.mh = some (r, mh') ∧ Post G A mh' r Q
structure FnC (P : Program) (w : World) (K : PySem.W.Frag) (mg : Str → Option Value) (base : Heap) (G : Gb) (C : CallF) (k f : Nat) (a : Addr) : Prop where
  ex : ∃ (fd : FuncData) (ps : List Str), FnOk P w K mg base CX0 k a fd ps (spC G C f ps.length) ∧ PySem.W.keepIn K (.ref a) = true ∧ Binds K fd ps [] ∧ ∀ args mh r, C f args mh = some r → args.length = ps.length
section
variable {G : Gb} {C : CallF} {X : Cx} {pos p : Pos} {e a b c : Expr} {ma mb mc m : ME} {k : Nat}
theorem call_go {f : Nat} {fa : Addr} {ms : List ME} {σ : L2.St} {H : Hp} {Q : VK} {n : Nat} (hl : ∀ args mh r, C f args mh = some r → args.length = n) (h : tE G C (.call f ms) σ H Q) : tCall (spC G C f n) [] E0 (tEs G C ms) σ H Q := by
  obtain ⟨A, ρ, v, mh', rfl, S, N, e, q⟩ := h
  simp only [ev] at e
  split at e
  · cases e
  rename_i xs mh1 e1
  refine tEs.go S N e1 fun B ys kB em SB _ r => ?_
  rw [List.append_nil]
  refine ⟨?_, B, xs, v, mh', rfl, SB, r, by rw [em]; exact e, Post.step q kB⟩
  rw [← r.len]
  exact hl _ _ _ e
theorem se_call {f : Nat} {fa : Addr} {x : Str} {es : List Expr} {ms : List ME} (F : FnC X.prog X.w X.K X.mg X.base G C k f fa) (hr : Room k X.A) (hg : Gl X x) (hm : X.mg x = some (.ref fa)) (ha : PA X (e :: es) (tEs G C ms))
    (hdb : (x == ("__debug__" : Str)) = false := by decide) (he : starEach (e :: es) X.env = (false, eval e X.env) :: starEach es X.env := by rfl) (hpl : (backTo pos (starEach es X.env)).any (·.1) = false := by rfl) :
    PE X (.Call (.Name x p) (e :: es) [] pos) (tE G C (.call f ms)) := by
  obtain ⟨fd, ps, F, hk, hb, hl⟩ := F.ex
  exact (pe_call F hr hg hm hk hb .nil pass0 ha hdb he hpl).mono fun σ H Q h => call_go (fa := fa) hl h
theorem se_call0 {f : Nat} {fa : Addr} {x : Str} (F : FnC X.prog X.w X.K X.mg X.base G C k f fa) (hr : Room k X.A) (hg : Gl X x) (hm : X.mg x = some (.ref fa))
    (hdb : (x == ("__debug__" : Str)) = false := by decide) : PE X (.Call (.Name x p) [] [] pos) (tE G C (.call f [])) := by
  obtain ⟨fd, ps, F, hk, hb, hl⟩ := F.ex
  refine (pe_call0 F hr hg hm hk hb .nil pass0 hdb).mono fun σ H Q h => ?_
  obtain ⟨A, ρ, v, mh', rfl, S, N, e, q⟩ := h
  simp only [ev, evs] at e
  exact ⟨(hl _ _ _ e : [].length = ps.length), A, [], v, mh', rfl, S, by unfold Reps; rfl, e, q⟩
/-- a call of what a name holds -/
theorem se_callv {i : Nat} {x : Str} {es : List Expr} {ms : List ME} (F : ∀ f fa, G.fa f = some fa → FnC X.prog X.w X.K X.mg X.base G C k f fa) (hr : Room k X.A) (hN : X.N[i]? = some x) (hv : Vis X.env.scope x) (ha : PA X (e :: es) (tEs G C ms))
    (hdb : (x == ("__debug__" : Str)) = false := by decide) (hcd : (x == ("__classdict__" : Str)) = false := by decide) (he : starEach (e :: es) X.env = (false, eval e X.env) :: starEach es X.env := by rfl) (hpl : (backTo pos (starEach es X.env)).any (·.1) = false := by rfl) :
    PE X (.Call (.Name x p) (e :: es) [] pos) (tE G C (.callv i ms)) := by
  refine ⟨fun pins s σ H Q I h => ?_⟩
  obtain ⟨A, ρ, v, mh', rfl, S, N, e, q⟩ := h
  simp only [ev] at e
  split at e
  · rename_i f hi
    split at e
    · cases e
    rename_i xs mh1 e1
    obtain ⟨y, hs, ry⟩ := N.2 i _ hi
    unfold Rep at ry
    obtain ⟨fa, hf, rfl⟩ := ry
    obtain ⟨fd, ps, F, hk, hb, hl⟩ := (F f fa hf).ex
    refine (pe_callL (E := E0) F hr hN hv hk hb .nil pass0 ha hdb hcd he hpl).run pins s σ A.H Q I ⟨hs, ?_⟩
    refine tEs.go S N e1 fun B ys kB em SB _ r => ?_
    rw [List.append_nil]
    refine ⟨?_, B, xs, v, mh', rfl, SB, r, by rw [em]; exact e, Post.step q kB⟩
    rw [← r.len]
    exact hl _ _ _ e
  · cases e
/-! ### isinstance -/
def tyN : Ty → String
  | .int => "int"
  | .bool => "bool"
  | .str => "str"
  | .tuple => "tuple"
  | .list => "list"
  | .dict => "dict"
def kindN : String → Ty → Bool
  | "bool", .bool => true
  | "bool", .int => true
  | "int", .int => true
  | "str", .str => true
  | "tuple", .tuple => true
  | "list", .list => true
  | "dict", .dict => true
  | _, _ => false
theorem kit_all {K : PySem.W.Frag} : ∀ n ∈ ["NoneType", "bool", "int", "str", "tuple", "list", "dict"], ∀ t : Ty, PySem.W.kitOne K (.type n) (.type (tyN t)) = some (kindN n t) := by
  intro n hn t
  simp only [List.mem_cons, List.not_mem_nil, or_false] at hn
  rcases hn with rfl | rfl | rfl | rfl | rfl | rfl | rfl <;> cases t <;> exact kit_ty (by decide +kernel)
theorem isTy_of {A : Wd} (S : Sim G A) {x : MV} {t : Ty} {b : Bool} {v : V} (e : isTy x t A.mh = some b) (r : Rep G A x v) : ∃ n, n ∈ ["NoneType", "bool", "int", "str", "tuple", "list", "dict"] ∧ TyX G.K A.H v (.type n) ∧ kindN n t = b := by
  have tupX : ∀ {xs : List MV}, Rep G A (.tup xs) v → TyX G.K A.H v (.type "tuple") := fun {xs} r => by
    obtain ⟨a, vs, rfl, h1, _⟩ := r.tup_
    rcases h1 with (h1 | ⟨o, h1⟩) | ⟨o, its, n, h1, h2, _⟩
    · exact .base (.tup h1)
    · exact .fTuple h1
    · exact .kTuple h1 h2
  cases x with
  | non => cases t <;> cases e <;> exact ⟨"NoneType", by decide, by rw [r.non_]; exact .base .non, rfl⟩
  | bl c => cases t <;> cases e <;> exact ⟨"bool", by decide, by rw [r.bl_]; exact .base (.bl _), rfl⟩
  | int i => cases t <;> cases e <;> exact ⟨"int", by decide, by rw [r.int_]; exact .base (.int _), rfl⟩
  | str s => cases t <;> cases e <;> exact ⟨"str", by decide, by rw [r.str_]; exact .base (.str _), rfl⟩
  | tup xs => cases t <;> cases e <;> exact ⟨"tuple", by decide, tupX r, rfl⟩
  | lst xs =>
    have hL : TyX G.K A.H v (.type "list") := by
      unfold Rep at r
      obtain ⟨a, vs, rfl, h1, _⟩ := r
      exact .base (.lst h1)
    cases t <;> cases e <;> exact ⟨"list", by decide, hL, rfl⟩
  | loc l =>
    simp only [isTy] at e
    split at e
    · rename_i ys hl
      obtain ⟨a, rfl, e2⟩ := r.loc_
      obtain ⟨vs, e3, r3⟩ := S.obj _ _ hl a e2
      cases t <;> cases e <;> exact ⟨"list", by decide, .base (.lst e3), rfl⟩
    · rename_i ys ks hl
      obtain ⟨a, rfl, e2⟩ := r.loc_
      obtain ⟨vs, e3, r3⟩ := S.obj _ _ hl a e2
      cases t <;> cases e <;> exact ⟨"dict", by decide, .base (.dK e3), rfl⟩
    · cases e
  | dct ks vs =>
    have hD : TyX G.K A.H v (.type "dict") := by
      unfold Rep at r
      obtain ⟨a, vs, rfl, h1, _⟩ := r
      exact .base (.dK h1)
    cases t <;> cases e <;> exact ⟨"dict", by decide, hD, rfl⟩
  | fn f => cases t <;> cases e
  | scr ns => cases t <;> cases e
theorem se_isi {x y : Str} {p2 : Pos} {t : Ty} (hK : X.K = G.K) (hg : Gl X x) (hm : X.mg x = none) (hv : bootBuiltins x = some (.builtin "isinstance")) (hg2 : Gl X y) (hm2 : X.mg y = none) (hv2 : bootBuiltins y = some (.type (tyN t))) (ha : PE X e (tE G C m))
    (hn : x ≠ "__name__" := by decide) (hdb : (x == ("__debug__" : Str)) = false := by decide) (hn2 : y ≠ "__name__" := by decide) (hdb2 : (y == ("__debug__" : Str)) = false := by decide)
    (he : starEach [e, .Name y p2] X.env = (false, eval e X.env) :: starEach [.Name y p2] X.env := by rfl) (hpl : (backTo pos (starEach [.Name y p2] X.env)).any (·.1) = false := by rfl) :
    PE X (.Call (.Name x p) [e, .Name y p2] [] pos) (tE G C (.isi m t)) := by
  refine (pe_callB call_isi hg hm hv (pa_cons ha (pa_cons (pe_bltn (v := .ty (tyN t)) hg2 hm2 hv2 rfl hn2 hdb2) pa_nil) he) hn hdb he hpl).mono fun σ H Q h => ?_
  obtain ⟨A, ρ, v, mh', rfl, S, N, e, q⟩ := h
  simp only [ev] at e
  split at e
  · cases e
  rename_i z mh1 e1
  simp only [Option.map_eq_some_iff] at e
  obtain ⟨w, e3, e4⟩ := e
  cases e4
  refine tE.go S N e1 fun B vx kB em SB _ r => ?_
  obtain ⟨n, h1, h2, h3⟩ := isTy_of SB (by rw [em]; exact e3) r
  refine ⟨vx, .ty (tyN t), .type n, .type (tyN t), w, rfl, .ty _, by rw [hK]; exact h2, ?_, q B _ kB em SB (rep_bl w)⟩
  rw [← h3]
  exact kit_all n h1 t
/-! ### methods -/
/-- the receiver's kind -/
def meT : Me → String
  | .upper => "str"
  | .get2 => "dict"
  | _ => "list"
theorem tyM_of {A : Wd} (S : Sim G A) {x : MV} {mm : Me} {v : V} (e : tyM A.mh mm x = true) (r : Rep G A x v) : tyV G.K (meT mm) v A.H := by
  have lists : (liveL A.mh x).isSome = true → tyV G.K "list" v A.H := fun e => by
    obtain ⟨⟨l, xs⟩, e⟩ := Option.isSome_iff_exists.mp e
    obtain ⟨_, a, vs, _, rfl, h1, _⟩ := liveL_rep S e r
    exact .inl ⟨rfl, vs, SqL.of h1⟩
  cases mm with
  | append => exact lists e
  | extend => exact lists e
  | pop => exact lists e
  | popAt => exact lists e
  | upper =>
    cases x with
    | str s => rw [r.str_]; rfl
    | _ => cases e
  | get2 => cases x <;> cases e
theorem ev_meth {mm : Me} {ms : List ME} {base : Nat} {ρ : Env} {mh mh' : MHp} {v : MV} (e : ev C base (.meth mm m ms) ρ mh = some (v, mh')) : ∃ x mh1 xs mh2, ev C base m ρ mh = some (x, mh1) ∧ tyM mh1 mm x = true ∧ evs C base ms ρ mh1 = some (xs, mh2) ∧ methV base mh2 mm x xs = some (v, mh') := by
  simp only [ev] at e
  split at e
  · cases e
  rename_i x mh1 e1
  split at e
  · rename_i ht
    split at e
    · cases e
    rename_i xs mh2 e2
    exact ⟨x, mh1, xs, mh2, e1, ht, e2, e⟩
  · cases e
theorem se_meth {mm : Me} {name : Str} {id : String} {apos cpos : Pos} {es : List Expr} {ms : List ME} {r : PySem.W.Frag → V → List V → Hp → VK → Prop} (hr : MeS mm r) (hK : X.K = G.K)
    (pa : PlainAttrs (meT mm)) (slot : Slot (meT mm) name id) (hty : typeOf (.builtin id) = pure (.type "method_descriptor")) (hm : MtR X id (r X.K)) (ho : PE X a (tE G C m)) (ha : PA X (e :: es) (tEs G C ms))
    (hbase : attributeBase a name X.env (eval a X.env) = eval a X.env := by rfl)
    (hfew : ((backTo cpos (starEach (e :: es) X.env)).all (fun x => !x.1) && (backToKw cpos (keywordEach [] X.env)).all (fun x => x.1.isSome)
      && decide ((e :: es).length + ([] : List Keyword).length + (if ([] : List Keyword).isEmpty then 0 else 1) < 30)) = true := by rfl)
    (hline : (apos.endLine == cpos.line) = true := by rfl) (hs : starEach (e :: es) X.env = (false, eval e X.env) :: starEach es X.env := by rfl) (hplain : (backTo cpos (starEach es X.env)).any (·.1) = false := by rfl) :
    PE X (.Call (.Attribute a name apos) (e :: es) [] cpos) (tE G C (.meth mm m ms)) := by
  refine (pe_bm pa slot hty hm ho ha hbase hfew hline hs hplain).mono fun σ H Q h => ?_
  obtain ⟨A, ρ, v, mh', rfl, S, N, e, q⟩ := h
  obtain ⟨x, mh1, xs, mh2, e1, ht, e2, e3⟩ := ev_meth e
  refine tE.go S N e1 fun B vx kB em SB NB rx => ⟨by rw [hK]; exact tyM_of SB (by rw [em]; exact ht) rx, ?_⟩
  refine tEs.go SB NB (evs.at kB em e2) fun B2 ys k2 em2 S2 _ r2 => ?_
  rw [hK]
  exact hr G B2 x xs v mh' vx ys Q S2 (by rw [(kB.trans k2).base, em2]; exact e3) (Rep.keep SB k2 _ _ rx) r2 (Post.step q (kB.trans k2))
theorem se_meth0 {mm : Me} {name : Str} {id : String} {apos cpos : Pos} {r : PySem.W.Frag → V → List V → Hp → VK → Prop} (hr : MeS mm r) (hK : X.K = G.K)
    (pa : PlainAttrs (meT mm)) (slot : Slot (meT mm) name id) (hty : typeOf (.builtin id) = pure (.type "method_descriptor")) (hm : MtR X id (r X.K)) (ho : PE X a (tE G C m))
    (hbase : attributeBase a name X.env (eval a X.env) = eval a X.env := by rfl) (hline : (apos.endLine == cpos.line) = true := by rfl) :
    PE X (.Call (.Attribute a name apos) [] [] cpos) (tE G C (.meth mm m [])) := by
  refine (pe_bm0 pa slot hty hm ho hbase hline).mono fun σ H Q h => ?_
  obtain ⟨A, ρ, v, mh', rfl, S, N, e, q⟩ := h
  obtain ⟨x, mh1, xs, mh2, e1, ht, e2, e3⟩ := ev_meth e
  simp only [evs] at e2
  cases e2
  refine tE.go S N e1 fun B vx kB em SB NB rx => ⟨by rw [hK]; exact tyM_of SB (by rw [em]; exact ht) rx, ?_⟩
  rw [hK]
  exact hr G B x [] v mh' vx [] Q SB (by rw [kB.base, em]; exact e3) rx (by unfold Reps; rfl) (Post.step q kB)
/-! ### subscripts, slices -/
theorem se_sub (hK : X.K = G.K) (ha : PE X a (tE G C ma)) (hb : PE X b (tE G C mb)) (hs : PlainIx b := by intro _ _; rfl) : PE X (.Subscript a b pos) (tE G C (.sub ma mb)) := by
  refine (pe_ix ix_seq ha hb hs).mono fun σ H Q h => ?_
  obtain ⟨A, ρ, v, mh', rfl, S, N, e, q⟩ := h
  simp only [ev] at e
  split at e
  · cases e
  rename_i x mh1 e1
  split at e
  · cases e
  rename_i y mh2 e2
  simp only [Option.map_eq_some_iff] at e
  obtain ⟨w, e3, e4⟩ := e
  cases e4
  refine tE.go S N e1 fun B vx kB em SB NB rx => tE.go SB NB (ev.at kB em e2) fun B2 vy k2 em2 S2 N2 ry => ?_
  rw [hK]
  refine sub_of S2 (by rw [em2]; exact e3) (Rep.keep SB k2 _ _ rx) ry ?_
  rw [em2]
  exact Post.step q (kB.trans k2)
theorem se_slcL {p2 : Pos} (hK : X.K = G.K) (ha : PE X a (tE G C ma)) (hb : PE X b (tE G C mb)) : PE X (.Subscript a (.Slice (some b) none none p2) pos) (tE G C (.slcL ma mb)) := by
  refine (pe_slice sl_ok ha (po_some hb) po_none).mono fun σ H Q h => ?_
  obtain ⟨A, ρ, v, mh', rfl, S, N, e, q⟩ := h
  simp only [ev] at e
  split at e
  · cases e
  rename_i x mh1 e1
  split at e
  · rename_i l mh2 e2
    simp only [Option.map_eq_some_iff] at e
    obtain ⟨w, e3, e4⟩ := e
    cases e4
    refine tE.go S N e1 fun B vx kB em SB NB rx => tE.go SB NB (ev.at kB em e2) fun B2 vy k2 em2 S2 N2 ry => ⟨l, ry.int_, ?_⟩
    show slR X.K vx (some l) none B2.H Q
    rw [hK]
    refine slc_of S2 (by rw [em2]; exact e3) (Rep.keep SB k2 _ _ rx) ?_
    rw [em2]
    exact Post.step q (kB.trans k2)
  · cases e
theorem se_slcH {p2 : Pos} (hK : X.K = G.K) (ha : PE X a (tE G C ma)) (hb : PE X b (tE G C mb)) : PE X (.Subscript a (.Slice none (some b) none p2) pos) (tE G C (.slcH ma mb)) := by
  refine (pe_slice sl_ok ha po_none (po_some hb)).mono fun σ H Q h => ?_
  obtain ⟨A, ρ, v, mh', rfl, S, N, e, q⟩ := h
  simp only [ev] at e
  split at e
  · cases e
  rename_i x mh1 e1
  split at e
  · rename_i l mh2 e2
    simp only [Option.map_eq_some_iff] at e
    obtain ⟨w, e3, e4⟩ := e
    cases e4
    refine tE.go S N e1 fun B vx kB em SB NB rx => ?_
    show tE G C mb σ B.H _
    refine tE.go SB NB (ev.at kB em e2) fun B2 vy k2 em2 S2 N2 ry => ⟨l, ry.int_, ?_⟩
    show slR X.K vx none (some l) B2.H Q
    rw [hK]
    refine slc_of S2 (by rw [em2]; exact e3) (Rep.keep SB k2 _ _ rx) ?_
    rw [em2]
    exact Post.step q (kB.trans k2)
  · cases e
theorem se_slcB {p2 : Pos} (hK : X.K = G.K) (ha : PE X a (tE G C ma)) (hb : PE X b (tE G C mb)) (hc : PE X c (tE G C mc)) : PE X (.Subscript a (.Slice (some b) (some c) none p2) pos) (tE G C (.slcB ma mb mc)) := by
  refine (pe_slice sl_ok ha (po_some hb) (po_some hc)).mono fun σ H Q h => ?_
  obtain ⟨A, ρ, v, mh', rfl, S, N, e, q⟩ := h
  simp only [ev] at e
  split at e
  · cases e
  rename_i x mh1 e1
  split at e
  · rename_i l mh2 e2
    split at e
    · rename_i l' mh3 e3'
      simp only [Option.map_eq_some_iff] at e
      obtain ⟨w, e3, e4⟩ := e
      cases e4
      refine tE.go S N e1 fun B vx kB em SB NB rx => tE.go SB NB (ev.at kB em e2) fun B2 vy k2 em2 S2 N2 ry => ⟨l, ry.int_, ?_⟩
      show tE G C mc σ B2.H _
      refine tE.go S2 N2 (ev.at (kB.trans k2) em2 e3') fun B3 vz k3 em3 S3 _ rz => ⟨l', rz.int_, ?_⟩
      show slR X.K vx (some l) (some l') B3.H Q
      rw [hK]
      refine slc_of S3 (by rw [em3]; exact e3) (Rep.keep S2 k3 _ _ (Rep.keep SB k2 _ _ rx)) ?_
      rw [em3]
      exact Post.step q ((kB.trans k2).trans k3)
    · cases e
  · cases e
end
end L2.Mi

set_option Elab.async false
set_option linter.all false
set_option maxRecDepth 100000
set_option maxHeartbeats 4000000
/-! Mini8: targets; what is walked. -/
namespace L2.Mi
open PySem PySem.Spec PyProof.Rows

/-! ### targets -/
mutual
def tgN : Tg → List Nat
  | .nm i => [i]
  | .tp ts => tgNs ts
def tgNs : List Tg → List Nat
  | [] => []
  | t :: ts => tgN t ++ tgNs ts
end
/-- only the names ns are set -/
def Off (ns : List Nat) (σ σ' : L2.St) : Prop := σ'.length = σ.length ∧ ∀ i, i ∉ ns → σ'[i]? = σ[i]?
theorem Off.refl {ns : List Nat} {σ : L2.St} : Off ns σ σ := ⟨rfl, fun _ _ => rfl⟩
theorem Off.trans {ns ms : List Nat} {σ σ' σ'' : L2.St} (h : Off ns σ σ') (h' : Off ms σ' σ'') : Off (ns ++ ms) σ σ'' :=
  ⟨h'.1.trans h.1, fun i hi => (h'.2 i fun z => hi (List.mem_append_right _ z)).trans (h.2 i fun z => hi (List.mem_append_left _ z))⟩
theorem wipe_get {σ : L2.St} : ∀ {vs : List Nat} {i : Nat}, i < σ.length → (L2.wipe σ vs)[i]? = if i ∈ vs then some none else σ[i]?
  | [], i, hi => by simp [L2.wipe]
  | v :: vs, i, hi => by
    unfold L2.wipe
    by_cases e : v = i
    · subst e
      rw [List.getElem?_set_self (by rw [L2.wipe_length]; exact hi)]
      simp
    · rw [List.getElem?_set_ne e, wipe_get hi]
      have e' : ¬ i = v := fun z => e z.symm
      simp [e']
theorem Off.wipe {ns own : List Nat} {σ σ' : L2.St} (h : Off ns σ σ') (hs : ∀ i ∈ ns, i ∈ own) : L2.wipe σ' own = L2.wipe σ own := by
  apply List.ext_getElem?
  intro i
  by_cases hi : i < σ.length
  · rw [wipe_get hi, wipe_get (by rw [h.1]; exact hi)]
    by_cases hm : i ∈ own
    · rw [if_pos hm, if_pos hm]
    · rw [if_neg hm, if_neg hm]
      exact h.2 i fun z => hm (hs i z)
  · rw [List.getElem?_eq_none (by rw [L2.wipe_length, h.1]; omega), List.getElem?_eq_none (by rw [L2.wipe_length]; omega)]
theorem wipe_wipe {σ : L2.St} {vs : List Nat} : L2.wipe (L2.wipe σ vs) vs = L2.wipe σ vs := by
  apply List.ext_getElem?
  intro i
  by_cases hi : i < σ.length
  · rw [wipe_get (by rw [L2.wipe_length]; exact hi), wipe_get hi]
    by_cases hm : i ∈ vs
    · rw [if_pos hm, if_pos hm]
    · rw [if_neg hm, if_neg hm]
  · rw [List.getElem?_eq_none (by rw [L2.wipe_length, L2.wipe_length]; omega), List.getElem?_eq_none (by rw [L2.wipe_length]; omega)]
def tG (G : Gb) (t : Tg) : TG := fun x σ H Q => ∃ (A : Wd) (ρ ρ' : Env) (v : MV), A.H = H ∧ Sim G A ∧ Envs G A ρ σ ∧ Rep G A v x ∧ asg A.mh t v ρ = some ρ' ∧ ∀ σ', Envs G A ρ' σ' → Off (tgN t) σ σ' → Q σ' H
def tGs (G : Gb) (ts : List Tg) : TGs := fun xs σ H Q => ∃ (A : Wd) (ρ ρ' : Env) (vs : List MV), A.H = H ∧ Sim G A ∧ Envs G A ρ σ ∧ Reps G A vs xs ∧ asgs A.mh ts vs ρ = some ρ' ∧ ∀ σ', Envs G A ρ' σ' → Off (tgNs ts) σ σ' → Q σ' H
theorem _root_.L2.PG.mono {X : Cx} {e : Expr} {t t' : TG} (h : PG X e t) (k : ∀ x σ H Q, t' x σ H Q → t x σ H Q) : PG X e t' := ⟨fun pins s σ H v u Q I r q => h.run pins s σ H v u Q I r (k _ _ _ _ q)⟩
theorem _root_.L2.PGs.mono {X : Cx} {e : List Expr} {t t' : TGs} (h : PGs X e t) (k : ∀ x σ H Q, t' x σ H Q → t x σ H Q) : PGs X e t' := ⟨fun pins s σ H v u Q I r q => h.run pins s σ H v u Q I r (k _ _ _ _ q)⟩
theorem _root_.L2.PI.mono {X : Cx} {tg e : Expr} {t t' : TI} (h : PI X tg e t) (k : ∀ σ H Q, t' σ H Q → t σ H Q) : PI X tg e t' := ⟨fun pins s σ H R I q => h.run pins s σ H R I (k _ _ _ q)⟩
section
variable {G : Gb} {C : CallF} {X : Cx} {pos p : Pos} {e a b c : Expr} {ma mb mc m : ME}
theorem sg_name {i : Nat} {x : Str} (hN : X.N.Nodup) (hi : X.N[i]? = some x) (hx : Loc X.env.scope x) (hf : X.fn x = true ∨ X.env.scope.names.lookup x = some .local := by first | exact .inl rfl | exact .inr rfl | assumption) : PG X (.Name x pos) (tG G (.nm i)) := by
  refine (pg_name hN hi hx hf).mono fun y σ H Q h => ?_
  obtain ⟨A, ρ, ρ', v, rfl, S, N, r, e, q⟩ := h
  simp only [asg] at e
  split at e
  · rename_i hl
    cases e
    refine q _ (N.set r i) ⟨by rw [List.length_set], fun j hj => ?_⟩
    have : i ≠ j := fun z => hj (by rw [z]; simp [tgN])
    rw [List.getElem?_set_ne this]
  · cases e
theorem sgs_nil : PGs X [] (tGs G []) := by
  refine pgs_nil.mono fun y σ H Q h => ?_
  obtain ⟨A, ρ, ρ', vs, rfl, S, N, r, e, q⟩ := h
  cases vs with
  | nil =>
    simp only [asgs] at e
    cases e
    unfold Reps at r
    exact ⟨r, q _ N Off.refl⟩
  | cons => simp only [asgs] at e; cases e
theorem sgs_cons {t : Tg} {ts : List Tg} {es : List Expr} (h1 : PG X e (tG G t)) (h2 : PGs X es (tGs G ts))
    (hs : (assignEach (e :: es) X.env).map (·.2) = assign e X.env :: (assignEach es X.env).map (·.2) := by rfl) : PGs X (e :: es) (tGs G (t :: ts)) := by
  refine (pgs_cons h1 h2 hs).mono fun y σ H Q h => ?_
  obtain ⟨A, ρ, ρ', vs, rfl, S, N, r, e, q⟩ := h
  cases vs with
  | nil => simp only [asgs] at e; cases e
  | cons v vs =>
    simp only [asgs] at e
    split at e
    · cases e
    rename_i ρ1 e1
    unfold Reps at r
    obtain ⟨x, xs, rfl, r1, r2⟩ := r
    refine ⟨x, xs, rfl, A, ρ, ρ1, v, rfl, S, N, r1, e1, fun σ1 N1 o1 => ⟨A, ρ1, ρ', vs, rfl, S, N1, r2, e, fun σ2 N2 o2 => q σ2 N2 ?_⟩⟩
    exact o1.trans o2
theorem asgs_len {mh : MHp} : ∀ {ts : List Tg} {vs : List MV} {ρ ρ' : Env}, asgs mh ts vs ρ = some ρ' → ts.length = vs.length
  | [], [], ρ, ρ', e => rfl
  | [], v :: vs, ρ, ρ', e => by simp only [asgs] at e; cases e
  | t :: ts, [], ρ, ρ', e => by simp only [asgs] at e; cases e
  | t :: ts, v :: vs, ρ, ρ', e => by
    simp only [asgs] at e
    split at e
    · cases e
    rw [List.length_cons, List.length_cons, asgs_len e]
theorem sg_tup {ts : List Tg} {es : List Expr} {k : Nat} (hK : X.K = G.K) (hc : X.calm = true) (h : PGs X es (tGs G ts)) (hl : ts.length = es.length := by rfl)
    (hn : (assignEach es X.env).length = es.length := by rfl) (hst : (assignEach es X.env).findIdx? (·.1) = none := by rfl) : PG X (.Tuple es k pos) (tG G (.tp ts)) := by
  refine (pg_tup hc h hn hst).mono fun y σ H Q h => ?_
  obtain ⟨A, ρ, ρ', v, rfl, S, N, r, e, q⟩ := h
  cases v with
  | tup vs =>
    simp only [asg] at e
    obtain ⟨a, xs, rfl, h1, h2⟩ := r.tup_
    refine ⟨a, xs, rfl, by rw [hK]; exact h1, by rw [← h2.len, ← asgs_len e, hl], A, ρ, ρ', vs, rfl, S, N, h2, e, q⟩
  | _ => simp only [asg] at e; cases e
end

/-! ### what is walked -/
structure Wk (G : Gb) (B : Wd) (J : Its) (I : L2.It) : Prop where
  go : ∀ D, Keep B D → Sim G D → J.ok D.mh → ∀ i, i < J.items.length → I.go i D.H
  stop : ∀ D, Keep B D → Sim G D → J.ok D.mh → I.stop J.items.length D.H
  yld : ∀ D, Keep B D → Sim G D → J.ok D.mh → ∀ i x H', i < J.items.length → I.yld i D.H x H' → ∃ E y, Keep D E ∧ E.mh = D.mh ∧ E.H = H' ∧ Sim G E ∧ J.items[i]? = some y ∧ Rep G E y x
def tI (G : Gb) (C : CallF) (m : ME) : TI := fun σ H R => ∃ (A : Wd) (ρ : Env) (J : Its) (mh' : MHp), A.H = H ∧ Sim G A ∧ Envs G A ρ σ ∧ evI C A.base m ρ A.mh = some (J, mh') ∧ ∀ B I, Keep A B → B.mh = mh' → Sim G B → Wk G B J I → R I B.H
section
variable {G : Gb} {C : CallF} {X : Cx} {tg : Expr} {pos p : Pos} {e a b c : Expr} {ma mb mc m : ME}
def iAny (K : PySem.W.Frag) (tl : TE) : TI := fun σ H R => tl σ H fun x H1 => (∃ a, x = .ref a ∧ (∃ xs, SqL K H1 a xs) ∧ R (Itl K a) H1) ∨ (∃ a, x = .ref a ∧ (∃ xs, SqT K H1 a xs) ∧ R (Itt K a) H1) ∨ ∃ z, x = .str z ∧ R (L2.Its z) H1
theorem pi_any {l : Expr} {tl : TE} (hl : PE X l tl) : PI X tg l (iAny X.K tl) := by
  refine ⟨fun pins s σ H R I h => ?_⟩
  refine thn (hl.run pins s σ H _ I h) fun v s1 ⟨x, H1, I1, r1, q1⟩ => ?_
  rcases q1 with ⟨a, rfl, ⟨xs, hq⟩, q⟩ | ⟨a, rfl, ⟨xs, hq⟩, q⟩ | ⟨z, rfl, q⟩
  · cases r1
    obtain ⟨its, _, p, _⟩ := I1.list hq
    exact wpAny_pyIter_list p.isList (pi_one (tk := s1.toks) I1 _ (turn_list a _) ⟨_, Heap.get?_push_size _ rfl, rfl, rfl⟩ q)
  · cases r1
    obtain ⟨its, _, p, _⟩ := I1.tuple hq
    exact wpAny_pyIter_tuple (show s1.heap.IsTuple a its.toArray from p) (pi_one (tk := s1.toks) I1 _ (turn_tuple a _) ⟨_, Heap.get?_push_size _ rfl, rfl, rfl⟩ q)
  · obtain ⟨t, rfl⟩ := r1
    cases ha : z.cps.all (· < 128)
    · exact wpAny_pyIter_wide ha (pi_one (tk := s1.toks) I1 _ (turn_str _ z t "str_iterator" (.inr rfl)) ⟨_, Heap.get?_push_size _ rfl, rfl, rfl⟩ q)
    · exact wpAny_pyIter_ascii ha (pi_one (tk := s1.toks) I1 _ (turn_str _ z t "str_ascii_iterator" (.inl rfl)) ⟨_, Heap.get?_push_size _ rfl, rfl, rfl⟩ q)
/-- what it walks, by the values at every later world -/
theorem wk_of {B : Wd} {J : Its} {I : L2.It} (W : ∀ D, Keep B D → Sim G D → J.ok D.mh → (∀ i, i < J.items.length → I.go i D.H) ∧ I.stop J.items.length D.H ∧ ∀ i x H', i < J.items.length → I.yld i D.H x H' → H' = D.H ∧ ∃ y, J.items[i]? = some y ∧ Rep G D y x) : Wk G B J I where
  go := fun D k S o => (W D k S o).1
  stop := fun D k S o => (W D k S o).2.1
  yld := fun D k S o i x H' hi y => by
    obtain ⟨e, z, h1, h2⟩ := (W D k S o).2.2 i x H' hi y
    exact ⟨D, z, Keep.refl D, rfl, e.symm, S, h1, h2⟩
theorem wk_list {B : Wd} {J : Its} {a : Addr} (h : ∀ D, Keep B D → Sim G D → J.ok D.mh → ∃ vs, D.H a = some (.lst vs) ∧ Reps G D J.items vs) : Wk G B J (Itl G.K a) := wk_of fun D k S o => by
  obtain ⟨vs, h1, h2⟩ := h D k S o
  have w := walk_list (K := G.K) (a := a) (xs := vs)
  refine ⟨fun i hi => w.goes i D.H (by rw [← h2.len]; exact hi) (SqL.of h1), by rw [h2.len]; exact w.stops D.H (SqL.of h1), fun i x H' hi y => ?_⟩
  obtain ⟨e1, e2⟩ := w.yields i D.H x H' (by rw [← h2.len]; exact hi) (SqL.of h1) y
  exact ⟨e1, _, List.getElem?_eq_getElem hi, h2.at (List.getElem?_eq_getElem hi) e2⟩
theorem wk_tup {B : Wd} {J : Its} {a : Addr} (h : ∀ D, Keep B D → Sim G D → J.ok D.mh → ∃ vs, SqT G.K D.H a vs ∧ Reps G D J.items vs) : Wk G B J (Itt G.K a) := wk_of fun D k S o => by
  obtain ⟨vs, h1, h2⟩ := h D k S o
  have w := walk_tup (K := G.K) (a := a) (xs := vs)
  refine ⟨fun i hi => w.goes i D.H (by rw [← h2.len]; exact hi) h1, by rw [h2.len]; exact w.stops D.H h1, fun i x H' hi y => ?_⟩
  obtain ⟨e1, e2⟩ := w.yields i D.H x H' (by rw [← h2.len]; exact hi) h1 y
  exact ⟨e1, _, List.getElem?_eq_getElem hi, h2.at (List.getElem?_eq_getElem hi) e2⟩
theorem wk_str {B : Wd} {s : Sx} : Wk G B ⟨s.map fun c => .str [c], none⟩ (L2.Its ⟨s.toArray⟩) := wk_of fun D k S o => by
  have w := walk_str (z := ⟨s.toArray⟩)
  have hl : (⟨s.map fun c => .str [c], none⟩ : Its).items.length = (⟨s.toArray⟩ : Str).cps.size := by simp
  refine ⟨fun i hi => w.goes i D.H (by rw [← hl]; exact hi) trivial, by rw [hl]; exact w.stops D.H trivial, fun i x H' hi y => ?_⟩
  obtain ⟨e1, c, e2, rfl⟩ := w.yields i D.H x H' (by rw [← hl]; exact hi) trivial y
  have e2' : s[i]? = some c := by simpa using e2
  exact ⟨e1, .str [c], by simp [e2'], rep_str [c]⟩
theorem wk_range {B : Wd} {lo : Int} {n : Nat} : Wk G B ⟨(List.range n).map fun (k : Nat) => .int (lo + (k : Int)), none⟩ (Itr lo n) := wk_of fun D k S o => by
  have w := walk_range (lo := lo) (n := n)
  have hl : (⟨(List.range n).map fun (k : Nat) => .int (lo + (k : Int)), none⟩ : Its).items.length = n := by simp
  refine ⟨fun i hi => w.goes i D.H (by rw [← hl]; exact hi) trivial, by rw [hl]; exact w.stops D.H trivial, fun i x H' hi y => ?_⟩
  obtain ⟨e1, rfl⟩ := w.yields i D.H x H' (by rw [← hl]; exact hi) trivial y
  have hi' : i < n := by rw [← hl]; exact hi
  exact ⟨e1, .int (lo + (i : Int)), by simp [hi'], rep_int _⟩
theorem wk_its {B : Wd} {v : MV} {x : V} {J : Its} {R : It → Hp → Prop} (S : Sim G B) (e : itsOf B.mh v = some J) (r : Rep G B v x) (q : ∀ I, Wk G B J I → R I B.H) :
    (∃ a, x = .ref a ∧ (∃ xs, SqL G.K B.H a xs) ∧ R (Itl G.K a) B.H) ∨ (∃ a, x = .ref a ∧ (∃ xs, SqT G.K B.H a xs) ∧ R (Itt G.K a) B.H) ∨ ∃ z, x = .str z ∧ R (L2.Its z) B.H := by
  cases v with
  | tup xs =>
    cases e
    obtain ⟨a, vs, rfl, h1, h2⟩ := r.tup_
    exact .inr (.inl ⟨a, rfl, ⟨vs, h1⟩, q _ (wk_tup fun D k SD o => ⟨vs, k.tup S h1, Reps.keep S k _ _ h2⟩)⟩)
  | lst xs =>
    cases e
    unfold Rep at r
    obtain ⟨a, vs, rfl, h1, h2, h3⟩ := r
    exact .inl ⟨a, rfl, ⟨vs, SqL.of h1⟩, q _ (wk_list fun D k SD o => ⟨vs, (k.off h1 h2).1, Reps.keep S k _ _ h3⟩)⟩
  | str s =>
    cases e
    rw [r.str_]
    exact .inr (.inr ⟨_, rfl, q _ wk_str⟩)
  | loc l =>
    simp only [itsOf] at e
    split at e
    · rename_i xs hl
      cases e
      obtain ⟨a, rfl, h1⟩ := r.loc_
      obtain ⟨vs, h2, _⟩ := S.obj l _ hl a h1
      refine .inl ⟨a, rfl, ⟨vs, SqL.of h2⟩, q _ (wk_list fun D k SD o => ?_)⟩
      have o' : D.mh[l]? = some (some (.lst xs)) := o
      obtain ⟨t, ht⟩ := k.pre
      exact SD.obj l _ o' a (by rw [ht]; exact pre_get h1)
    · cases e
  | _ => cases e
theorem si_any (hK : X.K = G.K) (h : PE X e (tE G C m)) (hm : ∀ base ρ mh, evI C base m ρ mh = match ev C base m ρ mh with
    | none => none
    | some (v, mh1) => (itsOf mh1 v).map (·, mh1) := by intros; simp only [evI] <;> rfl) : PI X tg e (tI G C m) := by
  refine (pi_any h).mono fun σ H R h => ?_
  obtain ⟨A, ρ, J, mh', rfl, S, N, e, q⟩ := h
  rw [hm] at e
  split at e
  · cases e
  rename_i v mh1 e1
  simp only [Option.map_eq_some_iff] at e
  obtain ⟨J', e2, e3⟩ := e
  cases e3
  refine tE.go S N e1 fun B x k em SB NB r => ?_
  rw [hK]
  exact wk_its SB (by rw [em]; exact e2) r fun I w => q B I k em SB w
theorem si_range1 (hg : Gl X "range") (hm : X.mg "range" = none) (ha : PE X a (tE G C ma)) (hs : starEach [a] X.env = [(false, eval a X.env)] := by rfl) : PI X tg (.Call (.Name "range" p) [a] [] pos) (tI G C (.rng1 ma)) := by
  refine (pi_range1 hg hm (sa_cons ha sa_nil hs) hs).mono fun σ H R h => ?_
  obtain ⟨A, ρ, J, mh', rfl, S, N, e, q⟩ := h
  simp only [evI] at e
  split at e
  · rename_i n mh1 e1
    split at e
    · rename_i hn
      cases e
      refine tEs.go (vs := [.int n]) (mh1 := mh') S N (by simp only [evs, e1]) fun B xs k em SB NB r => ?_
      unfold Reps at r
      obtain ⟨v, r', rfl, r1, r2⟩ := r
      unfold Reps at r2
      subst r2
      refine ⟨n, by rw [r1.int_], hn.1, hn.2, q B _ k em SB ?_⟩
      have w := wk_range (G := G) (B := B) (lo := 0) (n := n.toNat)
      simpa using w
    · cases e
  · cases e
theorem si_range2 (hg : Gl X "range") (hm : X.mg "range" = none) (ha : PE X a (tE G C ma)) (hb : PE X b (tE G C mb)) (hs : starEach [a, b] X.env = [(false, eval a X.env), (false, eval b X.env)] := by rfl) (hs2 : starEach [b] X.env = [(false, eval b X.env)] := by rfl) : PI X tg (.Call (.Name "range" p) [a, b] [] pos) (tI G C (.rng2 ma mb)) := by
  refine (pi_range2 hg hm (sa_cons ha (sa_cons hb sa_nil hs2) (by rw [hs, hs2])) hs hs2).mono fun σ H R h => ?_
  obtain ⟨A, ρ, J, mh', rfl, S, N, e, q⟩ := h
  simp only [evI] at e
  split at e
  · rename_i i mh1 e1
    split at e
    · rename_i j mh2 e2
      split at e
      · rename_i hn
        cases e
        refine tEs.go (vs := [.int i, .int j]) (mh1 := mh') S N (by simp only [evs, e1, e2]) fun B xs k em SB NB r => ?_
        unfold Reps at r
        obtain ⟨v, r', rfl, r1, r2⟩ := r
        unfold Reps at r2
        obtain ⟨w, r'', rfl, r3, r4⟩ := r2
        unfold Reps at r4
        subst r4
        exact ⟨i, j, by rw [r1.int_, r3.int_], hn, q B _ k em SB wk_range⟩
      · cases e
    · cases e
  · cases e
end
end L2.Mi

set_option Elab.async false
set_option linter.all false
set_option maxRecDepth 100000
set_option maxHeartbeats 4000000
/-! Mini9: comprehensions. -/
namespace L2.Mi
open PySem PySem.Spec PyProof.Rows

/-! ### a hidden new list -/
theorem put_live {W : Wd} {p : Addr} {o : HO} {a : Addr} : (W.up p o).live a ↔ W.live a := Iff.rfl
mutual
theorem Rep.put {G : Gb} {W : Wd} (S : Sim G W) {p : Addr} (hp : p ∈ W.ex) {o : HO} : ∀ (x : MV) (v : V), Rep G W x v → Rep G (W.up p o) x v
  | .non, v, h => h
  | .bl b, v, h => h
  | .int i, v, h => h
  | .str s, v, h => h
  | .fn f, v, h => h
  | .tup xs, v, h => by
    unfold Rep at h ⊢
    obtain ⟨a, vs, e, h1, h2⟩ := h
    refine ⟨a, vs, e, SqT_cases h1 fun u e' n => ?_, Reps.put S hp xs vs h2⟩
    obtain ⟨w, e9, n9⟩ := S.exo p hp
    have : a ≠ p := fun z => by subst z; rw [e'] at e9; cases e9; exact n n9
    show upd W.H p o a = _
    rw [upd_ne this]; exact e'
  | .lst xs, v, h => by
    unfold Rep at h ⊢
    obtain ⟨a, vs, e, h1, h2, h3⟩ := h
    have : a ≠ p := fun z => h2.2 (by rw [z]; exact hp)
    exact ⟨a, vs, e, by show upd W.H p o a = _; rw [upd_ne this]; exact h1, h2, Reps.put S hp xs vs h3⟩
  | .dct ks ms, v, h => by
    unfold Rep at h ⊢
    obtain ⟨a, vs, e, h1, h2, h3, h4⟩ := h
    have : a ≠ p := fun z => h2.2 (by rw [z]; exact hp)
    exact ⟨a, vs, e, by show upd W.H p o a = _; rw [upd_ne this]; exact h1, h2, h3, Reps.put S hp ms vs h4⟩
  | .loc l, v, h => h
  | .scr ns, v, h => by
    unfold Rep at h ⊢
    obtain ⟨a, e, h1⟩ := h
    refine ⟨a, e, ?_⟩
    rcases h1 with ⟨h1, h2⟩ | h1
    · have : a ≠ p := fun z => h2.2 (by rw [z]; exact hp)
      refine .inl ⟨?_, h2⟩
      rcases h1 with h1 | ⟨o', h1⟩
      · exact .inl (by show upd W.H p o a = _; rw [upd_ne this]; exact h1)
      · exact .inr ⟨o', by show upd W.H p o a = _; rw [upd_ne this]; exact h1⟩
    · exact .inr h1
theorem Reps.put {G : Gb} {W : Wd} (S : Sim G W) {p : Addr} (hp : p ∈ W.ex) {o : HO} : ∀ (xs : List MV) (vs : List V), Reps G W xs vs → Reps G (W.up p o) xs vs
  | [], vs, h => h
  | x :: xs, vs, h => by
    unfold Reps at h ⊢
    obtain ⟨v, r, e, h1, h2⟩ := h
    exact ⟨v, r, e, Rep.put S hp x v h1, Reps.put S hp xs r h2⟩
end
theorem ORep.put {G : Gb} {W : Wd} (S : Sim G W) {p : Addr} (hp : p ∈ W.ex) {o : HO} {u : MO} {a : Addr} (h : ORep G W u a) (hn : a ≠ p) : ORep G (W.up p o) u a := by
  cases u with
  | lst xs =>
    obtain ⟨vs, q, r⟩ := h
    exact ⟨vs, by show upd W.H p o a = _; rw [upd_ne hn]; exact q, Reps.put S hp _ _ r⟩
  | dct ks ms =>
    obtain ⟨vs, q, l, r⟩ := h
    exact ⟨vs, by show upd W.H p o a = _; rw [upd_ne hn]; exact q, l, Reps.put S hp _ _ r⟩
theorem Sim.put {G : Gb} {W : Wd} (S : Sim G W) {p : Addr} (hp : p ∈ W.ex) {o : HO} (nt : NoTup o) : Sim G (W.up p o) where
  len := S.len
  ble := S.ble
  top := S.top
  obj := fun l u e a q => (S.obj l u e a q).put S hp fun z => S.exl p hp ⟨l, u, e, by rw [← z]; exact q⟩
  inj := S.inj
  exo := fun a ha => by
    by_cases e : a = p
    · subst e; exact ⟨o, upd_same, nt⟩
    · obtain ⟨u, e1, n⟩ := S.exo a ha
      exact ⟨u, by show upd W.H p o a = _; rw [upd_ne e]; exact e1, n⟩
  exl := S.exl
  bnd := S.bnd
theorem keep_put {B D : Wd} (k : Keep B D) {p : Addr} (hp : B.H p = none) {o : HO} : Keep B (D.up p o) where
  ex := k.ex
  exn := k.exn
  dom := fun a h => upd_dom a (k.dom a h)
  bs := k.bs
  pre := k.pre
  obj := fun a u e n => by
    show upd D.H p o a = _
    rw [upd_ne (ne_of_none e hp)]
    exact k.obj a u e n
  liv := k.liv
/-- a new list is hidden -/
abbrev Wd.hid (W : Wd) (p : Addr) (o : HO) : Wd := { W with H := upd W.H p o, ex := p :: W.ex }
theorem keep_hid {W : Wd} {p : Addr} {o : HO} (h : W.H p = none) : Keep W (W.hid p o) where
  ex := fun a h => List.mem_cons_of_mem _ h
  exn := fun a ha => by
    rcases List.mem_cons.mp ha with rfl | ha
    · exact .inr h
    · exact .inl ha
  dom := upd_dom
  bs := rfl
  pre := ⟨[], by simp⟩
  obj := fun a u e _ => by show upd W.H p o a = _; rw [upd_ne (ne_of_none e h)]; exact e
  liv := fun a z => .inl z
theorem Sim.hid {G : Gb} {W : Wd} (S : Sim G W) {p : Addr} {o : HO} (h : W.H p = none) (nt : NoTup o) : Sim G (W.hid p o) where
  len := S.len
  ble := S.ble
  top := S.top
  obj := fun l u e a q => by
    have r := S.obj l u e a q
    refine r.keep S (keep_hid h) ?_
    obtain ⟨v, e', _⟩ := r.at
    exact upd_ne (ne_of_none e' h)
  inj := S.inj
  exo := fun a ha => by
    rcases List.mem_cons.mp ha with rfl | ha
    · exact ⟨o, upd_same, nt⟩
    · obtain ⟨u, e, n⟩ := S.exo a ha
      exact ⟨u, by show upd W.H p o a = _; rw [upd_ne (ne_of_none e h)]; exact e, n⟩
  exl := fun a ha => by
    rcases List.mem_cons.mp ha with rfl | ha
    · exact (off_new S h).1
    · exact S.exl a ha
  bnd := S.bnd
/-- the hidden ones come out -/
abbrev Wd.out (W : Wd) (ex : List Addr) : Wd := { W with ex := ex }
mutual
theorem Rep.out {G : Gb} {W : Wd} {ex : List Addr} (hx : ∀ a ∈ ex, a ∈ W.ex) : ∀ (x : MV) (v : V), Rep G W x v → Rep G (W.out ex) x v
  | .non, v, h => h
  | .bl b, v, h => h
  | .int i, v, h => h
  | .str s, v, h => h
  | .fn f, v, h => h
  | .tup xs, v, h => by
    unfold Rep at h ⊢
    obtain ⟨a, vs, e, h1, h2⟩ := h
    exact ⟨a, vs, e, h1, Reps.out hx xs vs h2⟩
  | .lst xs, v, h => by
    unfold Rep at h ⊢
    obtain ⟨a, vs, e, h1, h2, h3⟩ := h
    exact ⟨a, vs, e, h1, ⟨h2.1, fun z => h2.2 (hx a z)⟩, Reps.out hx xs vs h3⟩
  | .dct ks ms, v, h => by
    unfold Rep at h ⊢
    obtain ⟨a, vs, e, h1, h2, h3, h4⟩ := h
    exact ⟨a, vs, e, h1, ⟨h2.1, fun z => h2.2 (hx a z)⟩, h3, Reps.out hx ms vs h4⟩
  | .loc l, v, h => h
  | .scr ns, v, h => by
    unfold Rep at h ⊢
    obtain ⟨a, e, h1⟩ := h
    refine ⟨a, e, ?_⟩
    rcases h1 with ⟨h1, h2⟩ | h1
    · exact .inl ⟨h1, h2.1, fun z => h2.2 (hx a z)⟩
    · exact .inr h1
theorem Reps.out {G : Gb} {W : Wd} {ex : List Addr} (hx : ∀ a ∈ ex, a ∈ W.ex) : ∀ (xs : List MV) (vs : List V), Reps G W xs vs → Reps G (W.out ex) xs vs
  | [], vs, h => h
  | x :: xs, vs, h => by
    unfold Reps at h ⊢
    obtain ⟨v, r, e, h1, h2⟩ := h
    exact ⟨v, r, e, Rep.out hx x v h1, Reps.out hx xs r h2⟩
end
theorem Sim.out {G : Gb} {W : Wd} (S : Sim G W) {ex : List Addr} (hx : ∀ a ∈ ex, a ∈ W.ex) : Sim G (W.out ex) where
  len := S.len
  ble := S.ble
  top := S.top
  obj := fun l u e a q => by
    have r := S.obj l u e a q
    cases u with
    | lst xs => obtain ⟨vs, q, r⟩ := r; exact ⟨vs, q, Reps.out hx _ _ r⟩
    | dct ks ms => obtain ⟨vs, q, l, r⟩ := r; exact ⟨vs, q, l, Reps.out hx _ _ r⟩
  inj := S.inj
  exo := fun a ha => S.exo a (hx a ha)
  exl := fun a ha => S.exl a (hx a ha)
  bnd := S.bnd
theorem keep_out {B D : Wd} (k : Keep B D) : Keep B (D.out B.ex) where
  ex := fun a h => h
  exn := fun a h => .inl h
  dom := k.dom
  bs := k.bs
  pre := k.pre
  obj := k.obj
  liv := k.liv
/-- a hidden list comes out as a live one -/
abbrev Wd.fix (W : Wd) (p : Addr) (xs : List MV) (ex : List Addr) : Wd := { W with ex := ex, β := W.β ++ [p], mh := W.mh ++ [some (.lst xs)] }
theorem fix_live {G : Gb} {W : Wd} (S : Sim G W) {p : Addr} {xs : List MV} {ex : List Addr} {a : Addr} (h : (W.fix p xs ex).live a) : W.live a ∨ a = p := by
  obtain ⟨l, o, e1, e2⟩ := h
  have e2' : (W.β ++ [p])[l]? = some a := e2
  rcases app_get e1 with e1 | ⟨rfl, _⟩
  · have hl : l < W.β.length := by rw [S.len]; exact (List.getElem?_eq_some_iff.mp e1).1
    rw [List.getElem?_append_left hl] at e2'
    exact .inl ⟨l, o, e1, e2'⟩
  · rw [← S.len, List.getElem?_append_right (Nat.le_refl _)] at e2'
    simp at e2'
    exact .inr e2'.symm
mutual
theorem Rep.fix {G : Gb} {W : Wd} (S : Sim G W) {p : Addr} (hp : p ∈ W.ex) {ys : List MV} {ex : List Addr} (hx : ∀ a ∈ ex, a ∈ W.ex) : ∀ (x : MV) (v : V), Rep G W x v → Rep G (W.fix p ys ex) x v
  | .non, v, h => h
  | .bl b, v, h => h
  | .int i, v, h => h
  | .str s, v, h => h
  | .fn f, v, h => h
  | .tup xs, v, h => by
    unfold Rep at h ⊢
    obtain ⟨a, vs, e, h1, h2⟩ := h
    exact ⟨a, vs, e, h1, Reps.fix S hp hx xs vs h2⟩
  | .lst xs, v, h => by
    unfold Rep at h ⊢
    obtain ⟨a, vs, e, h1, h2, h3⟩ := h
    exact ⟨a, vs, e, h1, ⟨fun z => (fix_live S z).elim h2.1 fun z => h2.2 (by rw [z]; exact hp), fun z => h2.2 (hx a z)⟩, Reps.fix S hp hx xs vs h3⟩
  | .dct ks ms, v, h => by
    unfold Rep at h ⊢
    obtain ⟨a, vs, e, h1, h2, h3, h4⟩ := h
    exact ⟨a, vs, e, h1, ⟨fun z => (fix_live S z).elim h2.1 fun z => h2.2 (by rw [z]; exact hp), fun z => h2.2 (hx a z)⟩, h3, Reps.fix S hp hx ms vs h4⟩
  | .loc l, v, h => by
    unfold Rep at h ⊢
    obtain ⟨a, e, h1⟩ := h
    exact ⟨a, e, pre_get h1⟩
  | .scr ns, v, h => by
    unfold Rep at h ⊢
    obtain ⟨a, e, h1⟩ := h
    refine ⟨a, e, ?_⟩
    rcases h1 with ⟨h1, h2⟩ | h1
    · exact .inl ⟨h1, fun z => (fix_live S z).elim h2.1 fun z => h2.2 (by rw [z]; exact hp), fun z => h2.2 (hx a z)⟩
    · exact .inr h1
theorem Reps.fix {G : Gb} {W : Wd} (S : Sim G W) {p : Addr} (hp : p ∈ W.ex) {ys : List MV} {ex : List Addr} (hx : ∀ a ∈ ex, a ∈ W.ex) : ∀ (xs : List MV) (vs : List V), Reps G W xs vs → Reps G (W.fix p ys ex) xs vs
  | [], vs, h => h
  | x :: xs, vs, h => by
    unfold Reps at h ⊢
    obtain ⟨v, r, e, h1, h2⟩ := h
    exact ⟨v, r, e, Rep.fix S hp hx x v h1, Reps.fix S hp hx xs r h2⟩
end
theorem fix_get {G : Gb} {W : Wd} (S : Sim G W) {p : Addr} {ys : List MV} {l : Nat} {o : MO} {a : Addr} (e : (W.mh ++ [some (.lst ys)])[l]? = some (some o)) (q : (W.β ++ [p])[l]? = some a) :
    (W.mh[l]? = some (some o) ∧ W.β[l]? = some a) ∨ (l = W.mh.length ∧ o = .lst ys ∧ a = p) := by
  rcases app_get e with e | ⟨rfl, e9⟩
  · have hl : l < W.β.length := by rw [S.len]; exact (List.getElem?_eq_some_iff.mp e).1
    rw [List.getElem?_append_left hl] at q
    exact .inl ⟨e, q⟩
  · rw [← S.len, List.getElem?_append_right (Nat.le_refl _)] at q
    simp at q
    exact .inr ⟨rfl, Option.some.inj e9, q.symm⟩
theorem Sim.fix {G : Gb} {W : Wd} (S : Sim G W) {p : Addr} (hp : p ∈ W.ex) {ys : List MV} {vs : List V} {ex : List Addr} (hx : ∀ a ∈ ex, a ∈ W.ex) (hpx : p ∉ ex) (e : W.H p = some (HO.lst vs)) (r : Reps G W ys vs) : Sim G (W.fix p ys ex) where
  len := by show (W.β ++ [p]).length = (W.mh ++ [some (MO.lst ys)]).length; rw [List.length_append, List.length_append, S.len]; rfl
  ble := fun b hb => by show b ≤ (W.mh ++ [some (MO.lst ys)]).length; rw [List.length_append]; exact Nat.le_trans (S.ble b hb) (Nat.le_add_right _ _)
  top := S.top
  obj := fun l u e' a q => by
    rcases fix_get S e' q with ⟨e1, q1⟩ | ⟨_, rfl, rfl⟩
    · have r := S.obj l u e1 a q1
      cases u with
      | lst xs => obtain ⟨ws, q, r⟩ := r; exact ⟨ws, q, Reps.fix S hp hx _ _ r⟩
      | dct ks ms => obtain ⟨ws, q, l, r⟩ := r; exact ⟨ws, q, l, Reps.fix S hp hx _ _ r⟩
    · exact ⟨vs, e, Reps.fix S hp hx _ _ r⟩
  inj := fun l1 l2 c o1 o2 e1 e2 q1 q2 => by
    rcases fix_get S e1 q1 with ⟨a1, a2⟩ | ⟨a1, _, a2⟩
    · rcases fix_get S e2 q2 with ⟨b1, b2⟩ | ⟨b1, _, b2⟩
      · exact S.inj l1 l2 c _ _ a1 b1 a2 b2
      · exact absurd ⟨l1, o1, a1, by rw [← b2]; exact a2⟩ (S.exl p hp)
    · rcases fix_get S e2 q2 with ⟨b1, b2⟩ | ⟨b1, _, b2⟩
      · exact absurd ⟨l2, o2, b1, by rw [← a2]; exact b2⟩ (S.exl p hp)
      · rw [a1, b1]
  exo := fun a ha => S.exo a (hx a ha)
  exl := fun a ha z => (fix_live S z).elim (S.exl a (hx a ha)) fun z => hpx (by rw [← z]; exact ha)
  bnd := fun b hb l w hl e' => by
    rcases app_get e' with e' | ⟨rfl, _⟩
    · exact S.bnd b hb l w hl e'
    · exact absurd (Nat.lt_of_lt_of_le hl (S.ble b hb)) (Nat.lt_irrefl _)
theorem keep_fix {G : Gb} {B D : Wd} (S : Sim G D) (k : Keep B D) {p : Addr} {ys : List MV} (hp : B.H p = none) : Keep B (D.fix p ys B.ex) where
  ex := fun a h => h
  exn := fun a h => .inl h
  dom := k.dom
  bs := k.bs
  pre := by
    obtain ⟨t, e⟩ := k.pre
    exact ⟨t ++ [p], by show D.β ++ [p] = _; rw [e, List.append_assoc]⟩
  obj := k.obj
  liv := fun a z => (fix_live S z).elim (k.liv a) fun z => .inr (by rw [z]; exact hp)

/-! ### the comprehension -/
noncomputable def compF (C : CallF) (base : Nat) (t : Tg) (own : List Nat) (mc me : ME) (ρ : Env) : MV → MHp → Option (Option MV × MHp) := fun x mh2 => match asg mh2 t x (wipeE ρ own) with
  | none => none
  | some ρ' => match ev C base mc ρ' mh2 with
    | some (.bl true, mh3) => match ev C base me ρ' mh3 with
      | none => none
      | some (y, mh4) => some (some y, mh4)
    | some (.bl false, mh3) => some (none, mh3)
    | _ => none
section
variable {G : Gb} {C : CallF} {X : Cx} {pos p : Pos} {mc me mi m : ME} {t : Tg} {own : List Nat}
theorem ev_comp {base : Nat} {ρ : Env} {mh mh' : MHp} {v : MV} (e : ev C base (.comp t own mi mc me) ρ mh = some (v, mh')) : ∃ J mh1 ys, evI C base mi ρ mh = some (J, mh1) ∧ J.items.length ≤ line ∧ compGo J (compF C base t own mc me ρ) J.items mh1 = some (ys, mh') ∧ v = .lst ys := by
  simp only [ev] at e
  split at e
  · cases e
  rename_i J mh1 e1
  split at e
  · rename_i hl
    split at e
    · cases e
    rename_i ys mh5 e2
    cases e
    exact ⟨J, mh1, ys, e1, hl, e2, rfl⟩
  · cases e
theorem compF_of {base : Nat} {ρ : Env} {mh mh' : MHp} {x : MV} {r : Option MV} (e : compF C base t own mc me ρ x mh = some (r, mh')) : ∃ ρ' c mh3, asg mh t x (wipeE ρ own) = some ρ' ∧ ev C base mc ρ' mh = some (.bl c, mh3) ∧
    ((c = true ∧ ∃ y, ev C base me ρ' mh3 = some (y, mh') ∧ r = some y) ∨ (c = false ∧ mh' = mh3 ∧ r = none)) := by
  unfold compF at e
  split at e
  · cases e
  rename_i ρ' e1
  split at e
  · rename_i mh3 e2
    split at e
    · cases e
    rename_i y mh4 e3
    cases e
    exact ⟨ρ', true, mh3, e1, e2, .inl ⟨rfl, y, e3, rfl⟩⟩
  · rename_i mh3 e2
    cases e
    exact ⟨ρ', false, _, e1, e2, .inr ⟨rfl, rfl, rfl⟩⟩
  · cases e
theorem compGo_nil {J : Its} {f : MV → MHp → Option (Option MV × MHp)} {mh mh' : MHp} {ys : List MV} (e : compGo J f [] mh = some (ys, mh')) : J.ok mh ∧ ys = [] ∧ mh' = mh := by
  unfold compGo at e
  split at e
  · cases e; exact ⟨by assumption, rfl, rfl⟩
  · cases e
theorem compGo_cons {J : Its} {f : MV → MHp → Option (Option MV × MHp)} {x : MV} {xs : List MV} {mh mh' : MHp} {ys : List MV} (e : compGo J f (x :: xs) mh = some (ys, mh')) : J.ok mh ∧ ∃ r mh1 rs, f x mh = some (r, mh1) ∧ compGo J f xs mh1 = some (rs, mh') ∧ ys = r.toList ++ rs := by
  unfold compGo at e
  split at e
  · rename_i ho
    split at e
    · cases e
    rename_i r mh1 e1
    split at e
    · cases e
    rename_i rs mh2 e2
    cases e
    exact ⟨ho, r, mh1, rs, e1, e2, rfl⟩
  · cases e
theorem lc_loop {B : Wd} {ρ : Env} {σ : L2.St} {J : Its} {I : L2.It} {ys : List MV} {mh5 : MHp} {Q : Hp → Prop} (hown : ∀ i ∈ tgN t, i ∈ own) (SB : Sim G B) (NB : Envs G B ρ σ) (wk : Wk G B J I) (hl : J.items.length ≤ line)
    (hc : compGo J (compF C B.base t own mc me ρ) J.items B.mh = some (ys, mh5)) {p : Addr} (hp : B.H p = none)
    (fin : ∀ D vs, Keep B D → Sim G D → p ∈ D.ex → D.mh = mh5 → D.H p = some (.lst vs) → Reps G D ys vs → Q D.H) :
    ∃ W : Nat → Nat → Hp → Prop, (∃ m, W 0 m (upd B.H p (.lst []))) ∧ ∀ i m H, W i m H →
  (I.stop i H ∧ Q H) ∨ (I.go i H ∧ ∃ Nx : Hp → Prop, (∀ H', Nx H' → ∃ m', m' < m ∧ W (i + 1) m' H') ∧ ∀ x H', I.yld i H x H' → tG G t x (L2.wipe σ own) H' fun σ2 H2 => L2.wipe σ2 own = L2.wipe σ own ∧ tT G C mc σ2 H2 fun b H3 =>
    if b = true then tE G C me σ2 H3 fun y H4 => ∃ acc, H4 p = some (.lst acc) ∧ acc.length < sizeLine ∧ Nx (upd H4 p (.lst (acc ++ [y]))) else Nx H3) := by
  let W : Nat → Nat → Hp → Prop := fun i m H => m = J.items.length - i ∧ i ≤ J.items.length ∧ ∃ (D : Wd) (as rs : List MV) (vs : List V), Keep B D ∧ Sim G D ∧ p ∈ D.ex ∧ D.H = H ∧ H p = some (.lst vs) ∧ Reps G D as vs ∧ as.length ≤ i ∧ compGo J (compF C B.base t own mc me ρ) (J.items.drop i) D.mh = some (rs, mh5) ∧ ys = as ++ rs
  have nt : NoTup (.lst ([] : List V)) := ⟨(fun _ z => nomatch z), (fun _ _ z => nomatch z)⟩
  refine ⟨W, ⟨J.items.length, by simp, Nat.zero_le _, B.hid p (.lst []), [], ys, [], keep_hid hp, SB.hid hp nt, by simp, rfl, upd_same, by unfold Reps; rfl, Nat.le_refl _, hc, rfl⟩, ?_⟩
  rintro i m H ⟨rfl, hi, D, as, rs, vs, kD, SD, pD, rfl, eD, rD, lD, cD, yD⟩
  by_cases hlt : i < J.items.length
  · have hd : J.items.drop i = J.items[i] :: J.items.drop (i + 1) := List.drop_eq_getElem_cons hlt
    rw [hd] at cD
    obtain ⟨oD, r, mh1, rs', f1, c1, rfl⟩ := compGo_cons cD
    refine .inr ⟨wk.go D kD SD oD i hlt, fun H' => W (i + 1) (J.items.length - (i + 1)) H', fun H' w => ⟨_, by omega, w⟩, fun x H' y => ?_⟩
    obtain ⟨E, z, kE, mE, rfl, SE, hz, rz⟩ := wk.yld D kD SD oD i x H' hlt y
    have hz' : J.items[i] = z := by
      rw [List.getElem?_eq_getElem hlt] at hz
      exact Option.some.inj hz
    rw [hz', ← mE] at f1
    obtain ⟨ρ', c, mh3, g1, g2, g3⟩ := compF_of f1
    have kBE := kD.trans kE
    refine ⟨E, wipeE ρ own, ρ', z, rfl, SE, (NB.keep SB kBE).wipe own, rz, g1, fun σ' N' off => ⟨?_, ?_⟩⟩
    · rw [off.wipe hown, wipe_wipe]
    have pE : p ∈ E.ex := kE.ex p pD
    have eE : E.H p = some (.lst vs) := kE.obj p _ eD (SD.exl p pD)
    have rE : Reps G E as vs := Reps.keep SD kE _ _ rD
    refine tT.go SE N' (by rw [kBE.base]; exact g2) fun F kF mF SF NF => ?_
    have pF : p ∈ F.ex := kF.ex p pE
    have eF : F.H p = some (.lst vs) := kF.obj p _ eE (SE.exl p pE)
    have rF : Reps G F as vs := Reps.keep SE kF _ _ rE
    rcases g3 with ⟨rfl, y', g4, rfl⟩ | ⟨rfl, g5, rfl⟩
    · rw [if_pos rfl]
      refine tE.go SF NF (by rw [(kBE.trans kF).base, mF]; exact g4) fun K vx kK mK SK NK rx => ?_
      have pK : p ∈ K.ex := kK.ex p pF
      have eK : K.H p = some (.lst vs) := kK.obj p _ eF (SF.exl p pF)
      have rK : Reps G K as vs := Reps.keep SF kK _ _ rF
      refine ⟨vs, eK, ?_, rfl, hlt, K.up p (.lst (vs ++ [vx])), as ++ [y'], rs', vs ++ [vx], keep_put ((kBE.trans kF).trans kK) hp, SK.put pK ⟨(fun _ z => nomatch z), (fun _ _ z => nomatch z)⟩, pK, rfl, upd_same, ?_, ?_, ?_, ?_⟩
      · rw [← rD.len]
        exact Nat.lt_of_le_of_lt lD (Nat.lt_of_lt_of_le hlt hl)
      · exact Reps.put SK pK _ _ (rK.app (Reps.one rx))
      · simp; exact lD
      · show compGo J _ _ K.mh = _
        rw [mK]; exact c1
      · rw [yD]; simp
    · rw [if_neg Bool.false_ne_true]
      refine ⟨rfl, hlt, F, as, rs', vs, kBE.trans kF, SF, pF, rfl, eF, rF, Nat.le_succ_of_le lD, ?_, ?_⟩
      · rw [mF, ← g5]; exact c1
      · rw [yD]; rfl
  · have e : i = J.items.length := by omega
    subst e
    rw [List.drop_length] at cD
    obtain ⟨oD, rfl, e5⟩ := compGo_nil cD
    refine .inl ⟨wk.stop D kD SD oD, fin D vs kD SD pD e5.symm eD ?_⟩
    rw [yD, List.append_nil]
    exact rD
theorem _root_.L2.PTs.mono {X : Cx} {ifs : List Expr} {t t' : TT} (h : PTs X ifs t) (k : ∀ σ H Q, t' σ H Q → t σ H Q) : PTs X ifs t' := ⟨fun pins s σ H Q I q => h.run pins s σ H Q I (k _ _ _ q)⟩
theorem sts_nil : PTs X [] (tT G C (.c (.bl true))) := pts_nil.mono fun σ H Q h => by
  obtain ⟨A, ρ, c, mh', rfl, S, N, e, q⟩ := h
  simp only [ev] at e
  cases e
  exact q A (Keep.refl A) rfl S
theorem lc_frozen {A : Wd} {ρ : Env} {σ : L2.St} {v : MV} {mh' : MHp} {Q : VK} (hown : ∀ i ∈ tgN t, i ∈ own) (S : Sim G A) (N : Envs G A ρ σ) (e : ev C A.base (.comp t own mi mc me) ρ A.mh = some (v, mh')) (q : Post G A mh' v Q) :
    tLc (tI G C mi) (tG G t) (tT G C mc) (tE G C me) own σ A.H Q := by
  obtain ⟨J, mh1, ys, e1, hl, e2, rfl⟩ := ev_comp e
  refine ⟨A, ρ, J, mh1, rfl, S, N, e1, fun B I k em SB wk p hp => ?_⟩
  refine lc_loop hown SB (N.keep S k) wk hl (by rw [k.base, em]; exact e2) hp fun D vs kD SD pD mD eD rD => ?_
  have hx : ∀ a ∈ B.ex, a ∈ D.ex := kD.ex
  refine q (D.out B.ex) (.ref p) (k.trans (keep_out kD)) mD (SD.out hx) ?_
  unfold Rep
  refine ⟨p, vs, rfl, eD, ⟨SD.exl p pD, fun z => ?_⟩, Reps.out hx _ _ rD⟩
  obtain ⟨u, e9, _⟩ := SB.exo p z
  rw [hp] at e9; cases e9
theorem lc_live {A : Wd} {ρ : Env} {σ : L2.St} {v : MV} {mh' : MHp} {Q : VK} (hown : ∀ i ∈ tgN t, i ∈ own) (S : Sim G A) (N : Envs G A ρ σ) (e : ev C A.base (.al (.comp t own mi mc me)) ρ A.mh = some (v, mh')) (q : Post G A mh' v Q) :
    tLc (tI G C mi) (tG G t) (tT G C mc) (tE G C me) own σ A.H Q := by
  rcases ev_al e with ⟨xs, mh5, e9, rfl, rfl⟩ | ⟨ks, vs, mh1, e9, rfl, rfl⟩
  · obtain ⟨J, mh1, ys, e1, hl, e2, e3⟩ := ev_comp e9
    cases e3
    refine ⟨A, ρ, J, mh1, rfl, S, N, e1, fun B I k em SB wk p hp => ?_⟩
    refine lc_loop hown SB (N.keep S k) wk hl (by rw [k.base, em]; exact e2) hp fun D vs kD SD pD mD eD rD => ?_
    have hx : ∀ a ∈ B.ex, a ∈ D.ex := kD.ex
    have hpx : p ∉ B.ex := fun z => by
      obtain ⟨u, e9, _⟩ := SB.exo p z
      rw [hp] at e9; cases e9
    refine q (D.fix p xs B.ex) (.ref p) (k.trans (keep_fix SD kD hp)) (by show D.mh ++ _ = _; rw [mD]) (SD.fix pD hx hpx eD rD) ?_
    unfold Rep
    refine ⟨p, rfl, ?_⟩
    show (D.β ++ [p])[mh5.length]? = some p
    rw [← mD, ← SD.len, List.getElem?_append_right (Nat.le_refl _)]
    simp
  · obtain ⟨J, mh1, ys, e1, hl, e2, e3⟩ := ev_comp e9
    cases e3
end
section
variable {G : Gb} {C : CallF} {X : Cx} {mc me mi : ME} {t : Tg} {elt tg iter : Expr} {ifs : List Expr} {scope : Scope} {own : List (Str × Nat)} {pos : Pos}
theorem se_comp (hown : ∀ i ∈ tgN t, i ∈ own.map (·.2)) (hc : X.calm = true) (hN : X.N.Nodup) (hi : PI X tg iter (tI G C mi)) (ok : BlkOk X.N X.env.scope scope own)
    (hg : ∀ (s : Shared) (H : Hp) (D : Addr) (cl : List (Str × Addr)) (fp : List Addr), PG (X.blk s H scope (compEnvC scope cl D X.env) fp) tg (tG G t)) (ht : ∀ (s : Shared) (H : Hp) (D : Addr) (cl : List (Str × Addr)) (fp : List Addr), PTs (X.blk s H scope (compEnvC scope cl D X.env) fp) ifs (tT G C mc))
    (he : ∀ (s : Shared) (H : Hp) (D : Addr) (cl : List (Str × Addr)) (fp : List Addr), PE (X.blk s H scope (compEnvC scope cl D X.env) fp) elt (tE G C me)) (hs : ∀ x, foldedSetIterable iter X.env x = pure x := by intro _; rfl) :
    PE X (.ListComp elt [⟨tg, iter, ifs, 0⟩] scope pos) (tE G C (.comp t (own.map (·.2)) mi mc me)) := by
  refine (pe_lc hc hN hi ok hg ht he hs).mono fun σ H Q h => ?_
  obtain ⟨A, ρ, v, mh', rfl, S, N, e, q⟩ := h
  exact lc_frozen hown S N e q
theorem sal_comp (hown : ∀ i ∈ tgN t, i ∈ own.map (·.2)) (hc : X.calm = true) (hN : X.N.Nodup) (hi : PI X tg iter (tI G C mi)) (ok : BlkOk X.N X.env.scope scope own)
    (hg : ∀ (s : Shared) (H : Hp) (D : Addr) (cl : List (Str × Addr)) (fp : List Addr), PG (X.blk s H scope (compEnvC scope cl D X.env) fp) tg (tG G t)) (ht : ∀ (s : Shared) (H : Hp) (D : Addr) (cl : List (Str × Addr)) (fp : List Addr), PTs (X.blk s H scope (compEnvC scope cl D X.env) fp) ifs (tT G C mc))
    (he : ∀ (s : Shared) (H : Hp) (D : Addr) (cl : List (Str × Addr)) (fp : List Addr), PE (X.blk s H scope (compEnvC scope cl D X.env) fp) elt (tE G C me)) (hs : ∀ x, foldedSetIterable iter X.env x = pure x := by intro _; rfl) :
    PE X (.ListComp elt [⟨tg, iter, ifs, 0⟩] scope pos) (tE G C (.al (.comp t (own.map (·.2)) mi mc me))) := by
  refine (pe_lc hc hN hi ok hg ht he hs).mono fun σ H Q h => ?_
  obtain ⟨A, ρ, v, mh', rfl, S, N, e, q⟩ := h
  exact lc_live hown S N e q
end
end L2.Mi

set_option Elab.async false
set_option linter.all false
set_option maxRecDepth 100000
set_option maxHeartbeats 4000000
/-! Mini10: statements. -/
namespace L2.Mi
open PySem PySem.Spec PyProof.Rows

def FlOk (G : Gb) (B : Wd) (ρ : Env) (D : Ends) : Fl → Prop
  | .nx => ∀ σ, Envs G B ρ σ → D.nx σ B.H
  | .bk => ∀ σ, Envs G B ρ σ → D.bk σ B.H
  | .ct => ∀ σ, Envs G B ρ σ → D.ct σ B.H
  | .rt v => ∀ x, Rep G B v x → D.rt x B.H
def EndP (G : Gb) (A : Wd) (mh' : MHp) (ρ : Env) (fl : Fl) (D : Ends) : Prop := ∀ B, Keep A B → B.mh = mh' → Sim G B → FlOk G B ρ D fl
def tS (G : Gb) (C : CallF) (s : MS) : TS := fun D σ H => ∃ (A : Wd) (ρ : Env) (fl : Fl) (ρ' : Env) (mh' : MHp), A.H = H ∧ Sim G A ∧ Envs G A ρ σ ∧ ex C A.base s ρ A.mh = some (fl, ρ', mh') ∧ EndP G A mh' ρ' fl D
def tSs (G : Gb) (C : CallF) (ss : List MS) : TS := fun D σ H => ∃ (A : Wd) (ρ : Env) (fl : Fl) (ρ' : Env) (mh' : MHp), A.H = H ∧ Sim G A ∧ Envs G A ρ σ ∧ exs C A.base ss ρ A.mh = some (fl, ρ', mh') ∧ EndP G A mh' ρ' fl D
theorem EndP.step {G : Gb} {A B : Wd} {mh' : MHp} {ρ : Env} {fl : Fl} {D : Ends} (h : EndP G A mh' ρ fl D) (k : Keep A B) : EndP G B mh' ρ fl D := fun K k' e S => h K (k.trans k') e S
theorem _root_.L2.PS.mono {X : Cx} {e : Stmt} {t t' : TS} (h : PS X e t) (k : ∀ D σ H, t' D σ H → t D σ H) : PS X e t' := ⟨fun pins s σ H D I q => h.run pins s σ H D I (k _ _ _ q)⟩
theorem _root_.L2.PSs.mono {X : Cx} {e : List Stmt} {t t' : TS} (h : PSs X e t) (k : ∀ D σ H, t' D σ H → t D σ H) : PSs X e t' := ⟨fun pins s σ H D I q => h.run pins s σ H D I (k _ _ _ q)⟩
section
variable {G : Gb} {C : CallF} {X : Cx} {pos p : Pos} {e a b c : Expr} {ma mb mc m : ME} {st : Stmt} {rest body : List Stmt} {s : MS} {ss ms : List MS}
theorem sss_nil : PSs X [] (tSs G C []) := pss_nil.mono fun D σ H h => by
  obtain ⟨A, ρ, fl, ρ', mh', rfl, S, N, e, q⟩ := h
  simp only [exs] at e
  cases e
  exact q A (Keep.refl A) rfl S σ N
theorem exs_cons {base : Nat} {ρ ρ' : Env} {mh mh' : MHp} {fl : Fl} (e : exs C base (s :: ss) ρ mh = some (fl, ρ', mh')) : (∃ ρ1 mh1, ex C base s ρ mh = some (.nx, ρ1, mh1) ∧ exs C base ss ρ1 mh1 = some (fl, ρ', mh')) ∨ (ex C base s ρ mh = some (fl, ρ', mh') ∧ fl ≠ .nx) := by
  simp only [exs] at e
  split at e
  · rename_i ρ1 mh1 e1
    exact .inl ⟨ρ1, mh1, e1, e⟩
  · rename_i hn
    exact .inr ⟨e, fun z => hn ρ' mh' (by rw [e, z])⟩
theorem sss_cons (h1 : PS X st (tS G C s)) (h2 : PSs X rest (tSs G C ss)) : PSs X (st :: rest) (tSs G C (s :: ss)) := (pss_cons h1 h2).mono fun D σ H h => by
  obtain ⟨A, ρ, fl, ρ', mh', rfl, S, N, e, q⟩ := h
  rcases exs_cons e with ⟨ρ1, mh1, e1, e2⟩ | ⟨e1, hn⟩
  · exact ⟨A, ρ, .nx, ρ1, mh1, rfl, S, N, e1, fun B k em SB σ' N' => ⟨B, ρ1, fl, ρ', mh', rfl, SB, N', by rw [k.base, em]; exact e2, q.step k⟩⟩
  · refine ⟨A, ρ, fl, ρ', mh', rfl, S, N, e1, fun B k em SB => ?_⟩
    have z := q B k em SB
    cases fl with
    | nx => exact absurd rfl hn
    | _ => exact z
theorem ss_pass : PS X (.Pass pos) (tS G C .pass) := ps_pass.mono fun D σ H h => by
  obtain ⟨A, ρ, fl, ρ', mh', rfl, S, N, e, q⟩ := h
  simp only [ex] at e
  cases e
  exact q A (Keep.refl A) rfl S σ N
theorem ss_brk : PS X (.Break pos) (tS G C .brk) := ps_break.mono fun D σ H h => by
  obtain ⟨A, ρ, fl, ρ', mh', rfl, S, N, e, q⟩ := h
  simp only [ex] at e
  cases e
  exact q A (Keep.refl A) rfl S σ N
theorem ss_cnt : PS X (.Continue pos) (tS G C .cnt) := ps_continue.mono fun D σ H h => by
  obtain ⟨A, ρ, fl, ρ', mh', rfl, S, N, e, q⟩ := h
  simp only [ex] at e
  cases e
  exact q A (Keep.refl A) rfl S σ N
theorem ss_doc {x j pos'} : PS X (.Expr (.Constant (.str x) j pos) pos') (tS G C .pass) := ps_doc.mono fun D σ H h => by
  obtain ⟨A, ρ, fl, ρ', mh', rfl, S, N, e, q⟩ := h
  simp only [ex] at e
  cases e
  exact q A (Keep.refl A) rfl S σ N
theorem ss_expr (he : PE X e (tE G C m)) (hs : swapsWith e none pos.line X.env = pure false := by rfl) : PS X (.Expr e pos) (tS G C (.ex m)) := (ps_expr he hs).mono fun D σ H h => by
  obtain ⟨A, ρ, fl, ρ', mh', rfl, S, N, e, q⟩ := h
  simp only [ex] at e
  split at e
  · cases e
  rename_i v mh1 e1
  cases e
  exact tE.go S N e1 fun B x k em SB NB _ => q B k em SB σ NB
theorem ex_set {t : Tg} {base : Nat} {ρ ρ' : Env} {mh mh' : MHp} {fl : Fl} (e : ex C base (.set t m) ρ mh = some (fl, ρ', mh')) : ∃ v, ev C base m ρ mh = some (v, mh') ∧ asg mh' t v ρ = some ρ' ∧ fl = .nx := by
  simp only [ex] at e
  split at e
  · cases e
  rename_i v mh1 e1
  split at e
  · cases e
  rename_i ρ1 e2
  cases e
  exact ⟨v, e1, e2, rfl⟩
theorem ss_set {i : Nat} {x : Str} {pos' : Pos} (hN : X.N.Nodup) (hi : X.N[i]? = some x) (hx : Loc X.env.scope x) (he : PE X e (tE G C m)) (hs : swapsWith e (some (.Name x pos')) pos.line X.env = pure false := by rfl) (hf : X.fn x = true ∨ X.env.scope.names.lookup x = some .local := by first | exact .inl rfl | exact .inr rfl | assumption) :
    PS X (.Assign [.Name x pos'] e pos) (tS G C (.set (.nm i) m)) := (ps_set hN hi hx he hs hf).mono fun D σ H h => by
  obtain ⟨A, ρ, fl, ρ', mh', rfl, S, N, e, q⟩ := h
  obtain ⟨v, e1, e2, rfl⟩ := ex_set e
  simp only [asg] at e2
  split at e2
  · cases e2
    exact tE.go S N e1 fun B x k em SB NB r => q B k em SB _ (NB.set r i)
  · cases e2
theorem ss_asg {t : Tg} {tg : Expr} (he : PE X e (tE G C m)) (hg : PG X tg (tG G t)) (hs : swapsWithSole [tg] e pos.line X.env = pure false := by rfl) (hw : swappedStores [tg] e X.env = pure none := by rfl)
    (h1 : (assignEach [tg] X.env).map (·.2) = [assign tg X.env] := by rfl) : PS X (.Assign [tg] e pos) (tS G C (.set t m)) := (ps_asg he hg hs hw h1).mono fun D σ H h => by
  obtain ⟨A, ρ, fl, ρ', mh', rfl, S, N, e, q⟩ := h
  obtain ⟨v, e1, e2, rfl⟩ := ex_set e
  exact tE.go S N e1 fun B x k em SB NB r => ⟨B, ρ, ρ', v, rfl, SB, NB, r, by rw [em]; exact e2, fun σ' N' _ => q B k em SB σ' N'⟩
theorem ss_setLc {t : Tg} {mi me : ME} {i : Nat} {y : Str} {py : Pos} {elt tg iter : Expr} {ifs : List Expr} {scope : Scope} {own : List (Str × Nat)} {pos spos : Pos} (hown : ∀ i ∈ tgN t, i ∈ own.map (·.2)) (hc : X.calm = true) (hN : X.N.Nodup) (hy : X.N[i]? = some y) (hyl : X.env.scope.names.lookup y = some .local)
    (hsw : swapsWith (.ListComp elt [⟨tg, iter, ifs, 0⟩] scope pos) (some (.Name y py)) spos.line X.env = pure true) (hi : PI X tg iter (tI G C mi)) (ok : BlkOk X.N X.env.scope scope own)
    (hg : ∀ (s : Shared) (H : Hp) (D : Addr) (cl : List (Str × Addr)) (fp : List Addr), PG (X.blk s H scope (compEnvC scope cl D X.env) fp) tg (tG G t)) (ht : ∀ (s : Shared) (H : Hp) (D : Addr) (cl : List (Str × Addr)) (fp : List Addr), PTs (X.blk s H scope (compEnvC scope cl D X.env) fp) ifs (tT G C mc))
    (he : ∀ (s : Shared) (H : Hp) (D : Addr) (cl : List (Str × Addr)) (fp : List Addr), PE (X.blk s H scope (compEnvC scope cl D X.env) fp) elt (tE G C me)) (hs : ∀ x, foldedSetIterable iter X.env x = pure x := by intro _; rfl) :
    PS X (.Assign [.Name y py] (.ListComp elt [⟨tg, iter, ifs, 0⟩] scope pos) spos) (tS G C (.set (.nm i) (.comp t (own.map (·.2)) mi mc me))) := (ps_setLc hc hN hy hyl hsw hi ok hg ht he hs).mono fun D σ H h => by
  obtain ⟨A, ρ, fl, ρ', mh', rfl, S, N, e, q⟩ := h
  obtain ⟨v, e1, e2, rfl⟩ := ex_set e
  simp only [asg] at e2
  split at e2
  · cases e2
    exact lc_frozen hown S N e1 fun B x k em SB r => q B k em SB _ ((N.keep S k).set r i)
  · cases e2
theorem ss_setLcA {t : Tg} {mi me : ME} {i : Nat} {y : Str} {py : Pos} {elt tg iter : Expr} {ifs : List Expr} {scope : Scope} {own : List (Str × Nat)} {pos spos : Pos} (hown : ∀ i ∈ tgN t, i ∈ own.map (·.2)) (hc : X.calm = true) (hN : X.N.Nodup) (hy : X.N[i]? = some y) (hyl : X.env.scope.names.lookup y = some .local)
    (hsw : swapsWith (.ListComp elt [⟨tg, iter, ifs, 0⟩] scope pos) (some (.Name y py)) spos.line X.env = pure true) (hi : PI X tg iter (tI G C mi)) (ok : BlkOk X.N X.env.scope scope own)
    (hg : ∀ (s : Shared) (H : Hp) (D : Addr) (cl : List (Str × Addr)) (fp : List Addr), PG (X.blk s H scope (compEnvC scope cl D X.env) fp) tg (tG G t)) (ht : ∀ (s : Shared) (H : Hp) (D : Addr) (cl : List (Str × Addr)) (fp : List Addr), PTs (X.blk s H scope (compEnvC scope cl D X.env) fp) ifs (tT G C mc))
    (he : ∀ (s : Shared) (H : Hp) (D : Addr) (cl : List (Str × Addr)) (fp : List Addr), PE (X.blk s H scope (compEnvC scope cl D X.env) fp) elt (tE G C me)) (hs : ∀ x, foldedSetIterable iter X.env x = pure x := by intro _; rfl) :
    PS X (.Assign [.Name y py] (.ListComp elt [⟨tg, iter, ifs, 0⟩] scope pos) spos) (tS G C (.set (.nm i) (.al (.comp t (own.map (·.2)) mi mc me)))) := (ps_setLc hc hN hy hyl hsw hi ok hg ht he hs).mono fun D σ H h => by
  obtain ⟨A, ρ, fl, ρ', mh', rfl, S, N, e, q⟩ := h
  obtain ⟨v, e1, e2, rfl⟩ := ex_set e
  simp only [asg] at e2
  split at e2
  · cases e2
    exact lc_live hown S N e1 fun B x k em SB r => q B k em SB _ ((N.keep S k).set r i)
  · cases e2
theorem ss_par {i j : Nat} {x y : Str} {px py pt : Pos} {kt k2 pt2} (hc : X.calm = true) (hN : X.N.Nodup) (hi : X.N[i]? = some x) (hj : X.N[j]? = some y) (hij : i ≠ j)
    (hx : X.env.scope.names.lookup x = some .local) (hy : X.env.scope.names.lookup y = some .local) (ha : PE X a (tE G C ma)) (hb : PE X b (tE G C mb))
    (hw : swappedStores [.Tuple [.Name x px, .Name y py] kt pt] (.Tuple [a, b] k2 pt2) X.env = pure (some [x, y]))
    (hs : swapsWithSole [.Tuple [.Name x px, .Name y py] kt pt] (.Tuple [a, b] k2 pt2) pos.line X.env = pure false := by rfl)
    (hs1 : starEach [a, b] X.env = (false, eval a X.env) :: starEach [b] X.env := by rfl) (hs2 : starEach [b] X.env = (false, eval b X.env) :: starEach [] X.env := by rfl) :
    PS X (.Assign [.Tuple [.Name x px, .Name y py] kt pt] (.Tuple [a, b] k2 pt2) pos) (tS G C (.par i j ma mb)) := (ps_par hc hN hi hj hij hx hy (sa_cons ha (sa_cons hb sa_nil hs2) hs1) hw hs).mono fun D σ H h => by
  obtain ⟨A, ρ, fl, ρ', mh', rfl, S, N, e, q⟩ := h
  simp only [ex] at e
  split at e
  · cases e
  rename_i v mh1 e1
  split at e
  · cases e
  rename_i w mh2 e2
  split at e
  · cases e
    refine tEs.go (vs := [v, w]) (mh1 := mh') S N (by simp only [evs, e1, e2]) fun B xs k em SB NB r => ?_
    unfold Reps at r
    obtain ⟨v', r', rfl, r1, r2⟩ := r
    unfold Reps at r2
    obtain ⟨w', r'', rfl, r3, r4⟩ := r2
    unfold Reps at r4
    subst r4
    exact ⟨v', w', rfl, q B k em SB _ ((NB.set r1 i).set r3 j)⟩
  · cases e
theorem ss_ret (he : PE X e (tE G C m)) : PS X (.Return (some e) pos) (tS G C (.ret m)) := (ps_ret he).mono fun D σ H h => by
  obtain ⟨A, ρ, fl, ρ', mh', rfl, S, N, e, q⟩ := h
  simp only [ex] at e
  split at e
  · cases e
  rename_i v mh1 e1
  cases e
  exact tE.go S N e1 fun B x k em SB NB r => q B k em SB x r
theorem ss_retN : PS X (.Return none pos) (tS G C (.ret (.c .non))) := ps_retN.mono fun D σ H h => by
  obtain ⟨A, ρ, fl, ρ', mh', rfl, S, N, e, q⟩ := h
  simp only [ex, ev] at e
  cases e
  exact q A (Keep.refl A) rfl S _ rep_non
theorem ss_if {sa sb : List Stmt} {na nb : List MS} (hc : PT X c (tT G C mc)) (ha : PSs X sa (tSs G C na)) (hb : PSs X sb (tSs G C nb)) : PS X (.If c sa sb pos) (tS G C (.ite mc na nb)) := (ps_if hc ha hb).mono fun D σ H h => by
  obtain ⟨A, ρ, fl, ρ', mh', rfl, S, N, e, q⟩ := h
  simp only [ex] at e
  split at e
  · rename_i mh1 e1
    refine tT.go S N e1 fun B k em SB NB => ?_
    rw [if_pos rfl]
    exact ⟨B, ρ, fl, ρ', mh', rfl, SB, NB, by rw [k.base, em]; exact e, q.step k⟩
  · rename_i mh1 e1
    refine tT.go S N e1 fun B k em SB NB => ?_
    rw [if_neg Bool.false_ne_true]
    exact ⟨B, ρ, fl, ρ', mh', rfl, SB, NB, by rw [k.base, em]; exact e, q.step k⟩
  · cases e
/-! ### for -/
theorem forGo_nil {J : Its} {f : MV → Env → MHp → Option (Fl × Env × MHp)} {ρ ρ' : Env} {mh mh' : MHp} {fl : Fl} (e : forGo J f [] ρ mh = some (fl, ρ', mh')) : J.ok mh ∧ fl = .nx ∧ ρ' = ρ ∧ mh' = mh := by
  unfold forGo at e
  split at e
  · cases e; exact ⟨by assumption, rfl, rfl, rfl⟩
  · cases e
theorem forGo_cons {J : Its} {f : MV → Env → MHp → Option (Fl × Env × MHp)} {x : MV} {xs : List MV} {ρ ρ' : Env} {mh mh' : MHp} {fl : Fl} (e : forGo J f (x :: xs) ρ mh = some (fl, ρ', mh')) :
    J.ok mh ∧ ∃ g ρ1 mh1, f x ρ mh = some (g, ρ1, mh1) ∧ (((g = .nx ∨ g = .ct) ∧ forGo J f xs ρ1 mh1 = some (fl, ρ', mh')) ∨ (g = .bk ∧ fl = .nx ∧ ρ' = ρ1 ∧ mh' = mh1) ∨ (∃ v, g = .rt v ∧ fl = .rt v ∧ ρ' = ρ1 ∧ mh' = mh1)) := by
  unfold forGo at e
  split at e
  · rename_i ho
    refine ⟨ho, ?_⟩
    split at e
    · cases e
    · rename_i ρ1 mh1 e1; exact ⟨_, _, _, e1, .inl ⟨.inl rfl, e⟩⟩
    · rename_i ρ1 mh1 e1; exact ⟨_, _, _, e1, .inl ⟨.inr rfl, e⟩⟩
    · rename_i ρ1 mh1 e1; cases e; exact ⟨_, _, _, e1, .inr (.inl ⟨rfl, rfl, rfl, rfl⟩)⟩
    · rename_i v ρ1 mh1 e1; cases e; exact ⟨_, _, _, e1, .inr (.inr ⟨v, rfl, rfl, rfl, rfl⟩)⟩
  · cases e
theorem ss_for {t : Tg} {tg iter : Expr} {mi : ME} (hp : PassesOwn (model X.prog X.w) X.A X.env X.xe) (hc : X.calm = true) (hi : PI X tg iter (tI G C mi)) (hg : PG X tg (tG G t)) (hb : PSs X body (tSs G C ms))
    (hs : ∀ x, foldedSetIterable iter X.env x = pure x := by intro _; rfl) : PS X (.For tg iter body [] pos) (tS G C (.for t mi ms)) := (ps_for hp hc hi hg hb hs).mono fun D σ H h => by
  obtain ⟨A, ρ, fl, ρ', mh', rfl, S, N, e, q⟩ := h
  simp only [ex] at e
  split at e
  · cases e
  rename_i J mh1 e1
  refine ⟨A, ρ, J, mh1, rfl, S, N, e1, fun B I k em SB wk => ?_⟩
  let f : MV → Env → MHp → Option (Fl × Env × MHp) := fun x ρ1 mh2 => match asg mh2 t x ρ1 with
      | none => none
      | some ρ2 => exs C A.base ms ρ2 mh2
  let W : Nat → Nat → L2.St → Hp → Prop := fun i m σ H => m = J.items.length - i ∧ i ≤ J.items.length ∧ ∃ (E : Wd) (ρ1 : Env), Keep B E ∧ Sim G E ∧ E.H = H ∧ Envs G E ρ1 σ ∧ forGo J f (J.items.drop i) ρ1 E.mh = some (fl, ρ', mh')
  refine ⟨W, ⟨J.items.length, by simp, Nat.zero_le _, B, ρ, Keep.refl B, SB, rfl, N.keep S k, by rw [em]; exact e⟩, ?_⟩
  rintro i m σ1 H ⟨rfl, hi, E, ρ1, kE, SE, rfl, NE, cE⟩
  by_cases hlt : i < J.items.length
  · have hd : J.items.drop i = J.items[i] :: J.items.drop (i + 1) := List.drop_eq_getElem_cons hlt
    rw [hd] at cE
    obtain ⟨oE, g, ρ2, mh2, f1, c1⟩ := forGo_cons cE
    refine .inr ⟨wk.go E kE SE oE i hlt, fun σ' H' => W (i + 1) (J.items.length - (i + 1)) σ' H', fun σ' H' w => ⟨_, by omega, w⟩, fun x H' y => ?_⟩
    obtain ⟨F, z, kF, mF, rfl, SF, hz, rz⟩ := wk.yld E kE SE oE i x H' hlt y
    have hz' : J.items[i] = z := by
      rw [List.getElem?_eq_getElem hlt] at hz
      exact Option.some.inj hz
    rw [hz', ← mF] at f1
    have f1' : (match asg F.mh t z ρ1 with
      | none => none
      | some ρ2 => exs C A.base ms ρ2 F.mh) = some (g, ρ2, mh2) := f1
    split at f1'
    · cases f1'
    rename_i ρ3 g1
    refine ⟨F, ρ1, ρ3, z, rfl, SF, NE.keep SE kF, rz, g1, fun σ2 N2 off => ?_⟩
    have kAF := k.trans (kE.trans kF)
    refine ⟨F, ρ3, g, ρ2, mh2, rfl, SF, N2, by rw [kAF.base]; exact f1', fun L kL mL SL => ?_⟩
    have kBL := (kE.trans kF).trans kL
    rcases c1 with ⟨hg, c1⟩ | ⟨rfl, rfl, rfl, rfl⟩ | ⟨v, rfl, rfl, rfl, rfl⟩
    · have fin : ∀ σ', Envs G L ρ2 σ' → W (i + 1) (J.items.length - (i + 1)) σ' L.H := fun σ' N' => ⟨rfl, hlt, L, ρ2, kBL, SL, rfl, N', by rw [mL]; exact c1⟩
      rcases hg with rfl | rfl
      · exact fin
      · exact fin
    · exact q L (k.trans kBL) mL SL
    · exact q L (k.trans kBL) mL SL
  · have hi' : i = J.items.length := by omega
    subst hi'
    rw [List.drop_length] at cE
    obtain ⟨oE, rfl, rfl, e5⟩ := forGo_nil cE
    exact .inl ⟨wk.stop E kE SE oE, q E (k.trans kE) e5.symm SE σ1 NE⟩
/-! ### while -/
theorem whileM_of {cf : Env → MHp → Option (Bool × MHp)} {f : Env → MHp → Option (Fl × Env × MHp)} {ρ : Env} {mh : MHp} {r : Fl × Env × MHp} (e : whileM cf f ρ mh = some r) : ∃ n, whileN cf f n ρ mh = some r := by
  unfold whileM at e
  split at e
  · exact ⟨_, e⟩
  · cases e
theorem ss_while (hp : PassesOwn (model X.prog X.w) X.A X.env X.xe) (hc : PT X c (tT G C mc)) (hb : PSs X body (tSs G C ms)) : PS X (.While c body [] pos) (tS G C (.while mc ms)) := (ps_while hp hc hb).mono fun D σ H h => by
  obtain ⟨A, ρ, fl, ρ', mh', rfl, S, N, e, q⟩ := h
  simp only [ex] at e
  obtain ⟨n, e⟩ := whileM_of e
  let cf : Env → MHp → Option (Bool × MHp) := fun ρ1 mh1 => match ev C A.base mc ρ1 mh1 with
      | some (.bl b, mh2) => some (b, mh2)
      | _ => none
  let f : Env → MHp → Option (Fl × Env × MHp) := fun ρ1 mh1 => exs C A.base ms ρ1 mh1
  let W : Nat → L2.St → Hp → Prop := fun n σ H => ∃ (E : Wd) (ρ1 : Env), Keep A E ∧ Sim G E ∧ E.H = H ∧ Envs G E ρ1 σ ∧ whileN cf f n ρ1 E.mh = some (fl, ρ', mh')
  refine ⟨W, ⟨n, A, ρ, Keep.refl A, S, rfl, N, e⟩, ?_⟩
  rintro m σ1 H ⟨E, ρ1, kE, SE, rfl, NE, cE⟩
  cases m with
  | zero => unfold whileN at cE; cases cE
  | succ m =>
    unfold whileN at cE
    have hcf : ∀ {b mh1}, cf ρ1 E.mh = some (b, mh1) → ev C A.base mc ρ1 E.mh = some (.bl b, mh1) := fun {b mh1} z => by
      have z' : (match ev C A.base mc ρ1 E.mh with
        | some (.bl b, mh2) => some (b, mh2)
        | _ => none) = some (b, mh1) := z
      split at z'
      · rename_i b' mh2 e9
        cases z'; exact e9
      · cases z'
    split at cE
    · cases cE
    · rename_i mh1 e1
      cases cE
      refine tT.go SE NE (by rw [kE.base]; exact hcf e1) fun F kF mF SF NF => ?_
      rw [if_neg Bool.false_ne_true]
      exact q F (kE.trans kF) mF SF σ1 NF
    · rename_i mh1 e1
      refine tT.go SE NE (by rw [kE.base]; exact hcf e1) fun F kF mF SF NF => ?_
      rw [if_pos rfl]
      refine ⟨W m, fun σ' H' w => ⟨m, Nat.lt_succ_self m, w⟩, ?_⟩
      have kAF := kE.trans kF
      have go : ∀ {g ρ2 mh2}, f ρ1 mh1 = some (g, ρ2, mh2) → (∀ L, Keep F L → L.mh = mh2 → Sim G L → FlOk G L ρ2 { D with nx := W m, ct := W m, bk := D.nx } g) → tSs G C ms { D with nx := W m, ct := W m, bk := D.nx } σ1 F.H := fun {g ρ2 mh2} z l =>
        ⟨F, ρ1, g, ρ2, mh2, rfl, SF, NF, by rw [kAF.base, mF]; exact z, l⟩
      split at cE
      · cases cE
      · rename_i ρ2 mh2 e2
        exact go e2 fun L kL mL SL σ' N' => ⟨L, ρ2, kAF.trans kL, SL, rfl, N', by rw [mL]; exact cE⟩
      · rename_i ρ2 mh2 e2
        exact go e2 fun L kL mL SL σ' N' => ⟨L, ρ2, kAF.trans kL, SL, rfl, N', by rw [mL]; exact cE⟩
      · rename_i ρ2 mh2 e2
        cases cE
        exact go e2 fun L kL mL SL => q L (kAF.trans kL) mL SL
      · rename_i v ρ2 mh2 e2
        cases cE
        exact go e2 fun L kL mL SL => q L (kAF.trans kL) mL SL
/-! ### o[i] = e, name op= e -/
theorem ss_sti {o i : Expr} {mo mi : ME} {pos' : Pos} (he : PE X e (tE G C m)) (ho : PE X o (tE G C mo)) (hi : PE X i (tE G C mi))
    (ha : ∀ v, assign (.Subscript o i pos') X.env v = (do
      let ov ← holding [v] (eval o X.env)
      let iv ← holding [v, ov] (eval i X.env)
      standAt pos'
      holding [v, ov, iv] (setItem ov iv v)
      release [v, ov, iv] []) := by intro _; rfl)
    (hs : swapsWithSole [.Subscript o i pos'] e pos.line X.env = pure false := by rfl) (hw : swappedStores [.Subscript o i pos'] e X.env = pure none := by rfl)
    (h1 : (assignEach [.Subscript o i pos'] X.env).map (·.2) = [assign (.Subscript o i pos') X.env] := by rfl) : PS X (.Assign [.Subscript o i pos'] e pos) (tS G C (.sti mo mi m)) := (ps_asg he (pg_sub ho hi set_list ha) hs hw h1).mono fun D σ H h => by
  obtain ⟨A, ρ, fl, ρ', mh', rfl, S, N, e, q⟩ := h
  simp only [ex] at e
  split at e
  · cases e
  rename_i v mh1 e1
  split at e
  · rename_i l mh2 e2
    split at e
    · rename_i j mh3 e3
      split at e
      · rename_i xs hl
        split at e
        · cases e
        rename_i jj hj
        split at e
        · rename_i hw
          cases e
          refine tE.go S N e1 fun B x k em SB NB r => tE.go SB NB (ev.at k em e2) fun B2 y k2 em2 S2 N2 r2 => tE.go S2 N2 (ev.at (k.trans k2) em2 e3) fun B3 z k3 em3 S3 N3 r3 => ?_
          rw [← em3] at hl
          obtain ⟨a, rfl, hb⟩ := (Rep.keep S2 k3 _ _ r2).loc_
          obtain ⟨vs, eH, rr⟩ := S3.obj l _ hl a hb
          have rx := Rep.keep S2 k3 _ _ (Rep.keep SB k2 _ _ r)
          have kk := (k.trans k2).trans k3
          obtain ⟨kW, SW⟩ := lst_wr S3 hl hb (rr.set rx jj) fun b hbs hlb => by
            have h1 : bds b xs = true := S3.bnd b hbs l _ hlb hl
            have h2 : bds b (xs ++ [v]) = true := by
              rw [bds_app, h1]
              show (true && (bd b v && true)) = true
              rw [wr_bd S3 (by rw [kk.base]; exact hw) hbs hlb]
              rfl
            exact bds_sub h2 fun z hz => by
              rcases List.mem_or_eq_of_mem_set hz with hz | rfl
              · exact List.mem_append_left _ hz
              · simp
          exact ⟨a, vs, j, jj, rfl, r3.int_, eH, by rw [← rr.len]; exact hj, q _ (kk.trans kW) (by show B3.mh.set l _ = _; rw [em3]) SW _ ((N3.keep S3 kW))⟩
        · cases e
      · cases e
    · cases e
  · cases e
theorem ss_aug {i : Nat} {x : Str} {o : Op} {pos' : Pos} (ho : o = .add ∨ o = .sub) (hN : X.N.Nodup) (hi : X.N[i]? = some x) (hx : Loc X.env.scope x) (he : PE X e (tE G C m)) (hf : X.fn x = true ∨ X.env.scope.names.lookup x = some .local := by first | exact .inl rfl | exact .inr rfl | assumption) :
    PS X (.AugAssign (.Name x pos') (opOf o) e pos) (tS G C (.aug i o m)) := by
  have main : ∀ (f : Int → Int → Int), PIp X (opOf o) (ipI f) → (∀ base ρ mh ρ' mh' fl, ex C base (.aug i o m) ρ mh = some (fl, ρ', mh') → ∃ a b, ρ[i]? = some (some (.int a)) ∧ ev C base m ρ mh = some (.int b, mh') ∧ fl = .nx ∧ ρ' = ρ.set i (some (.int (f a b)))) → PS X (.AugAssign (.Name x pos') (opOf o) e pos) (tS G C (.aug i o m)) := fun f hip hex =>
    (ps_aug hN hi hx he hip hf).mono fun D σ H h => by
      obtain ⟨A, ρ, fl, ρ', mh', rfl, S, N, e, q⟩ := h
      obtain ⟨a, b, e1, e2, rfl, rfl⟩ := hex _ _ _ _ _ _ e
      obtain ⟨y, h1, h2⟩ := N.2 i _ e1
      refine ⟨y, h1, tE.go S N e2 fun B z k em SB NB r => ⟨a, b, h2.int_, r.int_, q B k em SB _ (NB.set (rep_int _) i)⟩⟩
  rcases ho with rfl | rfl
  · refine main (fun a b => a + b) ip_add fun base ρ mh ρ' mh' fl e => ?_
    simp only [ex] at e
    split at e
    · rename_i a ha
      split at e
      · rename_i b mh1 hb
        cases e
        exact ⟨a, b, ha, hb, rfl, rfl⟩
      · cases e
    · cases e
  · refine main (fun a b => a - b) ip_sub fun base ρ mh ρ' mh' fl e => ?_
    simp only [ex] at e
    split at e
    · rename_i a ha
      split at e
      · rename_i b mh1 hb
        cases e
        exact ⟨a, b, ha, hb, rfl, rfl⟩
      · cases e
    · cases e
end
end L2.Mi

set_option Elab.async false
set_option linter.all false
set_option maxRecDepth 100000
set_option maxHeartbeats 4000000
/-! Mini11: a call's entry and exit; all defs of a table. -/
namespace L2.Mi
open PySem PySem.Spec PyProof.Rows

/-! ### worlds that hold less -/
structure Les (A B : Wd) (n : Nat) : Prop where
  H : B.H = A.H
  β : ∀ (l : Nat) (a : Addr), l < n → A.β[l]? = some a → B.β[l]? = some a
  liv : ∀ a, B.live a → A.live a
  ex : ∀ a ∈ B.ex, a ∈ A.ex
mutual
theorem Rep.les {G : Gb} {A B : Wd} {n : Nat} (h : Les A B n) : ∀ (x : MV) (v : V), bd n x = true → Rep G A x v → Rep G B x v
  | .non, v, _, r => r
  | .bl b, v, _, r => r
  | .int i, v, _, r => r
  | .str s, v, _, r => r
  | .fn f, v, _, r => r
  | .tup xs, v, d, r => by
    unfold Rep at r ⊢
    unfold bd at d
    obtain ⟨a, vs, e, h1, h2⟩ := r
    exact ⟨a, vs, e, by rw [h.H]; exact h1, Reps.les h xs vs d h2⟩
  | .lst xs, v, d, r => by
    unfold Rep at r ⊢
    unfold bd at d
    obtain ⟨a, vs, e, h1, h2, h3⟩ := r
    exact ⟨a, vs, e, by rw [h.H]; exact h1, ⟨fun z => h2.1 (h.liv a z), fun z => h2.2 (h.ex a z)⟩, Reps.les h xs vs d h3⟩
  | .dct ks ms, v, d, r => by
    unfold Rep at r ⊢
    unfold bd at d
    obtain ⟨a, vs, e, h1, h2, h3, h4⟩ := r
    exact ⟨a, vs, e, by rw [h.H]; exact h1, ⟨fun z => h2.1 (h.liv a z), fun z => h2.2 (h.ex a z)⟩, h3, Reps.les h ms vs d h4⟩
  | .loc l, v, d, r => by
    unfold Rep at r ⊢
    unfold bd at d
    obtain ⟨a, e, h1⟩ := r
    exact ⟨a, e, h.β l a (of_decide_eq_true d) h1⟩
  | .scr ns, v, _, r => by
    unfold Rep at r ⊢
    obtain ⟨a, e, h1⟩ := r
    refine ⟨a, e, ?_⟩
    rcases h1 with ⟨h1, h2⟩ | h1
    · exact .inl ⟨by rw [h.H]; exact h1, fun z => h2.1 (h.liv a z), fun z => h2.2 (h.ex a z)⟩
    · exact .inr h1
theorem Reps.les {G : Gb} {A B : Wd} {n : Nat} (h : Les A B n) : ∀ (xs : List MV) (vs : List V), bds n xs = true → Reps G A xs vs → Reps G B xs vs
  | [], vs, _, r => r
  | x :: xs, vs, d, r => by
    unfold Reps at r ⊢
    unfold bds at d
    rw [Bool.and_eq_true] at d
    obtain ⟨v, t, e, h1, h2⟩ := r
    exact ⟨v, t, e, Rep.les h x v d.1 h1, Reps.les h xs t d.2 h2⟩
end
theorem ORep.les {G : Gb} {A B : Wd} {n : Nat} (h : Les A B n) {o : MO} {a : Addr} (d : obd n o = true) (r : ORep G A o a) : ORep G B o a := by
  cases o with
  | lst xs => obtain ⟨vs, q, r⟩ := r; exact ⟨vs, by rw [h.H]; exact q, Reps.les h _ _ d r⟩
  | dct ks ms => obtain ⟨vs, q, l, r⟩ := r; exact ⟨vs, by rw [h.H]; exact q, l, Reps.les h _ _ d r⟩
mutual
theorem Rep.bd {G : Gb} {A : Wd} : ∀ (x : MV) (v : V), Rep G A x v → bd A.β.length x = true
  | .non, v, r => rfl
  | .bl b, v, r => rfl
  | .int i, v, r => rfl
  | .str s, v, r => rfl
  | .fn f, v, r => rfl
  | .scr ns, v, r => rfl
  | .tup xs, v, r => by
    unfold Rep at r
    unfold Mi.bd
    obtain ⟨a, vs, e, h1, h2⟩ := r
    exact Reps.bd xs vs h2
  | .lst xs, v, r => by
    unfold Rep at r
    unfold Mi.bd
    obtain ⟨a, vs, e, h1, h2, h3⟩ := r
    exact Reps.bd xs vs h3
  | .dct ks ms, v, r => by
    unfold Rep at r
    unfold Mi.bd
    obtain ⟨a, vs, e, h1, h2, h3, h4⟩ := r
    exact Reps.bd ms vs h4
  | .loc l, v, r => by
    unfold Rep at r
    unfold Mi.bd
    obtain ⟨a, e, h1⟩ := r
    exact decide_eq_true (List.getElem?_eq_some_iff.mp h1).1
theorem Reps.bd {G : Gb} {A : Wd} : ∀ (xs : List MV) (vs : List V), Reps G A xs vs → bds A.β.length xs = true
  | [], vs, r => rfl
  | x :: xs, vs, r => by
    unfold Reps at r
    unfold bds
    obtain ⟨v, t, e, h1, h2⟩ := r
    rw [Rep.bd x v h1, Reps.bd xs t h2]
    rfl
end
theorem ORep.bd {G : Gb} {A : Wd} {o : MO} {a : Addr} (r : ORep G A o a) : obd A.β.length o = true := by
  cases o with
  | lst xs => obtain ⟨vs, q, r⟩ := r; exact Reps.bd _ _ r
  | dct ks ms => obtain ⟨vs, q, l, r⟩ := r; exact Reps.bd _ _ r
/-! ### entry -/
abbrev Wd.ent (A : Wd) : Wd := { A with bs := A.mh.length :: A.bs }
theorem les_ent {A : Wd} (n : Nat) : Les A A.ent n := ⟨rfl, fun _ _ _ h => h, fun _ h => h, fun _ h => h⟩
theorem Sim.ent {G : Gb} {A : Wd} (S : Sim G A) : Sim G A.ent where
  len := S.len
  ble := fun b hb => by
    rcases List.mem_cons.mp hb with rfl | hb
    · exact Nat.le_refl _
    · exact S.ble b hb
  top := fun b hb => by
    show b ≤ A.mh.length
    rcases List.mem_cons.mp hb with rfl | hb
    · exact Nat.le_refl _
    · exact S.ble b hb
  obj := fun l o e a q => (S.obj l o e a q).les (les_ent A.β.length) (S.obj l o e a q).bd
  inj := S.inj
  exo := S.exo
  exl := S.exl
  bnd := fun b hb l o hl e => by
    rcases List.mem_cons.mp hb with rfl | hb
    · have hl' : l < A.β.length := by rw [S.len]; exact hl
      have := (S.obj l o e A.β[l] (List.getElem?_eq_getElem hl')).bd
      rw [S.len] at this
      exact this
    · exact S.bnd b hb l o hl e
theorem envs_start {G : Gb} {A : Wd} {args : List MV} {vs : List V} {N : List Str} {ns : Nat} (hN : N.length = ns) (r : Reps G A args vs) : Envs G A (args.map some ++ List.replicate (ns - args.length) none) (L2.start N vs) := by
  have hl := r.len
  refine ⟨by unfold L2.start; simp [hl, hN], fun i v e => ?_⟩
  by_cases hi : i < args.length
  · rw [List.getElem?_append_left (by simpa using hi)] at e
    rw [List.getElem?_map] at e
    cases q : args[i]? with
    | none => rw [q] at e; cases e
    | some x =>
      rw [q] at e
      cases e
      obtain ⟨w, h1, h2⟩ := r.get q
      refine ⟨w, ?_, h2⟩
      unfold L2.start
      rw [List.getElem?_append_left (by rw [List.length_map, ← hl]; exact hi), List.getElem?_map, h1]
      rfl
  · rw [List.getElem?_append_right (by simpa using hi)] at e
    rw [List.getElem?_replicate] at e
    split at e
    · cases e
    · cases e
/-! ### exit -/
abbrev Wd.exi (A B : Wd) : Wd := { B with bs := A.bs }
theorem les_exi {A B : Wd} (n : Nat) : Les B (A.exi B) n := ⟨rfl, fun _ _ _ h => h, fun _ h => h, fun _ h => h⟩
theorem keep_exi {A B : Wd} (k : Keep A.ent B) : Keep A (A.exi B) := ⟨k.ex, k.exn, k.dom, rfl, k.pre, k.obj, k.liv⟩
theorem Sim.exi {G : Gb} {A B : Wd} (SA : Sim G A) (S : Sim G B) (k : Keep A.ent B) : Sim G (A.exi B) where
  len := S.len
  ble := fun b hb => S.ble b (by rw [k.bs]; exact List.mem_cons_of_mem _ hb)
  top := fun b hb => SA.top b hb
  obj := fun l o e a q => (S.obj l o e a q).les (les_exi B.β.length) (S.obj l o e a q).bd
  inj := S.inj
  exo := S.exo
  exl := S.exl
  bnd := fun b hb => S.bnd b (by rw [k.bs]; exact List.mem_cons_of_mem _ hb)
abbrev Wd.cutd (A B : Wd) : Wd := { B with bs := A.bs, mh := B.mh.take A.mh.length, β := B.β.take A.mh.length }
theorem take_lt {α : Type} {xs : List α} {n l : Nat} {x : α} (h : (xs.take n)[l]? = some x) : l < n ∧ xs[l]? = some x := by
  rw [List.getElem?_take] at h
  split at h
  · exact ⟨by assumption, h⟩
  · cases h
theorem cutd_live {A B : Wd} {a : Addr} (h : (A.cutd B).live a) : ∃ (l : Nat) (o : MO), l < A.mh.length ∧ B.mh[l]? = some (some o) ∧ B.β[l]? = some a := by
  obtain ⟨l, o, e1, e2⟩ := h
  obtain ⟨h1, h2⟩ := take_lt e1
  obtain ⟨_, h3⟩ := take_lt e2
  exact ⟨l, o, h1, h2, h3⟩
theorem les_cutd {A B : Wd} : Les B (A.cutd B) A.mh.length := ⟨rfl, fun l a hl h => by
    show (B.β.take A.mh.length)[l]? = some a
    rw [List.getElem?_take, if_pos hl]; exact h, fun a z => let ⟨l, o, _, h2, h3⟩ := cutd_live z; ⟨l, o, h2, h3⟩, fun _ h => h⟩
theorem keep_cutd {G : Gb} {A B : Wd} (SA : Sim G A) (S : Sim G B) (k : Keep A.ent B) : Keep A (A.cutd B) := by
  refine ⟨k.ex, k.exn, k.dom, rfl, ⟨[], ?_⟩, k.obj, fun a z => ?_⟩
  · obtain ⟨t, e⟩ := k.pre
    show B.β.take A.mh.length = A.β ++ []
    have e' : B.β = A.β ++ t := e
    rw [e', ← SA.len, List.take_left', List.append_nil]
    rfl
  · obtain ⟨l, o, _, h2, h3⟩ := cutd_live z
    exact k.liv a ⟨l, o, h2, h3⟩
theorem ent_len {G : Gb} {A B : Wd} (S : Sim G B) (k : Keep A.ent B) : A.mh.length ≤ B.mh.length := S.ble _ (by rw [k.bs]; simp)
theorem Sim.cutd {G : Gb} {A B : Wd} (SA : Sim G A) (S : Sim G B) (k : Keep A.ent B) : Sim G (A.cutd B) where
  len := by
    show (B.β.take A.mh.length).length = (B.mh.take A.mh.length).length
    rw [List.length_take, List.length_take, S.len]
  ble := fun b hb => by
    show b ≤ (B.mh.take A.mh.length).length
    rw [List.length_take]
    have h1 := ent_len S k
    have h2 := SA.ble b hb
    omega
  top := fun b hb => SA.top b hb
  obj := fun l o e a q => by
    obtain ⟨h1, h2⟩ := take_lt e
    obtain ⟨_, h3⟩ := take_lt q
    exact (S.obj l o h2 a h3).les les_cutd (S.bnd _ (by rw [k.bs]; simp) l o h1 h2)
  inj := fun l l' a o o' e1 e2 q1 q2 => S.inj l l' a o o' (take_lt e1).2 (take_lt e2).2 (take_lt q1).2 (take_lt q2).2
  exo := S.exo
  exl := fun a ha z => S.exl a ha (by obtain ⟨l, o, _, h2, h3⟩ := cutd_live z; exact ⟨l, o, h2, h3⟩)
  bnd := fun b hb l o hl e => S.bnd b (by rw [k.bs]; exact List.mem_cons_of_mem _ hb) l o hl (take_lt e).2
section
variable {G : Gb} {A B : Wd}
mutual
theorem frz_rep (SA : Sim G A) (S : Sim G B) : ∀ (k : Nat) (x x' : MV) (v : V), frz A.mh.length B.mh k x = some x' → Rep G B x v → Rep G (A.cutd B) x' v
  | k, .non, x', v, e, r => by unfold frz at e; cases e; exact r
  | k, .bl b, x', v, e, r => by unfold frz at e; cases e; exact r
  | k, .int i, x', v, e, r => by unfold frz at e; cases e; exact r
  | k, .str s, x', v, e, r => by unfold frz at e; cases e; exact r
  | k, .fn f, x', v, e, r => by unfold frz at e; cases e; exact r
  | k, .scr ns, x', v, e, r => by unfold frz at e; cases e; exact Rep.les les_cutd _ _ rfl r
  | k, .tup xs, x', v, e, r => by
    unfold frz at e
    cases q : frzs A.mh.length B.mh k xs with
    | none => rw [q] at e; exact nomatch e
    | some ys =>
      rw [q] at e; cases e
      unfold Rep at r ⊢
      obtain ⟨a, vs, e1, h1, h2⟩ := r
      exact ⟨a, vs, e1, h1, frzs_rep SA S k xs ys vs q h2⟩
  | k, .lst xs, x', v, e, r => by
    unfold frz at e
    cases q : frzs A.mh.length B.mh k xs with
    | none => rw [q] at e; exact nomatch e
    | some ys =>
      rw [q] at e; cases e
      unfold Rep at r ⊢
      obtain ⟨a, vs, e1, h1, h2, h3⟩ := r
      exact ⟨a, vs, e1, h1, ⟨fun z => h2.1 (les_cutd.liv a z), h2.2⟩, frzs_rep SA S k xs ys vs q h3⟩
  | k, .dct ks ms, x', v, e, r => by
    unfold frz at e
    cases q : frzs A.mh.length B.mh k ms with
    | none => rw [q] at e; exact nomatch e
    | some ys =>
      rw [q] at e; cases e
      unfold Rep at r ⊢
      obtain ⟨a, vs, e1, h1, h2, h3, h4⟩ := r
      have r' := frzs_rep SA S k ms ys vs q h4
      exact ⟨a, vs, e1, h1, ⟨fun z => h2.1 (les_cutd.liv a z), h2.2⟩, by rw [h3, h4.len, r'.len], r'⟩
  | 0, .loc l, x', v, e, r => by
    unfold frz at e
    split at e
    · rename_i hl
      cases e
      exact Rep.les les_cutd _ _ (by unfold Mi.bd; exact decide_eq_true hl) r
    · simp at e
  | k + 1, .loc l, x', v, e, r => by
    unfold frz at e
    split at e
    · rename_i hl
      cases e
      exact Rep.les les_cutd _ _ (by unfold Mi.bd; exact decide_eq_true hl) r
    · rename_i hl
      obtain ⟨a, rfl, e2⟩ := r.loc_
      have off : ∀ {o}, B.mh[l]? = some (some o) → ¬ (A.cutd B).live a ∧ a ∉ (A.cutd B).ex := fun {o} ho => by
        refine ⟨fun z => ?_, fun z => S.exl a z ⟨l, o, ho, e2⟩⟩
        obtain ⟨l', o', h1, h2, h3⟩ := cutd_live z
        have := S.inj l' l a o' o h2 ho h3 e2
        omega
      simp only at e
      split at e
      · rename_i xs ho
        cases q : frzs A.mh.length B.mh k xs with
        | none => rw [q] at e; exact nomatch e
        | some ys =>
          rw [q] at e; cases e
          obtain ⟨vs, e3, r3⟩ := S.obj l _ ho a e2
          unfold Rep
          exact ⟨a, vs, rfl, e3, off ho, frzs_rep SA S k xs ys vs q r3⟩
      · rename_i ks ms ho
        cases q : frzs A.mh.length B.mh k ms with
        | none => rw [q] at e; exact nomatch e
        | some ys =>
          rw [q] at e; cases e
          obtain ⟨vs, e3, hl', r3⟩ := S.obj l _ ho a e2
          have r' := frzs_rep SA S k ms ys vs q r3
          unfold Rep
          exact ⟨a, vs, rfl, e3, off ho, by rw [hl', r3.len, r'.len], r'⟩
      · exact nomatch e
  termination_by k x => (k, sizeOf x)
theorem frzs_rep (SA : Sim G A) (S : Sim G B) : ∀ (k : Nat) (xs ys : List MV) (vs : List V), frzs A.mh.length B.mh k xs = some ys → Reps G B xs vs → Reps G (A.cutd B) ys vs
  | k, [], ys, vs, e, r => by unfold frzs at e; cases e; exact r
  | k, x :: xs, ys, vs, e, r => by
    unfold frzs at e
    unfold Reps at r
    obtain ⟨v, t, rfl, h1, h2⟩ := r
    cases q : frz A.mh.length B.mh k x with
    | none => rw [q] at e; exact nomatch e
    | some y =>
      rw [q] at e
      simp only at e
      cases q2 : frzs A.mh.length B.mh k xs with
      | none => rw [q2] at e; exact nomatch e
      | some ys' =>
        rw [q2] at e; cases e
        unfold Reps
        exact ⟨v, t, rfl, frz_rep SA S k x y v q h1, frzs_rep SA S k xs ys' t q2 h2⟩
  termination_by k xs => (k, sizeOf xs)
end
end
/-- the body of a def keeps the word of runD -/
theorem run_ok {G : Gb} {C : CallF} {d : Df} {N : List Str} {vs : List V} {Q : VK} {A : Wd} {args : List MV} {r : MV} {mh' : MHp} (hN : N.length = d.ns) (S : Sim G A) (ra : Reps G A args vs) (e : runD C d args A.mh = some (r, mh')) (q : Post G A mh' r Q) :
    args.length = d.np ∧ tSs G C d.body { nx := fun _ H' => Q .non H', rt := Q } (L2.start N vs) A.H := by
  unfold runD at e
  split at e
  · rename_i hl
    refine ⟨hl, ?_⟩
    split at e
    · cases e
    rename_i fl ρ' mh1 e1
    split at e
    · cases e
    rename_i v e2
    have SE := S.ent
    refine ⟨A.ent, _, fl, ρ', mh1, rfl, SE, (envs_start hN (Reps.les (les_ent A.β.length) _ _ ra.bd ra) : Envs G A.ent (args.map some ++ List.replicate (d.ns - args.length) none) _), ?_, fun B k em SB => ?_⟩
    · rw [hl]; exact e1
    have fin : ∀ x, Rep G B v x → Q x B.H := fun x rx => by
      split at e
      · cases e
        exact q (A.exi B) x (keep_exi k) em (S.exi SB k) (Rep.les (les_exi B.β.length) _ _ rx.bd rx)
      · simp only [Option.map_eq_some_iff] at e
        obtain ⟨w, e3, e4⟩ := e
        cases e4
        refine q (A.cutd B) x (keep_cutd S SB k) ?_ (S.cutd SB k) ?_
        · show B.mh.take _ = _; rw [em]
        · exact frz_rep S SB 8 v _ x (by rw [em]; exact e3) rx
    cases fl with
    | nx =>
      cases e2
      exact fun σ _ => fin .non rep_non
    | rt w =>
      cases e2
      exact fin
    | bk => cases e2
    | ct => cases e2
  · cases e
theorem _root_.L2.PSs.noxM {X : Cx} {sts : List Stmt} {t : TS} (h : PSs X.nox sts t) : PSs X.nox sts t := h
/-! ### the table -/
structure DefOk (P : Program) (w : World) (K : PySem.W.Frag) (mg : Str → Option Value) (base : Heap) (G : Gb) (T : List Df) (f : Nat) (a : Addr) : Prop where
  ex : ∃ (d : Df) (x qual : Str) (st : Stmt) (fd : FuncData) (N ps : List Str), T[f]? = some d ∧ FunD K x qual (defArgs st) (defBody st) (defScope st) [] [] a fd ∧ FnScope N ps (defScope st) ∧ N.length = d.ns ∧ ps.length = d.np ∧ Binds K fd ps [] ∧
    ∀ (k : Nat) (C : CallF) (cdv : Value) (A : Around) (outer : List PySem.Env) (s : Shared) (H : Hp) (E : XK), (∀ f a, G.fa f = some a → FnC P w K mg base G C k f a) → Room k (A.deeper (envOfC qual (defScope st) s.heap.objs.size a cdv)) →
      PSs (cxOf CX0 P w K mg base N qual (defScope st) a cdv A outer s H E).nox (defBody st) (tSs G C d.body)
theorem fnC_of {P : Program} {w : World} {K : PySem.W.Frag} {mg : Str → Option Value} {base : Heap} {G : Gb} {T : List Df} (h : ∀ f a, G.fa f = some a → DefOk P w K mg base G T f a) : ∀ k f a, G.fa f = some a → FnC P w K mg base G (callM T k) k f a := by
  intro k
  induction k with
  | zero =>
    intro f a hf
    obtain ⟨d, x, qual, st, fd, N, ps, hd, F, S, hN, hp, hb, hbody⟩ := (h f a hf).ex
    refine ⟨fd, ps, ⟨fun vs H Q E q => q.1, fun A outer s H args us vs Q E _ _ _ _ q => ?_⟩, F.kp, hb, fun args mh r e => ?_⟩
    · obtain ⟨_, A, args, r, mh', _, _, _, e, _⟩ := q
      unfold callM at e
      cases e
    · unfold callM at e
      cases e
  | succ k ih =>
    intro f a hf
    obtain ⟨d, x, qual, st, fd, N, ps, hd, F, S, hN, hp, hb, hbody⟩ := (h f a hf).ex
    refine ⟨fd, ps, F.ok S (fun vs H Q E q => q.1) (fun cdv A outer s H vs Q E hr q => ⟨_, (hbody k (callM T k) cdv A outer s H E ih hr).nox, ?_⟩), F.kp, hb, fun args mh r e => ?_⟩
    · obtain ⟨hl, W, args, r, mh', rfl, SW, ra, e, q⟩ := q
      unfold callM at e
      rw [hd] at e
      exact (run_ok hN SW ra e q).2
    · unfold callM at e
      rw [hd] at e
      simp only [runD] at e
      split at e
      · rename_i hl; rw [hl, hp]
      · cases e
end L2.Mi

set_option Elab.async false
set_option linter.all false
set_option maxRecDepth 100000
set_option maxHeartbeats 4000000
/-! Mini12: short words for printed derivations. -/
namespace L2.Mi
open PySem PySem.Spec PyProof.Rows

theorem bt_len : bootBuiltins "len" = some (.builtin "len") := by decide +kernel
theorem bt_abs : bootBuiltins "abs" = some (.builtin "abs") := by decide +kernel
theorem bt_all : bootBuiltins "all" = some (.builtin "all") := by decide +kernel
theorem bt_any : bootBuiltins "any" = some (.builtin "any") := by decide +kernel
theorem bt_sum : bootBuiltins "sum" = some (.builtin "sum") := by decide +kernel
theorem bt_max : bootBuiltins "max" = some (.builtin "max") := by decide +kernel
theorem bt_min : bootBuiltins "min" = some (.builtin "min") := by decide +kernel
theorem bt_isinstance : bootBuiltins "isinstance" = some (.builtin "isinstance") := by decide +kernel
theorem bt_int : bootBuiltins "int" = some (.type "int") := by decide +kernel
theorem bt_str : bootBuiltins "str" = some (.type "str") := by decide +kernel
theorem bt_bool : bootBuiltins "bool" = some (.type "bool") := by decide +kernel
theorem bt_tuple : bootBuiltins "tuple" = some (.type "tuple") := by decide +kernel
theorem bt_list : bootBuiltins "list" = some (.type "list") := by decide +kernel
theorem bt_dict : bootBuiltins "dict" = some (.type "dict") := by decide +kernel
section
variable {G : Gb} {C : CallF} {X : Cx} {pos p : Pos} {e a b c : Expr} {ma mb mc m : ME} {k : Nat}
/-- the i-th name -/
theorem sv (i : Nat) {x : Str} (hN : X.N[i]? = some x := by rfl) (hv : Vis X.env.scope x := by first | exact Or.inl rfl | exact Or.inr (Or.inl rfl) | exact Or.inr (Or.inr rfl)) (hd : (x == ("__debug__" : Str)) = false := by decide)
    (hcd : (x == ("__classdict__" : Str)) = false := by decide) : PE X (.Name x pos) (tE G C (.var i)) := se_var hN hv hd hcd
theorem sgl {x : Str} {i : Int} (hm : ∃ t, X.mg x = some (.int i t)) (hg : Gl X x := by rfl) (hd : (x == ("__debug__" : Str)) = false := by decide) : PE X (.Name x pos) (tE G C (.c (.int i))) := by
  obtain ⟨t, h⟩ := hm
  exact se_glob hg h hd
theorem sfn {x : Str} (f : Nat) {a : Addr} (hm : X.mg x = some (.ref a)) (hf : G.fa f = some a := by rfl) (hg : Gl X x := by rfl) (hd : (x == ("__debug__" : Str)) = false := by decide) : PE X (.Name x pos) (tE G C (.c (.fn f))) := se_fn hg hm hf hd
theorem scall {x : Str} (f : Nat) {fa : Addr} {es : List Expr} {ms : List ME} (F : ∀ f a, G.fa f = some a → FnC X.prog X.w X.K X.mg X.base G C k f a) (hr : Room k X.A) (hm : X.mg x = some (.ref fa)) (ha : PA X (e :: es) (tEs G C ms)) (hf : G.fa f = some fa := by rfl) (hg : Gl X x := by rfl)
    (hdb : (x == ("__debug__" : Str)) = false := by decide) (he : starEach (e :: es) X.env = (false, eval e X.env) :: starEach es X.env := by rfl) (hpl : (backTo pos (starEach es X.env)).any (·.1) = false := by rfl) :
    PE X (.Call (.Name x p) (e :: es) [] pos) (tE G C (.call f ms)) := se_call (F f fa hf) hr hg hm ha hdb he hpl
theorem scallv {x : Str} (i : Nat) {es : List Expr} {ms : List ME} (F : ∀ f fa, G.fa f = some fa → FnC X.prog X.w X.K X.mg X.base G C k f fa) (hr : Room k X.A) (ha : PA X (e :: es) (tEs G C ms)) (hN : X.N[i]? = some x := by rfl) (hv : Vis X.env.scope x := by first | exact Or.inl rfl | exact Or.inr (Or.inl rfl) | exact Or.inr (Or.inr rfl))
    (hdb : (x == ("__debug__" : Str)) = false := by decide) (hcd : (x == ("__classdict__" : Str)) = false := by decide) (he : starEach (e :: es) X.env = (false, eval e X.env) :: starEach es X.env := by rfl) (hpl : (backTo pos (starEach es X.env)).any (·.1) = false := by rfl) :
    PE X (.Call (.Name x p) (e :: es) [] pos) (tE G C (.callv i ms)) := se_callv F hr hN hv ha hdb hcd he hpl
theorem sgn (i : Nat) {x : Str} (hN : X.N.Nodup) (hi : X.N[i]? = some x := by rfl) (hx : Loc X.env.scope x := by first | exact Or.inl rfl | exact Or.inr rfl) (hf : X.fn x = true ∨ X.env.scope.names.lookup x = some .local := by first | exact .inl rfl | exact .inr rfl) : PG X (.Name x pos) (tG G (.nm i)) := sg_name hN hi hx hf
theorem sset (i : Nat) {x : Str} {pos' : Pos} (hN : X.N.Nodup) (he : PE X e (tE G C m)) (hi : X.N[i]? = some x := by rfl) (hx : Loc X.env.scope x := by first | exact Or.inl rfl | exact Or.inr rfl) (hs : swapsWith e (some (.Name x pos')) pos.line X.env = pure false := by rfl) (hf : X.fn x = true ∨ X.env.scope.names.lookup x = some .local := by first | exact .inl rfl | exact .inr rfl) :
    PS X (.Assign [.Name x pos'] e pos) (tS G C (.set (.nm i) m)) := ss_set hN hi hx he hs hf
theorem spar (i j : Nat) {x y : Str} {px py pt : Pos} {kt k2 pt2} (hN : X.N.Nodup) (ha : PE X a (tE G C ma)) (hb : PE X b (tE G C mb)) (hw : swappedStores [.Tuple [.Name x px, .Name y py] kt pt] (.Tuple [a, b] k2 pt2) X.env = pure (some [x, y]))
    (hc : X.calm = true := by rfl) (hi : X.N[i]? = some x := by rfl) (hj : X.N[j]? = some y := by rfl) (hij : i ≠ j := by decide)
    (hx : X.env.scope.names.lookup x = some .local := by rfl) (hy : X.env.scope.names.lookup y = some .local := by rfl) 
    (hs : swapsWithSole [.Tuple [.Name x px, .Name y py] kt pt] (.Tuple [a, b] k2 pt2) pos.line X.env = pure false := by rfl)
    (hs1 : starEach [a, b] X.env = (false, eval a X.env) :: starEach [b] X.env := by rfl) (hs2 : starEach [b] X.env = (false, eval b X.env) :: starEach [] X.env := by rfl) :
    PS X (.Assign [.Tuple [.Name x px, .Name y py] kt pt] (.Tuple [a, b] k2 pt2) pos) (tS G C (.par i j ma mb)) := ss_par hc hN hi hj hij hx hy ha hb hw hs hs1 hs2
theorem saug (i : Nat) {x : Str} {o : Op} {pos' : Pos} (ho : o = .add ∨ o = .sub) (hN : X.N.Nodup) (he : PE X e (tE G C m)) (hi : X.N[i]? = some x := by rfl) (hx : Loc X.env.scope x := by first | exact Or.inl rfl | exact Or.inr rfl) (hf : X.fn x = true ∨ X.env.scope.names.lookup x = some .local := by first | exact .inl rfl | exact .inr rfl) :
    PS X (.AugAssign (.Name x pos') (opOf o) e pos) (tS G C (.aug i o m)) := ss_aug ho hN hi hx he hf
/-! built-ins -/
theorem sb_len (hm : X.mg "len" = none) (hK : X.K = G.K) {es : List Expr} {ms : List ME} (ha : PA X (e :: es) (tEs G C ms)) (hg : Gl X "len" := by rfl) (he : starEach (e :: es) X.env = (false, eval e X.env) :: starEach es X.env := by rfl) (hpl : (backTo pos (starEach es X.env)).any (·.1) = false := by rfl) : PE X (.Call (.Name "len" p) (e :: es) [] pos) (tE G C (.bi .len ms)) := se_biB bi_len call_len hK hg hm bt_len ha (by decide) (by decide) he hpl
theorem sb_abs (hm : X.mg "abs" = none) (hK : X.K = G.K) {es : List Expr} {ms : List ME} (ha : PA X (e :: es) (tEs G C ms)) (hg : Gl X "abs" := by rfl) (he : starEach (e :: es) X.env = (false, eval e X.env) :: starEach es X.env := by rfl) (hpl : (backTo pos (starEach es X.env)).any (·.1) = false := by rfl) : PE X (.Call (.Name "abs" p) (e :: es) [] pos) (tE G C (.bi .abs ms)) := se_biB bi_abs call_abs hK hg hm bt_abs ha (by decide) (by decide) he hpl
theorem sb_all (hm : X.mg "all" = none) (hK : X.K = G.K) {es : List Expr} {ms : List ME} (ha : PA X (e :: es) (tEs G C ms)) (hc : X.calm = true := by rfl) (hg : Gl X "all" := by rfl) (he : starEach (e :: es) X.env = (false, eval e X.env) :: starEach es X.env := by rfl) (hpl : (backTo pos (starEach es X.env)).any (·.1) = false := by rfl) : PE X (.Call (.Name "all" p) (e :: es) [] pos) (tE G C (.bi .all ms)) := se_biB bi_all (cr_all hc) hK hg hm bt_all ha (by decide) (by decide) he hpl
theorem sb_any (hm : X.mg "any" = none) (hK : X.K = G.K) {es : List Expr} {ms : List ME} (ha : PA X (e :: es) (tEs G C ms)) (hc : X.calm = true := by rfl) (hg : Gl X "any" := by rfl) (he : starEach (e :: es) X.env = (false, eval e X.env) :: starEach es X.env := by rfl) (hpl : (backTo pos (starEach es X.env)).any (·.1) = false := by rfl) : PE X (.Call (.Name "any" p) (e :: es) [] pos) (tE G C (.bi .any ms)) := se_biB bi_any (cr_any hc) hK hg hm bt_any ha (by decide) (by decide) he hpl
theorem sb_sum (hm : X.mg "sum" = none) (hK : X.K = G.K) {es : List Expr} {ms : List ME} (ha : PA X (e :: es) (tEs G C ms)) (hc : X.calm = true := by rfl) (hg : Gl X "sum" := by rfl) (he : starEach (e :: es) X.env = (false, eval e X.env) :: starEach es X.env := by rfl) (hpl : (backTo pos (starEach es X.env)).any (·.1) = false := by rfl) : PE X (.Call (.Name "sum" p) (e :: es) [] pos) (tE G C (.bi .sum ms)) := se_biB bi_sum (cr_sum hc) hK hg hm bt_sum ha (by decide) (by decide) he hpl
theorem sb_int (hm : X.mg "int" = none) (hK : X.K = G.K) {es : List Expr} {ms : List ME} (ha : PA X (e :: es) (tEs G C ms)) (hg : Gl X "int" := by rfl) (he : starEach (e :: es) X.env = (false, eval e X.env) :: starEach es X.env := by rfl) (hpl : (backTo pos (starEach es X.env)).any (·.1) = false := by rfl) : PE X (.Call (.Name "int" p) (e :: es) [] pos) (tE G C (.bi .int ms)) := se_biT bi_int call_int1 hK hg hm bt_int ha (by decide) (by decide) he hpl
theorem sb_str (hm : X.mg "str" = none) (hK : X.K = G.K) {es : List Expr} {ms : List ME} (ha : PA X (e :: es) (tEs G C ms)) (hg : Gl X "str" := by rfl) (he : starEach (e :: es) X.env = (false, eval e X.env) :: starEach es X.env := by rfl) (hpl : (backTo pos (starEach es X.env)).any (·.1) = false := by rfl) : PE X (.Call (.Name "str" p) (e :: es) [] pos) (tE G C (.bi .strI ms)) := se_biT bi_strI call_str_int hK hg hm bt_str ha (by decide) (by decide) he hpl
theorem sb_tuple (hm : X.mg "tuple" = none) (hK : X.K = G.K) {es : List Expr} {ms : List ME} (ha : PA X (e :: es) (tEs G C ms)) (hg : Gl X "tuple" := by rfl) (he : starEach (e :: es) X.env = (false, eval e X.env) :: starEach es X.env := by rfl) (hpl : (backTo pos (starEach es X.env)).any (·.1) = false := by rfl) : PE X (.Call (.Name "tuple" p) (e :: es) [] pos) (tE G C (.bi .tuple ms)) := se_biT bi_tuple call_tuple_of hK hg hm bt_tuple ha (by decide) (by decide) he hpl
theorem sb_list (hm : X.mg "list" = none) (hK : X.K = G.K) {es : List Expr} {ms : List ME} (ha : PA X (e :: es) (tEs G C ms)) (hc : X.calm = true := by rfl) (hg : Gl X "list" := by rfl) (he : starEach (e :: es) X.env = (false, eval e X.env) :: starEach es X.env := by rfl) (hpl : (backTo pos (starEach es X.env)).any (·.1) = false := by rfl) : PE X (.Call (.Name "list" p) (e :: es) [] pos) (tE G C (.bi .list ms)) := se_biT bi_list (call_lstC hc) hK hg hm bt_list ha (by decide) (by decide) he hpl
theorem sisi (t : Ty) {y : Str} {p2 : Pos} (hm : X.mg "isinstance" = none) (hm2 : X.mg y = none) (hv2 : bootBuiltins y = some (.type (tyN t))) (hK : X.K = G.K) (ha : PE X e (tE G C m)) (hg : Gl X "isinstance" := by rfl) (hg2 : Gl X y := by rfl)
    (hn2 : y ≠ "__name__" := by decide) (hdb2 : (y == ("__debug__" : Str)) = false := by decide)
    (he : starEach [e, .Name y p2] X.env = (false, eval e X.env) :: starEach [.Name y p2] X.env := by rfl) (hpl : (backTo pos (starEach [.Name y p2] X.env)).any (·.1) = false := by rfl) :
    PE X (.Call (.Name "isinstance" p) [e, .Name y p2] [] pos) (tE G C (.isi m t)) := se_isi hK hg hm bt_isinstance hg2 hm2 hv2 ha (by decide) (by decide) hn2 hdb2 he hpl
/-! methods -/
theorem sm_append {apos cpos : Pos} {es : List Expr} {ms : List ME} (hK : X.K = G.K) (ho : PE X a (tE G C m)) (ha : PA X (e :: es) (tEs G C ms)) (hbase : attributeBase a "append" X.env (eval a X.env) = eval a X.env := by rfl)
    (hfew : ((backTo cpos (starEach (e :: es) X.env)).all (fun x => !x.1) && (backToKw cpos (keywordEach [] X.env)).all (fun x => x.1.isSome)
      && decide ((e :: es).length + ([] : List Keyword).length + (if ([] : List Keyword).isEmpty then 0 else 1) < 30)) = true := by rfl)
    (hline : (apos.endLine == cpos.line) = true := by rfl) (hs : starEach (e :: es) X.env = (false, eval e X.env) :: starEach es X.env := by rfl) (hplain : (backTo cpos (starEach es X.env)).any (·.1) = false := by rfl) :
    PE X (.Call (.Attribute a "append" apos) (e :: es) [] cpos) (tE G C (.meth .append m ms)) := se_meth me_append hK PySem.F.plainAttrs_list PySem.F.slot_list_append PySem.F.type_list_append mt_append ho ha hbase hfew hline hs hplain
theorem sm_extend {apos cpos : Pos} {es : List Expr} {ms : List ME} (hK : X.K = G.K) (ho : PE X a (tE G C m)) (ha : PA X (e :: es) (tEs G C ms)) (hbase : attributeBase a "extend" X.env (eval a X.env) = eval a X.env := by rfl)
    (hfew : ((backTo cpos (starEach (e :: es) X.env)).all (fun x => !x.1) && (backToKw cpos (keywordEach [] X.env)).all (fun x => x.1.isSome)
      && decide ((e :: es).length + ([] : List Keyword).length + (if ([] : List Keyword).isEmpty then 0 else 1) < 30)) = true := by rfl)
    (hline : (apos.endLine == cpos.line) = true := by rfl) (hs : starEach (e :: es) X.env = (false, eval e X.env) :: starEach es X.env := by rfl) (hplain : (backTo cpos (starEach es X.env)).any (·.1) = false := by rfl) :
    PE X (.Call (.Attribute a "extend" apos) (e :: es) [] cpos) (tE G C (.meth .extend m ms)) := se_meth me_extend hK PySem.F.plainAttrs_list PySem.F.slot_list_extend PySem.F.type_list_extend mt_extB ho ha hbase hfew hline hs hplain
theorem sm_pop0 {apos cpos : Pos} (hK : X.K = G.K) (ho : PE X a (tE G C m)) (hbase : attributeBase a "pop" X.env (eval a X.env) = eval a X.env := by rfl) (hline : (apos.endLine == cpos.line) = true := by rfl) :
    PE X (.Call (.Attribute a "pop" apos) [] [] cpos) (tE G C (.meth .pop m [])) := se_meth0 me_pop hK PySem.F.plainAttrs_list PySem.F.slot_list_pop PySem.F.type_list_pop mt_pop ho hbase hline
theorem sm_pop1 {apos cpos : Pos} {es : List Expr} {ms : List ME} (hK : X.K = G.K) (ho : PE X a (tE G C m)) (ha : PA X (e :: es) (tEs G C ms)) (hbase : attributeBase a "pop" X.env (eval a X.env) = eval a X.env := by rfl)
    (hfew : ((backTo cpos (starEach (e :: es) X.env)).all (fun x => !x.1) && (backToKw cpos (keywordEach [] X.env)).all (fun x => x.1.isSome)
      && decide ((e :: es).length + ([] : List Keyword).length + (if ([] : List Keyword).isEmpty then 0 else 1) < 30)) = true := by rfl)
    (hline : (apos.endLine == cpos.line) = true := by rfl) (hs : starEach (e :: es) X.env = (false, eval e X.env) :: starEach es X.env := by rfl) (hplain : (backTo cpos (starEach es X.env)).any (·.1) = false := by rfl) :
    PE X (.Call (.Attribute a "pop" apos) (e :: es) [] cpos) (tE G C (.meth .popAt m ms)) := se_meth me_popAt hK PySem.F.plainAttrs_list PySem.F.slot_list_pop PySem.F.type_list_pop mt_popAt ho ha hbase hfew hline hs hplain
theorem sm_upper {apos cpos : Pos} (hK : X.K = G.K) (ho : PE X a (tE G C m)) (hbase : attributeBase a "upper" X.env (eval a X.env) = eval a X.env := by rfl) (hline : (apos.endLine == cpos.line) = true := by rfl) :
    PE X (.Call (.Attribute a "upper" apos) [] [] cpos) (tE G C (.meth .upper m [])) := se_meth0 me_upper hK PySem.F.plainAttrs_str PySem.F.slot_str_upper PySem.F.type_str_upper mt_upper ho hbase hline
end
end L2.Mi

set_option Elab.async false
set_option linter.all false
set_option maxRecDepth 100000
set_option maxHeartbeats 4000000
/-! Mini13: t[::-1] of a tuple. -/
namespace L2.Mi
open PySem PySem.Spec PyProof.Rows
section
variable {prog : Program} {w : World} {A : Around} {E : Value → Shared → Prop} {s : Shared}
theorem adjust_back (n : Nat) : Builtin.Slice.sliceAdjust none none (-1) (n : Int) = ((n : Int) - 1, -1) := by
  unfold Builtin.Slice.sliceAdjust
  simp
theorem places_back (n : Nat) : Builtin.Slice.slicePlaces ((n : Int) - 1) (-1) (-1) = n := by
  unfold Builtin.Slice.slicePlaces
  simp
  omega
theorem applied_back {sl : Addr} {vk : Value} {n : Nat} {Q : Int × Int × Nat → Shared → Prop} (hs : s.heap.IsSliceOf sl .none .none vk) (pk : IsPart vk (some (-1))) (h : Q ((n : Int) - 1, -1, n) s) :
    wpAny (model prog w) A (Builtin.Slice.sliceApplied (.ref sl) (pure (n : Int))) Q E s := by
  obtain ⟨os, hos, hcs, hds⟩ := id hs
  unfold Builtin.Slice.sliceApplied Builtin.Slice.sliceFields
  refine wpAny_bind (wpAny_bind (wpAny_field hos hds (x := .none) rfl (wpAny_bind (wpAny_field hos hds (x := .none) rfl (wpAny_bind (wpAny_field hos hds (x := vk) rfl (wpAny_pure ?_)))))))
  refine wpAny_bind (HT.slicePart_ pk ?_)
  show wpAny _ _ (if ((-1 : Int) == 0) = true then _ else _) _ _ s
  rw [if_neg (by decide)]
  refine wpAny_bind (HT.slicePart_ .none (wpAny_bind (HT.slicePart_ .none (wpAny_bind (wpAny_pure ?_)))))
  show wpAny _ _ (match Builtin.Slice.sliceAdjust none none (-1) (n : Int) with | (lo, hi) => pure (lo, (-1 : Int), Builtin.Slice.slicePlaces lo hi (-1))) _ _ s
  rw [adjust_back n]
  show wpAny _ _ (pure ((n : Int) - 1, (-1 : Int), Builtin.Slice.slicePlaces ((n : Int) - 1) (-1) (-1))) _ _ s
  rw [places_back]
  exact wpAny_pure h
theorem pick_back (xs : Array Value) : ((List.range xs.size).filterMap fun (m : Nat) => xs[(((xs.size : Int) - 1) + (m : Int) * (-1)).toNat]?).toArray = xs.toList.reverse.toArray := by
  have cong : ∀ {l : List Nat} {f g : Nat → Option Value}, (∀ m ∈ l, f m = g m) → l.filterMap f = l.filterMap g := fun {l f g} h => by
    induction l with
    | nil => rfl
    | cons a l ih => rw [List.filterMap_cons, List.filterMap_cons, h a (by simp), ih fun m hm => h m (List.mem_cons_of_mem _ hm)]
  have e : ((List.range xs.size).filterMap fun (m : Nat) => xs[(((xs.size : Int) - 1) + (m : Int) * (-1)).toNat]?) = ((List.range xs.size).map fun k => xs.size - 1 - k).filterMap (xs[·]?) := by
    rw [List.filterMap_map]
    refine cong fun m hm => ?_
    have : (((xs.size : Int) - 1) + (m : Int) * (-1)).toNat = xs.size - 1 - m := by
      have := List.mem_range.mp hm
      omega
    rw [this]
    rfl
  rw [e, PySem.W.krv_range, List.filterMap_reverse, PySem.W.krv_all]
theorem getItem_back {t sl : Addr} {items : Array Value} {vk : Value} {Q : Value → Shared → Prop} (ht : IsTup s.heap t items) (hs : s.heap.IsSliceOf sl .none .none vk) (pk : IsPart vk (some (-1)))
    (h : Q (.ref s.heap.objs.size) { s with heap := s.heap.push { cls := .type "tuple", data := .seq items.toList.reverse.toArray } }) (hsz : items.size ≤ sizeLine) : wpAny (model prog w) A (getItem (.ref t) (.ref sl)) Q E s := by
  have hok : sizeOk (.seq items.toList.reverse.toArray) := by
    show items.toList.reverse.toArray.size ≤ sizeLine
    rw [List.size_toArray, List.length_reverse, Array.length_toList]
    exact hsz
  obtain ⟨os, hos, hcs, hds⟩ := id hs
  have hTs : s.TypeIs (.ref sl) "slice" := ⟨os, hos, hcs⟩
  unfold getItem
  try with_reducible refine wpAny_holding ?_
  first | refine wpAny_bind (wpAny_pure ?_) | skip
  refine wpAny_bind (wpAny_sequenceKey ht.typeIs (by decide) ?_)
  refine wpAny_bind (wpAny_callSpecial?_slot (name := Str.ofString "__getitem__") ht.typeIs PyProof.Rows.slot_tuple_getitem
    (wpAny_call_entry PyProof.Rows.slot_tuple_getitem ht.typeIs entry_tuple_getitem ?_ (args_tuple_getitem _ _)))
  show wpAny _ _ (Builtin.Tuple.tupleItemsOf (.ref t) >>= _) _ _ s
  refine wpAny_bind (tupleItemsOf_ ht ?_)
  refine wpAny_bind (wpAny_typeOf hTs ?_)
  rw [if_pos (by decide)]
  refine wpAny_bind (applied_back hs pk ?_)
  have hno : ¬ ((((items.size : Int) - 1) == 0 && (-1 : Int) == 1 && items.size == items.size) = true) := by
    have : ((-1 : Int) == 1) = false := by decide
    rw [this]; simp
  show wpAny _ _ (if (((items.size : Int) - 1) == 0 && (-1 : Int) == 1 && items.size == items.size) = true then _ else _) _ _ s
  rw [if_neg hno, pick_back]
  first
    | exact wpAny_bind (m := Builtin.Tuple.tupleExact _) (wpAny_newObj_type (wpAny_pure ⟨_, rfl, wpAny_pure h⟩) hok)
    | exact wpAny_bind (m := Builtin.Tuple.tupleExact _) (wpAny_newObj_type (wpAny_bind (wpAny_pure (wpAny_pure ⟨_, rfl, wpAny_pure h⟩))) hok)
    | exact wpAny_bind (wpAny_bind (m := Builtin.Tuple.tupleExact _) (wpAny_newObj_type (wpAny_pure (wpAny_pure ⟨_, rfl, wpAny_pure h⟩)) hok))
    | exact wpAny_bind (wpAny_bind (m := Builtin.Tuple.tupleExact _) (wpAny_newObj_type (wpAny_pure ⟨_, rfl, wpAny_pure h⟩) hok))
end
section
variable {G : Gb} {C : CallF} {X : Cx} {pos p2 p3 p4 : Pos} {e : Expr} {m : ME} {j}
def tRev (K : PySem.W.Frag) (te : TE) : TE := fun σ H Q => te σ H fun x H1 => ∃ a xs, x = .ref a ∧ SqT K H1 a xs ∧ ∀ p, H1 p = none → Q (.ref p) (upd H1 p (.tup xs.reverse))
theorem pe_rev {te : TE} (he : PE X e te) : PE X (.Subscript e (.Slice none none (some (.UnaryOp .USub (.Constant (.int 1) j p3) p4)) p2) pos) (tRev X.K te) := by
  refine ⟨fun pins s σ H Q I h => ?_⟩
  refine Subscript_ (thn (he.run pins s σ H _ I h) fun v s1 ⟨x, H1, I1, r1, q1⟩ => ?_)
  obtain ⟨a, xs, rfl, hx, q⟩ := q1
  cases r1
  refine wpAny_Slice ?_
  rw [evalPart_none]
  refine wpAny_pure (wpAny_pure ?_)
  refine thn ((po_some (pe_un un_neg (pe_int (i := 1)))).run pins s1 σ H1 (fun k H2 => k = some (-1) ∧ H2 = H1) I1 ⟨1, rfl, -1, rfl, rfl, rfl⟩) fun vk s3 ⟨k, H3, I3, pk, ek, eH⟩ => ?_
  subst ek eH
  have I4 : Inv X pins σ H3 { s3 with heap := s3.heap.push { cls := .type "slice", data := .fields #[.none, .none, vk] } } := I3.kept (t' := s3.toks) fun b ob q => Heap.get?_push_of_some _ q
  obtain ⟨its, r, ht, hz⟩ := I4.tuple hx
  have hlen : its.toArray.size = xs.length := by rw [List.size_toArray]; exact r.length.symm
  show wpAny (model X.prog X.w) X.A (subscriptTail e (.Slice none none _ p2) (.ref a) (.ref s3.heap.objs.size)) (EP X pins σ Q) X.xe { s3 with heap := s3.heap.push { cls := .type "slice", data := .fields #[.none, .none, vk] } }
  refine tail_any (ops := [.ref a, .ref s3.heap.objs.size]) ht.typeIs PyProof.Rows.slot_tuple_getitem.lookup ?_ (by with_unfolding_all rfl)
  refine getItem_back ht (Heap.IsSliceOf.new ..) pk ?_ (by rw [hlen]; exact hz)
  refine ⟨V.ref _, _, I4.laid (t' := s3.toks) (o := .tup xs.reverse) (fun b ob q => Heap.get?_push_of_some _ q) (Nat.le_refl _) ?_, rfl, q _ (I4.hok.fresh (Nat.le_refl _))⟩
  exact ⟨by rw [List.length_reverse]; exact hz, _, r.reverse, IsTup.new _ _⟩
theorem Reps.reverse {W : Wd} {xs : List MV} {vs : List V} (h : Reps G W xs vs) : Reps G W xs.reverse vs.reverse := by
  refine Reps.of (by rw [List.length_reverse, List.length_reverse, h.len]) fun i x v e1 e2 => ?_
  have l1 : i < xs.length := by
    have := (List.getElem?_eq_some_iff.mp e1).1
    simpa using this
  have l2 : i < vs.length := by rw [← h.len]; exact l1
  rw [List.getElem?_reverse l1] at e1
  rw [List.getElem?_reverse l2, ← h.len] at e2
  exact h.at e1 e2
theorem se_rev (hK : X.K = G.K) (he : PE X e (tE G C m)) : PE X (.Subscript e (.Slice none none (some (.UnaryOp .USub (.Constant (.int 1) j p3) p4)) p2) pos) (tE G C (.rev m)) := by
  refine (pe_rev he).mono fun σ H Q h => ?_
  obtain ⟨A, ρ, v, mh', rfl, S, N, e, q⟩ := h
  simp only [ev] at e
  split at e
  · rename_i xs mh1 e1
    cases e
    refine tE.go S N e1 fun B x k em SB _ r => ?_
    obtain ⟨a, vs, rfl, h1, h2⟩ := r.tup_
    rw [hK]
    refine ⟨a, vs, rfl, h1, fun p hp => ?_⟩
    have q' := Post.step q k
    rw [← em] at q'
    exact q'.newTup SB h2.reverse hp
  · cases e
end
end L2.Mi

set_option Elab.async false
set_option linter.all false
set_option maxRecDepth 100000
set_option maxHeartbeats 4000000
/-! Mini14: the law itself. -/
namespace L2.Mi
open PySem PySem.Spec PyProof.Rows
theorem fnOk_of {P : Program} {w : World} {K : PySem.W.Frag} {mg : Str → Option Value} {base : Heap} {G : Gb} {T : List Df} {k f : Nat} {a : Addr} {d : Df} {x qual : Str} {st : Stmt} {fd : FuncData} {N ps : List Str}
    (ih : ∀ f a, G.fa f = some a → FnC P w K mg base G (callM T k) k f a) (hd : T[f]? = some d) (F : FunD K x qual (defArgs st) (defBody st) (defScope st) [] [] a fd) (S : FnScope N ps (defScope st)) (hN : N.length = d.ns)
    (hbody : ∀ (k : Nat) (C : CallF) (cdv : Value) (A : Around) (outer : List PySem.Env) (s : Shared) (H : Hp) (E : XK), (∀ f a, G.fa f = some a → FnC P w K mg base G C k f a) → Room k (A.deeper (envOfC qual (defScope st) s.heap.objs.size a cdv)) →
      PSs (cxOf CX0 P w K mg base N qual (defScope st) a cdv A outer s H E).nox (defBody st) (tSs G C d.body)) : FnOk P w K mg base CX0 (k + 1) a fd ps (spC G (callM T (k + 1)) f ps.length) := by
  refine F.ok S (fun vs H Q E q => q.1) (fun cdv A outer s H vs Q E hr q => ⟨_, (hbody k (callM T k) cdv A outer s H E ih hr).nox, ?_⟩)
  obtain ⟨hl, W, args, r, mh', rfl, SW, ra, e, q⟩ := q
  unfold callM at e
  rw [hd] at e
  exact (run_ok hN SW ra e q).2
theorem scr_noH {K : PySem.W.Frag} {H : Hp} {a : Addr} {xs : List V} (h : SqL K H a xs) : Rd H a (.lst xs) ∨ SqL K noH a xs := by
  rcases h with h | h
  · exact .inl h
  · exact .inr (.inr h)
/-- the law's promise -/
theorem sp_law {G : Gb} {C : CallF} {f : Nat} {mh' : MHp} {H : Hp} {a : Addr} {ns : List Int} (e : C f [.scr ns] [] = some (.bl true, mh')) (h : SqL G.K H a (ns.map V.int)) {E : XK} : spC G C f 1 [.ref a] H (fun v _ => v = .bl true) E := by
  refine ⟨rfl, ⟨H, [], [], [], []⟩, [.scr ns], .bl true, mh', rfl, ?_, ?_, e, fun B x _ _ _ r => r.bl_⟩
  · exact ⟨rfl, fun b hb => by simp at hb, fun b hb => by simp at hb, fun l o e => by simp at e, fun l l' a o o' e => by simp at e, fun a ha => by simp at ha, fun a ha => by simp at ha, fun b hb => by simp at hb⟩
  · refine Reps.one ?_
    unfold Rep
    refine ⟨a, rfl, ?_⟩
    rcases scr_noH h with h | h
    · refine .inl ⟨h, fun z => ?_, fun z => by simp at z⟩
      obtain ⟨l, o, e, _⟩ := z
      simp at e
    · exact .inr h
end L2.Mi

set_option Elab.async false
set_option linter.all false
set_option maxRecDepth 100000
set_option maxHeartbeats 4000000

namespace L2.Mi.k01
open PySem PySem.Spec PyProof.Rows L2.Mi
/-! the text by places -/
def top (i : Nat) : Stmt := PySem.Challenge.pw_termwright_k01_signs_and_terms.main.body.getD i (.Pass ⟨0, 0, 0, 0⟩)
abbrev s_is_whole : Stmt := top 5
abbrev s_are_signs_of_text : Stmt := top 6
abbrev s_is_sign : Stmt := top 7
abbrev s_is_variable : Stmt := top 8
abbrev s_is_tongue : Stmt := top 9
abbrev s_places_of : Stmt := top 10
abbrev s_nodes : Stmt := top 11
abbrev s_is_term : Stmt := top 12
abbrev s_l_state : Stmt := top 14
abbrev s_l_take : Stmt := top 15
abbrev s_l_pick : Stmt := top 16
abbrev s_l_tongue : Stmt := top 17
abbrev s_l_term : Stmt := top 18
abbrev s_l_text : Stmt := top 21
abbrev s_l_word : Stmt := top 22
abbrev s_l_says : Stmt := top 23
abbrev s_l_wrong : Stmt := top 24
abbrev s_law : Stmt := top 25
/-! the defs -/
def d_is_whole : Df := ⟨3, 3, false, [(.ret (.and (.isi (.var 0) .int) (.and (.not (.isi (.var 0) .bool)) (.chn .le .le (.var 1) (.var 0) (.var 2)))))]⟩
abbrev N_is_whole : List Str := ["value", "low", "high"]
abbrev P_is_whole : List Str := ["value", "low", "high"]
def d_are_signs_of_text : Df := ⟨2, 3, false, [(.ite (.or (.not (.isi (.var 0) .str)) (.or (.not (.chn .le .le (.c (.int (1))) (.bi .len [(.var 0)]) (.c (.int (8))))) (.cmp .nmem (.sub (.var 0) (.c (.int (0)))) (.var 1)))) [(.ret (.c (.bl false)))] []), (.ret (.bi .all [(.comp (.nm 2) [2] (.slcL (.var 0) (.c (.int (1)))) (.c (.bl true)) (.or (.chn .le .le (.c (.str [97])) (.var 2) (.c (.str [122]))) (.chn .le .le (.c (.str [48])) (.var 2) (.c (.str [57])))))]))]⟩
abbrev N_are_signs_of_text : List Str := ["value", "first", "sign"]
abbrev P_are_signs_of_text : List Str := ["value", "first"]
def d_is_sign : Df := ⟨1, 1, false, [(.ret (.call 1 [(.var 0), (.c (.str [97, 98, 99, 100, 101, 102, 103, 104, 105, 106, 107, 108, 109, 110, 111, 112, 113, 114, 115, 116, 117, 118, 119, 120, 121, 122]))]))]⟩
abbrev N_is_sign : List Str := ["value"]
abbrev P_is_sign : List Str := ["value"]
def d_is_variable : Df := ⟨1, 1, false, [(.ret (.call 1 [(.var 0), (.c (.str [65, 66, 67, 68, 69, 70, 71, 72, 73, 74, 75, 76, 77, 78, 79, 80, 81, 82, 83, 84, 85, 86, 87, 88, 89, 90]))]))]⟩
abbrev N_is_variable : List Str := ["value"]
abbrev P_is_variable : List Str := ["value"]
def d_is_tongue : Df := ⟨1, 3, false, [(.ite (.or (.not (.isi (.var 0) .tuple)) (.not (.chn .le .le (.c (.int (1))) (.bi .len [(.var 0)]) (.c (.int (12)))))) [(.ret (.c (.bl false)))] []), (.for (.nm 1) (.var 0) [(.ite (.or (.not (.isi (.var 1) .tuple)) (.or (.cmp .ne (.bi .len [(.var 1)]) (.c (.int (2)))) (.not (.call 2 [(.sub (.var 1) (.c (.int (0))))])))) [(.ret (.c (.bl false)))] []), (.ite (.not (.call 0 [(.sub (.var 1) (.c (.int (1)))), (.c (.int (0))), (.c (.int (4)))])) [(.ret (.c (.bl false)))] [])]), (.ret (.bi .all [(.comp (.nm 2) [2] (.rng1 (.bin .sub (.bi .len [(.var 0)]) (.c (.int (1))))) (.c (.bl true)) (.cmp .lt (.sub (.sub (.var 0) (.var 2)) (.c (.int (0)))) (.sub (.sub (.var 0) (.bin .add (.var 2) (.c (.int (1))))) (.c (.int (0))))))]))]⟩
abbrev N_is_tongue : List Str := ["value", "pair", "k"]
abbrev P_is_tongue : List Str := ["value"]
def d_places_of : Df := ⟨2, 4, false, [(.for (.tp [(.nm 2), (.nm 3)]) (.var 0) [(.ite (.cmp .eq (.var 2) (.var 1)) [(.ret (.var 3))] [])]), (.ret (.c .non))]⟩
abbrev N_places_of : List Str := ["tongue", "sign", "name", "many"]
abbrev P_places_of : List Str := ["tongue", "sign"]
def d_nodes : Df := ⟨1, 4, false, [(.par 1 2 (.al (.lst [(.var 0)])) (.c (.int (0)))), (.while (.cmp .gt (.bi .len [(.var 1)]) (.c (.int (0)))) [(.set (.nm 3) (.meth .pop (.var 1) [])), (.aug 2 .add (.c (.int (1)))), (.ite (.and (.isi (.var 3) .tuple) (.cmp .gt (.bi .len [(.var 3)]) (.c (.int (0))))) [(.ex (.meth .extend (.var 1) [(.slcL (.var 3) (.c (.int (1))))]))] [(.ite (.not (.isi (.var 3) .str)) [(.ret (.c .non))] [])]), (.ite (.cmp .gt (.var 2) (.c (.int (400)))) [(.ret (.var 2))] [])]), (.ret (.var 2))]⟩
abbrev N_nodes : List Str := ["value", "waiting", "found", "now"]
abbrev P_nodes : List Str := ["value"]
def d_is_term : Df := ⟨2, 5, false, [(.set (.nm 2) (.call 6 [(.var 0)])), (.ite (.or (.cmp .is (.var 2) (.c .non)) (.cmp .gt (.var 2) (.c (.int (400))))) [(.ret (.c (.bl false)))] []), (.set (.nm 3) (.al (.lst [(.var 0)]))), (.while (.cmp .gt (.bi .len [(.var 3)]) (.c (.int (0)))) [(.set (.nm 4) (.meth .pop (.var 3) [])), (.ite (.isi (.var 4) .tuple) [(.ite (.or (.not (.call 2 [(.sub (.var 4) (.c (.int (0))))])) (.cmp .ne (.call 5 [(.var 1), (.sub (.var 4) (.c (.int (0))))]) (.bin .sub (.bi .len [(.var 4)]) (.c (.int (1)))))) [(.ret (.c (.bl false)))] []), (.ex (.meth .extend (.var 3) [(.slcL (.var 4) (.c (.int (1))))]))] [(.ite (.not (.call 3 [(.var 4)])) [(.ret (.c (.bl false)))] [])])]), (.ret (.c (.bl true)))]⟩
abbrev N_is_term : List Str := ["value", "tongue", "many", "waiting", "now"]
abbrev P_is_term : List Str := ["value", "tongue"]
def d_l_state : Df := ⟨1, 3, true, [(.set (.nm 1) (.al (.comp (.nm 2) [2] (.slcH (.var 0) (.c (.int (63)))) (.c (.bl true)) (.bi .abs [(.var 2)])))), (.ite (.cmp .eq (.bi .len [(.var 1)]) (.c (.int (0)))) [(.set (.nm 1) (.al (.lst [(.c (.int (0)))])))] []), (.ret (.al (.lst [(.c (.int (0))), (.var 1)])))]⟩
abbrev N_l_state : List Str := ["script", "cells", "cell"]
abbrev P_l_state : List Str := ["script"]
def d_l_take : Df := ⟨2, 6, false, [(.ite (.cmp .lt (.var 1) (.c (.int (2)))) [(.ret (.c (.int (0))))] []), (.set (.nm 2) (.sub (.var 0) (.c (.int (1))))), (.set (.nm 3) (.bin .mod (.bi .int [(.sub (.var 0) (.c (.int (0))))]) (.bi .len [(.var 2)]))), (.set (.nm 4) (.sub (.var 2) (.var 3))), (.ite (.cmp .ge (.var 4) (.c (.int (1000000000000000000)))) [(.sti (.var 2) (.var 3) (.bin .fdiv (.var 4) (.var 1))), (.ret (.bin .mod (.bi .int [(.var 4)]) (.var 1)))] []), (.sti (.var 0) (.c (.int (0))) (.bin .add (.sub (.var 0) (.c (.int (0)))) (.c (.int (1))))), (.set (.nm 5) (.bin .mod (.bi .int [(.bin .add (.bin .mul (.var 4) (.c (.int (48271)))) (.bin .mul (.sub (.var 0) (.c (.int (0)))) (.c (.int (69621)))))]) (.c (.int (2147483647))))), (.set (.nm 5) (.bin .mod (.bi .int [(.bin .add (.bin .mul (.var 5) (.c (.int (16807)))) (.bin .mul (.sub (.var 0) (.c (.int (0)))) (.c (.int (7919)))))]) (.c (.int (1000000007))))), (.ret (.bin .mod (.bi .int [(.bin .fdiv (.var 5) (.c (.int (7))))]) (.var 1)))]⟩
abbrev N_l_take : List Str := ["state", "most", "cells", "at", "cell", "mixed"]
abbrev P_l_take : List Str := ["state", "most"]
def d_l_pick : Df := ⟨2, 2, false, [(.ret (.sub (.var 1) (.call 9 [(.var 0), (.bi .len [(.var 1)])])))]⟩
abbrev N_l_pick : List Str := ["state", "row"]
abbrev P_l_pick : List Str := ["state", "row"]
def d_l_tongue : Df := ⟨1, 1, false, [(.ret (.call 10 [(.var 0), (.lst [(.tup [(.tup [(.c (.str [97])), (.c (.int (0)))]), (.tup [(.c (.str [102])), (.c (.int (2)))])]), (.tup [(.tup [(.c (.str [97])), (.c (.int (0)))]), (.tup [(.c (.str [98])), (.c (.int (0)))]), (.tup [(.c (.str [102])), (.c (.int (2)))]), (.tup [(.c (.str [103])), (.c (.int (1)))])]), (.tup [(.tup [(.c (.str [97])), (.c (.int (0)))]), (.tup [(.c (.str [98, 49])), (.c (.int (0)))]), (.tup [(.c (.str [103])), (.c (.int (1)))]), (.tup [(.c (.str [104])), (.c (.int (3)))])]), (.tup [(.tup [(.c (.str [99])), (.c (.int (0)))]), (.tup [(.c (.str [102])), (.c (.int (2)))]), (.tup [(.c (.str [103])), (.c (.int (1)))])])])]))]⟩
abbrev N_l_tongue : List Str := ["state"]
abbrev P_l_tongue : List Str := ["state"]
def d_l_term : Df := ⟨4, 9, false, [(.ite (.and (.cmp .gt (.bi .len [(.var 2)]) (.c (.int (0)))) (.cmp .eq (.call 9 [(.var 0), (.ite (.cmp .gt (.var 3) (.c (.int (1)))) (.c (.int (3))) (.c (.int (2))))]) (.c (.int (0))))) [(.ret (.call 10 [(.var 0), (.var 2)]))] []), (.set (.nm 4) (.comp (.nm 7) [7] (.var 1) (.or (.cmp .gt (.var 3) (.c (.int (1)))) (.cmp .eq (.sub (.var 7) (.c (.int (1)))) (.c (.int (0))))) (.var 7))), (.set (.tp [(.nm 5), (.nm 6)]) (.call 10 [(.var 0), (.var 4)])), (.ret (.bin .add (.tup [(.var 5)]) (.bi .tuple [(.comp (.nm 8) [8] (.rng1 (.var 6)) (.c (.bl true)) (.call 12 [(.var 0), (.var 1), (.var 2), (.bin .sub (.var 3) (.c (.int (1))))]))])))]⟩
abbrev N_l_term : List Str := ["state", "tongue", "names", "most", "pairs", "sign", "many", "pair", "k"]
abbrev P_l_term : List Str := ["state", "tongue", "names", "most"]
def d_l_text : Df := ⟨2, 5, false, [(.set (.nm 2) (.c (.str [97, 98, 99, 120, 121, 122, 48, 49, 56, 57]))), (.set (.nm 3) (.call 10 [(.var 0), (.bi .list [(.var 1)])])), (.for (.nm 4) (.rng1 (.call 9 [(.var 0), (.c (.int (8)))])) [(.set (.nm 3) (.bin .add (.var 3) (.sub (.var 2) (.call 9 [(.var 0), (.bi .len [(.var 2)])]))))]), (.ret (.var 3))]⟩
abbrev N_l_text : List Str := ["state", "first", "signs", "found", "turn"]
abbrev P_l_text : List Str := ["state", "first"]
def d_l_word : Df := ⟨2, 3, false, [(.ite (.or (.not (.isi (.var 0) .str)) (.or (.cmp .lt (.bi .len [(.var 0)]) (.c (.int (1)))) (.or (.cmp .gt (.bi .len [(.var 0)]) (.c (.int (8)))) (.cmp .nmem (.sub (.var 0) (.c (.int (0)))) (.var 1))))) [(.ret (.c (.bl false)))] []), (.ret (.cmp .eq (.bi .len [(.comp (.nm 2) [2] (.slcL (.var 0) (.c (.int (1)))) (.cmp .nmem (.var 2) (.c (.str [97, 98, 99, 100, 101, 102, 103, 104, 105, 106, 107, 108, 109, 110, 111, 112, 113, 114, 115, 116, 117, 118, 119, 120, 121, 122, 48, 49, 50, 51, 52, 53, 54, 55, 56, 57]))) (.var 2))]) (.c (.int (0)))))]⟩
abbrev N_l_word : List Str := ["value", "first", "sign"]
abbrev P_l_word : List Str := ["value", "first"]
def d_l_says : Df := ⟨2, 2, false, [(.ret (.and (.isi (.var 0) .bool) (.cmp .eq (.var 0) (.var 1))))]⟩
abbrev N_l_says : List Str := ["told", "due"]
abbrev P_l_says : List Str := ["told", "due"]
def d_l_wrong : Df := ⟨3, 4, false, [(.ite (.isi (.var 2) .str) [(.ret (.call 10 [(.var 0), (.lst [(.c (.str [])), (.c (.str [120])), (.c (.str [88, 121, 95])), (.bin .mul (.c (.str [88])) (.c (.int (9)))), (.c (.str [97, 32, 98])), (.c .non), (.c (.int (5))), (.c (.bl true)), (.lst [(.c (.str [88]))])])]))] []), (.ite (.and (.cmp .gt (.bi .len [(.var 2)]) (.c (.int (1)))) (.cmp .eq (.call 9 [(.var 0), (.c (.int (2)))]) (.c (.int (0))))) [(.set (.nm 3) (.bin .add (.c (.int (1))) (.call 9 [(.var 0), (.bin .sub (.bi .len [(.var 2)]) (.c (.int (1))))]))), (.ret (.bin .add (.bin .add (.slcH (.var 2) (.var 3)) (.tup [(.call 16 [(.var 0), (.var 1), (.sub (.var 2) (.var 3))])])) (.slcL (.var 2) (.bin .add (.var 3) (.c (.int (1)))))))] []), (.ret (.call 10 [(.var 0), (.lst [(.bin .add (.var 2) (.tup [(.c (.str [88]))])), (.slcL (.var 2) (.c (.int (1)))), (.bi .list [(.var 2)]), (.bin .add (.tup [(.c (.str [122, 122, 122]))]) (.slcL (.var 2) (.c (.int (1))))), (.bin .add (.tup [(.c (.str [65]))]) (.slcL (.var 2) (.c (.int (1))))), (.bin .add (.tup [(.c .non)]) (.slcL (.var 2) (.c (.int (1))))), (.tup []), (.c .non), (.ite (.cmp .gt (.bi .len [(.sub (.var 2) (.c (.int (0))))]) (.c (.int (0)))) (.sub (.var 2) (.c (.int (0)))) (.c (.int (5))))])]))]⟩
abbrev N_l_wrong : List Str := ["state", "tongue", "term", "k"]
abbrev P_l_wrong : List Str := ["state", "tongue", "term"]
def d_law : Df := ⟨1, 21, false, [(.set (.nm 1) (.call 8 [(.var 0)])), (.ite (.cmp .ne (.tup [(.c (.int (12))), (.c (.int (4))), (.c (.int (400))), (.c (.int (8)))]) (.tup [(.c (.int (12))), (.c (.int (4))), (.c (.int (400))), (.c (.int (8)))])) [(.ret (.c (.bl false)))] []), (.for (.nm 2) (.rng1 (.c (.int (6)))) [(.for (.tp [(.nm 15), (.nm 16)]) (.tup [(.tup [(.c (.str [97, 98, 109, 122])), (.c (.fn 2))]), (.tup [(.c (.str [65, 66, 77, 90])), (.c (.fn 3))])]) [(.set (.nm 17) (.call 13 [(.var 1), (.var 15)])), (.set (.nm 18) (.call 9 [(.var 1), (.bi .len [(.var 17)])])), (.set (.nm 19) (.cmp .eq (.var 15) (.c (.str [97, 98, 109, 122])))), (.set (.nm 20) (.ite (.var 19) (.c (.str [97, 98, 99, 100, 101, 102, 103, 104, 105, 106, 107, 108, 109, 110, 111, 112, 113, 114, 115, 116, 117, 118, 119, 120, 121, 122])) (.c (.str [65, 66, 67, 68, 69, 70, 71, 72, 73, 74, 75, 76, 77, 78, 79, 80, 81, 82, 83, 84, 85, 86, 87, 88, 89, 90])))), (.for (.nm 7) (.lst [(.var 17), (.bin .add (.bin .add (.slcH (.var 17) (.var 18)) (.call 10 [(.var 1), (.lst [(.c (.str [95])), (.c (.str [65])), (.c (.str [49])), (.c (.str [32])), (.c (.str [])), (.c (.str [40])), (.c (.str [45]))])])) (.slcL (.var 17) (.bin .add (.var 18) (.c (.int (1)))))), (.bin .add (.var 17) (.c (.str [97]))), (.meth .upper (.var 17) []), (.c (.str [])), (.c .non), (.c (.int (7))), (.tup [(.var 17)])]) [(.ite (.not (.call 15 [(.callv 16 [(.var 7)]), (.call 14 [(.var 7), (.var 20)])])) [(.ret (.c (.bl false)))] [])])])]), (.set (.nm 3) (.call 11 [(.var 1)])), (.set (.nm 4) (.bi .tuple [(.comp (.nm 5) [5] (.rng1 (.c (.int (13)))) (.c (.bl true)) (.tup [(.bin .add (.c (.str [115])) (.sub (.c (.str [97, 98, 99, 100, 101, 102, 103, 104, 105, 106, 107, 108, 109])) (.var 5))), (.bin .mod (.bi .int [(.var 5)]) (.c (.int (5))))]))])), (.ite (.or (.not (.call 15 [(.call 4 [(.var 3)]), (.c (.bl true))])) (.or (.not (.call 15 [(.call 4 [(.slcH (.var 4) (.c (.int (12))))]), (.c (.bl true))])) (.not (.call 15 [(.call 4 [(.var 4)]), (.c (.bl false))])))) [(.ret (.c (.bl false)))] []), (.set (.nm 5) (.call 9 [(.var 1), (.bi .len [(.var 3)])])), (.set (.tp [(.nm 11), (.nm 12)]) (.sub (.var 3) (.var 5))), (.set (.nm 6) (.lst [(.bi .list [(.var 3)]), (.tup []), (.bin .add (.var 3) (.slcL (.var 3) (.neg (.c (.int (1)))))), (.bin .add (.bin .add (.slcH (.var 3) (.var 5)) (.tup [(.tup [(.var 11), (.c (.int (5)))])])) (.slcL (.var 3) (.bin .add (.var 5) (.c (.int (1)))))), (.bin .add (.bin .add (.slcH (.var 3) (.var 5)) (.tup [(.tup [(.var 11), (.neg (.c (.int (1))))])])) (.slcL (.var 3) (.bin .add (.var 5) (.c (.int (1))))))])), (.set (.nm 6) (.bin .add (.var 6) (.comp (.nm 14) [14] (.lst [(.tup [(.var 11)]), (.lst [(.var 11), (.var 12)]), (.tup [(.c (.str [65])), (.var 12)]), (.tup [(.var 11), (.c (.bl true))]), (.tup [(.var 11), (.c .non)]), (.c .non)]) (.c (.bl true)) (.bin .add (.bin .add (.slcH (.var 3) (.var 5)) (.tup [(.var 14)])) (.slcL (.var 3) (.bin .add (.var 5) (.c (.int (1))))))))), (.for (.nm 7) (.bin .add (.var 6) (.lst [(.rev (.var 3)), (.c .non), (.c (.int (5)))])) [(.ite (.not (.call 15 [(.call 4 [(.var 7)]), (.c (.bl false))])) [(.ret (.c (.bl false)))] [])]), (.ite (.or (.cmp .ne (.comp (.nm 9) [9] (.var 3) (.c (.bl true)) (.call 5 [(.var 3), (.sub (.var 9) (.c (.int (0))))])) (.comp (.nm 9) [9] (.var 3) (.c (.bl true)) (.sub (.var 9) (.c (.int (1)))))) (.cmp .isn (.call 5 [(.var 3), (.c (.str [122, 122, 57]))]) (.c .non))) [(.ret (.c (.bl false)))] []), (.for (.nm 2) (.rng1 (.c (.int (6)))) [(.set (.nm 13) (.call 12 [(.var 1), (.var 3), (.lst [(.c (.str [88])), (.c (.str [89, 49])), (.c (.str [90, 97, 98]))]), (.c (.int (5)))])), (.set (.nm 14) (.call 16 [(.var 1), (.var 3), (.var 13)])), (.ite (.or (.not (.call 15 [(.call 7 [(.var 13), (.var 3)]), (.c (.bl true))])) (.and (.not (.isi (.var 14) .str)) (.not (.call 15 [(.call 7 [(.var 14), (.var 3)]), (.c (.bl false))])))) [(.ret (.c (.bl false)))] []), (.ite (.and (.isi (.var 14) .str) (.not (.call 15 [(.call 7 [(.var 14), (.var 3)]), (.call 14 [(.var 14), (.c (.str [65, 66, 67, 68, 69, 70, 71, 72, 73, 74, 75, 76, 77, 78, 79, 80, 81, 82, 83, 84, 85, 86, 87, 88, 89, 90]))])]))) [(.ret (.c (.bl false)))] [])]), (.set (.nm 8) (.c (.str [88]))), (.for (.nm 2) (.rng1 (.c (.int (399)))) [(.set (.nm 8) (.tup [(.c (.str [103])), (.var 8)]))]), (.set (.nm 9) (.tup [(.tup [(.c (.str [102])), (.c (.int (2)))]), (.tup [(.c (.str [103])), (.c (.int (1)))])])), (.set (.nm 10) (.tup [(.c (.str [102])), (.sub (.var 8) (.c (.int (1)))), (.c (.str [89]))])), (.ret (.and (.call 15 [(.call 7 [(.var 8), (.var 9)]), (.c (.bl true))]) (.and (.call 15 [(.call 7 [(.tup [(.c (.str [103])), (.var 8)]), (.var 9)]), (.c (.bl false))]) (.and (.call 15 [(.call 7 [(.var 10), (.var 9)]), (.c (.bl false))]) (.call 15 [(.call 7 [(.tup [(.c (.str [102])), (.sub (.sub (.var 8) (.c (.int (1)))) (.c (.int (1)))), (.c (.str [89]))]), (.var 9)]), (.c (.bl true))])))))]⟩
abbrev N_law : List Str := ["script", "state", "turn", "tongue", "many", "k", "bad", "value", "deep", "pair", "wide", "sign", "places", "term", "wrong", "first", "check", "word", "at", "low", "full"]
abbrev P_law : List Str := ["script"]
def T : List Df := [d_is_whole, d_are_signs_of_text, d_is_sign, d_is_variable, d_is_tongue, d_places_of, d_nodes, d_is_term, d_l_state, d_l_take, d_l_pick, d_l_tongue, d_l_term, d_l_text, d_l_word, d_l_says, d_l_wrong, d_law]
end L2.Mi.k01

set_option Elab.async false
set_option linter.all false
set_option maxRecDepth 100000
set_option maxHeartbeats 4000000

namespace L2.Mi.k01
open PySem PySem.Spec PyProof.Rows L2.Mi
theorem sc_is_whole : FnScope N_is_whole P_is_whole (defScope s_is_whole) := ⟨rfl, rfl, rfl, by decide +kernel, rfl, by decide +kernel, by decide +kernel⟩
theorem sc_are_signs_of_text : FnScope N_are_signs_of_text P_are_signs_of_text (defScope s_are_signs_of_text) := ⟨rfl, rfl, rfl, by decide +kernel, rfl, by decide +kernel, by decide +kernel⟩
theorem sc_is_sign : FnScope N_is_sign P_is_sign (defScope s_is_sign) := ⟨rfl, rfl, rfl, by decide +kernel, rfl, by decide +kernel, by decide +kernel⟩
theorem sc_is_variable : FnScope N_is_variable P_is_variable (defScope s_is_variable) := ⟨rfl, rfl, rfl, by decide +kernel, rfl, by decide +kernel, by decide +kernel⟩
theorem sc_is_tongue : FnScope N_is_tongue P_is_tongue (defScope s_is_tongue) := ⟨rfl, rfl, rfl, by decide +kernel, rfl, by decide +kernel, by decide +kernel⟩
theorem sc_places_of : FnScope N_places_of P_places_of (defScope s_places_of) := ⟨rfl, rfl, rfl, by decide +kernel, rfl, by decide +kernel, by decide +kernel⟩
theorem sc_nodes : FnScope N_nodes P_nodes (defScope s_nodes) := ⟨rfl, rfl, rfl, by decide +kernel, rfl, by decide +kernel, by decide +kernel⟩
theorem sc_is_term : FnScope N_is_term P_is_term (defScope s_is_term) := ⟨rfl, rfl, rfl, by decide +kernel, rfl, by decide +kernel, by decide +kernel⟩
theorem sc_l_state : FnScope N_l_state P_l_state (defScope s_l_state) := ⟨rfl, rfl, rfl, by decide +kernel, rfl, by decide +kernel, by decide +kernel⟩
theorem sc_l_take : FnScope N_l_take P_l_take (defScope s_l_take) := ⟨rfl, rfl, rfl, by decide +kernel, rfl, by decide +kernel, by decide +kernel⟩
theorem sc_l_pick : FnScope N_l_pick P_l_pick (defScope s_l_pick) := ⟨rfl, rfl, rfl, by decide +kernel, rfl, by decide +kernel, by decide +kernel⟩
theorem sc_l_tongue : FnScope N_l_tongue P_l_tongue (defScope s_l_tongue) := ⟨rfl, rfl, rfl, by decide +kernel, rfl, by decide +kernel, by decide +kernel⟩
theorem sc_l_term : FnScope N_l_term P_l_term (defScope s_l_term) := ⟨rfl, rfl, rfl, by decide +kernel, rfl, by decide +kernel, by decide +kernel⟩
theorem sc_l_text : FnScope N_l_text P_l_text (defScope s_l_text) := ⟨rfl, rfl, rfl, by decide +kernel, rfl, by decide +kernel, by decide +kernel⟩
theorem sc_l_word : FnScope N_l_word P_l_word (defScope s_l_word) := ⟨rfl, rfl, rfl, by decide +kernel, rfl, by decide +kernel, by decide +kernel⟩
theorem sc_l_says : FnScope N_l_says P_l_says (defScope s_l_says) := ⟨rfl, rfl, rfl, by decide +kernel, rfl, by decide +kernel, by decide +kernel⟩
theorem sc_l_wrong : FnScope N_l_wrong P_l_wrong (defScope s_l_wrong) := ⟨rfl, rfl, rfl, by decide +kernel, rfl, by decide +kernel, by decide +kernel⟩
theorem sc_law : FnScope N_law P_law (defScope s_law) := ⟨rfl, rfl, rfl, by decide +kernel, rfl, by decide +kernel, by decide +kernel⟩
def faO (K : PySem.W.Frag) : Nat → Option Addr
  | 0 => some (He.ga K "is_whole")
  | 1 => some (He.ga K "are_signs_of_text")
  | 2 => some (He.ga K "is_sign")
  | 3 => some (He.ga K "is_variable")
  | 4 => some (He.ga K "is_tongue")
  | 5 => some (He.ga K "places_of")
  | 6 => some (He.ga K "nodes")
  | 7 => some (He.ga K "is_term")
  | 8 => some (He.ga K "_law_state")
  | 9 => some (He.ga K "_law_take")
  | 10 => some (He.ga K "_law_pick")
  | 11 => some (He.ga K "_law_tongue")
  | 12 => some (He.ga K "_law_term")
  | 13 => some (He.ga K "_law_text")
  | 14 => some (He.ga K "_law_word")
  | 15 => some (He.ga K "_law_says")
  | 16 => some (He.ga K "_law_wrong")
  | 17 => some (He.ga K "law")
  | _ => none
abbrev gb (K : PySem.W.Frag) : Gb := ⟨K, faO K⟩
structure GF (K : PySem.W.Frag) (mg : Str → Option Value) : Prop where
  f_abs : mg "abs" = none
  f_all : mg "all" = none
  f_bool : mg "bool" = none
  f_int : mg "int" = none
  f_isinstance : mg "isinstance" = none
  f_len : mg "len" = none
  f_list : mg "list" = none
  f_range : mg "range" = none
  f_str : mg "str" = none
  f_tuple : mg "tuple" = none
  g_u_law_pick : mg "_law_pick" = some (.ref (He.ga K "_law_pick"))
  g_u_law_says : mg "_law_says" = some (.ref (He.ga K "_law_says"))
  g_u_law_state : mg "_law_state" = some (.ref (He.ga K "_law_state"))
  g_u_law_take : mg "_law_take" = some (.ref (He.ga K "_law_take"))
  g_u_law_term : mg "_law_term" = some (.ref (He.ga K "_law_term"))
  g_u_law_text : mg "_law_text" = some (.ref (He.ga K "_law_text"))
  g_u_law_tongue : mg "_law_tongue" = some (.ref (He.ga K "_law_tongue"))
  g_u_law_word : mg "_law_word" = some (.ref (He.ga K "_law_word"))
  g_u_law_wrong : mg "_law_wrong" = some (.ref (He.ga K "_law_wrong"))
  g_are_signs_of_text : mg "are_signs_of_text" = some (.ref (He.ga K "are_signs_of_text"))
  g_is_sign : mg "is_sign" = some (.ref (He.ga K "is_sign"))
  g_is_term : mg "is_term" = some (.ref (He.ga K "is_term"))
  g_is_tongue : mg "is_tongue" = some (.ref (He.ga K "is_tongue"))
  g_is_variable : mg "is_variable" = some (.ref (He.ga K "is_variable"))
  g_is_whole : mg "is_whole" = some (.ref (He.ga K "is_whole"))
  g_nodes : mg "nodes" = some (.ref (He.ga K "nodes"))
  g_places_of : mg "places_of" = some (.ref (He.ga K "places_of"))
  i_MOST_LETTERS : ∃ t, mg "MOST_LETTERS" = some (.int (8) t)
  i_MOST_NODES : ∃ t, mg "MOST_NODES" = some (.int (400) t)
  i_MOST_PLACES : ∃ t, mg "MOST_PLACES" = some (.int (4) t)
  i_MOST_SIGNS : ∃ t, mg "MOST_SIGNS" = some (.int (12) t)
theorem b_is_whole {P : Program} {w : World} {K : PySem.W.Frag} {mg : Str → Option Value} {base : Heap} {k : Nat} {C : CallF} (g : GF K mg) (a : Addr) (cdv : Value) (A : Around) (outer : List PySem.Env) (s : Shared) (H : Hp) (E : XK) (F : ∀ f a, (gb K).fa f = some a → FnC P w K mg base (gb K) C k f a)
    (hr : Room k (A.deeper (envOfC "is_whole" (defScope s_is_whole) s.heap.objs.size a cdv))) : PSs (cxOf CX0 P w K mg base N_is_whole "is_whole" (defScope s_is_whole) a cdv A outer s H E).nox (defBody s_is_whole) (tSs (gb K) C d_is_whole.body) := by
  have hu : (A.deeper (envOfC "is_whole" (defScope s_is_whole) s.heap.objs.size a cdv)).units + 65 < cLine := by have := hr.un; omega
  exact (sss_cons (ss_ret (se_and (sisi .int g.f_isinstance g.f_int bt_int rfl (sv 0)) (se_and (se_not (sisi .bool g.f_isinstance g.f_bool bt_bool rfl (sv 0))) (se_one (se_chn (o := .le) (o' := .le) rfl hu (sv 1) (sv 0) (sv 2))))))
    sss_nil)
theorem b_are_signs_of_text {P : Program} {w : World} {K : PySem.W.Frag} {mg : Str → Option Value} {base : Heap} {k : Nat} {C : CallF} (g : GF K mg) (a : Addr) (cdv : Value) (A : Around) (outer : List PySem.Env) (s : Shared) (H : Hp) (E : XK) (F : ∀ f a, (gb K).fa f = some a → FnC P w K mg base (gb K) C k f a)
    (hr : Room k (A.deeper (envOfC "are_signs_of_text" (defScope s_are_signs_of_text) s.heap.objs.size a cdv))) : PSs (cxOf CX0 P w K mg base N_are_signs_of_text "are_signs_of_text" (defScope s_are_signs_of_text) a cdv A outer s H E).nox (defBody s_are_signs_of_text) (tSs (gb K) C d_are_signs_of_text.body) := by
  have hu : (A.deeper (envOfC "are_signs_of_text" (defScope s_are_signs_of_text) s.heap.objs.size a cdv)).units + 65 < cLine := by have := hr.un; omega
  exact (sss_cons (ss_if (PW.pt (sw_or (st_not (st_val (sisi .str g.f_isinstance g.f_str bt_str rfl (sv 0)))) (sw_or (st_not (st_chn (o := .le) (o' := .le) rfl hu se_int (sb_len g.f_len rfl (sa_cons (sv 0) sa_nil)) (sgl g.i_MOST_LETTERS))) (sw_or1 (st_cmp (o := .nmem) rfl hu (by rfl) (se_sub rfl (sv 0) se_int) (sv 1)))))) (sss_cons (ss_ret se_bl)
    sss_nil) sss_nil)
    (sss_cons (ss_ret (sb_all g.f_all rfl (sa_cons (se_comp (own := [("sign", 2)]) (by decide) rfl sc_are_signs_of_text.nd (si_any rfl (se_slcL rfl (sv 0) se_int)) (blkOk_by (by kernel_rfl)) (fun _ _ _ _ _ => (sgn 2 sc_are_signs_of_text.nd)) (fun _ _ _ _ _ => sts_nil) (fun _ _ _ _ _ => (se_or (se_chn (o := .le) (o' := .le) rfl hu (se_str (by decide +kernel)) (sv 2) (se_str (by decide +kernel))) (se_one (se_chn (o := .le) (o' := .le) rfl hu (se_str (by decide +kernel)) (sv 2) (se_str (by decide +kernel))))))) sa_nil)))
    sss_nil))
theorem b_is_sign {P : Program} {w : World} {K : PySem.W.Frag} {mg : Str → Option Value} {base : Heap} {k : Nat} {C : CallF} (g : GF K mg) (a : Addr) (cdv : Value) (A : Around) (outer : List PySem.Env) (s : Shared) (H : Hp) (E : XK) (F : ∀ f a, (gb K).fa f = some a → FnC P w K mg base (gb K) C k f a)
    (hr : Room k (A.deeper (envOfC "is_sign" (defScope s_is_sign) s.heap.objs.size a cdv))) : PSs (cxOf CX0 P w K mg base N_is_sign "is_sign" (defScope s_is_sign) a cdv A outer s H E).nox (defBody s_is_sign) (tSs (gb K) C d_is_sign.body) := by
  have hu : (A.deeper (envOfC "is_sign" (defScope s_is_sign) s.heap.objs.size a cdv)).units + 65 < cLine := by have := hr.un; omega
  exact (sss_cons (ss_ret (scall 1 F hr g.g_are_signs_of_text (sa_cons (sv 0) (sa_cons (se_str (by decide +kernel)) sa_nil))))
    sss_nil)
theorem b_is_variable {P : Program} {w : World} {K : PySem.W.Frag} {mg : Str → Option Value} {base : Heap} {k : Nat} {C : CallF} (g : GF K mg) (a : Addr) (cdv : Value) (A : Around) (outer : List PySem.Env) (s : Shared) (H : Hp) (E : XK) (F : ∀ f a, (gb K).fa f = some a → FnC P w K mg base (gb K) C k f a)
    (hr : Room k (A.deeper (envOfC "is_variable" (defScope s_is_variable) s.heap.objs.size a cdv))) : PSs (cxOf CX0 P w K mg base N_is_variable "is_variable" (defScope s_is_variable) a cdv A outer s H E).nox (defBody s_is_variable) (tSs (gb K) C d_is_variable.body) := by
  have hu : (A.deeper (envOfC "is_variable" (defScope s_is_variable) s.heap.objs.size a cdv)).units + 65 < cLine := by have := hr.un; omega
  exact (sss_cons (ss_ret (scall 1 F hr g.g_are_signs_of_text (sa_cons (sv 0) (sa_cons (se_str (by decide +kernel)) sa_nil))))
    sss_nil)
theorem b_is_tongue {P : Program} {w : World} {K : PySem.W.Frag} {mg : Str → Option Value} {base : Heap} {k : Nat} {C : CallF} (g : GF K mg) (a : Addr) (cdv : Value) (A : Around) (outer : List PySem.Env) (s : Shared) (H : Hp) (E : XK) (F : ∀ f a, (gb K).fa f = some a → FnC P w K mg base (gb K) C k f a)
    (hr : Room k (A.deeper (envOfC "is_tongue" (defScope s_is_tongue) s.heap.objs.size a cdv))) : PSs (cxOf CX0 P w K mg base N_is_tongue "is_tongue" (defScope s_is_tongue) a cdv A outer s H E).nox (defBody s_is_tongue) (tSs (gb K) C d_is_tongue.body) := by
  have hu : (A.deeper (envOfC "is_tongue" (defScope s_is_tongue) s.heap.objs.size a cdv)).units + 65 < cLine := by have := hr.un; omega
  exact (sss_cons (ss_if (PW.pt (sw_or (st_not (st_val (sisi .tuple g.f_isinstance g.f_tuple bt_tuple rfl (sv 0)))) (sw_or1 (st_not (st_chn (o := .le) (o' := .le) rfl hu se_int (sb_len g.f_len rfl (sa_cons (sv 0) sa_nil)) (sgl g.i_MOST_SIGNS)))))) (sss_cons (ss_ret se_bl)
    sss_nil) sss_nil)
    (sss_cons (ss_for PassesOwn.never rfl (si_any rfl (sv 0)) (sgn 1 sc_is_tongue.nd) (sss_cons (ss_if (PW.pt (sw_or (st_not (st_val (sisi .tuple g.f_isinstance g.f_tuple bt_tuple rfl (sv 1)))) (sw_or (st_cmp (o := .ne) rfl hu (by rfl) (sb_len g.f_len rfl (sa_cons (sv 1) sa_nil)) se_int) (sw_or1 (st_not (st_val (scall 2 F hr g.g_is_sign (sa_cons (se_sub rfl (sv 1) se_int) sa_nil)))))))) (sss_cons (ss_ret se_bl)
    sss_nil) sss_nil)
    (sss_cons (ss_if (st_not (st_val (scall 0 F hr g.g_is_whole (sa_cons (se_sub rfl (sv 1) se_int) (sa_cons se_int (sa_cons (sgl g.i_MOST_PLACES) sa_nil)))))) (sss_cons (ss_ret se_bl)
    sss_nil) sss_nil)
    sss_nil)))
    (sss_cons (ss_ret (sb_all g.f_all rfl (sa_cons (se_comp (own := [("k", 2)]) (by decide) rfl sc_is_tongue.nd (si_range1 rfl g.f_range (se_bin (o := .sub) rfl (sb_len g.f_len rfl (sa_cons (sv 0) sa_nil)) se_int)) (blkOk_by (by kernel_rfl)) (fun _ _ _ _ _ => (sgn 2 sc_is_tongue.nd)) (fun _ _ _ _ _ => sts_nil) (fun _ _ _ _ _ => (se_cmp (o := .lt) rfl hu (by rfl) (se_sub rfl (se_sub rfl (sv 0) (sv 2)) se_int) (se_sub rfl (se_sub rfl (sv 0) (se_bin (o := .add) rfl (sv 2) se_int)) se_int)))) sa_nil)))
    sss_nil)))
theorem b_places_of {P : Program} {w : World} {K : PySem.W.Frag} {mg : Str → Option Value} {base : Heap} {k : Nat} {C : CallF} (g : GF K mg) (a : Addr) (cdv : Value) (A : Around) (outer : List PySem.Env) (s : Shared) (H : Hp) (E : XK) (F : ∀ f a, (gb K).fa f = some a → FnC P w K mg base (gb K) C k f a)
    (hr : Room k (A.deeper (envOfC "places_of" (defScope s_places_of) s.heap.objs.size a cdv))) : PSs (cxOf CX0 P w K mg base N_places_of "places_of" (defScope s_places_of) a cdv A outer s H E).nox (defBody s_places_of) (tSs (gb K) C d_places_of.body) := by
  have hu : (A.deeper (envOfC "places_of" (defScope s_places_of) s.heap.objs.size a cdv)).units + 65 < cLine := by have := hr.un; omega
  exact (sss_cons (ss_for PassesOwn.never rfl (si_any rfl (sv 0)) (sg_tup rfl rfl (sgs_cons (sgn 2 sc_places_of.nd) (sgs_cons (sgn 3 sc_places_of.nd) sgs_nil))) (sss_cons (ss_if (st_cmp (o := .eq) rfl hu (by rfl) (sv 2) (sv 1)) (sss_cons (ss_ret (sv 3))
    sss_nil) sss_nil)
    sss_nil))
    (sss_cons (ss_ret se_non)
    sss_nil))
theorem b_nodes {P : Program} {w : World} {K : PySem.W.Frag} {mg : Str → Option Value} {base : Heap} {k : Nat} {C : CallF} (g : GF K mg) (a : Addr) (cdv : Value) (A : Around) (outer : List PySem.Env) (s : Shared) (H : Hp) (E : XK) (F : ∀ f a, (gb K).fa f = some a → FnC P w K mg base (gb K) C k f a)
    (hr : Room k (A.deeper (envOfC "nodes" (defScope s_nodes) s.heap.objs.size a cdv))) : PSs (cxOf CX0 P w K mg base N_nodes "nodes" (defScope s_nodes) a cdv A outer s H E).nox (defBody s_nodes) (tSs (gb K) C d_nodes.body) := by
  have hu : (A.deeper (envOfC "nodes" (defScope s_nodes) s.heap.objs.size a cdv)).units + 65 < cLine := by have := hr.un; omega
  exact (sss_cons (spar 1 2 sc_nodes.nd (sal_lst (sa_cons (sv 0) sa_nil)) se_int (by rfl))
    (sss_cons (ss_while PassesOwn.never (st_cmp (o := .gt) rfl hu (by rfl) (sb_len g.f_len rfl (sa_cons (sv 1) sa_nil)) se_int) (sss_cons (sset 3 sc_nodes.nd (sm_pop0 rfl (sv 1)))
    (sss_cons (saug 2 (o := .add) (by first | exact .inl rfl | exact .inr rfl) sc_nodes.nd se_int)
    (sss_cons (ss_if (PW.pt (sw_and (st_val (sisi .tuple g.f_isinstance g.f_tuple bt_tuple rfl (sv 3))) (sw_and1 (st_cmp (o := .gt) rfl hu (by rfl) (sb_len g.f_len rfl (sa_cons (sv 3) sa_nil)) se_int)))) (sss_cons (ss_expr (sm_extend rfl (sv 1) (sa_cons (se_slcL rfl (sv 3) se_int) sa_nil)))
    sss_nil) (sss_cons (ss_if (st_not (st_val (sisi .str g.f_isinstance g.f_str bt_str rfl (sv 3)))) (sss_cons (ss_ret se_non)
    sss_nil) sss_nil)
    sss_nil))
    (sss_cons (ss_if (st_cmp (o := .gt) rfl hu (by rfl) (sv 2) (sgl g.i_MOST_NODES)) (sss_cons (ss_ret (sv 2))
    sss_nil) sss_nil)
    sss_nil)))))
    (sss_cons (ss_ret (sv 2))
    sss_nil)))
theorem b_is_term {P : Program} {w : World} {K : PySem.W.Frag} {mg : Str → Option Value} {base : Heap} {k : Nat} {C : CallF} (g : GF K mg) (a : Addr) (cdv : Value) (A : Around) (outer : List PySem.Env) (s : Shared) (H : Hp) (E : XK) (F : ∀ f a, (gb K).fa f = some a → FnC P w K mg base (gb K) C k f a)
    (hr : Room k (A.deeper (envOfC "is_term" (defScope s_is_term) s.heap.objs.size a cdv))) : PSs (cxOf CX0 P w K mg base N_is_term "is_term" (defScope s_is_term) a cdv A outer s H E).nox (defBody s_is_term) (tSs (gb K) C d_is_term.body) := by
  have hu : (A.deeper (envOfC "is_term" (defScope s_is_term) s.heap.objs.size a cdv)).units + 65 < cLine := by have := hr.un; omega
  exact (sss_cons (sset 2 sc_is_term.nd (scall 6 F hr g.g_nodes (sa_cons (sv 0) sa_nil)))
    (sss_cons (ss_if (PW.pt (sw_or (st_cmp (o := .is) rfl hu (by rfl) (sv 2) se_non) (sw_or1 (st_cmp (o := .gt) rfl hu (by rfl) (sv 2) (sgl g.i_MOST_NODES))))) (sss_cons (ss_ret se_bl)
    sss_nil) sss_nil)
    (sss_cons (sset 3 sc_is_term.nd (sal_lst (sa_cons (sv 0) sa_nil)))
    (sss_cons (ss_while PassesOwn.never (st_cmp (o := .gt) rfl hu (by rfl) (sb_len g.f_len rfl (sa_cons (sv 3) sa_nil)) se_int) (sss_cons (sset 4 sc_is_term.nd (sm_pop0 rfl (sv 3)))
    (sss_cons (ss_if (st_val (sisi .tuple g.f_isinstance g.f_tuple bt_tuple rfl (sv 4))) (sss_cons (ss_if (PW.pt (sw_or (st_not (st_val (scall 2 F hr g.g_is_sign (sa_cons (se_sub rfl (sv 4) se_int) sa_nil)))) (sw_or1 (st_cmp (o := .ne) rfl hu (by rfl) (scall 5 F hr g.g_places_of (sa_cons (sv 1) (sa_cons (se_sub rfl (sv 4) se_int) sa_nil))) (se_bin (o := .sub) rfl (sb_len g.f_len rfl (sa_cons (sv 4) sa_nil)) se_int))))) (sss_cons (ss_ret se_bl)
    sss_nil) sss_nil)
    (sss_cons (ss_expr (sm_extend rfl (sv 3) (sa_cons (se_slcL rfl (sv 4) se_int) sa_nil)))
    sss_nil)) (sss_cons (ss_if (st_not (st_val (scall 3 F hr g.g_is_variable (sa_cons (sv 4) sa_nil)))) (sss_cons (ss_ret se_bl)
    sss_nil) sss_nil)
    sss_nil))
    sss_nil)))
    (sss_cons (ss_ret se_bl)
    sss_nil)))))
theorem b_l_state {P : Program} {w : World} {K : PySem.W.Frag} {mg : Str → Option Value} {base : Heap} {k : Nat} {C : CallF} (g : GF K mg) (a : Addr) (cdv : Value) (A : Around) (outer : List PySem.Env) (s : Shared) (H : Hp) (E : XK) (F : ∀ f a, (gb K).fa f = some a → FnC P w K mg base (gb K) C k f a)
    (hr : Room k (A.deeper (envOfC "_law_state" (defScope s_l_state) s.heap.objs.size a cdv))) : PSs (cxOf CX0 P w K mg base N_l_state "_law_state" (defScope s_l_state) a cdv A outer s H E).nox (defBody s_l_state) (tSs (gb K) C d_l_state.body) := by
  have hu : (A.deeper (envOfC "_law_state" (defScope s_l_state) s.heap.objs.size a cdv)).units + 65 < cLine := by have := hr.un; omega
  exact (sss_cons (ss_setLcA (i := 1) (own := [("cell", 2)]) (by decide) rfl sc_l_state.nd rfl rfl (sw_true rfl rfl rfl (by rfl)) (si_any rfl (se_slcH rfl (sv 0) se_int)) (blkOk_by (by kernel_rfl)) (fun _ _ _ _ _ => (sgn 2 sc_l_state.nd)) (fun _ _ _ _ _ => sts_nil) (fun _ _ _ _ _ => (sb_abs g.f_abs rfl (sa_cons (sv 2) sa_nil))))
    (sss_cons (ss_if (st_cmp (o := .eq) rfl hu (by rfl) (sb_len g.f_len rfl (sa_cons (sv 1) sa_nil)) se_int) (sss_cons (sset 1 sc_l_state.nd (sal_lst (sa_cons se_int sa_nil)))
    sss_nil) sss_nil)
    (sss_cons (ss_ret (sal_lst (sa_cons se_int (sa_cons (sv 1) sa_nil))))
    sss_nil)))
theorem b_l_take {P : Program} {w : World} {K : PySem.W.Frag} {mg : Str → Option Value} {base : Heap} {k : Nat} {C : CallF} (g : GF K mg) (a : Addr) (cdv : Value) (A : Around) (outer : List PySem.Env) (s : Shared) (H : Hp) (E : XK) (F : ∀ f a, (gb K).fa f = some a → FnC P w K mg base (gb K) C k f a)
    (hr : Room k (A.deeper (envOfC "_law_take" (defScope s_l_take) s.heap.objs.size a cdv))) : PSs (cxOf CX0 P w K mg base N_l_take "_law_take" (defScope s_l_take) a cdv A outer s H E).nox (defBody s_l_take) (tSs (gb K) C d_l_take.body) := by
  have hu : (A.deeper (envOfC "_law_take" (defScope s_l_take) s.heap.objs.size a cdv)).units + 65 < cLine := by have := hr.un; omega
  exact (sss_cons (ss_if (st_cmp (o := .lt) rfl hu (by rfl) (sv 1) se_int) (sss_cons (ss_ret se_int)
    sss_nil) sss_nil)
    (sss_cons (sset 2 sc_l_take.nd (se_sub rfl (sv 0) se_int))
    (sss_cons (sset 3 sc_l_take.nd (se_bin (o := .mod) rfl (sb_int g.f_int rfl (sa_cons (se_sub rfl (sv 0) se_int) sa_nil)) (sb_len g.f_len rfl (sa_cons (sv 2) sa_nil))))
    (sss_cons (sset 4 sc_l_take.nd (se_sub rfl (sv 2) (sv 3)))
    (sss_cons (ss_if (st_cmp (o := .ge) rfl hu (by rfl) (sv 4) se_int) (sss_cons (ss_sti (se_bin (o := .fdiv) rfl (sv 4) (sv 1)) (sv 2) (sv 3))
    (sss_cons (ss_ret (se_bin (o := .mod) rfl (sb_int g.f_int rfl (sa_cons (sv 4) sa_nil)) (sv 1)))
    sss_nil)) sss_nil)
    (sss_cons (ss_sti (se_bin (o := .add) rfl (se_sub rfl (sv 0) se_int) se_int) (sv 0) se_int)
    (sss_cons (sset 5 sc_l_take.nd (se_bin (o := .mod) rfl (sb_int g.f_int rfl (sa_cons (se_bin (o := .add) rfl (se_bin (o := .mul) rfl (sv 4) se_int) (se_bin (o := .mul) rfl (se_sub rfl (sv 0) se_int) se_int)) sa_nil)) se_int))
    (sss_cons (sset 5 sc_l_take.nd (se_bin (o := .mod) rfl (sb_int g.f_int rfl (sa_cons (se_bin (o := .add) rfl (se_bin (o := .mul) rfl (sv 5) se_int) (se_bin (o := .mul) rfl (se_sub rfl (sv 0) se_int) se_int)) sa_nil)) se_int))
    (sss_cons (ss_ret (se_bin (o := .mod) rfl (sb_int g.f_int rfl (sa_cons (se_bin (o := .fdiv) rfl (sv 5) se_int) sa_nil)) (sv 1)))
    sss_nil)))))))))
theorem b_l_pick {P : Program} {w : World} {K : PySem.W.Frag} {mg : Str → Option Value} {base : Heap} {k : Nat} {C : CallF} (g : GF K mg) (a : Addr) (cdv : Value) (A : Around) (outer : List PySem.Env) (s : Shared) (H : Hp) (E : XK) (F : ∀ f a, (gb K).fa f = some a → FnC P w K mg base (gb K) C k f a)
    (hr : Room k (A.deeper (envOfC "_law_pick" (defScope s_l_pick) s.heap.objs.size a cdv))) : PSs (cxOf CX0 P w K mg base N_l_pick "_law_pick" (defScope s_l_pick) a cdv A outer s H E).nox (defBody s_l_pick) (tSs (gb K) C d_l_pick.body) := by
  have hu : (A.deeper (envOfC "_law_pick" (defScope s_l_pick) s.heap.objs.size a cdv)).units + 65 < cLine := by have := hr.un; omega
  exact (sss_cons (ss_ret (se_sub rfl (sv 1) (scall 9 F hr g.g_u_law_take (sa_cons (sv 0) (sa_cons (sb_len g.f_len rfl (sa_cons (sv 1) sa_nil)) sa_nil)))))
    sss_nil)
theorem b_l_tongue {P : Program} {w : World} {K : PySem.W.Frag} {mg : Str → Option Value} {base : Heap} {k : Nat} {C : CallF} (g : GF K mg) (a : Addr) (cdv : Value) (A : Around) (outer : List PySem.Env) (s : Shared) (H : Hp) (E : XK) (F : ∀ f a, (gb K).fa f = some a → FnC P w K mg base (gb K) C k f a)
    (hr : Room k (A.deeper (envOfC "_law_tongue" (defScope s_l_tongue) s.heap.objs.size a cdv))) : PSs (cxOf CX0 P w K mg base N_l_tongue "_law_tongue" (defScope s_l_tongue) a cdv A outer s H E).nox (defBody s_l_tongue) (tSs (gb K) C d_l_tongue.body) := by
  have hu : (A.deeper (envOfC "_law_tongue" (defScope s_l_tongue) s.heap.objs.size a cdv)).units + 65 < cLine := by have := hr.un; omega
  exact (sss_cons (ss_ret (scall 10 F hr g.g_u_law_pick (sa_cons (sv 0) (sa_cons (se_lst (sa_cons (se_tup (sa_cons (se_tup (sa_cons (se_str (by decide +kernel)) (sa_cons se_int sa_nil))) (sa_cons (se_tup (sa_cons (se_str (by decide +kernel)) (sa_cons se_int sa_nil))) sa_nil))) (sa_cons (se_tup (sa_cons (se_tup (sa_cons (se_str (by decide +kernel)) (sa_cons se_int sa_nil))) (sa_cons (se_tup (sa_cons (se_str (by decide +kernel)) (sa_cons se_int sa_nil))) (sa_cons (se_tup (sa_cons (se_str (by decide +kernel)) (sa_cons se_int sa_nil))) (sa_cons (se_tup (sa_cons (se_str (by decide +kernel)) (sa_cons se_int sa_nil))) sa_nil))))) (sa_cons (se_tup (sa_cons (se_tup (sa_cons (se_str (by decide +kernel)) (sa_cons se_int sa_nil))) (sa_cons (se_tup (sa_cons (se_str (by decide +kernel)) (sa_cons se_int sa_nil))) (sa_cons (se_tup (sa_cons (se_str (by decide +kernel)) (sa_cons se_int sa_nil))) (sa_cons (se_tup (sa_cons (se_str (by decide +kernel)) (sa_cons se_int sa_nil))) sa_nil))))) (sa_cons (se_tup (sa_cons (se_tup (sa_cons (se_str (by decide +kernel)) (sa_cons se_int sa_nil))) (sa_cons (se_tup (sa_cons (se_str (by decide +kernel)) (sa_cons se_int sa_nil))) (sa_cons (se_tup (sa_cons (se_str (by decide +kernel)) (sa_cons se_int sa_nil))) sa_nil)))) sa_nil))))) sa_nil))))
    sss_nil)
theorem b_l_term {P : Program} {w : World} {K : PySem.W.Frag} {mg : Str → Option Value} {base : Heap} {k : Nat} {C : CallF} (g : GF K mg) (a : Addr) (cdv : Value) (A : Around) (outer : List PySem.Env) (s : Shared) (H : Hp) (E : XK) (F : ∀ f a, (gb K).fa f = some a → FnC P w K mg base (gb K) C k f a)
    (hr : Room k (A.deeper (envOfC "_law_term" (defScope s_l_term) s.heap.objs.size a cdv))) : PSs (cxOf CX0 P w K mg base N_l_term "_law_term" (defScope s_l_term) a cdv A outer s H E).nox (defBody s_l_term) (tSs (gb K) C d_l_term.body) := by
  have hu : (A.deeper (envOfC "_law_term" (defScope s_l_term) s.heap.objs.size a cdv)).units + 65 < cLine := by have := hr.un; omega
  exact (sss_cons (ss_if (PW.pt (sw_and (st_cmp (o := .gt) rfl hu (by rfl) (sb_len g.f_len rfl (sa_cons (sv 2) sa_nil)) se_int) (sw_and1 (st_cmp (o := .eq) rfl hu (by rfl) (scall 9 F hr g.g_u_law_take (sa_cons (sv 0) (sa_cons (se_ite (st_cmp (o := .gt) rfl hu (by rfl) (sv 3) se_int) se_int se_int) sa_nil))) se_int)))) (sss_cons (ss_ret (scall 10 F hr g.g_u_law_pick (sa_cons (sv 0) (sa_cons (sv 2) sa_nil))))
    sss_nil) sss_nil)
    (sss_cons (ss_setLc (i := 4) (own := [("pair", 7)]) (by decide) rfl sc_l_term.nd rfl rfl (sw_true rfl rfl rfl (by rfl)) (si_any rfl (sv 1)) (blkOk_by (by kernel_rfl)) (fun _ _ _ _ _ => (sgn 7 sc_l_term.nd)) (fun _ _ _ _ _ => (pts_one (PW.pt (sw_or (st_cmp (o := .gt) rfl hu (by rfl) (sv 3) se_int) (sw_or1 (st_cmp (o := .eq) rfl hu (by rfl) (se_sub rfl (sv 7) se_int) se_int)))))) (fun _ _ _ _ _ => (sv 7)))
    (sss_cons (ss_asg (scall 10 F hr g.g_u_law_pick (sa_cons (sv 0) (sa_cons (sv 4) sa_nil))) (sg_tup rfl rfl (sgs_cons (sgn 5 sc_l_term.nd) (sgs_cons (sgn 6 sc_l_term.nd) sgs_nil))))
    (sss_cons (ss_ret (se_bin (o := .add) rfl (se_tup (sa_cons (sv 5) sa_nil)) (sb_tuple g.f_tuple rfl (sa_cons (se_comp (own := [("k", 8)]) (by decide) rfl sc_l_term.nd (si_range1 rfl g.f_range (sv 6)) (blkOk_by (by kernel_rfl)) (fun _ _ _ _ _ => (sgn 8 sc_l_term.nd)) (fun _ _ _ _ _ => sts_nil) (fun _ _ _ _ _ => (scall 12 F hr g.g_u_law_term (sa_cons (sv 0) (sa_cons (sv 1) (sa_cons (sv 2) (sa_cons (se_bin (o := .sub) rfl (sv 3) se_int) sa_nil))))))) sa_nil))))
    sss_nil))))
theorem b_l_text {P : Program} {w : World} {K : PySem.W.Frag} {mg : Str → Option Value} {base : Heap} {k : Nat} {C : CallF} (g : GF K mg) (a : Addr) (cdv : Value) (A : Around) (outer : List PySem.Env) (s : Shared) (H : Hp) (E : XK) (F : ∀ f a, (gb K).fa f = some a → FnC P w K mg base (gb K) C k f a)
    (hr : Room k (A.deeper (envOfC "_law_text" (defScope s_l_text) s.heap.objs.size a cdv))) : PSs (cxOf CX0 P w K mg base N_l_text "_law_text" (defScope s_l_text) a cdv A outer s H E).nox (defBody s_l_text) (tSs (gb K) C d_l_text.body) := by
  have hu : (A.deeper (envOfC "_law_text" (defScope s_l_text) s.heap.objs.size a cdv)).units + 65 < cLine := by have := hr.un; omega
  exact (sss_cons (sset 2 sc_l_text.nd (se_str (by decide +kernel)))
    (sss_cons (sset 3 sc_l_text.nd (scall 10 F hr g.g_u_law_pick (sa_cons (sv 0) (sa_cons (sb_list g.f_list rfl (sa_cons (sv 1) sa_nil)) sa_nil))))
    (sss_cons (ss_for PassesOwn.never rfl (si_range1 rfl g.f_range (scall 9 F hr g.g_u_law_take (sa_cons (sv 0) (sa_cons se_int sa_nil)))) (sgn 4 sc_l_text.nd) (sss_cons (sset 3 sc_l_text.nd (se_bin (o := .add) rfl (sv 3) (se_sub rfl (sv 2) (scall 9 F hr g.g_u_law_take (sa_cons (sv 0) (sa_cons (sb_len g.f_len rfl (sa_cons (sv 2) sa_nil)) sa_nil))))))
    sss_nil))
    (sss_cons (ss_ret (sv 3))
    sss_nil))))
theorem b_l_word {P : Program} {w : World} {K : PySem.W.Frag} {mg : Str → Option Value} {base : Heap} {k : Nat} {C : CallF} (g : GF K mg) (a : Addr) (cdv : Value) (A : Around) (outer : List PySem.Env) (s : Shared) (H : Hp) (E : XK) (F : ∀ f a, (gb K).fa f = some a → FnC P w K mg base (gb K) C k f a)
    (hr : Room k (A.deeper (envOfC "_law_word" (defScope s_l_word) s.heap.objs.size a cdv))) : PSs (cxOf CX0 P w K mg base N_l_word "_law_word" (defScope s_l_word) a cdv A outer s H E).nox (defBody s_l_word) (tSs (gb K) C d_l_word.body) := by
  have hu : (A.deeper (envOfC "_law_word" (defScope s_l_word) s.heap.objs.size a cdv)).units + 65 < cLine := by have := hr.un; omega
  exact (sss_cons (ss_if (PW.pt (sw_or (st_not (st_val (sisi .str g.f_isinstance g.f_str bt_str rfl (sv 0)))) (sw_or (st_cmp (o := .lt) rfl hu (by rfl) (sb_len g.f_len rfl (sa_cons (sv 0) sa_nil)) se_int) (sw_or (st_cmp (o := .gt) rfl hu (by rfl) (sb_len g.f_len rfl (sa_cons (sv 0) sa_nil)) se_int) (sw_or1 (st_cmp (o := .nmem) rfl hu (by rfl) (se_sub rfl (sv 0) se_int) (sv 1))))))) (sss_cons (ss_ret se_bl)
    sss_nil) sss_nil)
    (sss_cons (ss_ret (se_cmp (o := .eq) rfl hu (by rfl) (sb_len g.f_len rfl (sa_cons (se_comp (own := [("sign", 2)]) (by decide) rfl sc_l_word.nd (si_any rfl (se_slcL rfl (sv 0) se_int)) (blkOk_by (by kernel_rfl)) (fun _ _ _ _ _ => (sgn 2 sc_l_word.nd)) (fun _ _ _ _ _ => (pts_one (st_cmp (o := .nmem) rfl hu (by rfl) (sv 2) (se_str (by decide +kernel))))) (fun _ _ _ _ _ => (sv 2))) sa_nil)) se_int))
    sss_nil))
theorem b_l_says {P : Program} {w : World} {K : PySem.W.Frag} {mg : Str → Option Value} {base : Heap} {k : Nat} {C : CallF} (g : GF K mg) (a : Addr) (cdv : Value) (A : Around) (outer : List PySem.Env) (s : Shared) (H : Hp) (E : XK) (F : ∀ f a, (gb K).fa f = some a → FnC P w K mg base (gb K) C k f a)
    (hr : Room k (A.deeper (envOfC "_law_says" (defScope s_l_says) s.heap.objs.size a cdv))) : PSs (cxOf CX0 P w K mg base N_l_says "_law_says" (defScope s_l_says) a cdv A outer s H E).nox (defBody s_l_says) (tSs (gb K) C d_l_says.body) := by
  have hu : (A.deeper (envOfC "_law_says" (defScope s_l_says) s.heap.objs.size a cdv)).units + 65 < cLine := by have := hr.un; omega
  exact (sss_cons (ss_ret (se_and (sisi .bool g.f_isinstance g.f_bool bt_bool rfl (sv 0)) (se_one (se_cmp (o := .eq) rfl hu (by rfl) (sv 0) (sv 1)))))
    sss_nil)
theorem b_l_wrong {P : Program} {w : World} {K : PySem.W.Frag} {mg : Str → Option Value} {base : Heap} {k : Nat} {C : CallF} (g : GF K mg) (a : Addr) (cdv : Value) (A : Around) (outer : List PySem.Env) (s : Shared) (H : Hp) (E : XK) (F : ∀ f a, (gb K).fa f = some a → FnC P w K mg base (gb K) C k f a)
    (hr : Room k (A.deeper (envOfC "_law_wrong" (defScope s_l_wrong) s.heap.objs.size a cdv))) : PSs (cxOf CX0 P w K mg base N_l_wrong "_law_wrong" (defScope s_l_wrong) a cdv A outer s H E).nox (defBody s_l_wrong) (tSs (gb K) C d_l_wrong.body) := by
  have hu : (A.deeper (envOfC "_law_wrong" (defScope s_l_wrong) s.heap.objs.size a cdv)).units + 65 < cLine := by have := hr.un; omega
  exact (sss_cons (ss_if (st_val (sisi .str g.f_isinstance g.f_str bt_str rfl (sv 2))) (sss_cons (ss_ret (scall 10 F hr g.g_u_law_pick (sa_cons (sv 0) (sa_cons (se_lst (sa_cons (se_str (by decide +kernel)) (sa_cons (se_str (by decide +kernel)) (sa_cons (se_str (by decide +kernel)) (sa_cons (se_bin (o := .mul) rfl (se_str (by decide +kernel)) se_int) (sa_cons (se_str (by decide +kernel)) (sa_cons se_non (sa_cons se_int (sa_cons se_bl (sa_cons (se_lst (sa_cons (se_str (by decide +kernel)) sa_nil)) sa_nil)))))))))) sa_nil))))
    sss_nil) sss_nil)
    (sss_cons (ss_if (PW.pt (sw_and (st_cmp (o := .gt) rfl hu (by rfl) (sb_len g.f_len rfl (sa_cons (sv 2) sa_nil)) se_int) (sw_and1 (st_cmp (o := .eq) rfl hu (by rfl) (scall 9 F hr g.g_u_law_take (sa_cons (sv 0) (sa_cons se_int sa_nil))) se_int)))) (sss_cons (sset 3 sc_l_wrong.nd (se_bin (o := .add) rfl se_int (scall 9 F hr g.g_u_law_take (sa_cons (sv 0) (sa_cons (se_bin (o := .sub) rfl (sb_len g.f_len rfl (sa_cons (sv 2) sa_nil)) se_int) sa_nil)))))
    (sss_cons (ss_ret (se_bin (o := .add) rfl (se_bin (o := .add) rfl (se_slcH rfl (sv 2) (sv 3)) (se_tup (sa_cons (scall 16 F hr g.g_u_law_wrong (sa_cons (sv 0) (sa_cons (sv 1) (sa_cons (se_sub rfl (sv 2) (sv 3)) sa_nil)))) sa_nil))) (se_slcL rfl (sv 2) (se_bin (o := .add) rfl (sv 3) se_int))))
    sss_nil)) sss_nil)
    (sss_cons (ss_ret (scall 10 F hr g.g_u_law_pick (sa_cons (sv 0) (sa_cons (se_lst (sa_cons (se_bin (o := .add) rfl (sv 2) (se_tup (sa_cons (se_str (by decide +kernel)) sa_nil))) (sa_cons (se_slcL rfl (sv 2) se_int) (sa_cons (sb_list g.f_list rfl (sa_cons (sv 2) sa_nil)) (sa_cons (se_bin (o := .add) rfl (se_tup (sa_cons (se_str (by decide +kernel)) sa_nil)) (se_slcL rfl (sv 2) se_int)) (sa_cons (se_bin (o := .add) rfl (se_tup (sa_cons (se_str (by decide +kernel)) sa_nil)) (se_slcL rfl (sv 2) se_int)) (sa_cons (se_bin (o := .add) rfl (se_tup (sa_cons se_non sa_nil)) (se_slcL rfl (sv 2) se_int)) (sa_cons (se_tup sa_nil) (sa_cons se_non (sa_cons (se_ite (st_cmp (o := .gt) rfl hu (by rfl) (sb_len g.f_len rfl (sa_cons (se_sub rfl (sv 2) se_int) sa_nil)) se_int) (se_sub rfl (sv 2) se_int) se_int) sa_nil)))))))))) sa_nil))))
    sss_nil)))
theorem b_law {P : Program} {w : World} {K : PySem.W.Frag} {mg : Str → Option Value} {base : Heap} {k : Nat} {C : CallF} (g : GF K mg) (a : Addr) (cdv : Value) (A : Around) (outer : List PySem.Env) (s : Shared) (H : Hp) (E : XK) (F : ∀ f a, (gb K).fa f = some a → FnC P w K mg base (gb K) C k f a)
    (hr : Room k (A.deeper (envOfC "law" (defScope s_law) s.heap.objs.size a cdv))) : PSs (cxOf CX0 P w K mg base N_law "law" (defScope s_law) a cdv A outer s H E).nox (defBody s_law) (tSs (gb K) C d_law.body) := by
  have hu : (A.deeper (envOfC "law" (defScope s_law) s.heap.objs.size a cdv)).units + 65 < cLine := by have := hr.un; omega
  exact (sss_cons (sset 1 sc_law.nd (scall 8 F hr g.g_u_law_state (sa_cons (sv 0) sa_nil)))
    (sss_cons (ss_if (st_cmp (o := .ne) rfl hu (by rfl) (se_tup (sa_cons (sgl g.i_MOST_SIGNS) (sa_cons (sgl g.i_MOST_PLACES) (sa_cons (sgl g.i_MOST_NODES) (sa_cons (sgl g.i_MOST_LETTERS) sa_nil))))) (se_tup (sa_cons se_int (sa_cons se_int (sa_cons se_int (sa_cons se_int sa_nil)))))) (sss_cons (ss_ret se_bl)
    sss_nil) sss_nil)
    (sss_cons (ss_for PassesOwn.never rfl (si_range1 rfl g.f_range se_int) (sgn 2 sc_law.nd) (sss_cons (ss_for PassesOwn.never rfl (si_any rfl (se_tup (sa_cons (se_tup (sa_cons (se_str (by decide +kernel)) (sa_cons (sfn 2 g.g_is_sign) sa_nil))) (sa_cons (se_tup (sa_cons (se_str (by decide +kernel)) (sa_cons (sfn 3 g.g_is_variable) sa_nil))) sa_nil)))) (sg_tup rfl rfl (sgs_cons (sgn 15 sc_law.nd) (sgs_cons (sgn 16 sc_law.nd) sgs_nil))) (sss_cons (sset 17 sc_law.nd (scall 13 F hr g.g_u_law_text (sa_cons (sv 1) (sa_cons (sv 15) sa_nil))))
    (sss_cons (sset 18 sc_law.nd (scall 9 F hr g.g_u_law_take (sa_cons (sv 1) (sa_cons (sb_len g.f_len rfl (sa_cons (sv 17) sa_nil)) sa_nil))))
    (sss_cons (sset 19 sc_law.nd (se_cmp (o := .eq) rfl hu (by rfl) (sv 15) (se_str (by decide +kernel))))
    (sss_cons (sset 20 sc_law.nd (se_ite (st_val (sv 19)) (se_str (by decide +kernel)) (se_str (by decide +kernel))))
    (sss_cons (ss_for PassesOwn.never rfl (si_any rfl (se_lst (sa_cons (sv 17) (sa_cons (se_bin (o := .add) rfl (se_bin (o := .add) rfl (se_slcH rfl (sv 17) (sv 18)) (scall 10 F hr g.g_u_law_pick (sa_cons (sv 1) (sa_cons (se_lst (sa_cons (se_str (by decide +kernel)) (sa_cons (se_str (by decide +kernel)) (sa_cons (se_str (by decide +kernel)) (sa_cons (se_str (by decide +kernel)) (sa_cons (se_str (by decide +kernel)) (sa_cons (se_str (by decide +kernel)) (sa_cons (se_str (by decide +kernel)) sa_nil)))))))) sa_nil)))) (se_slcL rfl (sv 17) (se_bin (o := .add) rfl (sv 18) se_int))) (sa_cons (se_bin (o := .add) rfl (sv 17) (se_str (by decide +kernel))) (sa_cons (sm_upper rfl (sv 17)) (sa_cons (se_str (by decide +kernel)) (sa_cons se_non (sa_cons se_int (sa_cons (se_tup (sa_cons (sv 17) sa_nil)) sa_nil)))))))))) (sgn 7 sc_law.nd) (sss_cons (ss_if (st_not (st_val (scall 15 F hr g.g_u_law_says (sa_cons (scallv 16 F hr (sa_cons (sv 7) sa_nil)) (sa_cons (scall 14 F hr g.g_u_law_word (sa_cons (sv 7) (sa_cons (sv 20) sa_nil))) sa_nil))))) (sss_cons (ss_ret se_bl)
    sss_nil) sss_nil)
    sss_nil))
    sss_nil))))))
    sss_nil))
    (sss_cons (sset 3 sc_law.nd (scall 11 F hr g.g_u_law_tongue (sa_cons (sv 1) sa_nil)))
    (sss_cons (sset 4 sc_law.nd (sb_tuple g.f_tuple rfl (sa_cons (se_comp (own := [("k", 5)]) (by decide) rfl sc_law.nd (si_range1 rfl g.f_range se_int) (blkOk_by (by kernel_rfl)) (fun _ _ _ _ _ => (sgn 5 sc_law.nd)) (fun _ _ _ _ _ => sts_nil) (fun _ _ _ _ _ => (se_tup (sa_cons (se_bin (o := .add) rfl (se_str (by decide +kernel)) (se_sub rfl (se_str (by decide +kernel)) (sv 5))) (sa_cons (se_bin (o := .mod) rfl (sb_int g.f_int rfl (sa_cons (sv 5) sa_nil)) se_int) sa_nil))))) sa_nil)))
    (sss_cons (ss_if (PW.pt (sw_or (st_not (st_val (scall 15 F hr g.g_u_law_says (sa_cons (scall 4 F hr g.g_is_tongue (sa_cons (sv 3) sa_nil)) (sa_cons se_bl sa_nil))))) (sw_or (st_not (st_val (scall 15 F hr g.g_u_law_says (sa_cons (scall 4 F hr g.g_is_tongue (sa_cons (se_slcH rfl (sv 4) se_int) sa_nil)) (sa_cons se_bl sa_nil))))) (sw_or1 (st_not (st_val (scall 15 F hr g.g_u_law_says (sa_cons (scall 4 F hr g.g_is_tongue (sa_cons (sv 4) sa_nil)) (sa_cons se_bl sa_nil))))))))) (sss_cons (ss_ret se_bl)
    sss_nil) sss_nil)
    (sss_cons (sset 5 sc_law.nd (scall 9 F hr g.g_u_law_take (sa_cons (sv 1) (sa_cons (sb_len g.f_len rfl (sa_cons (sv 3) sa_nil)) sa_nil))))
    (sss_cons (ss_asg (se_sub rfl (sv 3) (sv 5)) (sg_tup rfl rfl (sgs_cons (sgn 11 sc_law.nd) (sgs_cons (sgn 12 sc_law.nd) sgs_nil))))
    (sss_cons (sset 6 sc_law.nd (se_lst (sa_cons (sb_list g.f_list rfl (sa_cons (sv 3) sa_nil)) (sa_cons (se_tup sa_nil) (sa_cons (se_bin (o := .add) rfl (sv 3) (se_slcL rfl (sv 3) (se_neg se_int))) (sa_cons (se_bin (o := .add) rfl (se_bin (o := .add) rfl (se_slcH rfl (sv 3) (sv 5)) (se_tup (sa_cons (se_tup (sa_cons (sv 11) (sa_cons se_int sa_nil))) sa_nil))) (se_slcL rfl (sv 3) (se_bin (o := .add) rfl (sv 5) se_int))) (sa_cons (se_bin (o := .add) rfl (se_bin (o := .add) rfl (se_slcH rfl (sv 3) (sv 5)) (se_tup (sa_cons (se_tup (sa_cons (sv 11) (sa_cons (se_neg se_int) sa_nil))) sa_nil))) (se_slcL rfl (sv 3) (se_bin (o := .add) rfl (sv 5) se_int))) sa_nil)))))))
    (sss_cons (sset 6 sc_law.nd (se_bin (o := .add) rfl (sv 6) (se_comp (own := [("wrong", 14)]) (by decide) rfl sc_law.nd (si_any rfl (se_lst (sa_cons (se_tup (sa_cons (sv 11) sa_nil)) (sa_cons (se_lst (sa_cons (sv 11) (sa_cons (sv 12) sa_nil))) (sa_cons (se_tup (sa_cons (se_str (by decide +kernel)) (sa_cons (sv 12) sa_nil))) (sa_cons (se_tup (sa_cons (sv 11) (sa_cons se_bl sa_nil))) (sa_cons (se_tup (sa_cons (sv 11) (sa_cons se_non sa_nil))) (sa_cons se_non sa_nil)))))))) (blkOk_by (by kernel_rfl)) (fun _ _ _ _ _ => (sgn 14 sc_law.nd)) (fun _ _ _ _ _ => sts_nil) (fun _ _ _ _ _ => (se_bin (o := .add) rfl (se_bin (o := .add) rfl (se_slcH rfl (sv 3) (sv 5)) (se_tup (sa_cons (sv 14) sa_nil))) (se_slcL rfl (sv 3) (se_bin (o := .add) rfl (sv 5) se_int)))))))
    (sss_cons (ss_for PassesOwn.never rfl (si_any rfl (se_bin (o := .add) rfl (sv 6) (se_lst (sa_cons (se_rev rfl (sv 3)) (sa_cons se_non (sa_cons se_int sa_nil)))))) (sgn 7 sc_law.nd) (sss_cons (ss_if (st_not (st_val (scall 15 F hr g.g_u_law_says (sa_cons (scall 4 F hr g.g_is_tongue (sa_cons (sv 7) sa_nil)) (sa_cons se_bl sa_nil))))) (sss_cons (ss_ret se_bl)
    sss_nil) sss_nil)
    sss_nil))
    (sss_cons (ss_if (PW.pt (sw_or (st_cmp (o := .ne) rfl hu (by rfl) (se_comp (own := [("pair", 9)]) (by decide) rfl sc_law.nd (si_any rfl (sv 3)) (blkOk_by (by kernel_rfl)) (fun _ _ _ _ _ => (sgn 9 sc_law.nd)) (fun _ _ _ _ _ => sts_nil) (fun _ _ _ _ _ => (scall 5 F hr g.g_places_of (sa_cons (sv 3) (sa_cons (se_sub rfl (sv 9) se_int) sa_nil))))) (se_comp (own := [("pair", 9)]) (by decide) rfl sc_law.nd (si_any rfl (sv 3)) (blkOk_by (by kernel_rfl)) (fun _ _ _ _ _ => (sgn 9 sc_law.nd)) (fun _ _ _ _ _ => sts_nil) (fun _ _ _ _ _ => (se_sub rfl (sv 9) se_int)))) (sw_or1 (st_cmp (o := .isn) rfl hu (by rfl) (scall 5 F hr g.g_places_of (sa_cons (sv 3) (sa_cons (se_str (by decide +kernel)) sa_nil))) se_non)))) (sss_cons (ss_ret se_bl)
    sss_nil) sss_nil)
    (sss_cons (ss_for PassesOwn.never rfl (si_range1 rfl g.f_range se_int) (sgn 2 sc_law.nd) (sss_cons (sset 13 sc_law.nd (scall 12 F hr g.g_u_law_term (sa_cons (sv 1) (sa_cons (sv 3) (sa_cons (se_lst (sa_cons (se_str (by decide +kernel)) (sa_cons (se_str (by decide +kernel)) (sa_cons (se_str (by decide +kernel)) sa_nil)))) (sa_cons se_int sa_nil))))))
    (sss_cons (sset 14 sc_law.nd (scall 16 F hr g.g_u_law_wrong (sa_cons (sv 1) (sa_cons (sv 3) (sa_cons (sv 13) sa_nil)))))
    (sss_cons (ss_if (PW.pt (sw_or (st_not (st_val (scall 15 F hr g.g_u_law_says (sa_cons (scall 7 F hr g.g_is_term (sa_cons (sv 13) (sa_cons (sv 3) sa_nil))) (sa_cons se_bl sa_nil))))) (sw_or1 (PW.pt (sw_and (st_not (st_val (sisi .str g.f_isinstance g.f_str bt_str rfl (sv 14)))) (sw_and1 (st_not (st_val (scall 15 F hr g.g_u_law_says (sa_cons (scall 7 F hr g.g_is_term (sa_cons (sv 14) (sa_cons (sv 3) sa_nil))) (sa_cons se_bl sa_nil))))))))))) (sss_cons (ss_ret se_bl)
    sss_nil) sss_nil)
    (sss_cons (ss_if (PW.pt (sw_and (st_val (sisi .str g.f_isinstance g.f_str bt_str rfl (sv 14))) (sw_and1 (st_not (st_val (scall 15 F hr g.g_u_law_says (sa_cons (scall 7 F hr g.g_is_term (sa_cons (sv 14) (sa_cons (sv 3) sa_nil))) (sa_cons (scall 14 F hr g.g_u_law_word (sa_cons (sv 14) (sa_cons (se_str (by decide +kernel)) sa_nil))) sa_nil)))))))) (sss_cons (ss_ret se_bl)
    sss_nil) sss_nil)
    sss_nil)))))
    (sss_cons (sset 8 sc_law.nd (se_str (by decide +kernel)))
    (sss_cons (ss_for PassesOwn.never rfl (si_range1 rfl g.f_range se_int) (sgn 2 sc_law.nd) (sss_cons (sset 8 sc_law.nd (se_tup (sa_cons (se_str (by decide +kernel)) (sa_cons (sv 8) sa_nil))))
    sss_nil))
    (sss_cons (sset 9 sc_law.nd (se_tup (sa_cons (se_tup (sa_cons (se_str (by decide +kernel)) (sa_cons se_int sa_nil))) (sa_cons (se_tup (sa_cons (se_str (by decide +kernel)) (sa_cons se_int sa_nil))) sa_nil))))
    (sss_cons (sset 10 sc_law.nd (se_tup (sa_cons (se_str (by decide +kernel)) (sa_cons (se_sub rfl (sv 8) se_int) (sa_cons (se_str (by decide +kernel)) sa_nil)))))
    (sss_cons (ss_ret (se_and (scall 15 F hr g.g_u_law_says (sa_cons (scall 7 F hr g.g_is_term (sa_cons (sv 8) (sa_cons (sv 9) sa_nil))) (sa_cons se_bl sa_nil))) (se_and (scall 15 F hr g.g_u_law_says (sa_cons (scall 7 F hr g.g_is_term (sa_cons (se_tup (sa_cons (se_str (by decide +kernel)) (sa_cons (sv 8) sa_nil))) (sa_cons (sv 9) sa_nil))) (sa_cons se_bl sa_nil))) (se_and (scall 15 F hr g.g_u_law_says (sa_cons (scall 7 F hr g.g_is_term (sa_cons (sv 10) (sa_cons (sv 9) sa_nil))) (sa_cons se_bl sa_nil))) (se_one (scall 15 F hr g.g_u_law_says (sa_cons (scall 7 F hr g.g_is_term (sa_cons (se_tup (sa_cons (se_str (by decide +kernel)) (sa_cons (se_sub rfl (se_sub rfl (sv 8) se_int) se_int) (sa_cons (se_str (by decide +kernel)) sa_nil)))) (sa_cons (sv 9) sa_nil))) (sa_cons se_bl sa_nil))))))))
    sss_nil))))))))))))))))))
end L2.Mi.k01

set_option Elab.async false
set_option linter.all false
set_option maxRecDepth 100000
set_option maxHeartbeats 4000000
/-! Ev1: reckoning with the evaluator. -/
namespace L2.Mi
open PySem PySem.Spec PyProof.Rows

theorem callM_eq {T : List Df} {k f : Nat} {args : List MV} {mh : MHp} {d : Df} (h : T[f]? = some d) : callM T (k + 1) f args mh = runD (callM T k) d args mh := by
  show (match T[f]? with
    | none => none
    | some d => runD (callM T k) d args mh) = _
  rw [h]
mutual
/-- plain data: no live object, short texts -/
def dat : MV → Bool
  | .non => true
  | .bl _ => true
  | .int _ => true
  | .str s => decide (s.length ≤ 1000) && s.all fun c => decide (c < 1114112)
  | .tup xs => dats xs
  | .lst xs => dats xs
  | .fn _ => false
  | .loc _ => false
  | .dct _ _ => false
  | .scr _ => false
def dats : List MV → Bool
  | [] => true
  | x :: xs => dat x && dats xs
end
mutual
theorem frz_dat {n : Nat} {mh : MHp} {k : Nat} : ∀ x : MV, dat x = true → frz n mh k x = some x
  | .non, _ => by unfold frz; rfl
  | .bl _, _ => by unfold frz; rfl
  | .int _, _ => by unfold frz; rfl
  | .str _, _ => by unfold frz; rfl
  | .fn _, h => by unfold dat at h; cases h
  | .scr _, h => by unfold dat at h; cases h
  | .loc _, h => by unfold dat at h; cases h
  | .dct _ _, h => by unfold dat at h; cases h
  | .tup xs, h => by
    unfold dat at h
    unfold frz
    rw [frzs_dat xs h]; rfl
  | .lst xs, h => by
    unfold dat at h
    unfold frz
    rw [frzs_dat xs h]; rfl
theorem frzs_dat {n : Nat} {mh : MHp} {k : Nat} : ∀ xs : List MV, dats xs = true → frzs n mh k xs = some xs
  | [], _ => by unfold frzs; rfl
  | x :: xs, h => by
    unfold dats at h
    rw [Bool.and_eq_true] at h
    unfold frzs
    rw [frz_dat x h.1, frzs_dat xs h.2]; rfl
end
theorem dats_iff : ∀ {xs : List MV}, dats xs = true ↔ ∀ x ∈ xs, dat x = true
  | [] => by simp [dats]
  | x :: xs => by simp [dats, dats_iff (xs := xs)]
/-- a call whose body was reckoned -/
theorem run_of {C : CallF} {d : Df} {args : List MV} {mh mh1 : MHp} {fl : Fl} {ρ : Env} {v : MV} (hl : args.length = d.np) (hv : d.live = false) (e : exs C mh.length d.body (args.map some ++ List.replicate (d.ns - d.np) none) mh = some (fl, ρ, mh1))
    (he : endV fl = some v) (hd : dat v = true) : runD C d args mh = some (v, mh1.take mh.length) := by
  unfold runD
  rw [if_pos hl, e]
  simp only [he, hv]
  rw [frz_dat v hd]
  rfl
theorem run_of' {C : CallF} {d : Df} {args : List MV} {mh mh1 : MHp} {fl : Fl} {ρ : Env} {v : MV} (hl : args.length = d.np) (hv : d.live = false) (e : exs C mh.length d.body (args.map some ++ List.replicate (d.ns - d.np) none) mh = some (fl, ρ, mh1))
    (he : endV fl = some v) (hd : dat v = true) (hm : mh1.length = mh.length) : runD C d args mh = some (v, mh1) := by
  rw [run_of hl hv e he hd, ← hm, List.take_length]
/-! ### loops -/
theorem compGo_pure {J : Its} (hJ : J.src = none) {f : MV → MHp → Option (Option MV × MHp)} {g : MV → Option MV} {mh : MHp} : ∀ {xs : List MV}, (∀ x ∈ xs, f x mh = some (g x, mh)) → compGo J f xs mh = some (xs.filterMap g, mh)
  | [], h => by
    have ok : J.ok mh := by unfold Its.ok; rw [hJ]; trivial
    unfold compGo
    rw [if_pos ok]; rfl
  | x :: xs, h => by
    have ok : J.ok mh := by unfold Its.ok; rw [hJ]; trivial
    unfold compGo
    rw [if_pos ok, h x (by simp)]
    simp only
    rw [compGo_pure hJ fun y hy => h y (List.mem_cons_of_mem _ hy)]
    simp only [List.filterMap_cons]
    cases g x <;> rfl
/-- each turn gives an item; P of the heap stays -/
theorem compGo_st {J : Its} (hJ : J.src = none) {f : MV → MHp → Option (Option MV × MHp)} {P : MHp → Prop} {R : MV → Prop} : ∀ {xs : List MV} {mh : MHp}, P mh → (∀ x ∈ xs, ∀ mh, P mh → ∃ y mh', f x mh = some (some y, mh') ∧ P mh' ∧ R y) →
    ∃ ys mh', compGo J f xs mh = some (ys, mh') ∧ P mh' ∧ ys.length = xs.length ∧ ∀ y ∈ ys, R y
  | [], mh, p, h => by
    have ok : J.ok mh := by unfold Its.ok; rw [hJ]; trivial
    refine ⟨[], mh, ?_, p, rfl, fun y hy => by simp at hy⟩
    unfold compGo
    rw [if_pos ok]
  | x :: xs, mh, p, h => by
    have ok : J.ok mh := by unfold Its.ok; rw [hJ]; trivial
    obtain ⟨y, mh1, e1, p1, r1⟩ := h x (by simp) mh p
    obtain ⟨ys, mh2, e2, p2, l2, r2⟩ := compGo_st hJ p1 fun z hz => h z (List.mem_cons_of_mem _ hz)
    refine ⟨y :: ys, mh2, ?_, p2, by simp [l2], fun z hz => ?_⟩
    · unfold compGo
      rw [if_pos ok, e1]
      simp only [e2]
      rfl
    · rcases List.mem_cons.mp hz with rfl | hz
      · exact r1
      · exact r2 z hz
/-- a for that goes through -/
theorem forGo_st {J : Its} (hJ : J.src = none) {f : MV → Env → MHp → Option (Fl × Env × MHp)} {P : Env → MHp → Prop} : ∀ {xs : List MV} {ρ : Env} {mh : MHp}, P ρ mh → (∀ x ∈ xs, ∀ ρ mh, P ρ mh → ∃ ρ' mh', f x ρ mh = some (.nx, ρ', mh') ∧ P ρ' mh') →
    ∃ ρ' mh', forGo J f xs ρ mh = some (.nx, ρ', mh') ∧ P ρ' mh'
  | [], ρ, mh, p, h => by
    have ok : J.ok mh := by unfold Its.ok; rw [hJ]; trivial
    refine ⟨ρ, mh, ?_, p⟩
    unfold forGo
    rw [if_pos ok]
  | x :: xs, ρ, mh, p, h => by
    have ok : J.ok mh := by unfold Its.ok; rw [hJ]; trivial
    obtain ⟨ρ1, mh1, e1, p1⟩ := h x (by simp) ρ mh p
    obtain ⟨ρ2, mh2, e2, p2⟩ := forGo_st hJ p1 fun z hz => h z (List.mem_cons_of_mem _ hz)
    refine ⟨ρ2, mh2, ?_, p2⟩
    unfold forGo
    rw [if_pos ok, e1]
    exact e2
theorem forGo_cons_of {J : Its} (hJ : J.src = none) {f : MV → Env → MHp → Option (Fl × Env × MHp)} {x : MV} {xs : List MV} {ρ : Env} {mh : MHp} : forGo J f (x :: xs) ρ mh = match f x ρ mh with
    | none => none
    | some (.nx, ρ1, mh1) => forGo J f xs ρ1 mh1
    | some (.ct, ρ1, mh1) => forGo J f xs ρ1 mh1
    | some (.bk, ρ1, mh1) => some (.nx, ρ1, mh1)
    | some (.rt v, ρ1, mh1) => some (.rt v, ρ1, mh1) := by
  have ok : J.ok mh := by unfold Its.ok; rw [hJ]; trivial
  rw [forGo, if_pos ok] <;> rfl
theorem forGo_nil_of {J : Its} (hJ : J.src = none) {f : MV → Env → MHp → Option (Fl × Env × MHp)} {ρ : Env} {mh : MHp} : forGo J f [] ρ mh = some (.nx, ρ, mh) := by
  have ok : J.ok mh := by unfold Its.ok; rw [hJ]; trivial
  rw [forGo, if_pos ok]
theorem whileN_mono {c : Env → MHp → Option (Bool × MHp)} {f : Env → MHp → Option (Fl × Env × MHp)} {r : Fl × Env × MHp} : ∀ {n : Nat} {ρ : Env} {mh : MHp}, whileN c f n ρ mh = some r → ∀ m, n ≤ m → whileN c f m ρ mh = some r
  | 0, ρ, mh, h, m, hm => by unfold whileN at h; cases h
  | n + 1, ρ, mh, h, 0, hm => by omega
  | n + 1, ρ, mh, h, m + 1, hm => by
    rw [whileN] at h ⊢
    revert h
    cases e1 : c ρ mh with
    | none => exact fun h => nomatch h
    | some p =>
      obtain ⟨b, mh1⟩ := p
      cases b with
      | false => exact fun h => h
      | true =>
        show (match f ρ mh1 with
          | none => none
          | some (.nx, ρ1, mh2) => whileN c f n ρ1 mh2
          | some (.ct, ρ1, mh2) => whileN c f n ρ1 mh2
          | some (.bk, ρ1, mh2) => some (.nx, ρ1, mh2)
          | some (.rt v, ρ1, mh2) => some (.rt v, ρ1, mh2)) = some r → (match f ρ mh1 with
          | none => none
          | some (.nx, ρ1, mh2) => whileN c f m ρ1 mh2
          | some (.ct, ρ1, mh2) => whileN c f m ρ1 mh2
          | some (.bk, ρ1, mh2) => some (.nx, ρ1, mh2)
          | some (.rt v, ρ1, mh2) => some (.rt v, ρ1, mh2)) = some r
        cases e2 : f ρ mh1 with
        | none => exact fun h => nomatch h
        | some q =>
          obtain ⟨fl, ρ1, mh2⟩ := q
          cases fl with
          | nx => exact fun h => whileN_mono h m (by omega)
          | ct => exact fun h => whileN_mono h m (by omega)
          | bk => exact fun h => h
          | rt v => exact fun h => h
theorem whileM_eq {c : Env → MHp → Option (Bool × MHp)} {f : Env → MHp → Option (Fl × Env × MHp)} {r : Fl × Env × MHp} {n : Nat} {ρ : Env} {mh : MHp} (h : whileN c f n ρ mh = some r) : whileM c f ρ mh = some r := by
  have ex : ∃ n, whileN c f n ρ mh ≠ none := ⟨n, by rw [h]; exact fun z => nomatch z⟩
  unfold whileM
  rw [dif_pos ex]
  have hc := Classical.choose_spec ex
  cases e : whileN c f (Classical.choose ex) ρ mh with
  | none => exact absurd e hc
  | some r' =>
    rcases Nat.le_total n (Classical.choose ex) with l | l
    · rw [whileN_mono h _ l] at e; exact e.symm
    · rw [whileN_mono e _ l] at h; exact h
/-! the bodies of loops, kept whole -/
section
variable (C : CallF) (base : Nat)
noncomputable def forF (t : Tg) (body : List MS) : MV → Env → MHp → Option (Fl × Env × MHp) := fun x ρ1 mh2 => match asg mh2 t x ρ1 with
  | none => none
  | some ρ2 => exs C base body ρ2 mh2
noncomputable def whC (c : ME) : Env → MHp → Option (Bool × MHp) := fun ρ1 mh1 => match ev C base c ρ1 mh1 with
  | some (.bl b, mh2) => some (b, mh2)
  | _ => none
end
section
variable {C : CallF} {base : Nat} {ρ : Env} {mh : MHp}
theorem ex_for {t : Tg} {it : ME} {body : List MS} : ex C base (.for t it body) ρ mh = match evI C base it ρ mh with
  | none => none
  | some (J, mh1) => forGo J (forF C base t body) J.items ρ mh1 := by
  simp only [ex]
  rfl
theorem ex_while {c : ME} {body : List MS} : ex C base (.while c body) ρ mh = whileM (whC C base c) (exs C base body) ρ mh := by
  simp only [ex]
  rfl
theorem ev_compq {tg : Tg} {own : List Nat} {it cond e : ME} : ev C base (.comp tg own it cond e) ρ mh = match evI C base it ρ mh with
  | none => none
  | some (J, mh1) => if J.items.length ≤ line then (match compGo J (compF C base tg own cond e ρ) J.items mh1 with
    | none => none
    | some (ys, mh5) => some (.lst ys, mh5)) else none := by
  simp only [ev]
  rfl
end
theorem bls_map {mh : MHp} (bs : List Bool) : bls mh (.lst (bs.map .bl)) = some bs := by
  unfold bls
  show (bs.map MV.bl).mapM blOf = some bs
  induction bs with
  | nil => rfl
  | cons b bs ih => rw [List.map_cons, List.mapM_cons, ih]; rfl
theorem atI0 {α : Type} {x : α} {xs : List α} : idx (x :: xs) 0 = some x := by
  unfold idx L2.atI L2.ixN
  simp
theorem cut_drop {α : Type} {xs : List α} {k : Nat} : cut xs (some (k : Int)) none = xs.drop k := by
  unfold cut
  rw [HT.sIx_nat, HT.sIx_none]
  by_cases h : k ≤ xs.length
  · rw [Nat.min_eq_left h, List.take_of_length_le (by rw [List.length_drop]; omega)]
  · rw [Nat.min_eq_right (by omega), List.drop_eq_nil_of_le (Nat.le_refl _), List.drop_eq_nil_of_le (by omega)]
    simp
theorem cut_take {α : Type} {xs : List α} {k : Nat} : cut xs none (some (k : Int)) = xs.take k := by
  unfold cut
  rw [HT.sIx_nat, HT.sIx_none]
  by_cases h : k ≤ xs.length
  · rw [Nat.min_eq_left h]; simp
  · rw [Nat.min_eq_right (by omega)]; simp [List.take_of_length_le (show xs.length ≤ k by omega)]
end L2.Mi

set_option Elab.async false
set_option linter.all false
set_option maxRecDepth 100000
set_option maxHeartbeats 4000000
namespace L2.Mi.k01
open PySem PySem.Spec PyProof.Rows L2.Mi

def lowd (c : Nat) : Bool := (decide (97 ≤ c) && decide (c ≤ 122)) || (decide (48 ≤ c) && decide (c ≤ 57))
def wordB (first : Sx) : MV → Bool
  | .str [] => false
  | .str (c :: s) => decide (s.length ≤ 7) && decide (c ∈ first) && s.all lowd
  | _ => false
theorem lt1 {a b : Nat} : (([a] : List Nat) < [b]) = (a < b) := by
  apply propext
  constructor
  · intro h
    cases h with
    | rel h => exact h
    | cons h => cases h
  · exact fun h => .rel h
theorem sp_signs (k : Nat) (v : MV) (first : Sx) (mh : MHp) (hd : dat v = true) : callM T (k + 1) 1 [v, .str first] mh = some (.bl (wordB first v), mh) := by
  rw [callM_eq (d := d_are_signs_of_text) rfl]
  have fals : ∀ {C : CallF}, isTy v .str mh = some false → exs C mh.length d_are_signs_of_text.body ([v, .str first].map some ++ List.replicate (3 - 2) none) mh = some (.rt (.bl false), [some v, some (.str first), none], mh) := fun {C} h => by
    simp [d_are_signs_of_text, exs, ex, ev, evs, h]
  cases v with
  | str s =>
    cases s with
    | nil =>
      refine run_of' rfl rfl (ρ := [some (.str []), some (.str first), none]) (fl := .rt (.bl false)) ?_ rfl rfl rfl
      simp [d_are_signs_of_text, exs, ex, ev, evs, isTy, biV, one1, lenV, cmpV, ordV]
    | cons c s =>
      have hl : s.length + 1 ≤ 1000 := by simp [dat] at hd; omega
      have hz : s.length + 1 ≤ line := by unfold line; omega
      have hn1 : ¬ ((s.length : Int) + 1 < 1) := by omega
      by_cases h7 : s.length ≤ 7
      · have hn2 : ¬ ((8 : Int) < (s.length : Int) + 1) := by omega
        by_cases hc : c ∈ first
        · have hg : ∀ C base, ev C base (.comp (.nm 2) [2] (.slcL (.var 0) (.c (.int (1)))) (.c (.bl true)) (.or (.chn .le .le (.c (.str [97])) (.var 2) (.c (.str [122]))) (.chn .le .le (.c (.str [48])) (.var 2) (.c (.str [57])))))
              [some (.str (c :: s)), some (.str first), none] mh = some (.lst ((s.map lowd).map .bl), mh) := fun C base => by
            have e1 : evI C base (.slcL (.var 0) (.c (.int (1)))) [some (.str (c :: s)), some (.str first), none] mh = some (⟨s.map fun c => .str [c], none⟩, mh) := by
              have := cut_drop (xs := c :: s) (k := 1)
              simp at this
              simp [evI, ev, slcV, hz, this, itsOf]
            have hs : s.length ≤ line := by omega
            simp only [ev, e1]
            rw [compGo_pure rfl (g := fun x => match x with | .str [c] => some (.bl (lowd c)) | _ => none)]
            · simp [List.filterMap_map, hs]
              rw [← List.filterMap_eq_map]
              rfl
            · intro x hx
              obtain ⟨a, _, rfl⟩ := List.mem_map.mp hx
              by_cases h1 : a < 97 <;> by_cases h2 : 122 < a <;> by_cases h3 : a < 48 <;> by_cases h4 : 57 < a <;> simp [asg, wipeE, ev, cmpV, ordV, lt1, lowd, h1, h2, h3, h4] <;> omega
          refine run_of' rfl rfl (ρ := [some (.str (c :: s)), some (.str first), none]) (fl := .rt (.bl (s.all lowd))) ?_ ?_ rfl rfl
          · simp [d_are_signs_of_text, exs, ex, ↓hg, ev, evs, isTy, biV, one1, lenV, cmpV, ordV, subV, memV, atI0, hc, hz, hn1, hn2, bls_map]
            rw [← List.map_map, bls_map]
            simp
          · simp [endV, wordB, h7, hc]
        · refine run_of' rfl rfl (ρ := [some (.str (c :: s)), some (.str first), none]) (fl := .rt (.bl false)) ?_ ?_ rfl rfl
          · simp [d_are_signs_of_text, exs, ex, ev, evs, isTy, biV, one1, lenV, cmpV, ordV, subV, memV, atI0, hc, hz, hn1, hn2]
          · simp [endV, wordB, hc]
      · have hn2 : ((8 : Int) < (s.length : Int) + 1) := by omega
        refine run_of' rfl rfl (ρ := [some (.str (c :: s)), some (.str first), none]) (fl := .rt (.bl false)) ?_ ?_ rfl rfl
        · simp [d_are_signs_of_text, exs, ex, ev, evs, isTy, biV, one1, lenV, cmpV, ordV, subV, memV, atI0, hz, hn1, hn2]
        · simp [endV, wordB, h7]
  | _ => first | (cases hd; done) | (exact run_of' rfl rfl (fals rfl) rfl rfl rfl)

/-! equality of small values -/
theorem eqV_int (mh : MHp) (a b : Int) : eqV mh (.int a) (.int b) = some (decide (a = b)) := by
  unfold eqV
  rw [frz_dat _ rfl, frz_dat _ rfl]
  have h1 : okD (.int a) = true := rfl
  have h2 : okD (.int b) = true := rfl
  simp only [h1, h2, and_self, if_true]
  congr 1
theorem eqV_bl (mh : MHp) (a b : Bool) : eqV mh (.bl a) (.bl b) = some (decide (a = b)) := by
  unfold eqV
  rw [frz_dat _ rfl, frz_dat _ rfl]
  have h1 : okD (.bl a) = true := rfl
  have h2 : okD (.bl b) = true := rfl
  simp only [h1, h2, and_self, if_true]
  cases a <;> cases b <;> rfl
theorem eqV_nonint (mh : MHp) (b : Int) : eqV mh .non (.int b) = some false := by
  unfold eqV
  rw [frz_dat _ rfl, frz_dat _ rfl]
  rfl
theorem okD_str {a : Sx} (h : dat (.str a) = true) : okD (.str a) = true := by
  unfold dat at h
  rw [Bool.and_eq_true] at h
  have h2 := h.2
  show (PyData.canLay0 (.str ⟨a.toArray⟩) && decide (PyData.depth (.str ⟨a.toArray⟩) ≤ 64)) = true
  have e1 : PyData.depth (.str ⟨a.toArray⟩) = 0 := by unfold PyData.depth; rfl
  rw [e1]
  unfold PyData.canLay0 PySem.PyData.strOk
  simp at h2 ⊢
  intro i hi
  exact h2 i hi
theorem eqV_str (mh : MHp) (a b : Sx) (ha : dat (.str a) = true) (hb : dat (.str b) = true) : eqV mh (.str a) (.str b) = some (decide (a = b)) := by
  unfold eqV
  rw [frz_dat _ ha, frz_dat _ hb]
  simp only [okD_str ha, okD_str hb, and_self, if_true]
  congr 1
  show PyData.eqv (.str ⟨a.toArray⟩) (.str ⟨b.toArray⟩) = _
  unfold PyData.eqv
  apply Bool.eq_iff_iff.mpr
  simp
def lower : Sx := [97, 98, 99, 100, 101, 102, 103, 104, 105, 106, 107, 108, 109, 110, 111, 112, 113, 114, 115, 116, 117, 118, 119, 120, 121, 122]
def upper : Sx := [65, 66, 67, 68, 69, 70, 71, 72, 73, 74, 75, 76, 77, 78, 79, 80, 81, 82, 83, 84, 85, 86, 87, 88, 89, 90]
theorem sp_is_sign (k : Nat) (v : MV) (mh : MHp) (hd : dat v = true) : callM T (k + 2) 2 [v] mh = some (.bl (wordB lower v), mh) := by
  rw [callM_eq (d := d_is_sign) rfl]
  refine run_of' rfl rfl (ρ := [some v]) (fl := .rt (.bl (wordB lower v))) ?_ rfl rfl rfl
  have := sp_signs k v lower mh hd
  simp only [lower] at this
  simp [d_is_sign, exs, ex, ev, evs, this]
  rfl
theorem sp_is_var (k : Nat) (v : MV) (mh : MHp) (hd : dat v = true) : callM T (k + 2) 3 [v] mh = some (.bl (wordB upper v), mh) := by
  rw [callM_eq (d := d_is_variable) rfl]
  refine run_of' rfl rfl (ρ := [some v]) (fl := .rt (.bl (wordB upper v))) ?_ rfl rfl rfl
  have := sp_signs k v upper mh hd
  simp only [upper] at this
  simp [d_is_variable, exs, ex, ev, evs, this]
  rfl
def wholeB (lo hi : Int) : MV → Bool
  | .int i => decide (lo ≤ i) && decide (i ≤ hi)
  | _ => false
theorem sp_whole (k : Nat) (v : MV) (lo hi : Int) (mh : MHp) (hd : dat v = true) : callM T (k + 1) 0 [v, .int lo, .int hi] mh = some (.bl (wholeB lo hi v), mh) := by
  rw [callM_eq (d := d_is_whole) rfl]
  refine run_of' rfl rfl (ρ := [some v, some (.int lo), some (.int hi)]) (fl := .rt (.bl (wholeB lo hi v))) ?_ rfl rfl rfl
  cases v with
  | int i =>
    by_cases h1 : i < lo <;> by_cases h2 : hi < i <;> simp [d_is_whole, exs, ex, ev, evs, isTy, wholeB, cmpV, ordV, h1, h2] <;> omega
  | _ => first | (cases hd; done) | simp [d_is_whole, exs, ex, ev, evs, isTy, wholeB]
theorem sp_says (k : Nat) (a b : Bool) (mh : MHp) : callM T (k + 1) 15 [.bl a, .bl b] mh = some (.bl (decide (a = b)), mh) := by
  rw [callM_eq (d := d_l_says) rfl]
  refine run_of' rfl rfl (ρ := [some (.bl a), some (.bl b)]) (fl := .rt (.bl (decide (a = b)))) ?_ rfl rfl rfl
  simp [d_l_says, exs, ex, ev, evs, isTy, cmpV, eqV_bl]
def lowds : Sx := [97, 98, 99, 100, 101, 102, 103, 104, 105, 106, 107, 108, 109, 110, 111, 112, 113, 114, 115, 116, 117, 118, 119, 120, 121, 122, 48, 49, 50, 51, 52, 53, 54, 55, 56, 57]
theorem mem_lowds (a : Nat) : decide (a ∈ lowds) = lowd a := by
  unfold lowd lowds
  apply Bool.eq_iff_iff.mpr
  simp
  omega
theorem sp_word (k : Nat) (v : MV) (first : Sx) (mh : MHp) (hd : dat v = true) : callM T (k + 1) 14 [v, .str first] mh = some (.bl (wordB first v), mh) := by
  rw [callM_eq (d := d_l_word) rfl]
  have fals : ∀ {C : CallF}, isTy v .str mh = some false → exs C mh.length d_l_word.body ([v, .str first].map some ++ List.replicate (3 - 2) none) mh = some (.rt (.bl false), [some v, some (.str first), none], mh) := fun {C} h => by
    simp [d_l_word, exs, ex, ev, evs, h]
  cases v with
  | str s =>
    cases s with
    | nil =>
      refine run_of' rfl rfl (ρ := [some (.str []), some (.str first), none]) (fl := .rt (.bl false)) ?_ rfl rfl rfl
      simp [d_l_word, exs, ex, ev, evs, isTy, biV, one1, lenV, cmpV, ordV]
    | cons c s =>
      have hl : s.length + 1 ≤ 1000 := by simp [dat] at hd; omega
      have hz : s.length + 1 ≤ line := by unfold line; omega
      have hn1 : ¬ ((s.length : Int) + 1 < 1) := by omega
      by_cases h7 : s.length ≤ 7
      · have hn2 : ¬ ((8 : Int) < (s.length : Int) + 1) := by omega
        by_cases hc : c ∈ first
        · have hg : ∀ C base, ev C base (.comp (.nm 2) [2] (.slcL (.var 0) (.c (.int (1)))) (.cmp .nmem (.var 2) (.c (.str lowds))) (.var 2))
              [some (.str (c :: s)), some (.str first), none] mh = some (.lst ((s.filter fun c => !lowd c).map fun c => .str [c]), mh) := fun C base => by
            have e1 : evI C base (.slcL (.var 0) (.c (.int (1)))) [some (.str (c :: s)), some (.str first), none] mh = some (⟨s.map fun c => .str [c], none⟩, mh) := by
              have := cut_drop (xs := c :: s) (k := 1)
              simp at this
              simp [evI, ev, slcV, hz, this, itsOf]
            have hs : s.length ≤ line := by omega
            simp only [ev, e1]
            rw [compGo_pure rfl (g := fun x => match x with | .str [c] => if lowd c = true then none else some (.str [c]) | _ => none)]
            · simp [List.filterMap_map, hs]
              clear hd hl hz hn1 h7 hn2 e1 hs fals
              induction s with
              | nil => rfl
              | cons a s ih =>
                rw [List.filterMap_cons]
                cases h : lowd a <;> simp [h, ih]
            · intro x hx
              obtain ⟨a, _, rfl⟩ := List.mem_map.mp hx
              have hm := mem_lowds a
              cases h : lowd a
              · rw [h] at hm
                simp [asg, wipeE, ev, cmpV, memV, hm, h]
              · rw [h] at hm
                simp [asg, wipeE, ev, cmpV, memV, hm, h]
          simp only [lowds] at hg
          have hall : decide ((((s.filter fun c => !lowd c).length : Nat) : Int) = 0) = s.all lowd := by
            clear hd hl hz hn1 h7 hn2 hg fals
            apply Bool.eq_iff_iff.mpr
            simp
          refine run_of' rfl rfl (ρ := [some (.str (c :: s)), some (.str first), none]) (fl := .rt (.bl (s.all lowd))) ?_ ?_ rfl rfl
          · simp [d_l_word, exs, ex, ↓hg, ev, evs, isTy, biV, one1, lenV, getL, cmpV, ordV, subV, memV, atI0, hc, hz, hn1, hn2, eqV_int]
            simpa using hall
          · simp [endV, wordB, h7, hc]
        · refine run_of' rfl rfl (ρ := [some (.str (c :: s)), some (.str first), none]) (fl := .rt (.bl false)) ?_ ?_ rfl rfl
          · simp [d_l_word, exs, ex, ev, evs, isTy, biV, one1, lenV, cmpV, ordV, subV, memV, atI0, hc, hz, hn1, hn2]
          · simp [endV, wordB, hc]
      · have hn2 : ((8 : Int) < (s.length : Int) + 1) := by omega
        refine run_of' rfl rfl (ρ := [some (.str (c :: s)), some (.str first), none]) (fl := .rt (.bl false)) ?_ ?_ rfl rfl
        · simp [d_l_word, exs, ex, ev, evs, isTy, biV, one1, lenV, cmpV, ordV, subV, memV, atI0, hz, hn1, hn2]
        · simp [endV, wordB, h7]
  | _ => first | (cases hd; done) | (exact run_of' rfl rfl (fals rfl) rfl rfl rfl)
end L2.Mi.k01

set_option Elab.async false
set_option linter.all false
set_option maxRecDepth 100000
set_option maxHeartbeats 4000000
namespace L2.Mi.k01
open PySem PySem.Spec PyProof.Rows L2.Mi
def pairB : MV → Bool
  | .tup [a, b] => wordB lower a && wholeB 0 4 b
  | _ => false
def fstS : MV → Sx
  | .tup (.str s :: _) => s
  | _ => []
def sndI : MV → MV
  | .tup [_, b] => b
  | _ => .non
/-- what places_of gives -/
def placesV : List MV → Sx → MV
  | [], _ => .non
  | p :: ps, s => if fstS p = s then sndI p else placesV ps s
theorem wordB_str {f : Sx} {v : MV} (h : wordB f v = true) : ∃ c s, v = .str (c :: s) := by
  unfold wordB at h
  split at h
  · cases h
  · exact ⟨_, _, rfl⟩
  · cases h
theorem wholeB_int {lo hi : Int} {v : MV} (h : wholeB lo hi v = true) : ∃ i : Int, v = .int i ∧ lo ≤ i ∧ i ≤ hi := by
  unfold wholeB at h
  split at h
  · rename_i i
    rw [Bool.and_eq_true, decide_eq_true_eq, decide_eq_true_eq] at h
    exact ⟨i, rfl, h.1, h.2⟩
  · cases h
theorem pairB_tup {p : MV} (h : pairB p = true) : ∃ (c : Nat) (s : Sx) (i : Int), p = .tup [.str (c :: s), .int i] ∧ wordB lower (.str (c :: s)) = true ∧ 0 ≤ i ∧ i ≤ 4 := by
  unfold pairB at h
  split at h
  · rw [Bool.and_eq_true] at h
    obtain ⟨c, s, rfl⟩ := wordB_str h.1
    obtain ⟨i, rfl, h1, h2⟩ := wholeB_int h.2
    exact ⟨c, s, i, rfl, h.1, h1, h2⟩
  · cases h
theorem placesV_cases {ps : List MV} (hp : ∀ p ∈ ps, pairB p = true) (s : Sx) : placesV ps s = .non ∨ ∃ i : Int, placesV ps s = .int i := by
  induction ps with
  | nil => exact .inl rfl
  | cons p ps ih =>
    obtain ⟨c, t, i, rfl, _⟩ := pairB_tup (hp p (by simp))
    unfold placesV
    split
    · exact .inr ⟨i, rfl⟩
    · exact ih fun q hq => hp q (List.mem_cons_of_mem _ hq)
theorem pair_dat {p : MV} {c : Nat} {t : Sx} {i : Int} (h : dat (.tup [.str (c :: t), .int i]) = true) : dat (.str (c :: t)) = true := by
  unfold dat at h
  exact dats_iff.mp h _ (by simp)
theorem places_loop {f : MV → Env → MHp → Option (Fl × Env × MHp)} {s : Sx} {a b : Option MV} {mh : MHp} {J : Its} (hJ : J.src = none) :
    ∀ (qs : List MV) (o1 o2 : Option MV), (∀ p ∈ qs, ∀ o1 o2, f p [a, b, o1, o2] mh = some (if fstS p = s then .rt (sndI p) else .nx, [a, b, some (.str (fstS p)), some (sndI p)], mh)) →
    ∃ ρ1, (forGo J f qs [a, b, o1, o2] mh = some (.nx, ρ1, mh) ∧ placesV qs s = .non ∧ ρ1.length = 4) ∨ forGo J f qs [a, b, o1, o2] mh = some (.rt (placesV qs s), ρ1, mh)
  | [], o1, o2, _ => ⟨_, .inl ⟨forGo_nil_of hJ, rfl, rfl⟩⟩
  | p :: qs, o1, o2, h => by
    rw [forGo_cons_of hJ, h p (by simp) o1 o2]
    unfold placesV
    by_cases e : fstS p = s
    · rw [if_pos e, if_pos e]
      exact ⟨_, .inr rfl⟩
    · rw [if_neg e, if_neg e]
      exact places_loop hJ qs _ _ fun q hq => h q (List.mem_cons_of_mem _ hq)
theorem sp_places (k : Nat) (ps : List MV) (s : Sx) (mh : MHp) (hp : ∀ p ∈ ps, pairB p = true) (hd : dats ps = true) (hs : dat (.str s) = true) : callM T (k + 1) 5 [.tup ps, .str s] mh = some (placesV ps s, mh) := by
  rw [callM_eq (d := d_places_of) rfl]
  have hv : dat (placesV ps s) = true := by
    rcases placesV_cases hp s with e | ⟨i, e⟩ <;> rw [e] <;> rfl
  obtain ⟨ρ1, h⟩ := places_loop (f := forF (callM T k) mh.length (.tp [(.nm 2), (.nm 3)]) [(.ite (.cmp .eq (.var 2) (.var 1)) [(.ret (.var 3))] [])]) (s := s) (a := some (.tup ps)) (b := some (.str s)) (mh := mh) (J := ⟨ps, none⟩) rfl ps none none (fun p hm o1 o2 => by
    obtain ⟨c, t, i, rfl, _⟩ := pairB_tup (hp p hm)
    have hdt : dat (.str (c :: t)) = true := pair_dat (p := .non) (dats_iff.mp hd _ hm)
    by_cases e : c :: t = s
    · subst e
      simp [forF, asg, asgs, exs, ex, ev, cmpV, eqV_str _ _ _ hdt hdt, fstS, sndI]
    · simp [forF, asg, asgs, exs, ex, ev, cmpV, eqV_str _ _ _ hdt hs, e, fstS, sndI])
  rcases h with ⟨e, e2, hl⟩ | e
  · refine run_of' rfl rfl (ρ := ρ1) (fl := .rt .non) ?_ (by rw [e2]; rfl) hv rfl
    simp [d_places_of, exs, ↓ex_for, evI, ev, itsOf, e, ex]
  · refine run_of' rfl rfl (ρ := ρ1) (fl := .rt (placesV ps s)) ?_ rfl hv rfl
    simp [d_places_of, exs, ↓ex_for, evI, ev, itsOf, e, ex]
/-! ### is_tongue -/
def ordB (ps : List MV) : Bool := (List.range (ps.length - 1)).all fun k => decide (fstS (ps.getD k .non) < fstS (ps.getD (k + 1) .non))
def tongueB : MV → Bool
  | .tup ps => decide (1 ≤ ps.length) && decide (ps.length ≤ 12) && ps.all pairB && ordB ps
  | _ => false
theorem tongue_loop {f : MV → Env → MHp → Option (Fl × Env × MHp)} {a c : Option MV} {mh : MHp} {J : Its} (hJ : J.src = none) :
    ∀ (qs : List MV) (o : Option MV), (∀ p ∈ qs, ∀ o, f p [a, o, c] mh = some (if pairB p = true then .nx else .rt (.bl false), [a, some p, c], mh)) →
    ∃ o', forGo J f qs [a, o, c] mh = some (if qs.all pairB = true then .nx else .rt (.bl false), [a, o', c], mh)
  | [], o, _ => ⟨_, forGo_nil_of hJ⟩
  | p :: qs, o, h => by
    rw [forGo_cons_of hJ, h p (by simp) o, List.all_cons]
    by_cases e : pairB p = true
    · rw [if_pos e, e]
      exact tongue_loop hJ qs _ fun q hq => h q (List.mem_cons_of_mem _ hq)
    · rw [if_neg e]
      have e' : pairB p = false := by simpa using e
      rw [e']
      exact ⟨_, rfl⟩
theorem idx_nat {α : Type} {xs : List α} {j : Nat} {v : α} (h : xs[j]? = some v) : idx xs (j : Int) = some v := L2.atI_nat h
theorem idx_nat1 {α : Type} {xs : List α} {j : Nat} {v : α} (h : xs[j + 1]? = some v) : idx xs ((j : Int) + 1) = some v := by
  have := L2.atI_nat h
  simpa [idx] using this
theorem atI1 {α : Type} {x y : α} {xs : List α} : idx (x :: y :: xs) 1 = some y := by
  have := idx_nat (xs := x :: y :: xs) (j := 1) (v := y) rfl
  simpa using this
theorem bls_map' {mh : MHp} {α : Type} (xs : List α) (g : α → Bool) : bls mh (.lst (xs.map fun x => .bl (g x))) = some (xs.map g) := by
  have := bls_map (mh := mh) (xs.map g)
  rw [List.map_map] at this
  exact this
theorem sp_tongue (k : Nat) (v : MV) (mh : MHp) (hd : dat v = true) : callM T (k + 3) 4 [v] mh = some (.bl (tongueB v), mh) := by
  rw [callM_eq (d := d_is_tongue) rfl]
  have fals : ∀ {C : CallF}, isTy v .tuple mh = some false → exs C mh.length d_is_tongue.body ([v].map some ++ List.replicate (3 - 1) none) mh = some (.rt (.bl false), [some v, none, none], mh) := fun {C} h => by
    simp [d_is_tongue, exs, ex, ev, evs, h]
  cases v with
  | tup ps =>
    have hds : dats ps = true := by unfold dat at hd; exact hd
    by_cases h1 : 1 ≤ ps.length
    · by_cases h12 : ps.length ≤ 12
      · have n1 : ¬ ((ps.length : Int) < 1) := by omega
        have n2 : ¬ ((12 : Int) < (ps.length : Int)) := by omega
        obtain ⟨o', e⟩ := tongue_loop (f := forF (callM T (k + 2)) mh.length (.nm 1) [(.ite (.or (.not (.isi (.var 1) .tuple)) (.or (.cmp .ne (.bi .len [(.var 1)]) (.c (.int (2)))) (.not (.call 2 [(.sub (.var 1) (.c (.int (0))))])))) [(.ret (.c (.bl false)))] []), (.ite (.not (.call 0 [(.sub (.var 1) (.c (.int (1)))), (.c (.int (0))), (.c (.int (4)))])) [(.ret (.c (.bl false)))] [])])
          (a := some (.tup ps)) (c := none) (mh := mh) (J := ⟨ps, none⟩) rfl ps none (fun p hm o => by
            have hp := dats_iff.mp hds p hm
            cases p with
            | tup xs =>
              have hxs : dats xs = true := by unfold dat at hp; exact hp
              match xs, hxs with
              | [], _ => simp [forF, asg, exs, ex, ev, evs, isTy, biV, one1, lenV, cmpV, eqV_int, pairB]
              | [x], _ => simp [forF, asg, exs, ex, ev, evs, isTy, biV, one1, lenV, cmpV, eqV_int, pairB]
              | [x, y], hxs =>
                have hx := dats_iff.mp hxs x (by simp)
                have hy := dats_iff.mp hxs y (by simp)
                have c1 := sp_is_sign k x mh hx
                have c2 := sp_whole (k + 1) y 0 4 mh hy
                cases e1 : wordB lower x <;> cases e2 : wholeB 0 4 y <;> rw [e1] at c1 <;> rw [e2] at c2 <;> simp [forF, asg, exs, ex, ev, evs, isTy, biV, one1, lenV, cmpV, eqV_int, pairB, subV, atI0, atI1, c1, c2, e1, e2]
              | x :: y :: z :: r, _ =>
                have : ¬ ((r.length : Int) + 1 + 1 + 1 = 2) := by omega
                simp [forF, asg, exs, ex, ev, evs, isTy, biV, one1, lenV, cmpV, eqV_int, pairB, this]
            | _ => first | (cases hp; done) | simp [forF, asg, exs, ex, ev, evs, isTy, biV, one1, lenV, cmpV, eqV_int, pairB])
        by_cases ha : ps.all pairB = true
        · rw [if_pos ha] at e
          have hall : ∀ p ∈ ps, pairB p = true := List.all_eq_true.mp ha
          have at_ : ∀ j, j < ps.length → ∃ c t i, ps[j]? = some (.tup [.str (c :: t), .int i]) ∧ ps.getD j .non = .tup [.str (c :: t), .int i] := fun j hj => by
            have hm : ps[j] ∈ ps := List.getElem_mem hj
            obtain ⟨c, t, i, e1, _⟩ := pairB_tup (hall _ hm)
            refine ⟨c, t, i, by rw [List.getElem?_eq_getElem hj, e1], ?_⟩
            rw [List.getD_eq_getElem?_getD, List.getElem?_eq_getElem hj, e1]; rfl
          have hg : ∀ C base, ev C base (.comp (.nm 2) [2] (.rng1 (.bin .sub (.bi .len [(.var 0)]) (.c (.int (1))))) (.c (.bl true)) (.cmp .lt (.sub (.sub (.var 0) (.var 2)) (.c (.int (0)))) (.sub (.sub (.var 0) (.bin .add (.var 2) (.c (.int (1))))) (.c (.int (0))))))
              [some (.tup ps), o', none] mh = some (.lst ((List.range (ps.length - 1)).map fun k => .bl (decide (fstS (ps.getD k .non) < fstS (ps.getD (k + 1) .non)))), mh) := fun C base => by
            have e1 : evI C base (.rng1 (.bin .sub (.bi .len [(.var 0)]) (.c (.int (1))))) [some (.tup ps), o', none] mh = some (⟨(List.range (ps.length - 1)).map fun (k : Nat) => .int (k : Int), none⟩, mh) := by
              have b1 : -4611686018427387904 ≤ (ps.length : Int) - 1 := by omega
              have b2 : (ps.length : Int) - 1 < 4611686018427387904 := by omega
              have b3 : ((ps.length : Int) - 1).toNat = ps.length - 1 := by omega
              simp [evI, ev, evs, biV, one1, lenV, binV, intV, b1, b2, b3]
            rw [ev_compq, e1]
            have hz : ps.length - 1 ≤ line := by unfold line; omega
            simp only [List.length_map, List.length_range, hz, if_true]
            rw [compGo_pure rfl (g := fun x => match x with | .int i => some (.bl (decide (fstS (ps.getD i.toNat .non) < fstS (ps.getD (i.toNat + 1) .non)))) | _ => none)]
            · simp only
              congr 3
              rw [List.filterMap_map, ← List.filterMap_eq_map]
              apply congrArg (fun f => List.filterMap f (List.range (ps.length - 1)))
              funext j
              simp
            · intro x hx
              obtain ⟨j, hj, rfl⟩ := List.mem_map.mp hx
              have hj' := List.mem_range.mp hj
              obtain ⟨c1, t1, i1, q1, r1⟩ := at_ j (by omega)
              obtain ⟨c2, t2, i2, q2, r2⟩ := at_ (j + 1) (by omega)
              simp only [Int.toNat_natCast, r1, r2]
              simp [compF, asg, wipeE, ev, binV, addV, subV, idx_nat q1, idx_nat1 q2, atI0, cmpV, ordV, fstS]
              exact decide_eq_decide.mpr Iff.rfl
          refine run_of' rfl rfl (ρ := [some (.tup ps), o', none]) (fl := .rt (.bl (tongueB (.tup ps)))) ?_ rfl rfl rfl
          have ht : tongueB (.tup ps) = ordB ps := by simp only [tongueB, h1, h12, ha, decide_true, Bool.true_and]
          rw [ht]
          simp [d_is_tongue, exs, ex, ↓ex_for, ↓hg, ev, evs, evI, itsOf, isTy, biV, one1, lenV, cmpV, ordV, n1, n2, e, bls_map', ordB]
        · rw [if_neg ha] at e
          refine run_of' rfl rfl (ρ := [some (.tup ps), o', none]) (fl := .rt (.bl false)) ?_ ?_ rfl rfl
          · simp [d_is_tongue, exs, ex, ↓ex_for, ev, evs, evI, itsOf, isTy, biV, one1, lenV, cmpV, ordV, n1, n2, e]
          · have : ps.all pairB = false := by simpa using ha
            simp only [endV, tongueB, this, Bool.and_false, Bool.false_and]
      · have n2 : ((12 : Int) < (ps.length : Int)) := by omega
        have n1 : ¬ ((ps.length : Int) < 1) := by omega
        refine run_of' rfl rfl (ρ := [some (.tup ps), none, none]) (fl := .rt (.bl false)) ?_ ?_ rfl rfl
        · simp [d_is_tongue, exs, ex, ev, evs, isTy, biV, one1, lenV, cmpV, ordV, n1, n2]
        · simp [endV, tongueB, h12]
    · have n1 : ((ps.length : Int) < 1) := by omega
      refine run_of' rfl rfl (ρ := [some (.tup ps), none, none]) (fl := .rt (.bl false)) ?_ ?_ rfl rfl
      · simp [d_is_tongue, exs, ex, ev, evs, isTy, biV, one1, lenV, cmpV, ordV, n1]
      · simp only [endV, tongueB, h1, decide_false, Bool.false_and]
  | _ => first | (cases hd; done) | (exact run_of' rfl rfl (fals rfl) rfl rfl rfl)
end L2.Mi.k01

set_option Elab.async false
set_option linter.all false
set_option maxRecDepth 100000
set_option maxHeartbeats 4000000
namespace L2.Mi.k01
open PySem PySem.Spec PyProof.Rows L2.Mi
mutual
def cnt : MV → Nat
  | .tup xs => 1 + cntT xs
  | _ => 1
def cntT : List MV → Nat
  | [] => 0
  | _ :: xs => cnts xs
def cnts : List MV → Nat
  | [] => 0
  | x :: xs => cnt x + cnts xs
end
mutual
def shape : MV → Bool
  | .str _ => true
  | .tup xs => shapeT xs
  | _ => false
def shapeT : List MV → Bool
  | [] => false
  | _ :: xs => shapes xs
def shapes : List MV → Bool
  | [] => true
  | x :: xs => shape x && shapes xs
end
theorem cnts_app (xs ys : List MV) : cnts (xs ++ ys) = cnts xs + cnts ys := by
  induction xs with
  | nil => simp [cnts]
  | cons x xs ih => simp only [List.cons_append, cnts, ih]; omega
theorem shapes_app (xs ys : List MV) : shapes (xs ++ ys) = (shapes xs && shapes ys) := by
  induction xs with
  | nil => simp [shapes]
  | cons x xs ih => simp only [List.cons_append, shapes, ih, Bool.and_assoc]
theorem dats_app (xs ys : List MV) : dats (xs ++ ys) = (dats xs && dats ys) := by
  induction xs with
  | nil => simp [dats]
  | cons x xs ih => simp only [List.cons_append, dats, ih, Bool.and_assoc]
theorem cnt_pos (x : MV) : 1 ≤ cnt x := by
  cases x <;> simp [cnt]
theorem cnts_pos {w : List MV} (h : w ≠ []) : 1 ≤ cnts w := by
  cases w with
  | nil => exact absurd rfl h
  | cons x xs => have := cnt_pos x; simp only [cnts]; omega
abbrev nC : ME := (.cmp .gt (.bi .len [(.var 1)]) (.c (.int (0))))
abbrev nB : List MS := [(.set (.nm 3) (.meth .pop (.var 1) [])), (.aug 2 .add (.c (.int (1)))), (.ite (.and (.isi (.var 3) .tuple) (.cmp .gt (.bi .len [(.var 3)]) (.c (.int (0))))) [(.ex (.meth .extend (.var 1) [(.slcL (.var 3) (.c (.int (1))))]))] [(.ite (.not (.isi (.var 3) .str)) [(.ret (.c .non))] [])]), (.ite (.cmp .gt (.var 2) (.c (.int (400)))) [(.ret (.var 2))] [])]
theorem top_get {mh : MHp} {o : MO} : (mh ++ [some o])[mh.length]? = some (some o) := by
  rw [List.getElem?_append_right (Nat.le_refl _)]; simp
theorem top_set {mh : MHp} {o o' : MO} : (mh ++ [some o]).set mh.length (some o') = mh ++ [some o'] := by
  rw [List.set_append_right _ _ (Nat.le_refl _)]; simp
abbrev nEnv (v : MV) (mh : MHp) (found : Int) (o : Option MV) : Env := [some v, some (.loc mh.length), some (.int found), o]
abbrev nHp (mh : MHp) (w : List MV) : MHp := mh ++ [some (.lst w)]
theorem n_cond {C : CallF} {v : MV} {mh : MHp} {w : List MV} {found : Int} {o : Option MV} : whC C mh.length nC (nEnv v mh found o) (nHp mh w) = some (decide (0 < w.length), nHp mh w) := by
  simp [whC, nC, nEnv, nHp, ev, evs, biV, one1, lenV, getL, top_get, cmpV, ordV]
theorem last_get {w : List MV} {x : MV} : (w ++ [x])[(w ++ [x]).length - 1]? = some x := by simp
theorem n_pop {C : CallF} {v : MV} {mh : MHp} {w : List MV} {x : MV} {found : Int} {o : Option MV} : ev C mh.length (.meth .pop (.var 1) []) (nEnv v mh found o) (nHp mh (w ++ [x])) = some (x, nHp mh w) := by
  simp [nEnv, nHp, ev, evs, tyM, liveL, top_get, methV, popV, top_set]
theorem bd_dat {n : Nat} : ∀ x : MV, dat x = true → bd n x = true := by
  intro x
  induction x using MV.rec (motive_2 := fun xs => dats xs = true → bds n xs = true) with
  | non => intro _; rfl
  | bl => intro _; rfl
  | int => intro _; rfl
  | str => intro _; rfl
  | fn => intro _; rfl
  | tup xs ih => intro h; unfold dat at h; unfold bd; exact ih h
  | lst xs ih => intro h; unfold dat at h; unfold bd; exact ih h
  | loc l => intro h; unfold dat at h; cases h
  | dct ks vs ih => intro h; unfold dat at h; cases h
  | scr ns => intro _; rfl
  | nil => rfl
  | cons x xs h1 h2 =>
    rename_i h
    unfold dats at h
    rw [Bool.and_eq_true] at h
    unfold bds
    rw [h1 h.1, h2 h.2]; rfl
theorem n_ext {C : CallF} {v : MV} {mh : MHp} {w : List MV} {x : MV} {xs : List MV} {found : Int} (hz : w.length + xs.length ≤ line) : ev C mh.length (.meth .extend (.var 1) [(.slcL (.var 3) (.c (.int (1))))]) (nEnv v mh found (some (.tup (x :: xs)))) (nHp mh w) = some (.non, nHp mh (w ++ xs)) := by
  have hc := cut_drop (xs := x :: xs) (k := 1)
  simp at hc
  have hw : ∀ y ∈ xs, wr mh.length mh.length y = true := fun y hy => by simp [wr]
  simp [nEnv, nHp, ev, evs, tyM, liveL, top_get, methV, extV, top_set, slcV, hc, seqOf, hz, hw]
  exact hw
/-- one turn -/
theorem n_turn {C : CallF} {v : MV} {mh : MHp} {w : List MV} {x : MV} {found : Nat} {o : Option MV} (hf : found ≤ 400) (hd : dat x = true) (hz : w.length + cnt x ≤ line) :
    exs C mh.length nB (nEnv v mh (found : Int) o) (nHp mh (w ++ [x])) =
      match x with
      | .str s => if found = 400 then some (.rt (.int (401 : Int)), nEnv v mh ((found : Int) + 1) (some x), nHp mh w) else some (.nx, nEnv v mh ((found : Int) + 1) (some x), nHp mh w)
      | .tup (_ :: xs) => if found = 400 then some (.rt (.int (401 : Int)), nEnv v mh ((found : Int) + 1) (some x), nHp mh (w ++ xs)) else some (.nx, nEnv v mh ((found : Int) + 1) (some x), nHp mh (w ++ xs))
      | _ => some (.rt .non, nEnv v mh ((found : Int) + 1) (some x), nHp mh w) := by
  have s1 : ex C mh.length (.set (.nm 3) (.meth .pop (.var 1) [])) (nEnv v mh (found : Int) o) (nHp mh (w ++ [x])) = some (.nx, nEnv v mh (found : Int) (some x), nHp mh w) := by
    simp only [ex, n_pop]
    simp [asg, nEnv]
  have s2 : ex C mh.length (.aug 2 .add (.c (.int (1)))) (nEnv v mh (found : Int) (some x)) (nHp mh w) = some (.nx, nEnv v mh ((found : Int) + 1) (some x), nHp mh w) := by
    simp [ex, ev, nEnv]
  have s4 : ∀ w', ex C mh.length (.ite (.cmp .gt (.var 2) (.c (.int (400)))) [(.ret (.var 2))] []) (nEnv v mh ((found : Int) + 1) (some x)) (nHp mh w') = if found = 400 then some (.rt (.int (401 : Int)), nEnv v mh ((found : Int) + 1) (some x), nHp mh w') else some (.nx, nEnv v mh ((found : Int) + 1) (some x), nHp mh w') := fun w' => by
    by_cases h : found = 400
    · subst h
      simp [ex, exs, ev, nEnv, cmpV, ordV]
    · have : ¬ ((400 : Int) < (found : Int) + 1) := by omega
      simp [ex, exs, ev, nEnv, cmpV, ordV, this, h]
  have e4 : ∀ w', exs C mh.length [(.ite (.cmp .gt (.var 2) (.c (.int (400)))) [(.ret (.var 2))] [])] (nEnv v mh ((found : Int) + 1) (some x)) (nHp mh w') = if found = 400 then some (.rt (.int (401 : Int)), nEnv v mh ((found : Int) + 1) (some x), nHp mh w') else some (.nx, nEnv v mh ((found : Int) + 1) (some x), nHp mh w') := fun w' => by
    rw [exs, s4 w']
    by_cases h : found = 400
    · rw [if_pos h]
    · rw [if_neg h]; rfl
  rw [nB, exs, s1]
  simp only
  rw [exs, s2]
  simp only
  cases x with
  | str s =>
    rw [exs]
    have : ex C mh.length (.ite (.and (.isi (.var 3) .tuple) (.cmp .gt (.bi .len [(.var 3)]) (.c (.int (0))))) [(.ex (.meth .extend (.var 1) [(.slcL (.var 3) (.c (.int (1))))]))] [(.ite (.not (.isi (.var 3) .str)) [(.ret (.c .non))] [])]) (nEnv v mh ((found : Int) + 1) (some (.str s))) (nHp mh w) = some (.nx, nEnv v mh ((found : Int) + 1) (some (.str s)), nHp mh w) := by
      simp [ex, exs, ev, nEnv, isTy]
    rw [this]
    exact e4 w
  | tup ys =>
    cases ys with
    | nil =>
      rw [exs]
      have : ex C mh.length (.ite (.and (.isi (.var 3) .tuple) (.cmp .gt (.bi .len [(.var 3)]) (.c (.int (0))))) [(.ex (.meth .extend (.var 1) [(.slcL (.var 3) (.c (.int (1))))]))] [(.ite (.not (.isi (.var 3) .str)) [(.ret (.c .non))] [])]) (nEnv v mh ((found : Int) + 1) (some (.tup []))) (nHp mh w) = some (.rt .non, nEnv v mh ((found : Int) + 1) (some (.tup [])), nHp mh w) := by
        simp [ex, exs, ev, evs, nEnv, isTy, biV, one1, lenV, cmpV, ordV]
      rw [this]
    | cons y ys =>
      rw [exs]
      have hz' : w.length + ys.length ≤ line := by
        have : ys.length ≤ cnts ys := by
          clear hd hz s1 s2 s4 e4
          induction ys with
          | nil => simp
          | cons z zs ih => have := cnt_pos z; simp only [cnts, List.length_cons]; omega
        simp only [cnt, cntT] at hz
        omega
      have : ex C mh.length (.ite (.and (.isi (.var 3) .tuple) (.cmp .gt (.bi .len [(.var 3)]) (.c (.int (0))))) [(.ex (.meth .extend (.var 1) [(.slcL (.var 3) (.c (.int (1))))]))] [(.ite (.not (.isi (.var 3) .str)) [(.ret (.c .non))] [])]) (nEnv v mh ((found : Int) + 1) (some (.tup (y :: ys)))) (nHp mh w) = some (.nx, nEnv v mh ((found : Int) + 1) (some (.tup (y :: ys))), nHp mh (w ++ ys)) := by
        have c1 : ev C mh.length (.and (.isi (.var 3) .tuple) (.cmp .gt (.bi .len [(.var 3)]) (.c (.int (0))))) (nEnv v mh ((found : Int) + 1) (some (.tup (y :: ys)))) (nHp mh w) = some (.bl true, nHp mh w) := by
          have : (0 : Int) < (ys.length : Int) + 1 := by omega
          simp [ev, evs, nEnv, isTy, biV, one1, lenV, cmpV, ordV, this]
        simp only [ex, c1, exs, n_ext hz']
      rw [this]
      exact e4 (w ++ ys)
  | _ =>
    first
    | (cases hd; done)
    | (rw [exs]
       simp [ex, exs, ev, evs, nEnv, isTy])
theorem snoc_of {w : List MV} (h : w ≠ []) : ∃ w' x, w = w' ++ [x] := ⟨w.dropLast, w.getLast h, (List.dropLast_concat_getLast h).symm⟩
theorem len_cnts : ∀ w : List MV, w.length ≤ cnts w
  | [] => by simp
  | x :: w => by have := len_cnts w; have := cnt_pos x; simp only [cnts, List.length_cons]; omega
theorem n_condT {C : CallF} {v : MV} {mh : MHp} {w : List MV} {x : MV} {found : Int} {o : Option MV} : whC C mh.length nC (nEnv v mh found o) (nHp mh (w ++ [x])) = some (true, nHp mh (w ++ [x])) := by
  rw [n_cond]; simp
theorem n_condF {C : CallF} {v : MV} {mh : MHp} {found : Int} {o : Option MV} : whC C mh.length nC (nEnv v mh found o) (nHp mh []) = some (false, nHp mh []) := by
  rw [n_cond]; simp
/-- nodes's loop: where it ends -/
theorem n_loop {C : CallF} {v : MV} {mh : MHp} : ∀ (n : Nat) (w : List MV) (found : Nat) (o : Option MV), found + n = 400 → dats w = true → cnts w ≤ line →
    ∃ fl ρ' w', whileN (whC C mh.length nC) (exs C mh.length nB) (n + 1) (nEnv v mh (found : Int) o) (nHp mh w) = some (fl, ρ', nHp mh w') ∧
      ((shapes w = true ∧ found + cnts w ≤ 400 ∧ fl = .nx ∧ ∃ o', ρ' = nEnv v mh ((found + cnts w : Nat) : Int) o') ∨ ((shapes w = false ∨ 400 < found + cnts w) ∧ (fl = .rt .non ∨ fl = .rt (.int 401)))) := by
  intro n
  induction n with
  | zero =>
    intro w found o hf hd hz
    by_cases hw : w = []
    · subst hw
      refine ⟨.nx, nEnv v mh (found : Int) o, [], ?_, .inl ⟨rfl, by simp [cnts]; omega, rfl, o, by simp [cnts]⟩⟩
      rw [whileN, n_condF]
    · obtain ⟨w', x, rfl⟩ := snoc_of hw
      have h4 : found = 400 := by omega
      rw [cnts_app] at hz
      simp only [cnts, Nat.add_zero] at hz
      rw [dats_app] at hd
      simp only [dats, Bool.and_true, Bool.and_eq_true] at hd
      have hl := len_cnts w'
      have ht := n_turn (C := C) (v := v) (mh := mh) (w := w') (x := x) (found := found) (o := o) (by omega) hd.2 (by omega)
      have hbig : 400 < found + cnts (w' ++ [x]) := by
        have := cnt_pos x
        rw [cnts_app]; simp only [cnts]; omega
      rw [whileN, n_condT]
      simp only [ht]
      cases x with
      | str s => simp only [h4, if_true]; exact ⟨_, _, _, rfl, .inr ⟨.inr (by omega), .inr rfl⟩⟩
      | tup ys =>
        cases ys with
        | nil => exact ⟨_, _, _, rfl, .inr ⟨.inr hbig, .inl rfl⟩⟩
        | cons y ys => simp only [h4, if_true]; exact ⟨_, _, _, rfl, .inr ⟨.inr (by omega), .inr rfl⟩⟩
      | _ => exact ⟨_, _, _, rfl, .inr ⟨.inr hbig, .inl rfl⟩⟩
  | succ n ih =>
    intro w found o hf hd hz
    by_cases hw : w = []
    · subst hw
      refine ⟨.nx, nEnv v mh (found : Int) o, [], ?_, .inl ⟨rfl, by simp [cnts]; omega, rfl, o, by simp [cnts]⟩⟩
      rw [whileN, n_condF]
    · obtain ⟨w', x, rfl⟩ := snoc_of hw
      have h4 : ¬ found = 400 := by omega
      have hz0 := hz
      have hd0 := hd
      rw [cnts_app] at hz
      simp only [cnts, Nat.add_zero] at hz
      rw [dats_app] at hd
      simp only [dats, Bool.and_true, Bool.and_eq_true] at hd
      have hl := len_cnts w'
      have ht := n_turn (C := C) (v := v) (mh := mh) (w := w') (x := x) (found := found) (o := o) (by omega) hd.2 (by omega)
      have hc : cnts (w' ++ [x]) = cnts w' + cnt x := by rw [cnts_app]; simp only [cnts, Nat.add_zero]
      have hs : shapes (w' ++ [x]) = (shapes w' && shape x) := by rw [shapes_app]; simp only [shapes, Bool.and_true]
      rw [hc, hs, whileN, n_condT]
      simp only [ht]
      have e1 : ((found : Int) + 1) = ((found + 1 : Nat) : Int) := by omega
      cases x with
      | str s =>
        simp only [h4, if_false]
        rw [e1]
        obtain ⟨fl, ρ', w2, q1, q2⟩ := ih w' (found + 1) (some (.str s)) (by omega) hd.1 (by omega)
        refine ⟨fl, ρ', w2, q1, ?_⟩
        have a1 : found + (cnts w' + cnt (.str s)) = found + 1 + cnts w' := by simp only [cnt]; omega
        have a2 : shape (.str s) = true := rfl
        rw [a1, a2, Bool.and_true]
        exact q2
      | tup ys =>
        cases ys with
        | nil => exact ⟨_, _, _, rfl, .inr ⟨.inl (by simp [shape, shapeT]), .inl rfl⟩⟩
        | cons y ys =>
          simp only [h4, if_false]
          rw [e1]
          have hdy : dats ys = true := by
            have := hd.2
            unfold dat dats at this
            rw [Bool.and_eq_true] at this
            exact this.2
          obtain ⟨fl, ρ', w2, q1, q2⟩ := ih (w' ++ ys) (found + 1) (some (.tup (y :: ys))) (by omega) (by rw [dats_app, hd.1, hdy]; rfl) (by rw [cnts_app]; simp only [cnt, cntT] at hz; omega)
          refine ⟨fl, ρ', w2, q1, ?_⟩
          have a1 : found + (cnts w' + cnt (.tup (y :: ys))) = found + 1 + cnts (w' ++ ys) := by rw [cnts_app]; simp only [cnt, cntT]; omega
          have a2 : (shapes w' && shape (.tup (y :: ys))) = shapes (w' ++ ys) := by rw [shapes_app]; simp only [shape, shapeT]
          rw [a1, a2]
          exact q2
      | _ => exact ⟨_, _, _, rfl, .inr ⟨.inl (by simp [shape]), .inl rfl⟩⟩
theorem take_top {mh : MHp} {o : MO} : (mh ++ [some o]).take mh.length = mh := by simp
theorem sp_nodes (k : Nat) (v : MV) (mh : MHp) (hd : dat v = true) (hz : cnt v ≤ line) : ∃ r, callM T (k + 1) 6 [v] mh = some (r, mh) ∧
    ((shape v = true ∧ cnt v ≤ 400 ∧ r = .int (cnt v)) ∨ ((shape v = false ∨ 400 < cnt v) ∧ (r = .non ∨ r = .int 401))) := by
  rw [callM_eq (d := d_nodes) rfl]
  have hc : cnts [v] = cnt v := by simp only [cnts, Nat.add_zero]
  have hs : shapes [v] = shape v := by simp only [shapes, Bool.and_true]
  obtain ⟨fl, ρ', w', q1, q2⟩ := n_loop (C := callM T k) (v := v) (mh := mh) 400 [v] 0 none (by omega) (by simp [dats, hd]) (by rw [hc]; exact hz)
  have q1' := whileM_eq q1
  rw [hc, hs, Nat.zero_add] at q2
  have hp : ex (callM T k) mh.length (.par 1 2 (.al (.lst [(.var 0)])) (.c (.int (0)))) [some v, none, none, none] mh = some (.nx, nEnv v mh ((0 : Nat) : Int) none, nHp mh [v]) := by
    have h1 : 1 ≤ line := by unfold line; omega
    simp [ex, ev, evs, nEnv, nHp, h1]
  rcases q2 with ⟨h1, h2, rfl, o', rfl⟩ | ⟨h1, h2⟩
  · refine ⟨.int (cnt v), ?_, .inl ⟨h1, h2, rfl⟩⟩
    have := run_of (C := callM T k) (d := d_nodes) (args := [v]) (mh := mh) (mh1 := nHp mh w') (fl := .rt (.int (cnt v))) (ρ := nEnv v mh ((cnt v : Nat) : Int) o') rfl rfl ?_ rfl rfl
    · rw [take_top] at this; exact this
    · show exs (callM T k) mh.length d_nodes.body [some v, none, none, none] mh = _
      rw [d_nodes, exs, hp]
      simp only
      rw [exs, ex_while, q1']
      simp [exs, ex, ev, nEnv]
  · have key : ∀ r, dat r = true → fl = .rt r → runD (callM T k) d_nodes [v] mh = some (r, mh) := fun r hr e => by
      subst e
      have := run_of (C := callM T k) (d := d_nodes) (args := [v]) (mh := mh) (mh1 := nHp mh w') (fl := .rt r) (ρ := ρ') rfl rfl ?_ rfl hr
      · rw [take_top] at this; exact this
      · show exs (callM T k) mh.length d_nodes.body [some v, none, none, none] mh = _
        rw [d_nodes, exs, hp]
        simp only
        rw [exs, ex_while, q1']
    rcases h2 with e | e
    · exact ⟨.non, key .non rfl e, .inr ⟨h1, .inl rfl⟩⟩
    · exact ⟨.int 401, key _ rfl e, .inr ⟨h1, .inr rfl⟩⟩
end L2.Mi.k01

set_option Elab.async false
set_option linter.all false
set_option maxRecDepth 100000
set_option maxHeartbeats 4000000
namespace L2.Mi.k01
open PySem PySem.Spec PyProof.Rows L2.Mi
def isI (n : Nat) : MV → Bool
  | .int i => decide (i = (n : Int))
  | _ => false
def headB (ps : List MV) (h : MV) (n : Nat) : Bool := wordB lower h && match h with
  | .str s => isI n (placesV ps s)
  | _ => false
mutual
def good (ps : List MV) : MV → Bool
  | .str s => wordB upper (.str s)
  | .tup xs => goodT ps xs
  | _ => false
def goodT (ps : List MV) : List MV → Bool
  | [] => false
  | h :: xs => headB ps h xs.length && goods ps xs
def goods (ps : List MV) : List MV → Bool
  | [] => true
  | x :: xs => good ps x && goods ps xs
end
theorem goods_app (ps xs ys : List MV) : goods ps (xs ++ ys) = (goods ps xs && goods ps ys) := by
  induction xs with
  | nil => simp [goods]
  | cons x xs ih => simp only [List.cons_append, goods, ih, Bool.and_assoc]
mutual
theorem good_shape (ps : List MV) : ∀ x : MV, good ps x = true → shape x = true
  | .str s, _ => rfl
  | .tup [], h => by simp [good, goodT] at h
  | .tup (y :: xs), h => by
    simp only [good, goodT, Bool.and_eq_true] at h
    simp only [shape, shapeT]
    exact goods_shape ps xs h.2
  | .non, h => by simp [good] at h
  | .bl _, h => by simp [good] at h
  | .int _, h => by simp [good] at h
  | .fn _, h => by simp [good] at h
  | .lst _, h => by simp [good] at h
  | .loc _, h => by simp [good] at h
  | .dct _ _, h => by simp [good] at h
  | .scr _, h => by simp [good] at h
theorem goods_shape (ps : List MV) : ∀ xs : List MV, goods ps xs = true → shapes xs = true
  | [], _ => rfl
  | x :: xs, h => by
    simp only [goods, Bool.and_eq_true] at h
    simp only [shapes, Bool.and_eq_true]
    exact ⟨good_shape ps x h.1, goods_shape ps xs h.2⟩
end
abbrev tC : ME := (.cmp .gt (.bi .len [(.var 3)]) (.c (.int (0))))
abbrev tB : List MS := [(.set (.nm 4) (.meth .pop (.var 3) [])), (.ite (.isi (.var 4) .tuple) [(.ite (.or (.not (.call 2 [(.sub (.var 4) (.c (.int (0))))])) (.cmp .ne (.call 5 [(.var 1), (.sub (.var 4) (.c (.int (0))))]) (.bin .sub (.bi .len [(.var 4)]) (.c (.int (1)))))) [(.ret (.c (.bl false)))] []), (.ex (.meth .extend (.var 3) [(.slcL (.var 4) (.c (.int (1))))]))] [(.ite (.not (.call 3 [(.var 4)])) [(.ret (.c (.bl false)))] [])])]
abbrev tEnv (v : MV) (ps : List MV) (mh : MHp) (c : Int) (o : Option MV) : Env := [some v, some (.tup ps), some (.int c), some (.loc mh.length), o]
section
variable {k : Nat} {v : MV} {ps : List MV} {mh : MHp} {c : Int} {w : List MV} {x : MV} {o : Option MV}
theorem t_condT {C : CallF} : whC C mh.length tC (tEnv v ps mh c o) (nHp mh (w ++ [x])) = some (true, nHp mh (w ++ [x])) := by
  simp [whC, tC, tEnv, nHp, ev, evs, biV, one1, lenV, getL, top_get, cmpV, ordV]
theorem t_condF {C : CallF} : whC C mh.length tC (tEnv v ps mh c o) (nHp mh []) = some (false, nHp mh []) := by
  simp [whC, tC, tEnv, nHp, ev, evs, biV, one1, lenV, getL, top_get, cmpV, ordV]
theorem t_pop {C : CallF} : ex C mh.length (.set (.nm 4) (.meth .pop (.var 3) [])) (tEnv v ps mh c o) (nHp mh (w ++ [x])) = some (.nx, tEnv v ps mh c (some x), nHp mh w) := by
  simp [tEnv, nHp, ex, ev, evs, tyM, liveL, top_get, methV, popV, top_set, asg]
theorem t_ext {C : CallF} {xs : List MV} (hz : w.length + xs.length ≤ line) : ev C mh.length (.meth .extend (.var 3) [(.slcL (.var 4) (.c (.int (1))))]) (tEnv v ps mh c (some (.tup (x :: xs)))) (nHp mh w) = some (.non, nHp mh (w ++ xs)) := by
  have hc := cut_drop (xs := x :: xs) (k := 1)
  simp at hc
  have hw : ∀ y ∈ xs, wr mh.length mh.length y = true := fun y hy => by simp [wr]
  simp [tEnv, nHp, ev, evs, tyM, liveL, top_get, methV, extV, top_set, slcV, hc, seqOf, hz, hw]
  exact hw
theorem t_turnS {s : Sx} (hd : dat (.str s) = true) : exs (callM T (k + 2)) mh.length tB (tEnv v ps mh c o) (nHp mh (w ++ [.str s])) = some (if wordB upper (.str s) = true then .nx else .rt (.bl false), tEnv v ps mh c (some (.str s)), nHp mh w) := by
  rw [tB, exs, t_pop]
  have hv := sp_is_var k (.str s) (nHp mh w) hd
  cases e : wordB upper (.str s) <;> rw [e] at hv <;> simp [exs, ex, ev, evs, tEnv, isTy, hv]
theorem t_turnT {h : MV} {xs : List MV} (hp : ∀ p ∈ ps, pairB p = true) (hdp : dats ps = true) (hd : dats (h :: xs) = true) (hz : w.length + xs.length ≤ line) :
    ∃ w', exs (callM T (k + 2)) mh.length tB (tEnv v ps mh c o) (nHp mh (w ++ [.tup (h :: xs)])) = some (if headB ps h xs.length = true then .nx else .rt (.bl false), tEnv v ps mh c (some (.tup (h :: xs))), nHp mh w') ∧ (headB ps h xs.length = true → w' = w ++ xs) := by
  have hdh : dat h = true := dats_iff.mp hd h (by simp)
  have hs := sp_is_sign k h (nHp mh w) hdh
  rw [tB, exs, t_pop]
  cases e : wordB lower h with
  | false =>
    rw [e] at hs
    have hb : headB ps h xs.length = false := by simp [headB, e]
    refine ⟨w, ?_, fun z => by rw [hb] at z; cases z⟩
    rw [hb]
    simp [exs, ex, ev, evs, tEnv, isTy, subV, atI0, hs]
  | true =>
    rw [e] at hs
    obtain ⟨a, s, rfl⟩ := wordB_str e
    have hpl := sp_places (k + 1) ps (a :: s) (nHp mh w) hp hdp hdh
    have hb : headB ps (.str (a :: s)) xs.length = isI xs.length (placesV ps (a :: s)) := by simp [headB, e]
    rw [hb]
    have hl1 : ((xs.length : Int) + 1 - 1) = (xs.length : Int) := by omega
    have key : ∀ b, cmpV (nHp mh w) .ne (placesV ps (a :: s)) (.int (xs.length : Int)) = some (!b) → ev (callM T (k + 2)) mh.length (.or (.not (.call 2 [(.sub (.var 4) (.c (.int (0))))])) (.cmp .ne (.call 5 [(.var 1), (.sub (.var 4) (.c (.int (0))))]) (.bin .sub (.bi .len [(.var 4)]) (.c (.int (1)))))) (tEnv v ps mh c (some (.tup (.str (a :: s) :: xs)))) (nHp mh w) = some (.bl (!b), nHp mh w) := fun b hb => by
      simp [ev, evs, tEnv, isTy, subV, atI0, hs, hpl, biV, one1, lenV, binV, intV, hl1, hb]
    have hcm : cmpV (nHp mh w) .ne (placesV ps (a :: s)) (.int (xs.length : Int)) = some (!isI xs.length (placesV ps (a :: s))) := by
      rcases placesV_cases hp (a :: s) with q | ⟨i, q⟩
      · rw [q]; simp [cmpV, eqV_nonint, isI]
      · rw [q]; simp [cmpV, eqV_int, isI]
    have e2 := key _ hcm
    have it : ev (callM T (k + 2)) mh.length (.isi (.var 4) .tuple) (tEnv v ps mh c (some (.tup (.str (a :: s) :: xs)))) (nHp mh w) = some (.bl true, nHp mh w) := by simp [ev, tEnv, isTy]
    cases hi : isI xs.length (placesV ps (a :: s)) with
    | false =>
      rw [hi] at e2
      refine ⟨w, ?_, fun z => by cases z⟩
      simp only [exs, ex, it, e2, ev, Bool.not_false]
      rfl
    | true =>
      rw [hi] at e2
      refine ⟨w ++ xs, ?_, fun _ => rfl⟩
      simp only [exs, ex, it, e2, Bool.not_true, t_ext hz]
      rfl
theorem t_loop (hp : ∀ p ∈ ps, pairB p = true) (hdp : dats ps = true) : ∀ (n : Nat) (w : List MV) (o : Option MV), cnts w ≤ n → n ≤ line → dats w = true → shapes w = true →
    ∃ ρ' w', whileN (whC (callM T (k + 2)) mh.length tC) (exs (callM T (k + 2)) mh.length tB) (n + 1) (tEnv v ps mh c o) (nHp mh w) = some (if goods ps w = true then .nx else .rt (.bl false), ρ', nHp mh w') := by
  intro n
  induction n with
  | zero =>
    intro w o hc _ hd hs
    have hw : w = [] := by
      cases w with
      | nil => rfl
      | cons x w => have := cnt_pos x; simp only [cnts] at hc; omega
    subst hw
    refine ⟨tEnv v ps mh c o, [], ?_⟩
    rw [whileN, t_condF]
    rfl
  | succ n ih =>
    intro w o hc hn hd hs
    by_cases hw : w = []
    · subst hw
      refine ⟨tEnv v ps mh c o, [], ?_⟩
      rw [whileN, t_condF]
      rfl
    · obtain ⟨w', x, rfl⟩ := snoc_of hw
      rw [cnts_app] at hc
      simp only [cnts, Nat.add_zero] at hc
      rw [dats_app] at hd
      simp only [dats, Bool.and_true, Bool.and_eq_true] at hd
      rw [shapes_app] at hs
      simp only [shapes, Bool.and_true, Bool.and_eq_true] at hs
      have hl := len_cnts w'
      have hg : goods ps (w' ++ [x]) = (goods ps w' && good ps x) := by rw [goods_app]; simp only [goods, Bool.and_true]
      rw [hg, whileN, t_condT]
      cases x with
      | str s =>
        simp only [t_turnS hd.2]
        have a2 : good ps (.str s) = wordB upper (.str s) := by simp only [good]
        rw [a2]
        cases e : wordB upper (.str s) with
        | true =>
          simp only [if_true, Bool.and_true]
          have := cnt_pos (.str s)
          exact ih w' _ (by omega) (by omega) hd.1 hs.1
        | false =>
          simp only [Bool.and_false]
          exact ⟨_, w', rfl⟩
      | tup ys =>
        cases ys with
        | nil => have := hs.2; simp [shape, shapeT] at this
        | cons y ys =>
          have hdy : dats (y :: ys) = true := by have := hd.2; unfold dat at this; exact this
          have hcy := hc
          simp only [cnt, cntT] at hcy
          have hly := len_cnts ys
          obtain ⟨w2, e1, e2⟩ := t_turnT (k := k) (v := v) (mh := mh) (c := c) (w := w') (o := o) (h := y) (xs := ys) hp hdp hdy (by omega)
          simp only [e1]
          have a2 : good ps (.tup (y :: ys)) = (headB ps y ys.length && goods ps ys) := by simp only [good, goodT]
          rw [a2]
          cases e : headB ps y ys.length with
          | true =>
            rw [e2 e]
            simp only [if_true, Bool.true_and]
            have hdy2 : dats ys = true := by
              unfold dats at hdy
              rw [Bool.and_eq_true] at hdy
              exact hdy.2
            have hsy : shapes ys = true := by have := hs.2; simp only [shape, shapeT] at this; exact this
            rw [← goods_app]
            exact ih (w' ++ ys) _ (by rw [cnts_app]; omega) (by omega) (by rw [dats_app, hd.1, hdy2]; rfl) (by rw [shapes_app, hs.1, hsy]; rfl)
          | false =>
            simp only [Bool.false_and, Bool.and_false]
            exact ⟨_, w2, rfl⟩
      | _ => have := hs.2; simp [shape] at this
def termB (ps : List MV) (v : MV) : Bool := decide (cnt v ≤ 400) && good ps v
theorem sp_term (hp : ∀ p ∈ ps, pairB p = true) (hdp : dats ps = true) (hd : dat v = true) (hz : cnt v ≤ line) : callM T (k + 3) 7 [v, .tup ps] mh = some (.bl (termB ps v), mh) := by
  rw [callM_eq (d := d_is_term) rfl]
  have h1 : 1 ≤ line := by unfold line; omega
  obtain ⟨r, e1, hr⟩ := sp_nodes (k + 1) v mh hd hz
  have fin : ∀ (ρ : Env) (m1 : MHp), exs (callM T (k + 2)) mh.length d_is_term.body [some v, some (.tup ps), none, none, none] mh = some (.rt (.bl (termB ps v)), ρ, m1) → m1.take mh.length = mh → runD (callM T (k + 2)) d_is_term [v, .tup ps] mh = some (.bl (termB ps v), mh) := fun ρ m1 e em => by
    have := run_of (C := callM T (k + 2)) (d := d_is_term) (args := [v, .tup ps]) (mh := mh) rfl rfl e rfl rfl
    rw [em] at this
    exact this
  rcases hr with ⟨s1, s2, rfl⟩ | ⟨s1, s2⟩
  · have hc : cnts [v] = cnt v := by simp only [cnts, Nat.add_zero]
    obtain ⟨ρ', w', q1⟩ := t_loop (k := k) (v := v) (ps := ps) (mh := mh) (c := (cnt v : Int)) hp hdp (cnt v) [v] none (by rw [hc]; exact Nat.le_refl _) hz (by simp [dats, hd]) (by simp [shapes, s1])
    have q2 := whileM_eq q1
    have hg : goods ps [v] = termB ps v := by simp only [goods, Bool.and_true, termB, s2, decide_true, Bool.true_and]
    rw [hg] at q2
    have hn : ¬ ((400 : Int) < (cnt v : Int)) := by omega
    have pre : ∀ r, exs (callM T (k + 2)) mh.length [(.while tC tB), (.ret (.c (.bl true)))] (tEnv v ps mh (cnt v) none) (nHp mh [v]) = r → exs (callM T (k + 2)) mh.length d_is_term.body [some v, some (.tup ps), none, none, none] mh = r := fun r hr => by
      rw [← hr]
      simp only [d_is_term]
      rw [exs]
      have b1 : ex (callM T (k + 2)) mh.length (.set (.nm 2) (.call 6 [(.var 0)])) [some v, some (.tup ps), none, none, none] mh = some (.nx, [some v, some (.tup ps), some (.int (cnt v : Int)), none, none], mh) := by
        simp [ex, ev, evs, e1, asg]
      rw [b1]
      simp only
      rw [exs]
      have b2 : ex (callM T (k + 2)) mh.length (.ite (.or (.cmp .is (.var 2) (.c .non)) (.cmp .gt (.var 2) (.c (.int (400))))) [(.ret (.c (.bl false)))] []) [some v, some (.tup ps), some (.int (cnt v : Int)), none, none] mh = some (.nx, [some v, some (.tup ps), some (.int (cnt v : Int)), none, none], mh) := by
        simp [ex, exs, ev, cmpV, isV, ordV, hn]
      rw [b2]
      simp only
      rw [exs]
      have b3 : ex (callM T (k + 2)) mh.length (.set (.nm 3) (.al (.lst [(.var 0)]))) [some v, some (.tup ps), some (.int (cnt v : Int)), none, none] mh = some (.nx, tEnv v ps mh (cnt v) none, nHp mh [v]) := by
        simp [ex, ev, evs, h1, asg, tEnv, nHp]
      rw [b3]
    cases ht : termB ps v with
    | true =>
      rw [ht] at q2 fin
      refine fin ρ' (nHp mh w') (pre _ ?_) take_top
      rw [exs, ex_while, q2]
      simp [exs, ex, ev]
    | false =>
      rw [ht] at q2 fin
      refine fin ρ' (nHp mh w') (pre _ ?_) take_top
      rw [exs, ex_while, q2]
      rfl
  · have ht : termB ps v = false := by
      unfold termB
      rcases s1 with s1 | s1
      · cases hg : good ps v with
        | false => simp
        | true => rw [good_shape ps v hg] at s1; cases s1
      · have : ¬ cnt v ≤ 400 := by omega
        simp [this]
    rw [ht] at fin ⊢
    rcases s2 with rfl | rfl
    · refine fin [some v, some (.tup ps), some .non, none, none] mh ?_ (by simp)
      simp [d_is_term, exs, ex, ev, evs, e1, asg, cmpV, isV]
    · refine fin [some v, some (.tup ps), some (.int 401), none, none] mh ?_ (by simp)
      simp [d_is_term, exs, ex, ev, evs, e1, asg, cmpV, isV, ordV]
end
end L2.Mi.k01

set_option Elab.async false
set_option linter.all false
set_option maxRecDepth 100000
set_option maxHeartbeats 4000000
namespace L2.Mi.k01
open PySem PySem.Spec PyProof.Rows L2.Mi
/-- the law's state at l, n objects in all -/
def St (l n : Nat) (mh : MHp) : Prop := mh.length = n ∧ ∃ (c : Nat) (i : Int) (cs : List Int), mh[l]? = some (some (.lst [.int i, .loc c])) ∧ mh[c]? = some (some (.lst (cs.map .int))) ∧ cs ≠ [] ∧ c ≠ l
theorem idx_int {cs : List Int} {a : Int} (h0 : 0 ≤ a) (h1 : a < cs.length) : ∃ x, cs[a.toNat]? = some x ∧ idx (cs.map MV.int) a = some (.int x) := by
  have hl : a.toNat < cs.length := by omega
  refine ⟨cs[a.toNat], List.getElem?_eq_getElem hl, ?_⟩
  have : (cs.map MV.int)[a.toNat]? = some (.int cs[a.toNat]) := by
    rw [List.getElem?_map, List.getElem?_eq_getElem hl]; rfl
  have e := L2.atI_nat this
  have : ((a.toNat : Nat) : Int) = a := by omega
  rw [this] at e
  exact e
theorem ixN_in {n : Nat} {a : Int} (h0 : 0 ≤ a) (h1 : a < n) : L2.ixN n a = some a.toNat := by
  unfold L2.ixN
  rw [if_pos h0, if_pos h1]
theorem get_set_ne {mh : MHp} {a b : Nat} {o : Option MO} (h : a ≠ b) : (mh.set a o)[b]? = mh[b]? := List.getElem?_set_ne h
theorem get_set_eq {mh : MHp} {a : Nat} {o o' : Option MO} (h : mh[a]? = some o') : (mh.set a o)[a]? = some o := List.getElem?_set_self (List.getElem?_eq_some_iff.mp h).1
theorem sp_take (k : Nat) {l n : Nat} {mh : MHp} (S : St l n mh) (most : Int) (hm : most ≤ 1000) : ∃ r mh', callM T (k + 1) 9 [.loc l, .int most] mh = some (.int r, mh') ∧ St l n mh' ∧ 0 ≤ r ∧ (2 ≤ most → r < most) ∧ (most < 2 → r = 0) := by
  obtain ⟨hn, c, i, cs, h1, h2, h3, h4⟩ := S
  by_cases hlt : most < 2
  · refine ⟨0, mh, ?_, ⟨hn, c, i, cs, h1, h2, h3, h4⟩, by omega, by omega, fun _ => rfl⟩
    rw [callM_eq (d := d_l_take) rfl]
    refine run_of' rfl rfl (ρ := [some (.loc l), some (.int most), none, none, none, none]) (fl := .rt (.int 0)) ?_ rfl rfl rfl
    simp [d_l_take, exs, ex, ev, cmpV, ordV, hlt]
  · have hlen : 0 < (cs.length : Int) := by
      have : 0 < cs.length := List.length_pos_iff.mpr h3
      omega
    have a0 : 0 ≤ i.fmod cs.length := Int.fmod_nonneg_of_pos i hlen
    have a1 : i.fmod cs.length < cs.length := Int.fmod_lt_of_pos i hlen
    obtain ⟨x, hx, ex1⟩ := idx_int (cs := cs) a0 a1
    have hne : ¬ ((cs.length : Int) = 0) := by omega
    have hne' : ¬ (cs.length = 0) := by omega
    have b0 : idx [MV.int i, MV.loc c] 0 = some (.int i) := atI0
    have b1 : idx [MV.int i, MV.loc c] 1 = some (.loc c) := atI1
    have e1 : exs (callM T k) mh.length [(.ite (.cmp .lt (.var 1) (.c (.int (2)))) [(.ret (.c (.int (0))))] []), (.set (.nm 2) (.sub (.var 0) (.c (.int (1))))), (.set (.nm 3) (.bin .mod (.bi .int [(.sub (.var 0) (.c (.int (0))))]) (.bi .len [(.var 2)]))), (.set (.nm 4) (.sub (.var 2) (.var 3)))] [some (.loc l), some (.int most), none, none, none, none] mh = some (.nx, [some (.loc l), some (.int most), some (.loc c), some (.int (i.fmod cs.length)), some (.int x), none], mh) := by
      simp [exs, ex, ev, evs, cmpV, ordV, hlt, subV, getL, h1, h2, b0, b1, asg, biV, one1, intV1, lenV, binV, intV, hne', ex1]
    have mp : 0 < most := by omega
    have mne : ¬ most = 0 := by omega
    have mab : most.natAbs < 1073741824 := by omega
    have spl : ∀ {ss ss' : List MS} {ρ ρ' : Env} {m : MHp} {C : CallF}, exs C mh.length ss ρ mh = some (.nx, ρ', m) → exs C mh.length (ss ++ ss') ρ mh = exs C mh.length ss' ρ' m := fun {ss ss' ρ ρ' m C} h => by
      clear e1
      have gen : ∀ (ss : List MS) (ρ : Env) (m0 : MHp), exs C mh.length ss ρ m0 = some (.nx, ρ', m) → exs C mh.length (ss ++ ss') ρ m0 = exs C mh.length ss' ρ' m := by
        intro ss
        induction ss with
        | nil => intro ρ m0 h; simp only [exs] at h; cases h; rfl
        | cons s ss ih =>
          intro ρ m0 h
          rcases exs_cons h with ⟨ρ1, m1, e, h'⟩ | ⟨_, hn⟩
          · rw [List.cons_append, exs, e]; exact ih ρ1 m1 h'
          · exact absurd rfl hn
      exact gen ss ρ mh h
    rw [callM_eq (d := d_l_take) rfl]
    by_cases hbig : x < 1000000000000000000
    · -- the mixed way
      have key : ∀ r : Int, r = (((((x * 48271 + (i + 1) * 69621).fmod 2147483647) * 16807 + (i + 1) * 7919).fmod 1000000007).fdiv 7).fmod most → ∃ ρ, exs (callM T k) mh.length d_l_take.body [some (.loc l), some (.int most), none, none, none, none] mh = some (.rt (.int r), ρ, mh.set l (some (.lst [.int (i + 1), .loc c]))) := fun r hr => by
        have g1 : (mh.set l (some (.lst [.int (i + 1), .loc c])))[l]? = some (some (.lst [.int (i + 1), .loc c])) := get_set_eq h1
        have g2 : (mh.set l (some (.lst [.int (i + 1), .loc c])))[c]? = some (some (.lst (cs.map .int))) := by rw [get_set_ne (Ne.symm h4)]; exact h2
        have b0' : idx [MV.int (i + 1), MV.loc c] 0 = some (.int (i + 1)) := atI0
        have ix : L2.ixN 2 0 = some 0 := rfl
        have w1 : wr mh.length l (.int (i + 1)) = true := by simp [wr, bd]
        have := spl (ss' := [(.ite (.cmp .ge (.var 4) (.c (.int (1000000000000000000)))) [(.sti (.var 2) (.var 3) (.bin .fdiv (.var 4) (.var 1))), (.ret (.bin .mod (.bi .int [(.var 4)]) (.var 1)))] []), (.sti (.var 0) (.c (.int (0))) (.bin .add (.sub (.var 0) (.c (.int (0)))) (.c (.int (1))))), (.set (.nm 5) (.bin .mod (.bi .int [(.bin .add (.bin .mul (.var 4) (.c (.int (48271)))) (.bin .mul (.sub (.var 0) (.c (.int (0)))) (.c (.int (69621)))))]) (.c (.int (2147483647))))), (.set (.nm 5) (.bin .mod (.bi .int [(.bin .add (.bin .mul (.var 5) (.c (.int (16807)))) (.bin .mul (.sub (.var 0) (.c (.int (0)))) (.c (.int (7919)))))]) (.c (.int (1000000007))))), (.ret (.bin .mod (.bi .int [(.bin .fdiv (.var 5) (.c (.int (7))))]) (.var 1)))]) e1
        refine ⟨[some (.loc l), some (.int most), some (.loc c), some (.int (i.fmod cs.length)), some (.int x), some (.int ((((x * 48271 + (i + 1) * 69621).fmod 2147483647) * 16807 + (i + 1) * 7919).fmod 1000000007))], ?_⟩
        rw [hr]
        show exs (callM T k) mh.length ([(.ite (.cmp .lt (.var 1) (.c (.int (2)))) [(.ret (.c (.int (0))))] []), (.set (.nm 2) (.sub (.var 0) (.c (.int (1))))), (.set (.nm 3) (.bin .mod (.bi .int [(.sub (.var 0) (.c (.int (0))))]) (.bi .len [(.var 2)]))), (.set (.nm 4) (.sub (.var 2) (.var 3)))] ++ _) _ mh = _
        rw [this]
        simp [exs, ex, ev, evs, cmpV, ordV, hbig, subV, getL, h1, g1, b0, b0', asg, biV, one1, intV1, binV, intV, addV, mulV, mne, ix, w1]
      obtain ⟨ρ, e⟩ := key _ rfl
      refine ⟨_, _, run_of' rfl rfl e rfl rfl (by simp), ⟨by simp [hn], c, i + 1, cs, get_set_eq h1, by rw [get_set_ne (Ne.symm h4)]; exact h2, h3, h4⟩, Int.fmod_nonneg_of_pos _ mp, fun _ => Int.fmod_lt_of_pos _ mp, fun z => absurd z hlt⟩
    · have key : ∃ ρ, exs (callM T k) mh.length d_l_take.body [some (.loc l), some (.int most), none, none, none, none] mh = some (.rt (.int (x.fmod most)), ρ, mh.set c (some (.lst ((cs.set (i.fmod cs.length).toNat (x.fdiv most)).map .int)))) := by
        have ix : L2.ixN cs.length (i.fmod cs.length) = some (i.fmod cs.length).toNat := ixN_in a0 a1
        have w1 : wr mh.length c (.int (x.fdiv most)) = true := by simp [wr, bd]
        have := spl (ss' := [(.ite (.cmp .ge (.var 4) (.c (.int (1000000000000000000)))) [(.sti (.var 2) (.var 3) (.bin .fdiv (.var 4) (.var 1))), (.ret (.bin .mod (.bi .int [(.var 4)]) (.var 1)))] []), (.sti (.var 0) (.c (.int (0))) (.bin .add (.sub (.var 0) (.c (.int (0)))) (.c (.int (1))))), (.set (.nm 5) (.bin .mod (.bi .int [(.bin .add (.bin .mul (.var 4) (.c (.int (48271)))) (.bin .mul (.sub (.var 0) (.c (.int (0)))) (.c (.int (69621)))))]) (.c (.int (2147483647))))), (.set (.nm 5) (.bin .mod (.bi .int [(.bin .add (.bin .mul (.var 5) (.c (.int (16807)))) (.bin .mul (.sub (.var 0) (.c (.int (0)))) (.c (.int (7919)))))]) (.c (.int (1000000007))))), (.ret (.bin .mod (.bi .int [(.bin .fdiv (.var 5) (.c (.int (7))))]) (.var 1)))]) e1
        refine ⟨[some (.loc l), some (.int most), some (.loc c), some (.int (i.fmod cs.length)), some (.int x), none], ?_⟩
        show exs (callM T k) mh.length ([(.ite (.cmp .lt (.var 1) (.c (.int (2)))) [(.ret (.c (.int (0))))] []), (.set (.nm 2) (.sub (.var 0) (.c (.int (1))))), (.set (.nm 3) (.bin .mod (.bi .int [(.sub (.var 0) (.c (.int (0))))]) (.bi .len [(.var 2)]))), (.set (.nm 4) (.sub (.var 2) (.var 3)))] ++ _) _ mh = _
        rw [this]
        simp [exs, ex, ev, evs, cmpV, ordV, hbig, h2, asg, biV, one1, intV1, binV, intV, mne, mab, ix, w1, List.map_set]
      obtain ⟨ρ, e⟩ := key
      refine ⟨_, _, run_of' rfl rfl e rfl rfl (by simp), ⟨by simp [hn], c, i, cs.set (i.fmod cs.length).toNat (x.fdiv most), by rw [get_set_ne h4]; exact h1, get_set_eq h2, by simp [h3], h4⟩, Int.fmod_nonneg_of_pos _ mp, fun _ => Int.fmod_lt_of_pos _ mp, fun z => absurd z hlt⟩
end L2.Mi.k01

set_option Elab.async false
set_option linter.all false
set_option maxRecDepth 100000
set_option maxHeartbeats 4000000
namespace L2.Mi.k01
open PySem PySem.Spec PyProof.Rows L2.Mi
theorem St.len {l n : Nat} {mh : MHp} (h : St l n mh) : mh.length = n := h.1
theorem sp_pick (k : Nat) {l n : Nat} {mh : MHp} (S : St l n mh) (row : List MV) (h0 : row ≠ []) (hr : row.length ≤ 1000) (hd : dats row = true) : ∃ y mh', y ∈ row ∧ callM T (k + 2) 10 [.loc l, .lst row] mh = some (y, mh') ∧ St l n mh' := by
  have hp : 0 < row.length := List.length_pos_iff.mpr h0
  obtain ⟨r, mh', e, S', r0, r1, r2⟩ := sp_take k S (row.length : Int) (by omega)
  have hlt : r < (row.length : Int) := by
    by_cases h : 2 ≤ (row.length : Int)
    · exact r1 h
    · have := r2 (by omega); omega
  have hl : r.toNat < row.length := by omega
  have hi : idx row r = some row[r.toNat] := by
    have := L2.atI_nat (List.getElem?_eq_getElem hl)
    have e2 : ((r.toNat : Nat) : Int) = r := by omega
    rw [e2] at this
    exact this
  refine ⟨row[r.toNat], mh', List.getElem_mem hl, ?_, S'⟩
  rw [callM_eq (d := d_l_pick) rfl]
  refine run_of' rfl rfl (ρ := [some (.loc l), some (.lst row)]) (fl := .rt row[r.toNat]) ?_ rfl (dats_iff.mp hd _ (List.getElem_mem hl)) (by rw [S'.1, S.1])
  simp [d_l_pick, exs, ex, ev, evs, biV, one1, lenV, getL, e, subV, hi]
abbrev pr (s : Sx) (i : Int) : MV := .tup [.str s, .int i]
def tongues : List (List MV) := [[pr [97] 0, pr [102] 2], [pr [97] 0, pr [98] 0, pr [102] 2, pr [103] 1], [pr [97] 0, pr [98, 49] 0, pr [103] 1, pr [104] 3], [pr [99] 0, pr [102] 2, pr [103] 1]]
def tokP (ps : List MV) : MV → Bool
  | .tup [.str s, .int i] => decide (0 ≤ i) && decide (i ≤ 3) && headB ps (.str s) i.toNat && dat (.str s)
  | _ => false
def tok (ps : List MV) : Bool := ps.all (tokP ps) && ps.all pairB && dats ps && decide (2 ≤ ps.length) && decide (ps.length ≤ 4) && (match placesV ps [122, 122, 122] with | .non => true | _ => false) && (ps.filter fun p => match p with | .tup [_, .int i] => decide (i = 0) | _ => false).length != 0
theorem tongues_ok : tongues.all tok = true := by decide +kernel
structure Tok (ps : List MV) : Prop where
  each : ∀ p ∈ ps, ∃ (s : Sx) (i : Nat), p = pr s i ∧ i ≤ 3 ∧ headB ps (.str s) i = true ∧ dat (.str s) = true
  pairs : ∀ p ∈ ps, pairB p = true
  dat : dats ps = true
  l2 : 2 ≤ ps.length
  l4 : ps.length ≤ 4
  zzz : placesV ps [122, 122, 122] = .non
  zero : (ps.filter fun p => match p with | .tup [_, .int i] => decide (i = 0) | _ => false) ≠ []
theorem tok_of {ps : List MV} (h : ps ∈ tongues) : Tok ps := by
  have := List.all_eq_true.mp tongues_ok ps h
  unfold tok at this
  simp only [Bool.and_eq_true, decide_eq_true_eq] at this
  obtain ⟨⟨⟨⟨⟨⟨h1, h2⟩, h3⟩, h4⟩, h5⟩, h6⟩, h7⟩ := this
  refine ⟨fun p hp => ?_, List.all_eq_true.mp h2, h3, h4, h5, ?_, fun z => by rw [z] at h7; simp at h7⟩
  · have := List.all_eq_true.mp h1 p hp
    unfold tokP at this
    split at this
    · rename_i s i
      simp only [Bool.and_eq_true, decide_eq_true_eq] at this
      obtain ⟨⟨⟨a, b⟩, c⟩, d⟩ := this
      refine ⟨s, i.toNat, ?_, by omega, c, d⟩
      have : ((i.toNat : Nat) : Int) = i := by omega
      rw [this]
    · cases this
  · split at h6
    · assumption
    · cases h6
theorem sp_tongueD (k : Nat) {l n : Nat} {mh : MHp} (S : St l n mh) : ∃ ps mh', ps ∈ tongues ∧ callM T (k + 3) 11 [.loc l] mh = some (.tup ps, mh') ∧ St l n mh' := by
  obtain ⟨y, mh', hy, e, S'⟩ := sp_pick k S (tongues.map .tup) (by simp [tongues]) (by simp [tongues]) (by decide +kernel)
  obtain ⟨ps, hps, rfl⟩ := List.mem_map.mp hy
  refine ⟨ps, mh', hps, ?_, S'⟩
  rw [callM_eq (d := d_l_tongue) rfl]
  have hd : dat (.tup ps) = true := by unfold dat; exact (tok_of hps).dat
  refine run_of' rfl rfl (ρ := [some (.loc l)]) (fl := .rt (.tup ps)) ?_ rfl hd (by rw [S'.1, S.1])
  have h1 : 2 ≤ line := by unfold line; omega
  have h2 : 3 ≤ line := by unfold line; omega
  have h3 : 4 ≤ line := by unfold line; omega
  simp only [tongues, pr, List.map] at e
  simp [d_l_tongue, exs, ex, ev, evs, e, h1, h2, h3]
/-! ### drawn terms -/
def bnd : Nat → Nat
  | 0 => 1
  | m + 1 => 1 + 3 * bnd m
theorem bnd_pos (m : Nat) : 1 ≤ bnd m := by cases m <;> simp [bnd] <;> omega
theorem goods_iff {ps : List MV} : ∀ {xs : List MV}, goods ps xs = true ↔ ∀ x ∈ xs, good ps x = true
  | [] => by simp [goods]
  | x :: xs => by simp [goods, goods_iff (xs := xs)]
theorem cnts_le {b : Nat} : ∀ {xs : List MV}, (∀ x ∈ xs, cnt x ≤ b) → cnts xs ≤ xs.length * b
  | [], _ => by simp [cnts]
  | x :: xs, h => by
    have h1 := h x (by simp)
    have h2 := cnts_le (xs := xs) fun y hy => h y (List.mem_cons_of_mem _ hy)
    simp only [cnts, List.length_cons, Nat.succ_mul]
    omega
structure Drawn (ps : List MV) (b : Nat) (t : MV) : Prop where
  good : good ps t = true
  cnt : cnt t ≤ b
  dat : dat t = true
def isZ (p : MV) : Bool := match p with | .tup [_, .int i] => decide (i = 0) | _ => false
abbrev mEnv (l : Nat) (ps names : List MV) (M : Int) (a b c : Option MV) : Env := [some (.loc l), some (.tup ps), some (.lst names), some (.int M), a, b, c, none, none]
theorem fm_filter (P : MV → Bool) : ∀ xs : List MV, xs.filterMap (fun p => if P p = true then some p else none) = xs.filter P
  | [] => rfl
  | x :: xs => by
    rw [List.filterMap_cons, List.filter_cons, fm_filter P xs]
    cases P x <;> rfl
theorem term_body {l n : Nat} {ps : List MV} (hps : Tok ps) {names : List MV} (hn0 : names ≠ []) (hnl : names.length ≤ 1000) (hnd : dats names = true) (hng : ∀ x ∈ names, ∃ s, x = .str s ∧ wordB upper (.str s) = true)
    {k : Nat} {M : Int} {b : Nat} {mh : MHp} (hM : 1 ≤ M) (S : St l n mh)
    (rec : 1 < M → ∀ mh, St l n mh → ∃ t mh', callM T (k + 2) 12 [.loc l, .tup ps, .lst names, .int (M - 1)] mh = some (t, mh') ∧ St l n mh' ∧ Drawn ps b t) :
    ∃ t ρ mh', exs (callM T (k + 2)) mh.length d_l_term.body (mEnv l ps names M none none none) mh = some (.rt t, ρ, mh') ∧ St l n mh' ∧ Drawn ps (1 + 3 * b) t := by
  have hnl0 : 0 < names.length := List.length_pos_iff.mpr hn0
  obtain ⟨r, mh1, e1, S1, r0, _, _⟩ := sp_take (k + 1) S (if 1 < M then 3 else 2) (by split <;> omega)
  have c1 : ev (callM T (k + 2)) mh.length (.and (.cmp .gt (.bi .len [(.var 2)]) (.c (.int (0)))) (.cmp .eq (.call 9 [(.var 0), (.ite (.cmp .gt (.var 3) (.c (.int (1)))) (.c (.int (3))) (.c (.int (2))))]) (.c (.int (0))))) (mEnv l ps names M none none none) mh = some (.bl (decide (r = 0)), mh1) := by
    by_cases h : 1 < M
    · rw [if_pos h] at e1
      have e1 : callM T (k + 2) 9 [.loc l, .int 3] mh = _ := e1
      simp [mEnv, ev, evs, biV, one1, lenV, getL, cmpV, ordV, hnl0, h, e1, eqV_int]
    · rw [if_neg h] at e1
      have e1 : callM T (k + 2) 9 [.loc l, .int 2] mh = _ := e1
      simp [mEnv, ev, evs, biV, one1, lenV, getL, cmpV, ordV, hnl0, h, e1, eqV_int]
  by_cases hr : r = 0
  · obtain ⟨y, mh2, hy, e2, S2⟩ := sp_pick k S1 names hn0 hnl hnd
    obtain ⟨s, rfl, hs⟩ := hng y hy
    refine ⟨.str s, mEnv l ps names M none none none, mh2, ?_, S2, ⟨by simp only [good, hs], by simp only [cnt]; omega, dats_iff.mp hnd _ hy⟩⟩
    subst hr
    rw [d_l_term, exs]
    simp only [ex, c1, decide_true]
    simp [exs, ex, ev, evs, mEnv, e2]
  · -- a pair is drawn
    let P : MV → Bool := fun p => decide (1 < M) || isZ p
    have hg : ev (callM T (k + 2)) mh.length (.comp (.nm 7) [7] (.var 1) (.or (.cmp .gt (.var 3) (.c (.int (1)))) (.cmp .eq (.sub (.var 7) (.c (.int (1)))) (.c (.int (0))))) (.var 7)) (mEnv l ps names M none none none) mh1 = some (.lst (ps.filter P), mh1) := by
      have ei : evI (callM T (k + 2)) mh.length (.var 1) (mEnv l ps names M none none none) mh1 = some (⟨ps, none⟩, mh1) := by simp [evI, ev, itsOf, mEnv]
      have hz : ps.length ≤ line := by have := hps.l4; unfold line; omega
      rw [ev_compq, ei]
      simp only [hz, if_true]
      rw [compGo_pure rfl (g := fun p => if P p = true then some p else none)]
      · simp only
        rw [fm_filter]
      · intro p hp
        obtain ⟨s, i, rfl, hi, _, _⟩ := hps.each p hp
        by_cases h : 1 < M
        · simp [compF, asg, wipeE, ev, mEnv, cmpV, ordV, h, P]
        · by_cases hi0 : (i : Int) = 0
          · simp [compF, asg, wipeE, ev, mEnv, cmpV, ordV, h, P, subV, atI1, eqV_int, isZ, hi0]
          · have hi0' : ¬ (i = 0) := by omega
            simp [compF, asg, wipeE, ev, mEnv, cmpV, ordV, h, P, subV, atI1, eqV_int, isZ, hi0, hi0']
    have hne : ps.filter P ≠ [] := by
      have hz := hps.zero
      intro z
      apply hz
      rw [List.filter_eq_nil_iff] at z ⊢
      intro p hp q
      exact z p hp (by
        have : isZ p = true := q
        simp [P, this])
    have hfl : (ps.filter P).length ≤ 1000 := Nat.le_trans (List.length_filter_le _ _) (by have := hps.l4; omega)
    have hfd : dats (ps.filter P) = true := dats_iff.mpr fun x hx => dats_iff.mp hps.dat x ((List.mem_filter.mp hx).1)
    obtain ⟨y, mh2, hy, e2, S2⟩ := sp_pick k S1 (ps.filter P) hne hfl hfd
    obtain ⟨s, i, rfl, hi, hh, hds⟩ := hps.each y ((List.mem_filter.mp hy).1)
    have hi1 : ¬ 1 < M → i = 0 := fun h => by
      have := (List.mem_filter.mp hy).2
      simp [P, h, isZ] at this
      exact this
    -- the parts
    have hpart : ∃ ys mh3, ev (callM T (k + 2)) mh.length (.comp (.nm 8) [8] (.rng1 (.var 6)) (.c (.bl true)) (.call 12 [(.var 0), (.var 1), (.var 2), (.bin .sub (.var 3) (.c (.int (1))))])) (mEnv l ps names M (some (.lst (ps.filter P))) (some (.str s)) (some (.int i))) mh2 = some (.lst ys, mh3) ∧ St l n mh3 ∧ ys.length = i ∧ ∀ y ∈ ys, Drawn ps b y := by
      have ei : evI (callM T (k + 2)) mh.length (.rng1 (.var 6)) (mEnv l ps names M (some (.lst (ps.filter P))) (some (.str s)) (some (.int i))) mh2 = some (⟨(List.range i).map fun (k : Nat) => .int (k : Int), none⟩, mh2) := by
        have b1 : (-4611686018427387904 : Int) ≤ i := by omega
        have b2 : (i : Int) < 4611686018427387904 := by omega
        simp [evI, ev, mEnv, b1, b2]
      obtain ⟨ys, mh3, q1, q2, q3, q4⟩ := compGo_st (J := ⟨(List.range i).map fun (k : Nat) => MV.int (k : Int), none⟩) rfl (f := compF (callM T (k + 2)) mh.length (.nm 8) [8] (.c (.bl true)) (.call 12 [(.var 0), (.var 1), (.var 2), (.bin .sub (.var 3) (.c (.int (1))))]) (mEnv l ps names M (some (.lst (ps.filter P))) (some (.str s)) (some (.int i)))) (P := St l n) (R := Drawn ps b) (xs := (List.range i).map fun (k : Nat) => MV.int (k : Int)) S2 (fun x hx m1 Sm => by
        obtain ⟨j, hj, rfl⟩ := List.mem_map.mp hx
        have hj' := List.mem_range.mp hj
        have h1 : 1 < M := Classical.byContradiction fun z => by have := hi1 z; omega
        obtain ⟨t, m2, t1, t2, t3⟩ := rec h1 m1 Sm
        refine ⟨t, m2, ?_, t2, t3⟩
        simp [compF, asg, wipeE, ev, evs, mEnv, binV, intV, t1])
      refine ⟨ys, mh3, ?_, q2, by simpa using q3, q4⟩
      rw [ev_compq, ei]
      have hz : i ≤ line := by unfold line; omega
      simp only [List.length_map, List.length_range, hz, if_true, q1]
    obtain ⟨ys, mh3, e3, S3, hl, hy3⟩ := hpart
    have hgd : goods ps ys = true := goods_iff.mpr fun x hx => (hy3 x hx).good
    have hdd : dats ys = true := dats_iff.mpr fun x hx => (hy3 x hx).dat
    have hcc : cnts ys ≤ i * b := by rw [← hl]; exact cnts_le fun x hx => (hy3 x hx).cnt
    have hib : i * b ≤ 3 * b := Nat.mul_le_mul_right b hi
    refine ⟨.tup (.str s :: ys), mEnv l ps names M (some (.lst (ps.filter P))) (some (.str s)) (some (.int i)), mh3, ?_, S3, ⟨?_, ?_, ?_⟩⟩
    · have hz : 1 ≤ line := by unfold line; omega
      have hz2 : 1 + ys.length ≤ line := by unfold line; omega
      have hr' : decide (r = 0) = false := by simp [hr]
      rw [d_l_term, exs]
      simp only [ex, c1, hr', exs, hg]
      simp only [asg, mEnv, List.length_cons, List.length_nil, List.set, Nat.reduceAdd, Nat.reduceLT, if_true]
      simp only [mEnv] at e3
      simp [ev, evs, e2, asg, asgs, e3, exs, ex, hz, biV, one1, tupV, getL, binV, addV, hz2]
    · simp only [good, goodT, hl, hh, hgd, Bool.and_self]
    · simp only [cnt, cntT]; omega
    · unfold dat dats; rw [hds, hdd]; rfl
end L2.Mi.k01

set_option Elab.async false
set_option linter.all false
set_option maxRecDepth 100000
set_option maxHeartbeats 4000000
namespace L2.Mi.k01
open PySem PySem.Spec PyProof.Rows L2.Mi
theorem sp_termD {l n : Nat} {ps : List MV} (hps : Tok ps) {names : List MV} (hn0 : names ≠ []) (hnl : names.length ≤ 1000) (hnd : dats names = true) (hng : ∀ x ∈ names, ∃ s, x = .str s ∧ wordB upper (.str s) = true) :
    ∀ (m k : Nat) {mh : MHp}, St l n mh → ∃ t mh', callM T (k + m + 3) 12 [.loc l, .tup ps, .lst names, .int ((m + 1 : Nat) : Int)] mh = some (t, mh') ∧ St l n mh' ∧ Drawn ps (bnd m) t := by
  intro m
  induction m with
  | zero =>
    intro k mh S
    obtain ⟨t, ρ, mh', e, S', d⟩ := term_body hps hn0 hnl hnd hng (k := k) (M := ((0 + 1 : Nat) : Int)) (b := 0) (mh := mh) (by omega) S (fun h => by exfalso; omega)
    refine ⟨t, mh', ?_, S', d⟩
    rw [callM_eq (d := d_l_term) rfl]
    exact run_of' rfl rfl e rfl d.dat (by rw [S'.1, S.1])
  | succ m ih =>
    intro k mh S
    obtain ⟨t, ρ, mh', e, S', d⟩ := term_body hps hn0 hnl hnd hng (k := k + m + 1) (M := ((m + 1 + 1 : Nat) : Int)) (b := bnd m) (mh := mh) (by omega) S (fun h mh1 S1 => by
      obtain ⟨t, mh2, q, r⟩ := ih k S1
      have e2 : ((m + 1 + 1 : Nat) : Int) - 1 = ((m + 1 : Nat) : Int) := by omega
      rw [e2]
      exact ⟨t, mh2, q, r⟩)
    refine ⟨t, mh', ?_, S', d⟩
    rw [show k + (m + 1) + 3 = (k + m + 1 + 2) + 1 by omega, callM_eq (d := d_l_term) rfl]
    exact run_of' rfl rfl e rfl d.dat (by rw [S'.1, S.1])
/-! ### drawn words -/
abbrev xEnv (l : Nat) (first : Sx) (s : Option MV) (t : Option MV) : Env := [some (.loc l), some (.str first), some (.str [97, 98, 99, 120, 121, 122, 48, 49, 56, 57]), s, t]
def asc (s : Sx) : Bool := s.all fun c => decide (c < 128)
theorem text_loop {l n : Nat} {first : Sx} {J : Its} (hJ : J.src = none) (k b : Nat) : ∀ (xs : List MV) (s : Sx) (t : Option MV) (mh : MHp), St l n mh → s.length + xs.length ≤ 100 → asc s = true → s ≠ [] →
    ∃ s' t' mh', forGo J (forF (callM T (k + 1)) b (.nm 4) [(.set (.nm 3) (.bin .add (.var 3) (.sub (.var 2) (.call 9 [(.var 0), (.bi .len [(.var 2)])]))))]) xs (xEnv l first (some (.str s)) t) mh = some (.nx, xEnv l first (some (.str s')) t', mh') ∧ St l n mh' ∧ s'.length = s.length + xs.length ∧ asc s' = true ∧ s' ≠ []
  | [], s, t, mh, S, hl, ha, hs => ⟨s, t, mh, forGo_nil_of hJ, S, rfl, ha, hs⟩
  | x :: xs, s, t, mh, S, hl, ha, hs => by
    obtain ⟨r, mh1, e1, S1, r0, r1, _⟩ := sp_take k S 10 (by omega)
    have r10 := r1 (by omega)
    have hl1 : r.toNat < ([97, 98, 99, 120, 121, 122, 48, 49, 56, 57] : Sx).length := by simp; omega
    have hi : idx ([97, 98, 99, 120, 121, 122, 48, 49, 56, 57] : Sx) r = some (([97, 98, 99, 120, 121, 122, 48, 49, 56, 57] : Sx)[r.toNat]) := by
      have := L2.atI_nat (List.getElem?_eq_getElem hl1)
      have e2 : ((r.toNat : Nat) : Int) = r := by omega
      rw [e2] at this
      exact this
    have hc : asc [([97, 98, 99, 120, 121, 122, 48, 49, 56, 57] : Sx)[r.toNat]] = true := by
      have hm := List.getElem_mem hl1
      have : ∀ c ∈ ([97, 98, 99, 120, 121, 122, 48, 49, 56, 57] : Sx), asc [c] = true := by decide
      exact this _ hm
    generalize hcc : ([97, 98, 99, 120, 121, 122, 48, 49, 56, 57] : Sx)[r.toNat] = cc at hi hc
    have hz : s.length + 1 ≤ line := by simp at hl; unfold line; omega
    have hz10 : 10 ≤ line := by unfold line; omega
    have st : forF (callM T (k + 1)) b (.nm 4) [(.set (.nm 3) (.bin .add (.var 3) (.sub (.var 2) (.call 9 [(.var 0), (.bi .len [(.var 2)])]))))] x (xEnv l first (some (.str s)) t) mh = some (.nx, xEnv l first (some (.str (s ++ [cc]))) (some x), mh1) := by
      simp [forF, asg, exs, ex, ev, evs, xEnv, biV, one1, lenV, hz10, e1, subV, hi, binV, addV, hz]
    rw [forGo_cons_of hJ, st]
    have ha' : asc (s ++ [cc]) = true := by unfold asc at ha hc ⊢; rw [List.all_append, ha, hc]; rfl
    obtain ⟨s', t', mh', q1, q2, q3, q4, q5⟩ := text_loop hJ k b xs (s ++ [cc]) (some x) mh1 S1 (by simp at hl ⊢; omega) ha' (by simp)
    exact ⟨s', t', mh', q1, q2, by simp at q3 ⊢; omega, q4, q5⟩
theorem asc_dat {s : Sx} (ha : asc s = true) (hl : s.length ≤ 1000) : dat (.str s) = true := by
  unfold dat
  rw [Bool.and_eq_true, decide_eq_true_eq, List.all_eq_true]
  refine ⟨hl, fun c hc => ?_⟩
  have := List.all_eq_true.mp ha c hc
  simp at this ⊢
  omega
theorem sp_text (k : Nat) {l n : Nat} {mh : MHp} (S : St l n mh) (first : Sx) (h0 : first ≠ []) (hl : first.length ≤ 100) (ha : asc first = true) : ∃ s mh', callM T (k + 3) 13 [.loc l, .str first] mh = some (.str s, mh') ∧ St l n mh' ∧ 1 ≤ s.length ∧ s.length ≤ 8 ∧ asc s = true := by
  have hd : dats (first.map fun c => MV.str [c]) = true := dats_iff.mpr fun x hx => by
    obtain ⟨c, hc, rfl⟩ := List.mem_map.mp hx
    have := List.all_eq_true.mp ha c hc
    exact asc_dat (by simp [asc] at this ⊢; exact this) (by simp)
  obtain ⟨y, mh1, hy, e1, S1⟩ := sp_pick k S (first.map fun c => MV.str [c]) (by simp [h0]) (by simp; omega) hd
  obtain ⟨c, hc, rfl⟩ := List.mem_map.mp hy
  obtain ⟨r, mh2, e2, S2, r0, r1, _⟩ := sp_take (k + 1) S1 8 (by omega)
  have r8 := r1 (by omega)
  have e2 : callM T (k + 2) 9 [.loc l, .int 8] mh1 = some (.int r, mh2) := e2
  have hca : asc [c] = true := by
    have := List.all_eq_true.mp ha c hc
    simp [asc] at this ⊢; exact this
  obtain ⟨s', t', mh3, q1, q2, q3, q4, q5⟩ := text_loop (l := l) (n := n) (first := first) (J := ⟨(List.range r.toNat).map fun (k : Nat) => .int (k : Int), none⟩) rfl (k + 1) mh.length ((List.range r.toNat).map fun (k : Nat) => .int (k : Int)) [c] none mh2 S2 (by simp; omega) hca (by simp)
  have hl' : s'.length = 1 + r.toNat := by simpa using q3
  refine ⟨s', mh3, ?_, q2, by omega, by omega, q4⟩
  rw [callM_eq (d := d_l_text) rfl]
  refine run_of' rfl rfl (ρ := xEnv l first (some (.str s')) t') (fl := .rt (.str s')) ?_ rfl (asc_dat q4 (by omega)) (by rw [q2.1, S.1])
  have hz : first.length ≤ line := by unfold line; omega
  have b1 : (-4611686018427387904 : Int) ≤ r := by omega
  have b2 : r < 4611686018427387904 := by omega
  have q1 : forGo ⟨(List.range r.toNat).map fun (k : Nat) => .int (k : Int), none⟩ (forF (callM T (k + 2)) mh.length (.nm 4) [(.set (.nm 3) (.bin .add (.var 3) (.sub (.var 2) (.call 9 [(.var 0), (.bi .len [(.var 2)])]))))]) ((List.range r.toNat).map fun (k : Nat) => .int (k : Int)) (xEnv l first (some (.str [c])) none) mh2 = some (.nx, xEnv l first (some (.str s')) t', mh3) := q1
  simp only [xEnv] at q1
  simp [d_l_text, exs, ex, ↓ex_for, ev, evs, evI, asg, biV, one1, lstV, hz, e1, e2, b1, b2, q1, xEnv]
end L2.Mi.k01

set_option Elab.async false
set_option linter.all false
set_option maxRecDepth 100000
set_option maxHeartbeats 4000000
namespace L2.Mi.k01
open PySem PySem.Spec PyProof.Rows L2.Mi
structure Bad (ps : List MV) (b : Nat) (v : MV) : Prop where
  bad : good ps v = false
  dat : dat v = true
  cnt : cnt v ≤ b
theorem head_eq {ps : List MV} {h : MV} {n : Nat} (hh : headB ps h n = true) : ∃ a s, h = .str (a :: s) ∧ wordB lower (.str (a :: s)) = true ∧ placesV ps (a :: s) = .int n := by
  unfold headB at hh
  rw [Bool.and_eq_true] at hh
  obtain ⟨a, s, rfl⟩ := wordB_str hh.1
  refine ⟨a, s, rfl, hh.1, ?_⟩
  have := hh.2
  simp only at this
  unfold isI at this
  split at this
  · rename_i i e
    rw [e, of_decide_eq_true this]
  · cases this
theorem head_ne {ps : List MV} {h : MV} {n m : Nat} (hh : headB ps h n = true) (hm : m ≠ n) : headB ps h m = false := by
  obtain ⟨a, s, rfl, _, e⟩ := head_eq hh
  unfold headB
  simp only [e, isI]
  have : ¬ ((n : Int) = (m : Int)) := by omega
  simp [this]
theorem up_not_low {s : Sx} (h : wordB upper (.str s) = true) : wordB lower (.str s) = false := by
  cases s with
  | nil => rfl
  | cons c s =>
    simp only [wordB, Bool.and_eq_true, decide_eq_true_eq] at h
    have h1 : c ∈ upper := h.1.2
    have : ∀ c ∈ upper, decide (c ∈ lower) = false := by decide
    simp only [wordB, this c h1, Bool.and_false, Bool.false_and]
theorem low_not_up {s : Sx} (h : wordB lower (.str s) = true) : wordB upper (.str s) = false := by
  cases e : wordB upper (.str s) with
  | false => rfl
  | true => rw [up_not_low e] at h; cases h
theorem good_not_low {ps : List MV} {y : MV} (h : good ps y = true) : wordB lower y = false := by
  cases y with
  | str s => simp only [good] at h; exact up_not_low h
  | _ => rfl
theorem bad_tail {ps : List MV} {xs : List MV} (h : goods ps xs = true) : good ps (.tup xs) = false := by
  cases xs with
  | nil => simp [good, goodT]
  | cons y ys =>
    simp only [goods, Bool.and_eq_true] at h
    simp only [good, goodT, headB, good_not_low h.1, Bool.false_and]
theorem bad_head {ps : List MV} {h : MV} {xs : List MV} (hh : headB ps h xs.length = false) : good ps (.tup (h :: xs)) = false := by
  simp only [good, goodT, hh, Bool.false_and]
theorem bad_low {ps : List MV} {h : MV} {xs : List MV} (hh : wordB lower h = false) : good ps (.tup (h :: xs)) = false := bad_head (by simp only [headB, hh, Bool.false_and])
theorem sp_wrong {l n : Nat} {ps : List MV} (hps : Tok ps) : ∀ (N k : Nat) (t : MV) {mh : MHp}, cnt t ≤ N → good ps t = true → dat t = true → N ≤ 1000 → St l n mh →
    ∃ v mh', callM T (k + N + 3) 16 [.loc l, .tup ps, t] mh = some (v, mh') ∧ St l n mh' ∧ Bad ps (cnt t + 2) v := by
  intro N
  induction N with
  | zero => intro k t mh hc; have := cnt_pos t; omega
  | succ N ih =>
    intro k t mh hc hg hd hN S
    rw [show k + (N + 1) + 3 = (k + N + 3) + 1 by omega, callM_eq (d := d_l_wrong) rfl]
    have fin : ∀ (v : MV) (ρ : Env) (mh' : MHp), exs (callM T (k + N + 3)) mh.length d_l_wrong.body [some (.loc l), some (.tup ps), some t, none] mh = some (.rt v, ρ, mh') → St l n mh' → Bad ps (cnt t + 2) v →
        ∃ v mh', runD (callM T (k + N + 3)) d_l_wrong [.loc l, .tup ps, t] mh = some (v, mh') ∧ St l n mh' ∧ Bad ps (cnt t + 2) v := fun v ρ mh' e S' b =>
      ⟨v, mh', run_of' rfl rfl e rfl b.dat (by rw [S'.1, S.1]), S', b⟩
    cases t with
    | str s =>
      obtain ⟨y, mh1, hy, e1, S1⟩ := sp_pick (k + N + 1) S [.str [], .str [120], .str [88, 121, 95], .str [88, 88, 88, 88, 88, 88, 88, 88, 88], .str [97, 32, 98], .non, .int 5, .bl true, .lst [.str [88]]] (by simp) (by simp) (by decide)
      have e1 : callM T (k + N + 3) 10 [.loc l, .lst [.str [], .str [120], .str [88, 121, 95], .str [88, 88, 88, 88, 88, 88, 88, 88, 88], .str [97, 32, 98], .non, .int 5, .bl true, .lst [.str [88]]]] mh = some (y, mh1) := e1
      refine fin y [some (.loc l), some (.tup ps), some (.str s), none] mh1 ?_ S1 ?_
      · have z1 : 1 ≤ line := by unfold line; omega
        have z9 : 9 ≤ line := by unfold line; omega
        have er : (List.replicate 9 ([88] : Sx)).flatten = [88, 88, 88, 88, 88, 88, 88, 88, 88] := rfl
        simp [d_l_wrong, exs, ex, ev, evs, isTy, z1, z9, binV, mulV, er, e1]
      · simp only [List.mem_cons, List.not_mem_nil, or_false] at hy
        rcases hy with rfl | rfl | rfl | rfl | rfl | rfl | rfl | rfl | rfl <;> exact ⟨by simp [good, wordB, upper, lowd], by decide, by simp [cnt]⟩
    | tup ts =>
      cases ts with
      | nil => simp [good, goodT] at hg
      | cons h xs =>
        simp only [good, goodT, Bool.and_eq_true] at hg
        obtain ⟨a, s, rfl, hw, hpl⟩ := head_eq hg.1
        have hds : dats (.str (a :: s) :: xs) = true := by unfold dat at hd; exact hd
        have hdh : dat (.str (a :: s)) = true := dats_iff.mp hds _ (by simp)
        have hdx : dats xs = true := dats_iff.mpr fun y hy => dats_iff.mp hds y (List.mem_cons_of_mem _ hy)
        have hcx := hc
        simp only [cnt, cntT] at hcx
        have hlx := len_cnts xs
        have hls : s.length + 1 ≤ 1000 := by simp [dat] at hdh; omega
        have zx : xs.length + 2 ≤ line := by unfold line; omega
        have zs : s.length + 1 ≤ line := by unfold line; omega
        have z1 : 1 ≤ line := by unfold line; omega
        have z9 : 9 ≤ line := by unfold line; omega
        have zb : xs.length + 1 + 1 ≤ line := by omega
        have zc : 1 + xs.length ≤ line := by omega
        have hcut : cut (MV.str (a :: s) :: xs) (some 1) none = xs := by
          have := cut_drop (xs := MV.str (a :: s) :: xs) (k := 1)
          simpa using this
        -- the last row
        have last : ∀ (mh1 : MHp) (o : Option MV), St l n mh1 → ∃ v mh2, exs (callM T (k + N + 3)) mh.length [(.ret (.call 10 [(.var 0), (.lst [(.bin .add (.var 2) (.tup [(.c (.str [88]))])), (.slcL (.var 2) (.c (.int (1)))), (.bi .list [(.var 2)]), (.bin .add (.tup [(.c (.str [122, 122, 122]))]) (.slcL (.var 2) (.c (.int (1))))), (.bin .add (.tup [(.c (.str [65]))]) (.slcL (.var 2) (.c (.int (1))))), (.bin .add (.tup [(.c .non)]) (.slcL (.var 2) (.c (.int (1))))), (.tup []), (.c .non), (.ite (.cmp .gt (.bi .len [(.sub (.var 2) (.c (.int (0))))]) (.c (.int (0)))) (.sub (.var 2) (.c (.int (0)))) (.c (.int (5))))])]))] [some (.loc l), some (.tup ps), some (.tup (.str (a :: s) :: xs)), o] mh1 = some (.rt v, [some (.loc l), some (.tup ps), some (.tup (.str (a :: s) :: xs)), o], mh2) ∧ St l n mh2 ∧ Bad ps (cnt (.tup (.str (a :: s) :: xs)) + 2) v := fun mh1 o S1 => by
          have hdt : ∀ x, dat x = true → dat (.tup (x :: xs)) = true := fun x hx => by unfold dat dats; rw [hx, hdx]; rfl
          obtain ⟨y, mh2, hy, e1, S2⟩ := sp_pick (k + N + 1) S1 [.tup (.str (a :: s) :: (xs ++ [.str [88]])), .tup xs, .lst (.str (a :: s) :: xs), .tup (.str [122, 122, 122] :: xs), .tup (.str [65] :: xs), .tup (.non :: xs), .tup [], .non, .str (a :: s)] (by simp) (by simp) (by
            have t1 : dat (.tup (.str (a :: s) :: (xs ++ [.str [88]]))) = true := by unfold dat dats; rw [hdh, dats_app, hdx]; rfl
            have t2 : dat (.tup xs) = true := by unfold dat; exact hdx
            have t3 : dat (.lst (.str (a :: s) :: xs)) = true := by unfold dat; exact hds
            simp only [dats, t1, t2, t3, hdt (.str [122, 122, 122]) (by decide), hdt (.str [65]) (by decide), hdt .non rfl, hdh]
            rfl)
          have e1 : callM T (k + N + 3) 10 [.loc l, .lst [.tup (.str (a :: s) :: (xs ++ [.str [88]])), .tup xs, .lst (.str (a :: s) :: xs), .tup (.str [122, 122, 122] :: xs), .tup (.str [65] :: xs), .tup (.non :: xs), .tup [], .non, .str (a :: s)]] mh1 = some (y, mh2) := e1
          refine ⟨y, mh2, ?_, S2, ?_⟩
          · have hn : (0 : Int) < (s.length : Int) + 1 := by omega
            simp [exs, ex, ev, evs, z1, z9, binV, addV, zb, zc, slcV, hcut, biV, one1, lstV, subV, atI0, lenV, zs, cmpV, ordV, hn, e1]
          · have cx : cnt (.tup (.str (a :: s) :: xs)) = 1 + cnts xs := by simp only [cnt, cntT]
            rw [cx]
            simp only [List.mem_cons, List.not_mem_nil, or_false] at hy
            have bl : ∀ x, dat x = true → wordB lower x = false → Bad ps (1 + cnts xs + 2) (.tup (x :: xs)) := fun x hx hw => ⟨bad_low hw, hdt x hx, by simp only [cnt, cntT]; omega⟩
            rcases hy with rfl | rfl | rfl | rfl | rfl | rfl | rfl | rfl | rfl
            · refine ⟨bad_head (head_ne hg.1 (by simp)), ?_, ?_⟩
              · unfold dat dats; rw [hdh, dats_app, hdx]; rfl
              · simp only [cnt, cntT, cnts_app, cnts]; omega
            · refine ⟨bad_tail hg.2, by unfold dat; exact hdx, ?_⟩
              cases xs with
              | nil => simp [cnt, cntT, cnts]
              | cons y ys => simp only [cnt, cntT, cnts]; omega
            · exact ⟨by simp [good], by unfold dat; exact hds, by simp only [cnt]; omega⟩
            · refine ⟨bad_head ?_, hdt _ (by decide), by simp only [cnt, cntT]; omega⟩
              simp [headB, hps.zzz, isI]
            · exact bl _ (by decide) (by decide)
            · exact bl _ rfl rfl
            · exact ⟨by simp [good, goodT], rfl, by simp [cnt, cntT]⟩
            · exact ⟨by simp [good], rfl, by simp only [cnt]; omega⟩
            · exact ⟨by simp only [good]; exact low_not_up hw, hdh, by simp only [cnt]; omega⟩
        have it : ex (callM T (k + N + 3)) mh.length (.ite (.isi (.var 2) .str) [(.ret (.call 10 [(.var 0), (.lst [(.c (.str [])), (.c (.str [120])), (.c (.str [88, 121, 95])), (.bin .mul (.c (.str [88])) (.c (.int (9)))), (.c (.str [97, 32, 98])), (.c .non), (.c (.int (5))), (.c (.bl true)), (.lst [(.c (.str [88]))])])]))] []) [some (.loc l), some (.tup ps), some (.tup (.str (a :: s) :: xs)), none] mh = some (.nx, [some (.loc l), some (.tup ps), some (.tup (.str (a :: s) :: xs)), none], mh) := by
          simp [ex, exs, ev, isTy]
        cases xs with
        | nil =>
          obtain ⟨v, mh2, e, S2, b⟩ := last mh none S
          refine fin v [some (.loc l), some (.tup ps), some (.tup [.str (a :: s)]), none] mh2 ?_ S2 b
          rw [d_l_wrong, exs, it]
          simp only
          rw [exs]
          have : ex (callM T (k + N + 3)) mh.length (.ite (.and (.cmp .gt (.bi .len [(.var 2)]) (.c (.int (1)))) (.cmp .eq (.call 9 [(.var 0), (.c (.int (2)))]) (.c (.int (0))))) [(.set (.nm 3) (.bin .add (.c (.int (1))) (.call 9 [(.var 0), (.bin .sub (.bi .len [(.var 2)]) (.c (.int (1))))]))), (.ret (.bin .add (.bin .add (.slcH (.var 2) (.var 3)) (.tup [(.call 16 [(.var 0), (.var 1), (.sub (.var 2) (.var 3))])])) (.slcL (.var 2) (.bin .add (.var 3) (.c (.int (1)))))))] []) [some (.loc l), some (.tup ps), some (.tup [.str (a :: s)]), none] mh = some (.nx, [some (.loc l), some (.tup ps), some (.tup [.str (a :: s)]), none], mh) := by
            simp [ex, exs, ev, evs, biV, one1, lenV, cmpV, ordV]
          rw [this]
          exact e
        | cons x xs =>
          obtain ⟨r, mh1, e1, S1, _, _, _⟩ := sp_take (k + N + 2) S 2 (by omega)
          have e1 : callM T (k + N + 3) 9 [.loc l, .int 2] mh = some (.int r, mh1) := e1
          have hgt : (1 : Int) < (xs.length : Int) + 1 + 1 := by omega
          have zlen : xs.length + 1 + 1 ≤ line := by simp at zx; omega
          have c1 : ev (callM T (k + N + 3)) mh.length (.and (.cmp .gt (.bi .len [(.var 2)]) (.c (.int (1)))) (.cmp .eq (.call 9 [(.var 0), (.c (.int (2)))]) (.c (.int (0))))) [some (.loc l), some (.tup ps), some (.tup (.str (a :: s) :: x :: xs)), none] mh = some (.bl (decide (r = 0)), mh1) := by
            simp [ev, evs, biV, one1, lenV, cmpV, ordV, hgt, e1, eqV_int]
          by_cases hr : r = 0
          · -- deeper
            obtain ⟨q, mh2, e2, S2, q0, q1, q2⟩ := sp_take (k + N + 2) S1 ((xs.length : Int) + 1) (by simp at hlx hcx; omega)
            have e2 : callM T (k + N + 3) 9 [.loc l, .int ((xs.length : Int) + 1)] mh1 = some (.int q, mh2) := e2
            have hq : q < (xs.length : Int) + 1 := by
              by_cases h : 2 ≤ (xs.length : Int) + 1
              · exact q1 h
              · have := q2 (by omega); omega
            have hj : q.toNat < (x :: xs).length := by simp; omega
            obtain ⟨y, hy⟩ : ∃ y, y = (x :: xs)[q.toNat] := ⟨_, rfl⟩
            have hym : y ∈ x :: xs := by rw [hy]; exact List.getElem_mem hj
            obtain ⟨A, hA⟩ : ∃ A, A = (x :: xs).take q.toNat := ⟨_, rfl⟩
            obtain ⟨B, hB⟩ : ∃ B, B = (x :: xs).drop (q.toNat + 1) := ⟨_, rfl⟩
            have hyg : good ps y = true := goods_iff.mp hg.2 y hym
            have hyd : dat y = true := dats_iff.mp hdx y hym
            have split : x :: xs = A ++ [y] ++ B := by
              rw [hA, hB, hy]
              simp only [List.append_assoc, List.singleton_append]
              rw [List.getElem_cons_drop]
              simp
            have hcs : cnts (x :: xs) = cnts A + cnt y + cnts B := by rw [split, cnts_app, cnts_app]; simp only [cnts]; omega
            have hyc : cnt y ≤ N := by omega
            obtain ⟨v, mh3, e3, S3, bv⟩ := ih k y (mh := mh2) hyc hyg hyd (by omega) S2
            have hix : idx (MV.str (a :: s) :: x :: xs) (1 + q) = some y := by
              have := L2.atI_nat (xs := MV.str (a :: s) :: x :: xs) (j := q.toNat + 1) (v := y) (by rw [List.getElem?_cons_succ, List.getElem?_eq_getElem hj, hy])
              have e : ((q.toNat + 1 : Nat) : Int) = 1 + q := by omega
              rw [e] at this
              exact this
            have hcH : cut (MV.str (a :: s) :: x :: xs) none (some (1 + q)) = .str (a :: s) :: A := by
              have := cut_take (xs := MV.str (a :: s) :: x :: xs) (k := q.toNat + 1)
              have e : ((q.toNat + 1 : Nat) : Int) = 1 + q := by omega
              rw [e] at this
              rw [this, List.take_succ_cons, hA]
            have hcL : cut (MV.str (a :: s) :: x :: xs) (some (1 + q + 1)) none = B := by
              have := cut_drop (xs := MV.str (a :: s) :: x :: xs) (k := q.toNat + 1 + 1)
              have e : ((q.toNat + 1 + 1 : Nat) : Int) = 1 + q + 1 := by omega
              rw [e] at this
              rw [this, List.drop_succ_cons, hB]
            have hlen : A.length + 1 + B.length = xs.length + 1 := by
              have := congrArg List.length split
              simp at this
              omega
            have za : A.length + 1 + 1 ≤ line := by omega
            have zd : A.length + 1 + 1 + B.length ≤ line := by omega
            have hdA : dats A = true ∧ dats B = true := by
              rw [split, dats_app, dats_app] at hdx
              simp only [Bool.and_eq_true] at hdx
              exact ⟨hdx.1.1, hdx.2⟩
            refine fin (.tup (.str (a :: s) :: (A ++ v :: B))) [some (.loc l), some (.tup ps), some (.tup (.str (a :: s) :: x :: xs)), some (.int (1 + q))] mh3 ?_ S3 ⟨?_, ?_, ?_⟩
            · rw [d_l_wrong, exs, it]
              simp only
              rw [exs]
              subst hr
              have hm : ((xs.length : Int) + 1 + 1 - 1) = (xs.length : Int) + 1 := by omega
              simp only [ex, c1, decide_true]
              simp [exs, ex, ev, evs, biV, one1, lenV, binV, intV, addV, hm, e2, asg, slcV, hcH, hcL, subV, hix, e3, z1, za, zd]
            · have : goods ps (A ++ v :: B) = false := by
                rw [goods_app]
                simp only [goods, bv.bad, Bool.false_and, Bool.and_false]
              simp only [good, goodT, this, Bool.and_false]
            · unfold dat dats
              rw [hdh, dats_app, hdA.1]
              simp only [dats, bv.dat, hdA.2]
              rfl
            · simp only [cnt, cntT, cnts_app, cnts]
              simp only [cnts] at hcs
              have := bv.cnt
              omega
          · obtain ⟨v, mh2, e, S2, b⟩ := last mh1 none S1
            refine fin v [some (.loc l), some (.tup ps), some (.tup (.str (a :: s) :: x :: xs)), none] mh2 ?_ S2 b
            have hr' : decide (r = 0) = false := by simp [hr]
            rw [d_l_wrong, exs, it]
            simp only
            rw [exs]
            simp only [ex, c1, hr']
            simp only [exs] at e ⊢
            exact e
    | _ => simp [good] at hg
end L2.Mi.k01

set_option Elab.async false
set_option linter.all false
set_option maxRecDepth 100000
set_option maxHeartbeats 4000000
namespace L2.Mi.k01
open PySem PySem.Spec PyProof.Rows L2.Mi
/-! ### the state -/
theorem sp_state (k : Nat) (ns : List Int) : ∃ l n mh, callM T (k + 1) 8 [.scr ns] [] = some (.loc l, mh) ∧ St l n mh := by
  let g : Int → Int := fun i => if i < 0 then -i else i
  have hc : ∀ (C : CallF), ev C 0 (.comp (.nm 2) [2] (.slcH (.var 0) (.c (.int (63)))) (.c (.bl true)) (.bi .abs [(.var 2)])) [some (.scr ns), none, none] [] = some (.lst (((ns.take 63).map g).map .int), []) := fun C => by
    have hcut : cut (ns.map MV.int) none (some 63) = (ns.take 63).map .int := by
      have := cut_take (xs := ns.map MV.int) (k := 63)
      rw [show ((63 : Nat) : Int) = 63 from rfl] at this
      rw [this, List.map_take]
    have ei : evI C 0 (.slcH (.var 0) (.c (.int (63)))) [some (.scr ns), none, none] [] = some (⟨(ns.take 63).map .int, none⟩, []) := by
      simp [evI, ev, slcV, hcut, itsOf]
    have hz : ((ns.take 63).map MV.int).length ≤ line := by simp; unfold line; omega
    rw [ev_compq, ei]
    simp only [hz, if_true]
    rw [compGo_pure rfl (g := fun x => match x with | .int i => some (.int (g i)) | _ => none)]
    · simp only
      congr 3
      rw [List.filterMap_map, ← List.filterMap_eq_map, ← List.filterMap_eq_map, List.filterMap_filterMap]
      rfl
    · intro x hx
      obtain ⟨i, _, rfl⟩ := List.mem_map.mp hx
      simp [compF, asg, wipeE, ev, evs, biV, one1, absV, g]
  rw [callM_eq (d := d_l_state) rfl]
  have z1 : 1 ≤ line := by unfold line; omega
  have z2 : 2 ≤ line := by unfold line; omega
  unfold runD
  rw [if_pos (show [MV.scr ns].length = d_l_state.np from rfl)]
  by_cases he : (ns.take 63).map g = []
  · refine ⟨2, 3, [some (.lst []), some (.lst [.int 0]), some (.lst [.int 0, .loc 1])], ?_, rfl, 1, 0, [0], rfl, rfl, by simp, by decide⟩
    have e : exs (callM T k) 0 d_l_state.body [some (.scr ns), none, none] [] = some (.rt (.loc 2), [some (.scr ns), some (.loc 1), none], [some (.lst []), some (.lst [.int 0]), some (.lst [.int 0, .loc 1])]) := by
      have hc' := hc (callM T k)
      rw [he] at hc'
      have c1 : ex (callM T k) 0 (.set (.nm 1) (.al (.comp (.nm 2) [2] (.slcH (.var 0) (.c (.int (63)))) (.c (.bl true)) (.bi .abs [(.var 2)])))) [some (.scr ns), none, none] [] = some (.nx, [some (.scr ns), some (.loc 0), none], [some (.lst [])]) := by
        rw [ex, ev, hc']
        simp [asg]
      rw [d_l_state, exs, c1]
      simp [exs, ex, ev, evs, biV, one1, lenV, getL, cmpV, eqV_int, z1, z2, asg]
    show (match exs (callM T k) 0 d_l_state.body [some (.scr ns), none, none] [] with
      | none => none
      | some (fl, _, mh1) => match endV fl with
        | none => none
        | some v => if d_l_state.live = true then some (v, mh1) else (frz 0 mh1 8 v).map (·, mh1.take 0)) = _
    rw [e]
    rfl
  · refine ⟨1, 2, [some (.lst (((ns.take 63).map g).map .int)), some (.lst [.int 0, .loc 0])], ?_, rfl, 0, 0, (ns.take 63).map g, rfl, rfl, he, by decide⟩
    have e : exs (callM T k) 0 d_l_state.body [some (.scr ns), none, none] [] = some (.rt (.loc 1), [some (.scr ns), some (.loc 0), none], [some (.lst (((ns.take 63).map g).map .int)), some (.lst [.int 0, .loc 0])]) := by
      have hc' := hc (callM T k)
      have c1 : ex (callM T k) 0 (.set (.nm 1) (.al (.comp (.nm 2) [2] (.slcH (.var 0) (.c (.int (63)))) (.c (.bl true)) (.bi .abs [(.var 2)])))) [some (.scr ns), none, none] [] = some (.nx, [some (.scr ns), some (.loc 0), none], [some (.lst (((ns.take 63).map g).map .int))]) := by
        rw [ex, ev, hc']
        simp [asg]
      generalize hcs : (ns.take 63).map g = cs at he c1 ⊢
      have hne : ¬ (cs.length = 0) := fun z => he (List.length_eq_zero_iff.mp z)
      rw [d_l_state, exs, c1]
      simp [exs, ex, ev, evs, biV, one1, lenV, getL, cmpV, eqV_int, he, z2, asg]
    show (match exs (callM T k) 0 d_l_state.body [some (.scr ns), none, none] [] with
      | none => none
      | some (fl, _, mh1) => match endV fl with
        | none => none
        | some v => if d_l_state.live = true then some (v, mh1) else (frz 0 mh1 8 v).map (·, mh1.take 0)) = _
    rw [e]
    rfl
/-! ### upper -/
theorem up_asc {s : Sx} (h : asc s = true) : upperC s = s.map PyProof.Rows.up1 := by
  unfold upperC
  have := SX.upper_S (a := s) h
  have e : Txt.upper ⟨s.toArray⟩ = ⟨(s.map PyProof.Rows.up1).toArray⟩ := this
  rw [e]
theorem up1_lt : ∀ c, c < 128 → PyProof.Rows.up1 c < 128 := by decide
theorem up_asc2 {s : Sx} (h : asc s = true) : asc (upperC s) = true ∧ (upperC s).length = s.length := by
  rw [up_asc h]
  refine ⟨?_, by simp⟩
  unfold asc at h ⊢
  rw [List.all_map, List.all_eq_true]
  intro c hc
  have := List.all_eq_true.mp h c hc
  simp at this ⊢
  exact up1_lt c this
end L2.Mi.k01

set_option Elab.async false
set_option linter.all false
set_option maxRecDepth 100000
set_option maxHeartbeats 4000000
namespace L2.Mi.k01
open PySem PySem.Spec PyProof.Rows L2.Mi
abbrev wEnv (sc : Option MV) (l : Nat) (o2 o7 o15 o16 o17 o18 o19 o20 : Option MV) : Env := [sc, some (.loc l), o2, none, none, none, none, o7, none, none, none, none, none, none, none, o15, o16, o17, o18, o19, o20]
abbrev vBody : List MS := [(.ite (.not (.call 15 [(.callv 16 [(.var 7)]), (.call 14 [(.var 7), (.var 20)])])) [(.ret (.c (.bl false)))] [])]
theorem v_step {sc : Option MV} {l f : Nat} {o2 o7 o15 o17 o18 o19 : Option MV} {full : Sx} {x : MV} {mh : MHp} (hd : dat x = true) (hf : ∀ v mh, dat v = true → callM T 130 f [v] mh = some (.bl (wordB full v), mh)) :
    forF (callM T 130) 0 (.nm 7) vBody x (wEnv sc l o2 o7 o15 (some (.fn f)) o17 o18 o19 (some (.str full))) mh = some (.nx, wEnv sc l o2 (some x) o15 (some (.fn f)) o17 o18 o19 (some (.str full)), mh) := by
  have e1 := hf x mh hd
  have e2 : callM T 130 14 [x, .str full] mh = _ := sp_word 129 x full mh hd
  have e3 : callM T 130 15 [.bl (wordB full x), .bl (wordB full x)] mh = _ := sp_says 129 _ _ mh
  simp [forF, asg, exs, ex, ev, evs, wEnv, e1, e2, e3]
theorem v_loop {sc : Option MV} {l f : Nat} {o2 o15 o17 o18 o19 : Option MV} {full : Sx} {mh : MHp} {J : Its} (hJ : J.src = none) (hf : ∀ v mh, dat v = true → callM T 130 f [v] mh = some (.bl (wordB full v), mh)) :
    ∀ (xs : List MV) (o7 : Option MV), dats xs = true → ∃ o7', forGo J (forF (callM T 130) 0 (.nm 7) vBody) xs (wEnv sc l o2 o7 o15 (some (.fn f)) o17 o18 o19 (some (.str full))) mh = some (.nx, wEnv sc l o2 o7' o15 (some (.fn f)) o17 o18 o19 (some (.str full)), mh)
  | [], o7, _ => ⟨o7, forGo_nil_of hJ⟩
  | x :: xs, o7, h => by
    rw [forGo_cons_of hJ, v_step (dats_iff.mp h x (by simp)) hf]
    exact v_loop hJ hf xs _ (dats_iff.mpr fun y hy => dats_iff.mp h y (List.mem_cons_of_mem _ hy))
abbrev itE : ME := (.lst [(.var 17), (.bin .add (.bin .add (.slcH (.var 17) (.var 18)) (.call 10 [(.var 1), (.lst [(.c (.str [95])), (.c (.str [65])), (.c (.str [49])), (.c (.str [32])), (.c (.str [])), (.c (.str [40])), (.c (.str [45]))])])) (.slcL (.var 17) (.bin .add (.var 18) (.c (.int (1)))))), (.bin .add (.var 17) (.c (.str [97]))), (.meth .upper (.var 17) []), (.c (.str [])), (.c .non), (.c (.int (7))), (.tup [(.var 17)])])
theorem asc_app {a b : Sx} : asc (a ++ b) = (asc a && asc b) := by unfold asc; rw [List.all_append]
theorem v_items {sc : Option MV} {l n : Nat} {o2 o7 o15 o16 o19 o20 : Option MV} {s : Sx} {j : Nat} {mh : MHp} (S : St l n mh) (h8 : s.length ≤ 8) (ha : asc s = true) :
    ∃ xs mh', evI (callM T 130) 0 itE (wEnv sc l o2 o7 o15 o16 (some (.str s)) (some (.int j)) o19 o20) mh = some (⟨xs, none⟩, mh') ∧ St l n mh' ∧ dats xs = true := by
  obtain ⟨y, mh1, hy, e1, S1⟩ := sp_pick 128 S [.str [95], .str [65], .str [49], .str [32], .str [], .str [40], .str [45]] (by simp) (by simp) (by decide)
  have hp : ∃ p, y = .str p ∧ p.length ≤ 1 ∧ asc p = true := by
    simp only [List.mem_cons, List.not_mem_nil, or_false] at hy
    rcases hy with rfl | rfl | rfl | rfl | rfl | rfl | rfl <;> exact ⟨_, rfl, by decide, by decide⟩
  obtain ⟨p, rfl, hp1, hp2⟩ := hp
  obtain ⟨A, hA⟩ : ∃ A, A = s.take j := ⟨_, rfl⟩
  obtain ⟨B, hB⟩ : ∃ B, B = s.drop (j + 1) := ⟨_, rfl⟩
  have lA : A.length ≤ 8 := by rw [hA, List.length_take]; omega
  have lB : B.length ≤ 8 := by rw [hB, List.length_drop]; omega
  have aA : asc A = true := by
    rw [hA]; unfold asc at ha ⊢
    exact List.all_eq_true.mpr fun c hc => List.all_eq_true.mp ha c (List.mem_of_mem_take hc)
  have aB : asc B = true := by
    rw [hB]; unfold asc at ha ⊢
    exact List.all_eq_true.mpr fun c hc => List.all_eq_true.mp ha c (List.mem_of_mem_drop hc)
  have c1 : cut s none (some (j : Int)) = A := by rw [cut_take, hA]
  have c2 : cut s (some ((j : Int) + 1)) none = B := by
    have := cut_drop (xs := s) (k := j + 1)
    rw [show ((j + 1 : Nat) : Int) = (j : Int) + 1 by omega] at this
    rw [this, hB]
  have z0 : s.length ≤ line := by unfold line; omega
  have z1 : A.length + p.length ≤ line := by unfold line; omega
  have z2 : A.length + p.length + B.length ≤ line := by unfold line; omega
  have z3 : s.length + 1 ≤ line := by unfold line; omega
  have z4 : s.length ≤ 5592405 := by omega
  have z5 : 7 ≤ line := by unfold line; omega
  have z6 : 8 ≤ line := by unfold line; omega
  have z7 : 1 ≤ line := by unfold line; omega
  obtain ⟨u1, u2⟩ := up_asc2 ha
  refine ⟨[.str s, .str (A ++ p ++ B), .str (s ++ [97]), .str (upperC s), .str [], .non, .int 7, .tup [.str s]], mh1, ?_, S1, ?_⟩
  · simp [evI, ev, evs, wEnv, itE, slcV, z0, c1, z5, e1, binV, addV, z1, c2, z2, z3, tyM, methV, uppV, z4, z6, z7, itsOf]
  · have d1 := asc_dat ha (by omega)
    have d2 : dat (.str (A ++ p ++ B)) = true := asc_dat (by rw [asc_app, asc_app, aA, hp2, aB]; rfl) (by simp; omega)
    have d3 : dat (.str (s ++ [97])) = true := asc_dat (by rw [asc_app, ha]; rfl) (by simp; omega)
    have d4 : dat (.str (upperC s)) = true := asc_dat u1 (by omega)
    have d5 : dat (.tup [.str s]) = true := by unfold dat dats; rw [d1]; rfl
    simp only [dats, d1, d2, d3, d4, d5]
    rfl
abbrev wBody : List MS := [(.set (.nm 17) (.call 13 [(.var 1), (.var 15)])), (.set (.nm 18) (.call 9 [(.var 1), (.bi .len [(.var 17)])])), (.set (.nm 19) (.cmp .eq (.var 15) (.c (.str [97, 98, 109, 122])))), (.set (.nm 20) (.ite (.var 19) (.c (.str [97, 98, 99, 100, 101, 102, 103, 104, 105, 106, 107, 108, 109, 110, 111, 112, 113, 114, 115, 116, 117, 118, 119, 120, 121, 122])) (.c (.str [65, 66, 67, 68, 69, 70, 71, 72, 73, 74, 75, 76, 77, 78, 79, 80, 81, 82, 83, 84, 85, 86, 87, 88, 89, 90])))), (.for (.nm 7) itE vBody)]
theorem w_body {sc : Option MV} {l n f : Nat} {o2 o7 o17 o18 o19 o20 : Option MV} {first full : Sx} {low : Bool} {mh : MHp} (S : St l n mh) (hf : ∀ v mh, dat v = true → callM T 130 f [v] mh = some (.bl (wordB full v), mh))
    (hlow : low = decide (first = [97, 98, 109, 122])) (hfull : full = if low = true then lower else upper) (h0 : first ≠ []) (hl : first.length ≤ 100) (ha : asc first = true) :
    ∃ o7' o17' o18' mh', exs (callM T 130) 0 wBody (wEnv sc l o2 o7 (some (.str first)) (some (.fn f)) o17 o18 o19 o20) mh = some (.nx, wEnv sc l o2 o7' (some (.str first)) (some (.fn f)) o17' o18' (some (.bl low)) (some (.str full)), mh') ∧ St l n mh' := by
  obtain ⟨s, mh1, e1, S1, s1, s8, sa⟩ := sp_text 127 S first h0 hl ha
  obtain ⟨r, mh2, e2, S2, r0, _, _⟩ := sp_take 129 S1 (s.length : Int) (by omega)
  obtain ⟨j, rfl⟩ : ∃ j : Nat, r = (j : Int) := ⟨r.toNat, by omega⟩
  have hdf : dat (.str first) = true := asc_dat ha (by omega)
  have z0 : s.length ≤ line := by unfold line; omega
  have t1 : ex (callM T 130) 0 (.set (.nm 17) (.call 13 [(.var 1), (.var 15)])) (wEnv sc l o2 o7 (some (.str first)) (some (.fn f)) o17 o18 o19 o20) mh = some (.nx, wEnv sc l o2 o7 (some (.str first)) (some (.fn f)) (some (.str s)) o18 o19 o20, mh1) := by
    simp [ex, ev, evs, wEnv, e1, asg]
  have t2 : ex (callM T 130) 0 (.set (.nm 18) (.call 9 [(.var 1), (.bi .len [(.var 17)])])) (wEnv sc l o2 o7 (some (.str first)) (some (.fn f)) (some (.str s)) o18 o19 o20) mh1 = some (.nx, wEnv sc l o2 o7 (some (.str first)) (some (.fn f)) (some (.str s)) (some (.int j)) o19 o20, mh2) := by
    simp [ex, ev, evs, wEnv, biV, one1, lenV, z0, e2, asg]
  have t3 : ex (callM T 130) 0 (.set (.nm 19) (.cmp .eq (.var 15) (.c (.str [97, 98, 109, 122])))) (wEnv sc l o2 o7 (some (.str first)) (some (.fn f)) (some (.str s)) (some (.int j)) o19 o20) mh2 = some (.nx, wEnv sc l o2 o7 (some (.str first)) (some (.fn f)) (some (.str s)) (some (.int j)) (some (.bl low)) o20, mh2) := by
    have := eqV_str mh2 first [97, 98, 109, 122] hdf (by decide)
    rw [hlow]
    simp [ex, ev, wEnv, cmpV, this, asg]
  have t4 : ex (callM T 130) 0 (.set (.nm 20) (.ite (.var 19) (.c (.str [97, 98, 99, 100, 101, 102, 103, 104, 105, 106, 107, 108, 109, 110, 111, 112, 113, 114, 115, 116, 117, 118, 119, 120, 121, 122])) (.c (.str [65, 66, 67, 68, 69, 70, 71, 72, 73, 74, 75, 76, 77, 78, 79, 80, 81, 82, 83, 84, 85, 86, 87, 88, 89, 90])))) (wEnv sc l o2 o7 (some (.str first)) (some (.fn f)) (some (.str s)) (some (.int j)) (some (.bl low)) o20) mh2 = some (.nx, wEnv sc l o2 o7 (some (.str first)) (some (.fn f)) (some (.str s)) (some (.int j)) (some (.bl low)) (some (.str full)), mh2) := by
    rw [hfull]
    cases low <;> simp [ex, ev, wEnv, asg, lower, upper]
  obtain ⟨xs, mh3, e3, S3, hd⟩ := v_items (sc := sc) (o2 := o2) (o7 := o7) (o15 := some (.str first)) (o16 := some (.fn f)) (o19 := some (.bl low)) (o20 := some (.str full)) (s := s) (j := j) S2 s8 sa
  obtain ⟨o7', e4⟩ := v_loop (sc := sc) (l := l) (f := f) (o2 := o2) (o15 := some (.str first)) (o17 := some (.str s)) (o18 := some (.int j)) (o19 := some (.bl low)) (full := full) (mh := mh3) (J := ⟨xs, none⟩) rfl hf xs o7 hd
  refine ⟨o7', some (.str s), some (.int j), mh3, ?_, S3⟩
  rw [wBody, exs, t1]
  simp only
  rw [exs, t2]
  simp only
  rw [exs, t3]
  simp only
  rw [exs, t4]
  simp only
  rw [exs, ex_for, e3]
  simp only
  rw [e4]
  rfl
abbrev s2 : MS := (.for (.nm 2) (.rng1 (.c (.int (6)))) [(.for (.tp [(.nm 15), (.nm 16)]) (.tup [(.tup [(.c (.str [97, 98, 109, 122])), (.c (.fn 2))]), (.tup [(.c (.str [65, 66, 77, 90])), (.c (.fn 3))])]) wBody)])
theorem w_turn {sc : Option MV} {l n : Nat} {o2 o7 o15 o16 o17 o18 o19 o20 : Option MV} {x : MV} {mh : MHp} (S : St l n mh) :
    ∃ p7 p15 p16 p17 p18 p19 p20 mh', forF (callM T 130) 0 (.nm 2) [(.for (.tp [(.nm 15), (.nm 16)]) (.tup [(.tup [(.c (.str [97, 98, 109, 122])), (.c (.fn 2))]), (.tup [(.c (.str [65, 66, 77, 90])), (.c (.fn 3))])]) wBody)] x (wEnv sc l o2 o7 o15 o16 o17 o18 o19 o20) mh = some (.nx, wEnv sc l (some x) p7 p15 p16 p17 p18 p19 p20, mh') ∧ St l n mh' := by
  obtain ⟨a7, a17, a18, mh1, e1, S1⟩ := w_body (sc := sc) (o2 := some x) (o7 := o7) (o17 := o17) (o18 := o18) (o19 := o19) (o20 := o20) (f := 2) (first := [97, 98, 109, 122]) (full := lower) (low := true) S (fun v mh hd => sp_is_sign 128 v mh hd) rfl rfl (by decide) (by decide) (by decide)
  obtain ⟨b7, b17, b18, mh2, e2, S2⟩ := w_body (sc := sc) (o2 := some x) (o7 := a7) (o17 := a17) (o18 := a18) (o19 := some (.bl true)) (o20 := some (.str lower)) (f := 3) (first := [65, 66, 77, 90]) (full := upper) (low := false) S1 (fun v mh hd => sp_is_var 128 v mh hd) rfl rfl (by decide) (by decide) (by decide)
  refine ⟨b7, some (.str [65, 66, 77, 90]), some (.fn 3), b17, b18, some (.bl false), some (.str upper), mh2, ?_, S2⟩
  have z2 : 2 ≤ line := by unfold line; omega
  have f1 : forF (callM T 130) 0 (.tp [(.nm 15), (.nm 16)]) wBody (.tup [.str [97, 98, 109, 122], .fn 2]) (wEnv sc l (some x) o7 o15 o16 o17 o18 o19 o20) mh = exs (callM T 130) 0 wBody (wEnv sc l (some x) o7 (some (.str [97, 98, 109, 122])) (some (.fn 2)) o17 o18 o19 o20) mh := by
    simp [forF, asg, asgs, wEnv]
  have f2 : forF (callM T 130) 0 (.tp [(.nm 15), (.nm 16)]) wBody (.tup [.str [65, 66, 77, 90], .fn 3]) (wEnv sc l (some x) a7 (some (.str [97, 98, 109, 122])) (some (.fn 2)) a17 a18 (some (.bl true)) (some (.str lower))) mh1 = exs (callM T 130) 0 wBody (wEnv sc l (some x) a7 (some (.str [65, 66, 77, 90])) (some (.fn 3)) a17 a18 (some (.bl true)) (some (.str lower))) mh1 := by
    simp [forF, asg, asgs, wEnv]
  have fI : evI (callM T 130) 0 (.tup [(.tup [(.c (.str [97, 98, 109, 122])), (.c (.fn 2))]), (.tup [(.c (.str [65, 66, 77, 90])), (.c (.fn 3))])]) (wEnv sc l (some x) o7 o15 o16 o17 o18 o19 o20) mh = some (⟨[.tup [.str [97, 98, 109, 122], .fn 2], .tup [.str [65, 66, 77, 90], .fn 3]], none⟩, mh) := by
    simp [evI, ev, evs, z2, itsOf]
  have g : exs (callM T 130) 0 [(.for (.tp [(.nm 15), (.nm 16)]) (.tup [(.tup [(.c (.str [97, 98, 109, 122])), (.c (.fn 2))]), (.tup [(.c (.str [65, 66, 77, 90])), (.c (.fn 3))])]) wBody)] (wEnv sc l (some x) o7 o15 o16 o17 o18 o19 o20) mh = some (.nx, wEnv sc l (some x) b7 (some (.str [65, 66, 77, 90])) (some (.fn 3)) b17 b18 (some (.bl false)) (some (.str upper)), mh2) := by
    rw [exs, ex_for, fI]
    simp only
    rw [forGo_cons_of rfl, f1, e1]
    simp only
    rw [forGo_cons_of rfl, f2, e2]
    simp only
    rw [forGo_nil_of rfl]
    simp only [exs]
  have as : asg mh (.nm 2) x (wEnv sc l o2 o7 o15 o16 o17 o18 o19 o20) = some (wEnv sc l (some x) o7 o15 o16 o17 o18 o19 o20) := by simp [asg, wEnv]
  unfold forF
  rw [as]
  exact g
theorem w_loop {sc : Option MV} {l n : Nat} {J : Its} (hJ : J.src = none) : ∀ (xs : List MV) (o2 o7 o15 o16 o17 o18 o19 o20 : Option MV) (mh : MHp), St l n mh →
    ∃ p2 p7 p15 p16 p17 p18 p19 p20 mh', forGo J (forF (callM T 130) 0 (.nm 2) [(.for (.tp [(.nm 15), (.nm 16)]) (.tup [(.tup [(.c (.str [97, 98, 109, 122])), (.c (.fn 2))]), (.tup [(.c (.str [65, 66, 77, 90])), (.c (.fn 3))])]) wBody)]) xs (wEnv sc l o2 o7 o15 o16 o17 o18 o19 o20) mh = some (.nx, wEnv sc l p2 p7 p15 p16 p17 p18 p19 p20, mh') ∧ St l n mh'
  | [], o2, o7, o15, o16, o17, o18, o19, o20, mh, S => ⟨_, _, _, _, _, _, _, _, _, forGo_nil_of hJ, S⟩
  | x :: xs, o2, o7, o15, o16, o17, o18, o19, o20, mh, S => by
    obtain ⟨p7, p15, p16, p17, p18, p19, p20, mh1, e, S1⟩ := w_turn (sc := sc) (o2 := o2) (o7 := o7) (o15 := o15) (o16 := o16) (o17 := o17) (o18 := o18) (o19 := o19) (o20 := o20) (x := x) S
    rw [forGo_cons_of hJ, e]
    exact w_loop hJ xs _ _ _ _ _ _ _ _ mh1 S1
theorem s2_ok {sc : Option MV} {l n : Nat} {mh : MHp} (S : St l n mh) : ∃ p2 p7 p15 p16 p17 p18 p19 p20 mh', ex (callM T 130) 0 s2 (wEnv sc l none none none none none none none none) mh = some (.nx, wEnv sc l p2 p7 p15 p16 p17 p18 p19 p20, mh') ∧ St l n mh' := by
  obtain ⟨p2, p7, p15, p16, p17, p18, p19, p20, mh', e, S'⟩ := w_loop (sc := sc) (J := ⟨(List.range 6).map fun (k : Nat) => .int (k : Int), none⟩) rfl ((List.range 6).map fun (k : Nat) => MV.int (k : Int)) none none none none none none none none mh S
  refine ⟨p2, p7, p15, p16, p17, p18, p19, p20, mh', ?_, S'⟩
  rw [s2, ex_for]
  have : evI (callM T 130) 0 (.rng1 (.c (.int (6)))) (wEnv sc l none none none none none none none none) mh = some (⟨(List.range 6).map fun (k : Nat) => .int (k : Int), none⟩, mh) := by simp [evI, ev]
  rw [this]
  exact e
end L2.Mi.k01

set_option Elab.async false
set_option linter.all false
set_option maxRecDepth 100000
set_option maxHeartbeats 4000000
namespace L2.Mi.k01
open PySem PySem.Spec PyProof.Rows L2.Mi
abbrev LE (sc : Option MV) (l : Nat) (o2 o3 o4 o5 o6 o7 o8 o9 o10 o11 o12 o13 o14 o15 o16 o17 o18 o19 o20 : Option MV) : Env := [sc, some (.loc l), o2, o3, o4, o5, o6, o7, o8, o9, o10, o11, o12, o13, o14, o15, o16, o17, o18, o19, o20]
def alpha : Sx := [97, 98, 99, 100, 101, 102, 103, 104, 105, 106, 107, 108, 109]
def manyG (x : MV) : Option MV := match x with
  | .int i => (idx alpha i).map fun c => .tup [.str ([115] ++ [c]), .int (i.fmod 5)]
  | _ => none
def manyL : List MV := ((List.range 13).map fun (k : Nat) => MV.int (k : Int)).filterMap manyG
theorem many_ok : (tongueB (.tup (manyL.take 12)) && !tongueB (.tup manyL) && dats manyL && dats (manyL.take 12) && decide (manyL.length = 13)) = true := by decide +kernel
theorem alpha_some : ∀ j, j < 13 → ∃ c, idx alpha ((j : Nat) : Int) = some c := by
  intro j hj
  have hl : j < alpha.length := hj
  exact ⟨alpha[j], L2.atI_nat (List.getElem?_eq_getElem hl)⟩
def repl (ps : List MV) (j : Nat) (x : MV) : MV := .tup (ps.take j ++ [x] ++ ps.drop (j + 1))
def wr6 (s : Sx) (i : Int) : List MV := [.tup [.str s], .lst [.str s, .int i], .tup [.str [65], .int i], .tup [.str s, .bl true], .tup [.str s, .non], .non]
def bad5 (ps : List MV) (j : Nat) (s : Sx) : List MV := [.lst ps, .tup [], .tup (ps ++ cut ps (some (-1)) none), repl ps j (pr s 5), repl ps j (pr s (-1))]
def badL (ps : List MV) (j : Nat) (s : Sx) (i : Int) : List MV := bad5 ps j s ++ (wr6 s i).map (repl ps j) ++ [.tup ps.reverse, .non, .int 5]
def badOk (ps : List MV) : Bool := tongueB (.tup ps) && okD (.lst (ps.map sndI)) && eqD (.lst (ps.map sndI)) (.lst (ps.map sndI)) && dats (ps.map sndI) && (match placesV ps [122, 122, 57] with | .non => true | _ => false) && (List.range ps.length).all fun j => match ps[j]? with
  | some (.tup [.str s, .int i]) => (badL ps j s i).all fun v => dat v && !tongueB v
  | _ => false
theorem bads_ok : tongues.all badOk = true := by decide +kernel
structure BadOk (ps : List MV) : Prop where
  t : tongueB (.tup ps) = true
  ok : okD (.lst (ps.map sndI)) = true
  eq : eqD (.lst (ps.map sndI)) (.lst (ps.map sndI)) = true
  d : dats (ps.map sndI) = true
  zz9 : placesV ps [122, 122, 57] = .non
  bad : ∀ j s i, ps[j]? = some (pr s i) → ∀ v ∈ badL ps j s i, dat v = true ∧ tongueB v = false
theorem badOk_of {ps : List MV} (h : ps ∈ tongues) : BadOk ps := by
  have := List.all_eq_true.mp bads_ok ps h
  unfold badOk at this
  simp only [Bool.and_eq_true] at this
  obtain ⟨⟨⟨⟨⟨h1, h2⟩, h3⟩, h4⟩, h5⟩, h6⟩ := this
  refine ⟨h1, h2, h3, h4, ?_, fun j s i hj v hv => ?_⟩
  · split at h5
    · assumption
    · cases h5
  · have hl := (List.getElem?_eq_some_iff.mp hj).1
    have := List.all_eq_true.mp h6 j (List.mem_range.mpr hl)
    rw [hj] at this
    have := List.all_eq_true.mp this v hv
    simpa using this
theorem cut_len {α : Type} (xs : List α) (lo hi : Option Int) : (cut xs lo hi).length ≤ xs.length := by
  unfold cut
  rw [List.length_take, List.length_drop]
  omega
section
variable {sc : Option MV} {l n : Nat} {o2 o3 o4 o5 o6 o7 o8 o9 o10 o11 o12 o13 o14 o15 o16 o17 o18 o19 o20 : Option MV} {mh : MHp} {ps : List MV}
theorem s1_ok : ex (callM T 130) 0 (.ite (.cmp .ne (.tup [(.c (.int (12))), (.c (.int (4))), (.c (.int (400))), (.c (.int (8)))]) (.tup [(.c (.int (12))), (.c (.int (4))), (.c (.int (400))), (.c (.int (8)))])) [(.ret (.c (.bl false)))] []) (LE sc l o2 o3 o4 o5 o6 o7 o8 o9 o10 o11 o12 o13 o14 o15 o16 o17 o18 o19 o20) mh = some (.nx, LE sc l o2 o3 o4 o5 o6 o7 o8 o9 o10 o11 o12 o13 o14 o15 o16 o17 o18 o19 o20, mh) := by
  have z4 : 4 ≤ line := by unfold line; omega
  have he : eqV mh (.tup [.int 12, .int 4, .int 400, .int 8]) (.tup [.int 12, .int 4, .int 400, .int 8]) = some true := by
    unfold eqV
    rw [frz_dat _ rfl]
    have h1 : okD (.tup [.int 12, .int 4, .int 400, .int 8]) = true := by decide +kernel
    have h2 : eqD (.tup [.int 12, .int 4, .int 400, .int 8]) (.tup [.int 12, .int 4, .int 400, .int 8]) = true := by decide +kernel
    simp only [h1, h2, and_self, if_true]
  simp [ex, exs, ev, evs, z4, cmpV, he]
theorem s3_ok (S : St l n mh) : ∃ ps mh', ps ∈ tongues ∧ ex (callM T 130) 0 (.set (.nm 3) (.call 11 [(.var 1)])) (LE sc l o2 o3 o4 o5 o6 o7 o8 o9 o10 o11 o12 o13 o14 o15 o16 o17 o18 o19 o20) mh = some (.nx, LE sc l o2 (some (.tup ps)) o4 o5 o6 o7 o8 o9 o10 o11 o12 o13 o14 o15 o16 o17 o18 o19 o20, mh') ∧ St l n mh' := by
  obtain ⟨ps, mh', h1, e, S'⟩ := sp_tongueD 127 S
  refine ⟨ps, mh', h1, ?_, S'⟩
  simp [ex, ev, evs, LE, e, asg]
theorem s4_ok : ex (callM T 130) 0 (.set (.nm 4) (.bi .tuple [(.comp (.nm 5) [5] (.rng1 (.c (.int (13)))) (.c (.bl true)) (.tup [(.bin .add (.c (.str [115])) (.sub (.c (.str [97, 98, 99, 100, 101, 102, 103, 104, 105, 106, 107, 108, 109])) (.var 5))), (.bin .mod (.bi .int [(.var 5)]) (.c (.int (5))))]))])) (LE sc l o2 o3 o4 o5 o6 o7 o8 o9 o10 o11 o12 o13 o14 o15 o16 o17 o18 o19 o20) mh = some (.nx, LE sc l o2 o3 (some (.tup manyL)) o5 o6 o7 o8 o9 o10 o11 o12 o13 o14 o15 o16 o17 o18 o19 o20, mh) := by
  have hc : ev (callM T 130) 0 (.comp (.nm 5) [5] (.rng1 (.c (.int (13)))) (.c (.bl true)) (.tup [(.bin .add (.c (.str [115])) (.sub (.c (.str [97, 98, 99, 100, 101, 102, 103, 104, 105, 106, 107, 108, 109])) (.var 5))), (.bin .mod (.bi .int [(.var 5)]) (.c (.int (5))))])) (LE sc l o2 o3 o4 o5 o6 o7 o8 o9 o10 o11 o12 o13 o14 o15 o16 o17 o18 o19 o20) mh = some (.lst manyL, mh) := by
    have ei : evI (callM T 130) 0 (.rng1 (.c (.int (13)))) (LE sc l o2 o3 o4 o5 o6 o7 o8 o9 o10 o11 o12 o13 o14 o15 o16 o17 o18 o19 o20) mh = some (⟨(List.range 13).map fun (k : Nat) => .int (k : Int), none⟩, mh) := by simp [evI, ev]
    have z13 : 13 ≤ line := by unfold line; omega
    rw [ev_compq, ei]
    simp only [List.length_map, List.length_range, z13, if_true]
    rw [compGo_pure rfl (g := manyG)]
    · rfl
    · intro x hx
      obtain ⟨j, hj, rfl⟩ := List.mem_map.mp hx
      obtain ⟨c, hc⟩ := alpha_some j (List.mem_range.mp hj)
      have z2 : 2 ≤ line := by unfold line; omega
      have hg : manyG (.int (j : Int)) = some (.tup [.str [115, c], .int ((j : Int).fmod 5)]) := by
        show (idx alpha (j : Int)).map _ = _
        rw [hc]; rfl
      rw [hg]
      unfold alpha at hc
      simp [compF, asg, wipeE, ev, evs, LE, subV, hc, z13, binV, addV, z2, biV, one1, intV1, intV]
  simp [ex, ev, evs, hc, biV, one1, tupV, getL, asg, LE]
theorem call_tongue (v : MV) (mh : MHp) (hd : dat v = true) : callM T 130 4 [v] mh = some (.bl (tongueB v), mh) := sp_tongue 127 v mh hd
theorem call_says (a b : Bool) (mh : MHp) : callM T 130 15 [.bl a, .bl b] mh = some (.bl (decide (a = b)), mh) := sp_says 129 a b mh
theorem s5_ok (hps : ps ∈ tongues) : ex (callM T 130) 0 (.ite (.or (.not (.call 15 [(.call 4 [(.var 3)]), (.c (.bl true))])) (.or (.not (.call 15 [(.call 4 [(.slcH (.var 4) (.c (.int (12))))]), (.c (.bl true))])) (.not (.call 15 [(.call 4 [(.var 4)]), (.c (.bl false))])))) [(.ret (.c (.bl false)))] []) (LE sc l o2 (some (.tup ps)) (some (.tup manyL)) o5 o6 o7 o8 o9 o10 o11 o12 o13 o14 o15 o16 o17 o18 o19 o20) mh = some (.nx, LE sc l o2 (some (.tup ps)) (some (.tup manyL)) o5 o6 o7 o8 o9 o10 o11 o12 o13 o14 o15 o16 o17 o18 o19 o20, mh) := by
  have hm := many_ok
  simp only [Bool.and_eq_true, Bool.not_eq_true', decide_eq_true_eq] at hm
  obtain ⟨⟨⟨⟨m1, m2⟩, m3⟩, m4⟩, m5⟩ := hm
  have b := badOk_of hps
  have c1 := call_tongue (.tup ps) mh (by unfold dat; exact (tok_of hps).dat)
  have c2 := call_tongue (.tup (manyL.take 12)) mh (by unfold dat; exact m4)
  have c3 := call_tongue (.tup manyL) mh (by unfold dat; exact m3)
  rw [b.t] at c1
  rw [m1] at c2
  rw [m2] at c3
  have hc : cut manyL none (some 12) = manyL.take 12 := by
    have := cut_take (xs := manyL) (k := 12)
    exact this
  simp [ex, exs, ev, evs, LE, c1, c2, c3, slcV, hc, call_says]
theorem s67_ok (hps : ps ∈ tongues) (S : St l n mh) : ∃ (j : Nat) (s : Sx) (i : Int) (mh' : MHp), ps[j]? = some (pr s i) ∧ St l n mh' ∧ exs (callM T 130) 0 [(.set (.nm 5) (.call 9 [(.var 1), (.bi .len [(.var 3)])])), (.set (.tp [(.nm 11), (.nm 12)]) (.sub (.var 3) (.var 5)))] (LE sc l o2 (some (.tup ps)) o4 o5 o6 o7 o8 o9 o10 o11 o12 o13 o14 o15 o16 o17 o18 o19 o20) mh = some (.nx, LE sc l o2 (some (.tup ps)) o4 (some (.int j)) o6 o7 o8 o9 o10 (some (.str s)) (some (.int i)) o13 o14 o15 o16 o17 o18 o19 o20, mh') := by
  have tk := tok_of hps
  have l2 := tk.l2
  have l4 := tk.l4
  obtain ⟨r, mh', e, S', r0, r1, _⟩ := sp_take 129 S (ps.length : Int) (by omega)
  have r2 := r1 (by omega)
  obtain ⟨j, rfl⟩ : ∃ j : Nat, r = (j : Int) := ⟨r.toNat, by omega⟩
  have hj : j < ps.length := by omega
  obtain ⟨s, i, hp, _⟩ := tk.each ps[j] (List.getElem_mem hj)
  have hg : ps[j]? = some (pr s i) := by rw [List.getElem?_eq_getElem hj, hp]
  refine ⟨j, s, i, mh', hg, S', ?_⟩
  have hi := idx_nat hg
  simp [exs, ex, ev, evs, LE, biV, one1, lenV, e, asg, asgs, subV, hi]
theorem s8_ok (hps : ps ∈ tongues) {j : Nat} {s : Sx} {i : Int} : ex (callM T 130) 0 (.set (.nm 6) (.lst [(.bi .list [(.var 3)]), (.tup []), (.bin .add (.var 3) (.slcL (.var 3) (.neg (.c (.int (1)))))), (.bin .add (.bin .add (.slcH (.var 3) (.var 5)) (.tup [(.tup [(.var 11), (.c (.int (5)))])])) (.slcL (.var 3) (.bin .add (.var 5) (.c (.int (1)))))), (.bin .add (.bin .add (.slcH (.var 3) (.var 5)) (.tup [(.tup [(.var 11), (.neg (.c (.int (1))))])])) (.slcL (.var 3) (.bin .add (.var 5) (.c (.int (1))))))])) (LE sc l o2 (some (.tup ps)) o4 (some (.int j)) o6 o7 o8 o9 o10 (some (.str s)) (some (.int i)) o13 o14 o15 o16 o17 o18 o19 o20) mh = some (.nx, LE sc l o2 (some (.tup ps)) o4 (some (.int j)) (some (.lst (bad5 ps j s))) o7 o8 o9 o10 (some (.str s)) (some (.int i)) o13 o14 o15 o16 o17 o18 o19 o20, mh) := by
  have l4 := (tok_of hps).l4
  unfold bad5 repl
  have lc := cut_len ps (some (-1)) none
  obtain ⟨L, hL⟩ : ∃ L, L = cut ps (some (-1)) none := ⟨_, rfl⟩
  obtain ⟨A, hA⟩ : ∃ A, A = ps.take j := ⟨_, rfl⟩
  obtain ⟨B, hB⟩ : ∃ B, B = ps.drop (j + 1) := ⟨_, rfl⟩
  have c1 : cut ps none (some (j : Int)) = A := by rw [cut_take, hA]
  have c2 : cut ps (some ((j : Int) + 1)) none = B := by
    have := cut_drop (xs := ps) (k := j + 1)
    rw [show ((j + 1 : Nat) : Int) = (j : Int) + 1 by omega] at this
    rw [this, hB]
  have lA : A.length ≤ 4 := by rw [hA, List.length_take]; omega
  have lB : B.length ≤ 4 := by rw [hB, List.length_drop]; omega
  rw [← hL] at lc
  rw [← hA, ← hB, ← hL]
  have c3 : cut ps (some (-1)) none = L := hL.symm
  have z1 : ps.length + L.length ≤ line := by unfold line; omega
  have z2 : A.length + 1 ≤ line := by unfold line; omega
  have z3 : A.length + 1 + B.length ≤ line := by unfold line; omega
  have z4 : 5 ≤ line := by unfold line; omega
  have z5 : 2 ≤ line := by unfold line; omega
  have z6 : 1 ≤ line := by unfold line; omega
  simp [ex, ev, evs, LE, biV, one1, lstV, slcV, c1, c2, c3, binV, addV, z1, z2, z3, z4, z5, z6, asg]
theorem s9_ok (hps : ps ∈ tongues) {j : Nat} {s : Sx} {i : Int} : ex (callM T 130) 0 (.set (.nm 6) (.bin .add (.var 6) (.comp (.nm 14) [14] (.lst [(.tup [(.var 11)]), (.lst [(.var 11), (.var 12)]), (.tup [(.c (.str [65])), (.var 12)]), (.tup [(.var 11), (.c (.bl true))]), (.tup [(.var 11), (.c .non)]), (.c .non)]) (.c (.bl true)) (.bin .add (.bin .add (.slcH (.var 3) (.var 5)) (.tup [(.var 14)])) (.slcL (.var 3) (.bin .add (.var 5) (.c (.int (1))))))))) (LE sc l o2 (some (.tup ps)) o4 (some (.int j)) (some (.lst (bad5 ps j s))) o7 o8 o9 o10 (some (.str s)) (some (.int i)) o13 o14 o15 o16 o17 o18 o19 o20) mh = some (.nx, LE sc l o2 (some (.tup ps)) o4 (some (.int j)) (some (.lst (bad5 ps j s ++ (wr6 s i).map (repl ps j)))) o7 o8 o9 o10 (some (.str s)) (some (.int i)) o13 o14 o15 o16 o17 o18 o19 o20, mh) := by
  have l4 := (tok_of hps).l4
  have z1 : 1 ≤ line := by unfold line; omega
  have z2 : 2 ≤ line := by unfold line; omega
  have z6 : 6 ≤ line := by unfold line; omega
  have hc : ev (callM T 130) 0 (.comp (.nm 14) [14] (.lst [(.tup [(.var 11)]), (.lst [(.var 11), (.var 12)]), (.tup [(.c (.str [65])), (.var 12)]), (.tup [(.var 11), (.c (.bl true))]), (.tup [(.var 11), (.c .non)]), (.c .non)]) (.c (.bl true)) (.bin .add (.bin .add (.slcH (.var 3) (.var 5)) (.tup [(.var 14)])) (.slcL (.var 3) (.bin .add (.var 5) (.c (.int (1))))))) (LE sc l o2 (some (.tup ps)) o4 (some (.int j)) (some (.lst (bad5 ps j s))) o7 o8 o9 o10 (some (.str s)) (some (.int i)) o13 o14 o15 o16 o17 o18 o19 o20) mh = some (.lst ((wr6 s i).map (repl ps j)), mh) := by
    have ei : evI (callM T 130) 0 (.lst [(.tup [(.var 11)]), (.lst [(.var 11), (.var 12)]), (.tup [(.c (.str [65])), (.var 12)]), (.tup [(.var 11), (.c (.bl true))]), (.tup [(.var 11), (.c .non)]), (.c .non)]) (LE sc l o2 (some (.tup ps)) o4 (some (.int j)) (some (.lst (bad5 ps j s))) o7 o8 o9 o10 (some (.str s)) (some (.int i)) o13 o14 o15 o16 o17 o18 o19 o20) mh = some (⟨wr6 s i, none⟩, mh) := by
      simp [evI, ev, evs, LE, z1, z2, z6, itsOf, wr6]
    have hz : (wr6 s i).length ≤ line := by simp [wr6]; exact z6
    rw [ev_compq, ei]
    simp only [hz, if_true]
    rw [compGo_pure rfl (g := fun x => some (repl ps j x))]
    · simp
    · intro x hx
      unfold repl
      obtain ⟨A, hA⟩ : ∃ A, A = ps.take j := ⟨_, rfl⟩
      obtain ⟨B, hB⟩ : ∃ B, B = ps.drop (j + 1) := ⟨_, rfl⟩
      have c1 : cut ps none (some (j : Int)) = A := by rw [cut_take, hA]
      have c2 : cut ps (some ((j : Int) + 1)) none = B := by
        have := cut_drop (xs := ps) (k := j + 1)
        rw [show ((j + 1 : Nat) : Int) = (j : Int) + 1 by omega] at this
        rw [this, hB]
      have lA : A.length ≤ 4 := by rw [hA, List.length_take]; omega
      have lB : B.length ≤ 4 := by rw [hB, List.length_drop]; omega
      rw [← hA, ← hB]
      have z3 : A.length + 1 ≤ line := by unfold line; omega
      have z4 : A.length + 1 + B.length ≤ line := by unfold line; omega
      simp [compF, asg, wipeE, ev, evs, LE, slcV, c1, c2, z1, binV, addV, z3, z4]
  have hl : (bad5 ps j s).length + (wr6 s i).length ≤ line := by simp [bad5, wr6]; unfold line; omega
  simp [ex, ev, hc, LE, binV, addV, getL, hl, asg]
abbrev bBody : List MS := [(.ite (.not (.call 15 [(.call 4 [(.var 7)]), (.c (.bl false))])) [(.ret (.c (.bl false)))] [])]
theorem b_loop {J : Its} (hJ : J.src = none) : ∀ (xs : List MV) (o7 : Option MV), (∀ v ∈ xs, dat v = true ∧ tongueB v = false) → ∃ o7', forGo J (forF (callM T 130) 0 (.nm 7) bBody) xs (LE sc l o2 o3 o4 o5 o6 o7 o8 o9 o10 o11 o12 o13 o14 o15 o16 o17 o18 o19 o20) mh = some (.nx, LE sc l o2 o3 o4 o5 o6 o7' o8 o9 o10 o11 o12 o13 o14 o15 o16 o17 o18 o19 o20, mh)
  | [], o7, _ => ⟨o7, forGo_nil_of hJ⟩
  | x :: xs, o7, h => by
    obtain ⟨hd, ht⟩ := h x (by simp)
    have c1 := call_tongue x mh hd
    rw [ht] at c1
    have st : forF (callM T 130) 0 (.nm 7) bBody x (LE sc l o2 o3 o4 o5 o6 o7 o8 o9 o10 o11 o12 o13 o14 o15 o16 o17 o18 o19 o20) mh = some (.nx, LE sc l o2 o3 o4 o5 o6 (some x) o8 o9 o10 o11 o12 o13 o14 o15 o16 o17 o18 o19 o20, mh) := by
      simp [forF, asg, exs, ex, ev, evs, LE, c1, call_says]
    rw [forGo_cons_of hJ, st]
    exact b_loop hJ xs _ fun v hv => h v (List.mem_cons_of_mem _ hv)
theorem s10_ok (hps : ps ∈ tongues) {j : Nat} {s : Sx} {i : Int} (hj : ps[j]? = some (pr s i)) : ∃ o7', ex (callM T 130) 0 (.for (.nm 7) (.bin .add (.var 6) (.lst [(.rev (.var 3)), (.c .non), (.c (.int (5)))])) bBody) (LE sc l o2 (some (.tup ps)) o4 o5 (some (.lst (bad5 ps j s ++ (wr6 s i).map (repl ps j)))) o7 o8 o9 o10 o11 o12 o13 o14 o15 o16 o17 o18 o19 o20) mh = some (.nx, LE sc l o2 (some (.tup ps)) o4 o5 (some (.lst (bad5 ps j s ++ (wr6 s i).map (repl ps j)))) o7' o8 o9 o10 o11 o12 o13 o14 o15 o16 o17 o18 o19 o20, mh) := by
  obtain ⟨o7', e⟩ := b_loop (sc := sc) (l := l) (o2 := o2) (o3 := some (.tup ps)) (o4 := o4) (o5 := o5) (o6 := some (.lst (bad5 ps j s ++ (wr6 s i).map (repl ps j)))) (o8 := o8) (o9 := o9) (o10 := o10) (o11 := o11) (o12 := o12) (o13 := o13) (o14 := o14) (o15 := o15) (o16 := o16) (o17 := o17) (o18 := o18) (o19 := o19) (o20 := o20) (mh := mh) (J := ⟨badL ps j s i, none⟩) rfl (badL ps j s i) o7 ((badOk_of hps).bad j s i hj)
  refine ⟨o7', ?_⟩
  have z3 : 3 ≤ line := by unfold line; omega
  have hl : (bad5 ps j s ++ (wr6 s i).map (repl ps j)).length + 3 ≤ line := by simp [bad5, wr6]; unfold line; omega
  have ei : evI (callM T 130) 0 (.bin .add (.var 6) (.lst [(.rev (.var 3)), (.c .non), (.c (.int (5)))])) (LE sc l o2 (some (.tup ps)) o4 o5 (some (.lst (bad5 ps j s ++ (wr6 s i).map (repl ps j)))) o7 o8 o9 o10 o11 o12 o13 o14 o15 o16 o17 o18 o19 o20) mh = some (⟨badL ps j s i, none⟩, mh) := by
    unfold badL
    generalize bad5 ps j s ++ (wr6 s i).map (repl ps j) = W at hl ⊢
    simp [evI, ev, evs, LE, z3, binV, addV, getL, hl, itsOf]
  rw [ex_for, ei]
  exact e
theorem s11_ok (hps : ps ∈ tongues) : ex (callM T 130) 0 (.ite (.or (.cmp .ne (.comp (.nm 9) [9] (.var 3) (.c (.bl true)) (.call 5 [(.var 3), (.sub (.var 9) (.c (.int (0))))])) (.comp (.nm 9) [9] (.var 3) (.c (.bl true)) (.sub (.var 9) (.c (.int (1)))))) (.cmp .isn (.call 5 [(.var 3), (.c (.str [122, 122, 57]))]) (.c .non))) [(.ret (.c (.bl false)))] []) (LE sc l o2 (some (.tup ps)) o4 o5 o6 o7 o8 o9 o10 o11 o12 o13 o14 o15 o16 o17 o18 o19 o20) mh = some (.nx, LE sc l o2 (some (.tup ps)) o4 o5 o6 o7 o8 o9 o10 o11 o12 o13 o14 o15 o16 o17 o18 o19 o20, mh) := by
  have tk := tok_of hps
  have b := badOk_of hps
  have hz : ps.length ≤ line := by have := tk.l4; unfold line; omega
  have ei : evI (callM T 130) 0 (.var 3) (LE sc l o2 (some (.tup ps)) o4 o5 o6 o7 o8 o9 o10 o11 o12 o13 o14 o15 o16 o17 o18 o19 o20) mh = some (⟨ps, none⟩, mh) := by simp [evI, ev, LE, itsOf]
  have fm : ps.filterMap (fun p => some (sndI p)) = ps.map sndI := by rw [← List.filterMap_eq_map]; rfl
  have h1 : ev (callM T 130) 0 (.comp (.nm 9) [9] (.var 3) (.c (.bl true)) (.call 5 [(.var 3), (.sub (.var 9) (.c (.int (0))))])) (LE sc l o2 (some (.tup ps)) o4 o5 o6 o7 o8 o9 o10 o11 o12 o13 o14 o15 o16 o17 o18 o19 o20) mh = some (.lst (ps.map sndI), mh) := by
    rw [ev_compq, ei]
    simp only [hz, if_true]
    rw [compGo_pure rfl (g := fun p => some (sndI p))]
    · simp only [fm]
    · intro p hp
      obtain ⟨s, i, rfl, _, hh, hds⟩ := tk.each p hp
      obtain ⟨a, t, he, _, hpl⟩ := head_eq hh
      cases he
      have := sp_places 129 ps (a :: t) mh tk.pairs tk.dat hds
      rw [hpl] at this
      simp [compF, asg, wipeE, ev, evs, LE, subV, atI0, this, sndI]
  have h2 : ev (callM T 130) 0 (.comp (.nm 9) [9] (.var 3) (.c (.bl true)) (.sub (.var 9) (.c (.int (1))))) (LE sc l o2 (some (.tup ps)) o4 o5 o6 o7 o8 o9 o10 o11 o12 o13 o14 o15 o16 o17 o18 o19 o20) mh = some (.lst (ps.map sndI), mh) := by
    rw [ev_compq, ei]
    simp only [hz, if_true]
    rw [compGo_pure rfl (g := fun p => some (sndI p))]
    · simp only [fm]
    · intro p hp
      obtain ⟨s, i, rfl, _⟩ := tk.each p hp
      simp [compF, asg, wipeE, ev, evs, LE, subV, atI1, sndI]
  have he : eqV mh (.lst (ps.map sndI)) (.lst (ps.map sndI)) = some true := by
    unfold eqV
    rw [frz_dat _ (by unfold dat; exact b.d)]
    simp only [b.ok, b.eq, and_self, if_true]
  have h3 := sp_places 129 ps [122, 122, 57] mh tk.pairs tk.dat (by decide)
  rw [b.zz9] at h3
  have e1 : ev (callM T 130) 0 (.or (.cmp .ne (.comp (.nm 9) [9] (.var 3) (.c (.bl true)) (.call 5 [(.var 3), (.sub (.var 9) (.c (.int (0))))])) (.comp (.nm 9) [9] (.var 3) (.c (.bl true)) (.sub (.var 9) (.c (.int (1)))))) (.cmp .isn (.call 5 [(.var 3), (.c (.str [122, 122, 57]))]) (.c .non))) (LE sc l o2 (some (.tup ps)) o4 o5 o6 o7 o8 o9 o10 o11 o12 o13 o14 o15 o16 o17 o18 o19 o20) mh = some (.bl false, mh) := by
    rw [ev]
    have : ev (callM T 130) 0 (.cmp .ne (.comp (.nm 9) [9] (.var 3) (.c (.bl true)) (.call 5 [(.var 3), (.sub (.var 9) (.c (.int (0))))])) (.comp (.nm 9) [9] (.var 3) (.c (.bl true)) (.sub (.var 9) (.c (.int (1)))))) (LE sc l o2 (some (.tup ps)) o4 o5 o6 o7 o8 o9 o10 o11 o12 o13 o14 o15 o16 o17 o18 o19 o20) mh = some (.bl false, mh) := by
      rw [ev, h1]
      simp only
      rw [h2]
      simp [cmpV, he]
    rw [this]
    simp [ev, evs, LE, h3, cmpV, isV]
  rw [ex, e1]
  simp only [exs]
end
end L2.Mi.k01

set_option Elab.async false
set_option linter.all false
set_option maxRecDepth 100000
set_option maxHeartbeats 4000000
namespace L2.Mi.k01
open PySem PySem.Spec PyProof.Rows L2.Mi
section
variable {sc : Option MV} {l n : Nat} {o2 o3 o4 o5 o6 o7 o8 o9 o10 o11 o12 o13 o14 o15 o16 o17 o18 o19 o20 : Option MV} {mh : MHp} {ps : List MV}
theorem call_term (hps : Tok ps) (v : MV) (mh : MHp) (hd : dat v = true) (hz : cnt v ≤ line) : callM T 130 7 [v, .tup ps] mh = some (.bl (termB ps v), mh) := sp_term (k := 127) hps.pairs hps.dat hd hz
abbrev r1 : MS := (.set (.nm 13) (.call 12 [(.var 1), (.var 3), (.lst [(.c (.str [88])), (.c (.str [89, 49])), (.c (.str [90, 97, 98]))]), (.c (.int (5)))]))
abbrev r2 : MS := (.set (.nm 14) (.call 16 [(.var 1), (.var 3), (.var 13)]))
abbrev r3 : MS := (.ite (.or (.not (.call 15 [(.call 7 [(.var 13), (.var 3)]), (.c (.bl true))])) (.and (.not (.isi (.var 14) .str)) (.not (.call 15 [(.call 7 [(.var 14), (.var 3)]), (.c (.bl false))])))) [(.ret (.c (.bl false)))] [])
abbrev r4 : MS := (.ite (.and (.isi (.var 14) .str) (.not (.call 15 [(.call 7 [(.var 14), (.var 3)]), (.call 14 [(.var 14), (.c (.str [65, 66, 67, 68, 69, 70, 71, 72, 73, 74, 75, 76, 77, 78, 79, 80, 81, 82, 83, 84, 85, 86, 87, 88, 89, 90]))])]))) [(.ret (.c (.bl false)))] [])
theorem r_turn (hps : ps ∈ tongues) {x : MV} (S : St l n mh) : ∃ p13 p14 mh', forF (callM T 130) 0 (.nm 2) [r1, r2, r3, r4] x (LE sc l o2 (some (.tup ps)) o4 o5 o6 o7 o8 o9 o10 o11 o12 o13 o14 o15 o16 o17 o18 o19 o20) mh = some (.nx, LE sc l (some x) (some (.tup ps)) o4 o5 o6 o7 o8 o9 o10 o11 o12 p13 p14 o15 o16 o17 o18 o19 o20, mh') ∧ St l n mh' := by
  have tk := tok_of hps
  obtain ⟨t, mh1, e1, S1, d⟩ := sp_termD tk (names := [.str [88], .str [89, 49], .str [90, 97, 98]]) (by simp) (by simp) (by decide) (fun x hx => by
    simp only [List.mem_cons, List.not_mem_nil, or_false] at hx
    rcases hx with rfl | rfl | rfl <;> exact ⟨_, rfl, by decide⟩) 4 123 S
  have e1 : callM T 130 12 [.loc l, .tup ps, .lst [.str [88], .str [89, 49], .str [90, 97, 98]], .int 5] mh = some (t, mh1) := e1
  have hb : bnd 4 = 121 := rfl
  have hct := d.cnt
  rw [hb] at hct
  obtain ⟨v, mh2, e2, S2, b⟩ := sp_wrong tk 121 6 t hct d.good d.dat (by omega) S1
  have e2 : callM T 130 16 [.loc l, .tup ps, t] mh1 = some (v, mh2) := e2
  have hcv := b.cnt
  have c1 := call_term tk t mh2 d.dat (by unfold line; omega)
  have c2 := call_term tk v mh2 b.dat (by unfold line; omega)
  have t1 : termB ps t = true := by
    unfold termB
    rw [d.good, decide_eq_true (by omega : cnt t ≤ 400)]; rfl
  have t2 : termB ps v = false := by unfold termB; rw [b.bad, Bool.and_false]
  rw [t1] at c1
  rw [t2] at c2
  refine ⟨some t, some v, mh2, ?_, S2⟩
  have z3 : 3 ≤ line := by unfold line; omega
  have a0 : asg mh (.nm 2) x (LE sc l o2 (some (.tup ps)) o4 o5 o6 o7 o8 o9 o10 o11 o12 o13 o14 o15 o16 o17 o18 o19 o20) = some (LE sc l (some x) (some (.tup ps)) o4 o5 o6 o7 o8 o9 o10 o11 o12 o13 o14 o15 o16 o17 o18 o19 o20) := by simp [asg, LE]
  have q1 : ex (callM T 130) 0 r1 (LE sc l (some x) (some (.tup ps)) o4 o5 o6 o7 o8 o9 o10 o11 o12 o13 o14 o15 o16 o17 o18 o19 o20) mh = some (.nx, LE sc l (some x) (some (.tup ps)) o4 o5 o6 o7 o8 o9 o10 o11 o12 (some t) o14 o15 o16 o17 o18 o19 o20, mh1) := by
    simp [ex, ev, evs, LE, z3, e1, asg]
  have q2 : ex (callM T 130) 0 r2 (LE sc l (some x) (some (.tup ps)) o4 o5 o6 o7 o8 o9 o10 o11 o12 (some t) o14 o15 o16 o17 o18 o19 o20) mh1 = some (.nx, LE sc l (some x) (some (.tup ps)) o4 o5 o6 o7 o8 o9 o10 o11 o12 (some t) (some v) o15 o16 o17 o18 o19 o20, mh2) := by
    simp [ex, ev, evs, LE, e2, asg]
  have ty : (∃ s, v = .str s) ∨ isTy v .str mh2 = some false := by
    have hd := b.dat
    cases v with
    | str s => exact .inl ⟨s, rfl⟩
    | fn => cases hd
    | loc => cases hd
    | dct => cases hd
    | scr => cases hd
    | _ => exact .inr rfl
  have q34 : exs (callM T 130) 0 [r3, r4] (LE sc l (some x) (some (.tup ps)) o4 o5 o6 o7 o8 o9 o10 o11 o12 (some t) (some v) o15 o16 o17 o18 o19 o20) mh2 = some (.nx, LE sc l (some x) (some (.tup ps)) o4 o5 o6 o7 o8 o9 o10 o11 o12 (some t) (some v) o15 o16 o17 o18 o19 o20, mh2) := by
    rcases ty with ⟨s, rfl⟩ | ty
    · have w : callM T 130 14 [.str s, .str upper] mh2 = _ := sp_word 129 (.str s) upper mh2 b.dat
      have wb : wordB upper (.str s) = false := by have := b.bad; simp only [good] at this; exact this
      rw [wb] at w
      unfold upper at w
      simp [exs, ex, ev, evs, LE, c1, c2, call_says, isTy, w]
    · simp [exs, ex, ev, evs, LE, c1, c2, call_says, ty]
  unfold forF
  rw [a0]
  simp only
  rw [exs, q1]
  simp only
  rw [exs, q2]
  exact q34
theorem r_loop (hps : ps ∈ tongues) {J : Its} (hJ : J.src = none) : ∀ (xs : List MV) (o2 o13 o14 : Option MV) (mh : MHp), St l n mh → ∃ p2 p13 p14 mh', forGo J (forF (callM T 130) 0 (.nm 2) [r1, r2, r3, r4]) xs (LE sc l o2 (some (.tup ps)) o4 o5 o6 o7 o8 o9 o10 o11 o12 o13 o14 o15 o16 o17 o18 o19 o20) mh = some (.nx, LE sc l p2 (some (.tup ps)) o4 o5 o6 o7 o8 o9 o10 o11 o12 p13 p14 o15 o16 o17 o18 o19 o20, mh') ∧ St l n mh'
  | [], o2, o13, o14, mh, S => ⟨_, _, _, _, forGo_nil_of hJ, S⟩
  | x :: xs, o2, o13, o14, mh, S => by
    obtain ⟨p13, p14, mh1, e, S1⟩ := r_turn (sc := sc) (o2 := o2) (o4 := o4) (o5 := o5) (o6 := o6) (o7 := o7) (o8 := o8) (o9 := o9) (o10 := o10) (o11 := o11) (o12 := o12) (o13 := o13) (o14 := o14) (o15 := o15) (o16 := o16) (o17 := o17) (o18 := o18) (o19 := o19) (o20 := o20) hps (x := x) S
    rw [forGo_cons_of hJ, e]
    exact r_loop hps hJ xs _ _ _ mh1 S1
theorem s12_ok (hps : ps ∈ tongues) (S : St l n mh) : ∃ p2 p13 p14 mh', ex (callM T 130) 0 (.for (.nm 2) (.rng1 (.c (.int (6)))) [r1, r2, r3, r4]) (LE sc l o2 (some (.tup ps)) o4 o5 o6 o7 o8 o9 o10 o11 o12 o13 o14 o15 o16 o17 o18 o19 o20) mh = some (.nx, LE sc l p2 (some (.tup ps)) o4 o5 o6 o7 o8 o9 o10 o11 o12 p13 p14 o15 o16 o17 o18 o19 o20, mh') ∧ St l n mh' := by
  obtain ⟨p2, p13, p14, mh', e, S'⟩ := r_loop (sc := sc) (o4 := o4) (o5 := o5) (o6 := o6) (o7 := o7) (o8 := o8) (o9 := o9) (o10 := o10) (o11 := o11) (o12 := o12) (o15 := o15) (o16 := o16) (o17 := o17) (o18 := o18) (o19 := o19) (o20 := o20) hps (J := ⟨(List.range 6).map fun (k : Nat) => .int (k : Int), none⟩) rfl ((List.range 6).map fun (k : Nat) => MV.int (k : Int)) o2 o13 o14 mh S
  refine ⟨p2, p13, p14, mh', ?_, S'⟩
  have ei : evI (callM T 130) 0 (.rng1 (.c (.int (6)))) (LE sc l o2 (some (.tup ps)) o4 o5 o6 o7 o8 o9 o10 o11 o12 o13 o14 o15 o16 o17 o18 o19 o20) mh = some (⟨(List.range 6).map fun (k : Nat) => .int (k : Int), none⟩, mh) := by simp [evI, ev]
  rw [ex_for, ei]
  exact e
/-! ### the deep term -/
def deepN : Nat → MV
  | 0 => .str [88]
  | m + 1 => .tup [.str [103], deepN m]
abbrev ps2 : List MV := [pr [102] 2, pr [103] 1]
theorem deep_cnt : ∀ m, cnt (deepN m) = m + 1
  | 0 => rfl
  | m + 1 => by simp only [deepN, cnt, cntT, cnts, deep_cnt m]; omega
theorem deep_dat : ∀ m, dat (deepN m) = true
  | 0 => by decide
  | m + 1 => by
    have := deep_dat m
    simp only [deepN, dat, dats, this]
    rfl
theorem ps2_head1 : headB ps2 (.str [103]) 1 = true := by decide +kernel
theorem ps2_head2 : headB ps2 (.str [102]) 2 = true := by decide +kernel
theorem deep_good : ∀ m, good ps2 (deepN m) = true
  | 0 => by decide +kernel
  | m + 1 => by
    have := deep_good m
    simp only [deepN, good, goodT, goods, this]
    exact (Bool.and_eq_true _ _).mpr ⟨ps2_head1, rfl⟩
theorem call_term2 (v : MV) (mh : MHp) (hd : dat v = true) (hz : cnt v ≤ line) : callM T 130 7 [v, .tup ps2] mh = some (.bl (termB ps2 v), mh) :=
  sp_term (k := 127) (fun p hp => List.all_eq_true.mp (show ps2.all pairB = true by decide +kernel) p hp) (by decide) hd hz
theorem d_loop {J : Its} (hJ : J.src = none) : ∀ (xs : List MV) (o2 : Option MV) (m : Nat), xs.length + m ≤ 1000 → ∃ p2, forGo J (forF (callM T 130) 0 (.nm 2) [(.set (.nm 8) (.tup [(.c (.str [103])), (.var 8)]))]) xs (LE sc l o2 o3 o4 o5 o6 o7 (some (deepN m)) o9 o10 o11 o12 o13 o14 o15 o16 o17 o18 o19 o20) mh = some (.nx, LE sc l p2 o3 o4 o5 o6 o7 (some (deepN (m + xs.length))) o9 o10 o11 o12 o13 o14 o15 o16 o17 o18 o19 o20, mh)
  | [], o2, m, h => ⟨o2, forGo_nil_of hJ⟩
  | x :: xs, o2, m, h => by
    have z2 : 2 ≤ line := by unfold line; omega
    have st : forF (callM T 130) 0 (.nm 2) [(.set (.nm 8) (.tup [(.c (.str [103])), (.var 8)]))] x (LE sc l o2 o3 o4 o5 o6 o7 (some (deepN m)) o9 o10 o11 o12 o13 o14 o15 o16 o17 o18 o19 o20) mh = some (.nx, LE sc l (some x) o3 o4 o5 o6 o7 (some (deepN (m + 1))) o9 o10 o11 o12 o13 o14 o15 o16 o17 o18 o19 o20, mh) := by
      simp [forF, asg, exs, ex, ev, evs, LE, z2, deepN]
    rw [forGo_cons_of hJ, st]
    have := d_loop hJ xs (some x) (m + 1) (by simp at h; omega)
    rw [show m + 1 + xs.length = m + (x :: xs).length by simp; omega] at this
    exact this
theorem s14_ok : ∃ p2, ex (callM T 130) 0 (.for (.nm 2) (.rng1 (.c (.int (399)))) [(.set (.nm 8) (.tup [(.c (.str [103])), (.var 8)]))]) (LE sc l o2 o3 o4 o5 o6 o7 (some (deepN 0)) o9 o10 o11 o12 o13 o14 o15 o16 o17 o18 o19 o20) mh = some (.nx, LE sc l p2 o3 o4 o5 o6 o7 (some (deepN 399)) o9 o10 o11 o12 o13 o14 o15 o16 o17 o18 o19 o20, mh) := by
  obtain ⟨p2, e⟩ := d_loop (sc := sc) (l := l) (o3 := o3) (o4 := o4) (o5 := o5) (o6 := o6) (o7 := o7) (o9 := o9) (o10 := o10) (o11 := o11) (o12 := o12) (o13 := o13) (o14 := o14) (o15 := o15) (o16 := o16) (o17 := o17) (o18 := o18) (o19 := o19) (o20 := o20) (mh := mh) (J := ⟨(List.range 399).map fun (k : Nat) => .int (k : Int), none⟩) rfl ((List.range 399).map fun (k : Nat) => MV.int (k : Int)) o2 0 (by simp)
  rw [show 0 + ((List.range 399).map fun (k : Nat) => MV.int (k : Int)).length = 399 by simp] at e
  refine ⟨p2, ?_⟩
  have ei : evI (callM T 130) 0 (.rng1 (.c (.int (399)))) (LE sc l o2 o3 o4 o5 o6 o7 (some (deepN 0)) o9 o10 o11 o12 o13 o14 o15 o16 o17 o18 o19 o20) mh = some (⟨(List.range 399).map fun (k : Nat) => .int (k : Int), none⟩, mh) := by
    rw [evI, ev]
    rfl
  rw [ex_for, ei]
  exact e
abbrev wide (m : Nat) : MV := .tup [.str [102], deepN m, .str [89]]
theorem wide_cnt (m : Nat) : cnt (wide m) = m + 3 := by simp only [cnt, cntT, cnts, deep_cnt]; omega
theorem wide_dat (m : Nat) : dat (wide m) = true := by
  have := deep_dat m
  simp only [wide, dat, dats, this]
  rfl
theorem wide_good (m : Nat) : good ps2 (wide m) = true := by
  have := deep_good m
  simp only [wide, good, goodT, goods, this]
  refine (Bool.and_eq_true _ _).mpr ⟨ps2_head2, ?_⟩
  decide +kernel
abbrev s17 : MS := (.ret (.and (.call 15 [(.call 7 [(.var 8), (.var 9)]), (.c (.bl true))]) (.and (.call 15 [(.call 7 [(.tup [(.c (.str [103])), (.var 8)]), (.var 9)]), (.c (.bl false))]) (.and (.call 15 [(.call 7 [(.var 10), (.var 9)]), (.c (.bl false))]) (.call 15 [(.call 7 [(.tup [(.c (.str [102])), (.sub (.sub (.var 8) (.c (.int (1)))) (.c (.int (1)))), (.c (.str [89]))]), (.var 9)]), (.c (.bl true))])))))
theorem s15_ok : exs (callM T 130) 0 [(.set (.nm 9) (.tup [(.tup [(.c (.str [102])), (.c (.int (2)))]), (.tup [(.c (.str [103])), (.c (.int (1)))])])), (.set (.nm 10) (.tup [(.c (.str [102])), (.sub (.var 8) (.c (.int (1)))), (.c (.str [89]))])), s17] (LE sc l o2 o3 o4 o5 o6 o7 (some (deepN 399)) o9 o10 o11 o12 o13 o14 o15 o16 o17 o18 o19 o20) mh = some (.rt (.bl true), LE sc l o2 o3 o4 o5 o6 o7 (some (deepN 399)) (some (.tup ps2)) (some (wide 398)) o11 o12 o13 o14 o15 o16 o17 o18 o19 o20, mh) := by
  have z2 : 2 ≤ line := by unfold line; omega
  have z3 : 3 ≤ line := by unfold line; omega
  have hl : line = 16777216 := rfl
  have c1 := call_term2 (deepN 399) mh (deep_dat 399) (by rw [deep_cnt]; omega)
  have c2 := call_term2 (deepN 400) mh (deep_dat 400) (by rw [deep_cnt]; omega)
  have c3 := call_term2 (wide 398) mh (wide_dat 398) (by rw [wide_cnt]; omega)
  have c4 := call_term2 (wide 397) mh (wide_dat 397) (by rw [wide_cnt]; omega)
  have t1 : termB ps2 (deepN 399) = true := by unfold termB; rw [deep_cnt, deep_good]; decide
  have t2 : termB ps2 (deepN 400) = false := by unfold termB; rw [deep_cnt]; decide
  have t3 : termB ps2 (wide 398) = false := by unfold termB; rw [wide_cnt]; decide
  have t4 : termB ps2 (wide 397) = true := by unfold termB; rw [wide_cnt, wide_good]; decide
  rw [t1] at c1
  rw [t2] at c2
  rw [t3] at c3
  rw [t4] at c4
  have s399 : subV mh (deepN 399) (.int 1) = some (deepN 398) := by
    show idx [.str [103], deepN 398] 1 = _
    exact atI1
  have s398 : subV mh (deepN 398) (.int 1) = some (deepN 397) := by
    show idx [.str [103], deepN 397] 1 = _
    exact atI1
  have d400 : deepN 400 = .tup [.str [103], deepN 399] := rfl
  rw [d400] at c2
  simp only [wide] at c3 c4 ⊢
  generalize deepN 399 = A at *
  generalize deepN 398 = B at *
  generalize deepN 397 = D at *
  simp [exs, ex, ev, evs, LE, z2, z3, asg, c1, c2, c3, c4, s399, s398, call_says]
end
theorem ex_go {C : CallF} {base : Nat} {s : MS} {ss : List MS} {ρ ρ1 : Env} {mh mh1 : MHp} {r : Option (Fl × Env × MHp)} (h : ex C base s ρ mh = some (.nx, ρ1, mh1)) (h2 : exs C base ss ρ1 mh1 = r) : exs C base (s :: ss) ρ mh = r := by
  rw [exs, h]; exact h2
theorem exs_go2 {C : CallF} {base : Nat} {s t : MS} {ss : List MS} {ρ ρ1 : Env} {mh mh1 : MHp} {r : Option (Fl × Env × MHp)} (h : exs C base [s, t] ρ mh = some (.nx, ρ1, mh1)) (h2 : exs C base ss ρ1 mh1 = r) : exs C base (s :: t :: ss) ρ mh = r := by
  rcases exs_cons h with ⟨ρ2, mh2, e1, e2⟩ | ⟨_, hn⟩
  · rcases exs_cons e2 with ⟨ρ3, mh3, e3, e4⟩ | ⟨_, hn⟩
    · simp only [exs] at e4
      cases e4
      exact ex_go e1 (ex_go e3 h2)
    · exact absurd rfl hn
  · exact absurd rfl hn
theorem law_true (ns : List Int) : ∃ mh, callM T 131 17 [.scr ns] [] = some (.bl true, mh) := by
  obtain ⟨l, n, mh0, e0, S0⟩ := sp_state 129 ns
  have a0 : ex (callM T 130) 0 (.set (.nm 1) (.call 8 [(.var 0)])) [some (.scr ns), none, none, none, none, none, none, none, none, none, none, none, none, none, none, none, none, none, none, none, none] [] = some (.nx, LE (some (.scr ns)) l none none none none none none none none none none none none none none none none none none none, mh0) := by
    have e0 : callM T 130 8 [.scr ns] [] = some (.loc l, mh0) := e0
    simp [ex, ev, evs, e0, asg, LE]
  obtain ⟨p2, p7, p15, p16, p17, p18, p19, p20, mh1, a2, S1⟩ := s2_ok (sc := some (.scr ns)) S0
  obtain ⟨ps, mh2, hps, a3, S2⟩ := s3_ok (sc := some (.scr ns)) (o2 := p2) (o3 := none) (o4 := none) (o5 := none) (o6 := none) (o7 := p7) (o8 := none) (o9 := none) (o10 := none) (o11 := none) (o12 := none) (o13 := none) (o14 := none) (o15 := p15) (o16 := p16) (o17 := p17) (o18 := p18) (o19 := p19) (o20 := p20) S1
  obtain ⟨j, s, i, mh3, hj, S3, a6⟩ := s67_ok (sc := some (.scr ns)) (o2 := p2) (o4 := some (.tup manyL)) (o5 := none) (o6 := none) (o7 := p7) (o8 := none) (o9 := none) (o10 := none) (o11 := none) (o12 := none) (o13 := none) (o14 := none) (o15 := p15) (o16 := p16) (o17 := p17) (o18 := p18) (o19 := p19) (o20 := p20) hps S2
  obtain ⟨q7, a10⟩ := s10_ok (sc := some (.scr ns)) (l := l) (o2 := p2) (o4 := some (.tup manyL)) (o5 := some (.int j)) (o7 := p7) (o8 := none) (o9 := none) (o10 := none) (o11 := some (.str s)) (o12 := some (.int i)) (o13 := none) (o14 := none) (o15 := p15) (o16 := p16) (o17 := p17) (o18 := p18) (o19 := p19) (o20 := p20) (mh := mh3) hps hj
  obtain ⟨q2, q13, q14, mh4, a12, S4⟩ := s12_ok (sc := some (.scr ns)) (l := l) (o2 := p2) (o4 := some (.tup manyL)) (o5 := some (.int j)) (o6 := some (.lst (bad5 ps j s ++ (wr6 s i).map (repl ps j)))) (o7 := q7) (o8 := none) (o9 := none) (o10 := none) (o11 := some (.str s)) (o12 := some (.int i)) (o13 := none) (o14 := none) (o15 := p15) (o16 := p16) (o17 := p17) (o18 := p18) (o19 := p19) (o20 := p20) (mh := mh3) hps S3
  obtain ⟨u2, a14⟩ := s14_ok (sc := some (.scr ns)) (l := l) (o2 := q2) (o3 := some (.tup ps)) (o4 := some (.tup manyL)) (o5 := some (.int j)) (o6 := some (.lst (bad5 ps j s ++ (wr6 s i).map (repl ps j)))) (o7 := q7) (o9 := none) (o10 := none) (o11 := some (.str s)) (o12 := some (.int i)) (o13 := q13) (o14 := q14) (o15 := p15) (o16 := p16) (o17 := p17) (o18 := p18) (o19 := p19) (o20 := p20) (mh := mh4)
  have body : exs (callM T 130) 0 d_law.body [some (.scr ns), none, none, none, none, none, none, none, none, none, none, none, none, none, none, none, none, none, none, none, none] [] = some (.rt (.bl true), LE (some (.scr ns)) l u2 (some (.tup ps)) (some (.tup manyL)) (some (.int j)) (some (.lst (bad5 ps j s ++ (wr6 s i).map (repl ps j)))) q7 (some (deepN 399)) (some (.tup ps2)) (some (wide 398)) (some (.str s)) (some (.int i)) q13 q14 p15 p16 p17 p18 p19 p20, mh4) := by
    rw [d_law]
    refine ex_go a0 (ex_go s1_ok (ex_go a2 (ex_go a3 (ex_go s4_ok (ex_go (s5_ok hps) (exs_go2 a6 (ex_go (s8_ok hps) (ex_go (s9_ok hps) (ex_go a10 (ex_go (s11_ok hps) (ex_go a12 ?_)))))))))))
    have a13 : ex (callM T 130) 0 (.set (.nm 8) (.c (.str [88]))) (LE (some (.scr ns)) l q2 (some (.tup ps)) (some (.tup manyL)) (some (.int j)) (some (.lst (bad5 ps j s ++ (wr6 s i).map (repl ps j)))) q7 none none none (some (.str s)) (some (.int i)) q13 q14 p15 p16 p17 p18 p19 p20) mh4 = some (.nx, LE (some (.scr ns)) l q2 (some (.tup ps)) (some (.tup manyL)) (some (.int j)) (some (.lst (bad5 ps j s ++ (wr6 s i).map (repl ps j)))) q7 (some (deepN 0)) none none (some (.str s)) (some (.int i)) q13 q14 p15 p16 p17 p18 p19 p20, mh4) := by
      simp [ex, ev, asg, LE, deepN]
    exact ex_go a13 (ex_go a14 s15_ok)
  refine ⟨mh4.take 0, ?_⟩
  rw [callM_eq (d := d_law) rfl]
  exact run_of rfl rfl body rfl rfl
end L2.Mi.k01

set_option Elab.async false
set_option linter.all false
set_option maxRecDepth 100000
set_option maxHeartbeats 4000000

namespace L2.Mi.k01
open PySem PySem.Spec PyProof.Rows L2.Mi L2
/-! the table -/
theorem bd_is_whole {P : Program} {w : World} {K : PySem.W.Frag} {mg : Str → Option Value} {base : Heap} {fd : FuncData} (F : FunD K "is_whole" "is_whole" (defArgs s_is_whole) (defBody s_is_whole) (defScope s_is_whole) [] [] (He.ga K "is_whole") fd) : Binds K fd P_is_whole [] := F.bindsN fun _ _ _ _ _ _ us hl => match us, hl with | [_, _, _], _ => rfl
theorem bd_are_signs_of_text {P : Program} {w : World} {K : PySem.W.Frag} {mg : Str → Option Value} {base : Heap} {fd : FuncData} (F : FunD K "are_signs_of_text" "are_signs_of_text" (defArgs s_are_signs_of_text) (defBody s_are_signs_of_text) (defScope s_are_signs_of_text) [] [] (He.ga K "are_signs_of_text") fd) : Binds K fd P_are_signs_of_text [] := F.bindsN fun _ _ _ _ _ _ us hl => match us, hl with | [_, _], _ => rfl
theorem bd_is_sign {P : Program} {w : World} {K : PySem.W.Frag} {mg : Str → Option Value} {base : Heap} {fd : FuncData} (F : FunD K "is_sign" "is_sign" (defArgs s_is_sign) (defBody s_is_sign) (defScope s_is_sign) [] [] (He.ga K "is_sign") fd) : Binds K fd P_is_sign [] := F.bindsN fun _ _ _ _ _ _ us hl => match us, hl with | [_], _ => rfl
theorem bd_is_variable {P : Program} {w : World} {K : PySem.W.Frag} {mg : Str → Option Value} {base : Heap} {fd : FuncData} (F : FunD K "is_variable" "is_variable" (defArgs s_is_variable) (defBody s_is_variable) (defScope s_is_variable) [] [] (He.ga K "is_variable") fd) : Binds K fd P_is_variable [] := F.bindsN fun _ _ _ _ _ _ us hl => match us, hl with | [_], _ => rfl
theorem bd_is_tongue {P : Program} {w : World} {K : PySem.W.Frag} {mg : Str → Option Value} {base : Heap} {fd : FuncData} (F : FunD K "is_tongue" "is_tongue" (defArgs s_is_tongue) (defBody s_is_tongue) (defScope s_is_tongue) [] [] (He.ga K "is_tongue") fd) : Binds K fd P_is_tongue [] := F.bindsN fun _ _ _ _ _ _ us hl => match us, hl with | [_], _ => rfl
theorem bd_places_of {P : Program} {w : World} {K : PySem.W.Frag} {mg : Str → Option Value} {base : Heap} {fd : FuncData} (F : FunD K "places_of" "places_of" (defArgs s_places_of) (defBody s_places_of) (defScope s_places_of) [] [] (He.ga K "places_of") fd) : Binds K fd P_places_of [] := F.bindsN fun _ _ _ _ _ _ us hl => match us, hl with | [_, _], _ => rfl
theorem bd_nodes {P : Program} {w : World} {K : PySem.W.Frag} {mg : Str → Option Value} {base : Heap} {fd : FuncData} (F : FunD K "nodes" "nodes" (defArgs s_nodes) (defBody s_nodes) (defScope s_nodes) [] [] (He.ga K "nodes") fd) : Binds K fd P_nodes [] := F.bindsN fun _ _ _ _ _ _ us hl => match us, hl with | [_], _ => rfl
theorem bd_is_term {P : Program} {w : World} {K : PySem.W.Frag} {mg : Str → Option Value} {base : Heap} {fd : FuncData} (F : FunD K "is_term" "is_term" (defArgs s_is_term) (defBody s_is_term) (defScope s_is_term) [] [] (He.ga K "is_term") fd) : Binds K fd P_is_term [] := F.bindsN fun _ _ _ _ _ _ us hl => match us, hl with | [_, _], _ => rfl
theorem bd_l_state {P : Program} {w : World} {K : PySem.W.Frag} {mg : Str → Option Value} {base : Heap} {fd : FuncData} (F : FunD K "_law_state" "_law_state" (defArgs s_l_state) (defBody s_l_state) (defScope s_l_state) [] [] (He.ga K "_law_state") fd) : Binds K fd P_l_state [] := F.bindsN fun _ _ _ _ _ _ us hl => match us, hl with | [_], _ => rfl
theorem bd_l_take {P : Program} {w : World} {K : PySem.W.Frag} {mg : Str → Option Value} {base : Heap} {fd : FuncData} (F : FunD K "_law_take" "_law_take" (defArgs s_l_take) (defBody s_l_take) (defScope s_l_take) [] [] (He.ga K "_law_take") fd) : Binds K fd P_l_take [] := F.bindsN fun _ _ _ _ _ _ us hl => match us, hl with | [_, _], _ => rfl
theorem bd_l_pick {P : Program} {w : World} {K : PySem.W.Frag} {mg : Str → Option Value} {base : Heap} {fd : FuncData} (F : FunD K "_law_pick" "_law_pick" (defArgs s_l_pick) (defBody s_l_pick) (defScope s_l_pick) [] [] (He.ga K "_law_pick") fd) : Binds K fd P_l_pick [] := F.bindsN fun _ _ _ _ _ _ us hl => match us, hl with | [_, _], _ => rfl
theorem bd_l_tongue {P : Program} {w : World} {K : PySem.W.Frag} {mg : Str → Option Value} {base : Heap} {fd : FuncData} (F : FunD K "_law_tongue" "_law_tongue" (defArgs s_l_tongue) (defBody s_l_tongue) (defScope s_l_tongue) [] [] (He.ga K "_law_tongue") fd) : Binds K fd P_l_tongue [] := F.bindsN fun _ _ _ _ _ _ us hl => match us, hl with | [_], _ => rfl
theorem bd_l_term {P : Program} {w : World} {K : PySem.W.Frag} {mg : Str → Option Value} {base : Heap} {fd : FuncData} (F : FunD K "_law_term" "_law_term" (defArgs s_l_term) (defBody s_l_term) (defScope s_l_term) [] [] (He.ga K "_law_term") fd) : Binds K fd P_l_term [] := F.bindsN fun _ _ _ _ _ _ us hl => match us, hl with | [_, _, _, _], _ => rfl
theorem bd_l_text {P : Program} {w : World} {K : PySem.W.Frag} {mg : Str → Option Value} {base : Heap} {fd : FuncData} (F : FunD K "_law_text" "_law_text" (defArgs s_l_text) (defBody s_l_text) (defScope s_l_text) [] [] (He.ga K "_law_text") fd) : Binds K fd P_l_text [] := F.bindsN fun _ _ _ _ _ _ us hl => match us, hl with | [_, _], _ => rfl
theorem bd_l_word {P : Program} {w : World} {K : PySem.W.Frag} {mg : Str → Option Value} {base : Heap} {fd : FuncData} (F : FunD K "_law_word" "_law_word" (defArgs s_l_word) (defBody s_l_word) (defScope s_l_word) [] [] (He.ga K "_law_word") fd) : Binds K fd P_l_word [] := F.bindsN fun _ _ _ _ _ _ us hl => match us, hl with | [_, _], _ => rfl
theorem bd_l_says {P : Program} {w : World} {K : PySem.W.Frag} {mg : Str → Option Value} {base : Heap} {fd : FuncData} (F : FunD K "_law_says" "_law_says" (defArgs s_l_says) (defBody s_l_says) (defScope s_l_says) [] [] (He.ga K "_law_says") fd) : Binds K fd P_l_says [] := F.bindsN fun _ _ _ _ _ _ us hl => match us, hl with | [_, _], _ => rfl
theorem bd_l_wrong {P : Program} {w : World} {K : PySem.W.Frag} {mg : Str → Option Value} {base : Heap} {fd : FuncData} (F : FunD K "_law_wrong" "_law_wrong" (defArgs s_l_wrong) (defBody s_l_wrong) (defScope s_l_wrong) [] [] (He.ga K "_law_wrong") fd) : Binds K fd P_l_wrong [] := F.bindsN fun _ _ _ _ _ _ us hl => match us, hl with | [_, _, _], _ => rfl
theorem bd_law {P : Program} {w : World} {K : PySem.W.Frag} {mg : Str → Option Value} {base : Heap} {fd : FuncData} (F : FunD K "law" "law" (defArgs s_law) (defBody s_law) (defScope s_law) [] [] (He.ga K "law") fd) : Binds K fd P_law [] := F.bindsN fun _ _ _ _ _ _ us hl => match us, hl with | [_], _ => rfl
abbrev DD (K : PySem.W.Frag) (x : Str) (st : Stmt) : Prop := ∃ fd, FunD K x x (defArgs st) (defBody st) (defScope st) [] [] (He.ga K x) fd
structure DF (K : PySem.W.Frag) : Prop where
  d_is_whole : DD K "is_whole" s_is_whole
  d_are_signs_of_text : DD K "are_signs_of_text" s_are_signs_of_text
  d_is_sign : DD K "is_sign" s_is_sign
  d_is_variable : DD K "is_variable" s_is_variable
  d_is_tongue : DD K "is_tongue" s_is_tongue
  d_places_of : DD K "places_of" s_places_of
  d_nodes : DD K "nodes" s_nodes
  d_is_term : DD K "is_term" s_is_term
  d_l_state : DD K "_law_state" s_l_state
  d_l_take : DD K "_law_take" s_l_take
  d_l_pick : DD K "_law_pick" s_l_pick
  d_l_tongue : DD K "_law_tongue" s_l_tongue
  d_l_term : DD K "_law_term" s_l_term
  d_l_text : DD K "_law_text" s_l_text
  d_l_word : DD K "_law_word" s_l_word
  d_l_says : DD K "_law_says" s_l_says
  d_l_wrong : DD K "_law_wrong" s_l_wrong
  d_law : DD K "law" s_law
theorem table {P : Program} {w : World} {K : PySem.W.Frag} {mg : Str → Option Value} {base : Heap} (g : GF K mg) (D : DF K) : ∀ f a, (gb K).fa f = some a → DefOk P w K mg base (gb K) T f a := by
  intro f a h
  by_cases h0 : f = 0
  · subst h0
    have e : some (He.ga K "is_whole") = some a := h
    cases e
    obtain ⟨fd, F⟩ := D.d_is_whole
    exact ⟨d_is_whole, "is_whole", "is_whole", s_is_whole, fd, N_is_whole, P_is_whole, rfl, F, sc_is_whole, rfl, rfl, bd_is_whole (P := P) (w := w) (mg := mg) (base := base) F, fun k C cdv A outer s H E FF hr => b_is_whole g _ cdv A outer s H E FF hr⟩
  by_cases h1 : f = 1
  · subst h1
    have e : some (He.ga K "are_signs_of_text") = some a := h
    cases e
    obtain ⟨fd, F⟩ := D.d_are_signs_of_text
    exact ⟨d_are_signs_of_text, "are_signs_of_text", "are_signs_of_text", s_are_signs_of_text, fd, N_are_signs_of_text, P_are_signs_of_text, rfl, F, sc_are_signs_of_text, rfl, rfl, bd_are_signs_of_text (P := P) (w := w) (mg := mg) (base := base) F, fun k C cdv A outer s H E FF hr => b_are_signs_of_text g _ cdv A outer s H E FF hr⟩
  by_cases h2 : f = 2
  · subst h2
    have e : some (He.ga K "is_sign") = some a := h
    cases e
    obtain ⟨fd, F⟩ := D.d_is_sign
    exact ⟨d_is_sign, "is_sign", "is_sign", s_is_sign, fd, N_is_sign, P_is_sign, rfl, F, sc_is_sign, rfl, rfl, bd_is_sign (P := P) (w := w) (mg := mg) (base := base) F, fun k C cdv A outer s H E FF hr => b_is_sign g _ cdv A outer s H E FF hr⟩
  by_cases h3 : f = 3
  · subst h3
    have e : some (He.ga K "is_variable") = some a := h
    cases e
    obtain ⟨fd, F⟩ := D.d_is_variable
    exact ⟨d_is_variable, "is_variable", "is_variable", s_is_variable, fd, N_is_variable, P_is_variable, rfl, F, sc_is_variable, rfl, rfl, bd_is_variable (P := P) (w := w) (mg := mg) (base := base) F, fun k C cdv A outer s H E FF hr => b_is_variable g _ cdv A outer s H E FF hr⟩
  by_cases h4 : f = 4
  · subst h4
    have e : some (He.ga K "is_tongue") = some a := h
    cases e
    obtain ⟨fd, F⟩ := D.d_is_tongue
    exact ⟨d_is_tongue, "is_tongue", "is_tongue", s_is_tongue, fd, N_is_tongue, P_is_tongue, rfl, F, sc_is_tongue, rfl, rfl, bd_is_tongue (P := P) (w := w) (mg := mg) (base := base) F, fun k C cdv A outer s H E FF hr => b_is_tongue g _ cdv A outer s H E FF hr⟩
  by_cases h5 : f = 5
  · subst h5
    have e : some (He.ga K "places_of") = some a := h
    cases e
    obtain ⟨fd, F⟩ := D.d_places_of
    exact ⟨d_places_of, "places_of", "places_of", s_places_of, fd, N_places_of, P_places_of, rfl, F, sc_places_of, rfl, rfl, bd_places_of (P := P) (w := w) (mg := mg) (base := base) F, fun k C cdv A outer s H E FF hr => b_places_of g _ cdv A outer s H E FF hr⟩
  by_cases h6 : f = 6
  · subst h6
    have e : some (He.ga K "nodes") = some a := h
    cases e
    obtain ⟨fd, F⟩ := D.d_nodes
    exact ⟨d_nodes, "nodes", "nodes", s_nodes, fd, N_nodes, P_nodes, rfl, F, sc_nodes, rfl, rfl, bd_nodes (P := P) (w := w) (mg := mg) (base := base) F, fun k C cdv A outer s H E FF hr => b_nodes g _ cdv A outer s H E FF hr⟩
  by_cases h7 : f = 7
  · subst h7
    have e : some (He.ga K "is_term") = some a := h
    cases e
    obtain ⟨fd, F⟩ := D.d_is_term
    exact ⟨d_is_term, "is_term", "is_term", s_is_term, fd, N_is_term, P_is_term, rfl, F, sc_is_term, rfl, rfl, bd_is_term (P := P) (w := w) (mg := mg) (base := base) F, fun k C cdv A outer s H E FF hr => b_is_term g _ cdv A outer s H E FF hr⟩
  by_cases h8 : f = 8
  · subst h8
    have e : some (He.ga K "_law_state") = some a := h
    cases e
    obtain ⟨fd, F⟩ := D.d_l_state
    exact ⟨d_l_state, "_law_state", "_law_state", s_l_state, fd, N_l_state, P_l_state, rfl, F, sc_l_state, rfl, rfl, bd_l_state (P := P) (w := w) (mg := mg) (base := base) F, fun k C cdv A outer s H E FF hr => b_l_state g _ cdv A outer s H E FF hr⟩
  by_cases h9 : f = 9
  · subst h9
    have e : some (He.ga K "_law_take") = some a := h
    cases e
    obtain ⟨fd, F⟩ := D.d_l_take
    exact ⟨d_l_take, "_law_take", "_law_take", s_l_take, fd, N_l_take, P_l_take, rfl, F, sc_l_take, rfl, rfl, bd_l_take (P := P) (w := w) (mg := mg) (base := base) F, fun k C cdv A outer s H E FF hr => b_l_take g _ cdv A outer s H E FF hr⟩
  by_cases h10 : f = 10
  · subst h10
    have e : some (He.ga K "_law_pick") = some a := h
    cases e
    obtain ⟨fd, F⟩ := D.d_l_pick
    exact ⟨d_l_pick, "_law_pick", "_law_pick", s_l_pick, fd, N_l_pick, P_l_pick, rfl, F, sc_l_pick, rfl, rfl, bd_l_pick (P := P) (w := w) (mg := mg) (base := base) F, fun k C cdv A outer s H E FF hr => b_l_pick g _ cdv A outer s H E FF hr⟩
  by_cases h11 : f = 11
  · subst h11
    have e : some (He.ga K "_law_tongue") = some a := h
    cases e
    obtain ⟨fd, F⟩ := D.d_l_tongue
    exact ⟨d_l_tongue, "_law_tongue", "_law_tongue", s_l_tongue, fd, N_l_tongue, P_l_tongue, rfl, F, sc_l_tongue, rfl, rfl, bd_l_tongue (P := P) (w := w) (mg := mg) (base := base) F, fun k C cdv A outer s H E FF hr => b_l_tongue g _ cdv A outer s H E FF hr⟩
  by_cases h12 : f = 12
  · subst h12
    have e : some (He.ga K "_law_term") = some a := h
    cases e
    obtain ⟨fd, F⟩ := D.d_l_term
    exact ⟨d_l_term, "_law_term", "_law_term", s_l_term, fd, N_l_term, P_l_term, rfl, F, sc_l_term, rfl, rfl, bd_l_term (P := P) (w := w) (mg := mg) (base := base) F, fun k C cdv A outer s H E FF hr => b_l_term g _ cdv A outer s H E FF hr⟩
  by_cases h13 : f = 13
  · subst h13
    have e : some (He.ga K "_law_text") = some a := h
    cases e
    obtain ⟨fd, F⟩ := D.d_l_text
    exact ⟨d_l_text, "_law_text", "_law_text", s_l_text, fd, N_l_text, P_l_text, rfl, F, sc_l_text, rfl, rfl, bd_l_text (P := P) (w := w) (mg := mg) (base := base) F, fun k C cdv A outer s H E FF hr => b_l_text g _ cdv A outer s H E FF hr⟩
  by_cases h14 : f = 14
  · subst h14
    have e : some (He.ga K "_law_word") = some a := h
    cases e
    obtain ⟨fd, F⟩ := D.d_l_word
    exact ⟨d_l_word, "_law_word", "_law_word", s_l_word, fd, N_l_word, P_l_word, rfl, F, sc_l_word, rfl, rfl, bd_l_word (P := P) (w := w) (mg := mg) (base := base) F, fun k C cdv A outer s H E FF hr => b_l_word g _ cdv A outer s H E FF hr⟩
  by_cases h15 : f = 15
  · subst h15
    have e : some (He.ga K "_law_says") = some a := h
    cases e
    obtain ⟨fd, F⟩ := D.d_l_says
    exact ⟨d_l_says, "_law_says", "_law_says", s_l_says, fd, N_l_says, P_l_says, rfl, F, sc_l_says, rfl, rfl, bd_l_says (P := P) (w := w) (mg := mg) (base := base) F, fun k C cdv A outer s H E FF hr => b_l_says g _ cdv A outer s H E FF hr⟩
  by_cases h16 : f = 16
  · subst h16
    have e : some (He.ga K "_law_wrong") = some a := h
    cases e
    obtain ⟨fd, F⟩ := D.d_l_wrong
    exact ⟨d_l_wrong, "_law_wrong", "_law_wrong", s_l_wrong, fd, N_l_wrong, P_l_wrong, rfl, F, sc_l_wrong, rfl, rfl, bd_l_wrong (P := P) (w := w) (mg := mg) (base := base) F, fun k C cdv A outer s H E FF hr => b_l_wrong g _ cdv A outer s H E FF hr⟩
  by_cases h17 : f = 17
  · subst h17
    have e : some (He.ga K "law") = some a := h
    cases e
    obtain ⟨fd, F⟩ := D.d_law
    exact ⟨d_law, "law", "law", s_law, fd, N_law, P_law, rfl, F, sc_law, rfl, rfl, bd_law (P := P) (w := w) (mg := mg) (base := base) F, fun k C cdv A outer s H E FF hr => b_law g _ cdv A outer s H E FF hr⟩
  exfalso
  have : faO K f = none := by
    unfold faO
    split <;> first | contradiction | rfl
  rw [show (gb K).fa f = faO K f from rfl, this] at h
  cases h
/-! the head -/
def h_is_whole : He.DefD := ⟨("is_whole", none), "is_whole", "is_whole", defArgs s_is_whole, defBody s_is_whole, defScope s_is_whole, [], []⟩
def h_are_signs_of_text : He.DefD := ⟨("are_signs_of_text", none), "are_signs_of_text", "are_signs_of_text", defArgs s_are_signs_of_text, defBody s_are_signs_of_text, defScope s_are_signs_of_text, [], []⟩
def h_is_sign : He.DefD := ⟨("is_sign", none), "is_sign", "is_sign", defArgs s_is_sign, defBody s_is_sign, defScope s_is_sign, [], []⟩
def h_is_variable : He.DefD := ⟨("is_variable", none), "is_variable", "is_variable", defArgs s_is_variable, defBody s_is_variable, defScope s_is_variable, [], []⟩
def h_is_tongue : He.DefD := ⟨("is_tongue", none), "is_tongue", "is_tongue", defArgs s_is_tongue, defBody s_is_tongue, defScope s_is_tongue, [], []⟩
def h_places_of : He.DefD := ⟨("places_of", none), "places_of", "places_of", defArgs s_places_of, defBody s_places_of, defScope s_places_of, [], []⟩
def h_nodes : He.DefD := ⟨("nodes", none), "nodes", "nodes", defArgs s_nodes, defBody s_nodes, defScope s_nodes, [], []⟩
def h_is_term : He.DefD := ⟨("is_term", none), "is_term", "is_term", defArgs s_is_term, defBody s_is_term, defScope s_is_term, [], []⟩
def h_l_state : He.DefD := ⟨("_law_state", none), "_law_state", "_law_state", defArgs s_l_state, defBody s_l_state, defScope s_l_state, [], []⟩
def h_l_take : He.DefD := ⟨("_law_take", none), "_law_take", "_law_take", defArgs s_l_take, defBody s_l_take, defScope s_l_take, [], []⟩
def h_l_pick : He.DefD := ⟨("_law_pick", none), "_law_pick", "_law_pick", defArgs s_l_pick, defBody s_l_pick, defScope s_l_pick, [], []⟩
def h_l_tongue : He.DefD := ⟨("_law_tongue", none), "_law_tongue", "_law_tongue", defArgs s_l_tongue, defBody s_l_tongue, defScope s_l_tongue, [], []⟩
def h_l_term : He.DefD := ⟨("_law_term", none), "_law_term", "_law_term", defArgs s_l_term, defBody s_l_term, defScope s_l_term, [], []⟩
def h_l_text : He.DefD := ⟨("_law_text", none), "_law_text", "_law_text", defArgs s_l_text, defBody s_l_text, defScope s_l_text, [], []⟩
def h_l_word : He.DefD := ⟨("_law_word", none), "_law_word", "_law_word", defArgs s_l_word, defBody s_l_word, defScope s_l_word, [], []⟩
def h_l_says : He.DefD := ⟨("_law_says", none), "_law_says", "_law_says", defArgs s_l_says, defBody s_l_says, defScope s_l_says, [], []⟩
def h_l_wrong : He.DefD := ⟨("_law_wrong", none), "_law_wrong", "_law_wrong", defArgs s_l_wrong, defBody s_l_wrong, defScope s_l_wrong, [], []⟩
def h_law : He.DefD := ⟨("law", none), "law", "law", defArgs s_law, defBody s_law, defScope s_law, [], []⟩
def fn : List He.DefD := [h_is_whole, h_are_signs_of_text, h_is_sign, h_is_variable, h_is_tongue, h_places_of, h_nodes, h_is_term, h_l_state, h_l_take, h_l_pick, h_l_tongue, h_l_term, h_l_text, h_l_word, h_l_says, h_l_wrong, h_law]
def fa : List He.Fa := [.free "abs", .free "all", .free "bool", .free "int", .free "isinstance", .free "len", .free "list", .free "range", .free "str", .free "tuple", .glo "_law_pick", .glo "_law_says", .glo "_law_state", .glo "_law_take", .glo "_law_term", .glo "_law_text", .glo "_law_tongue", .glo "_law_word", .glo "_law_wrong", .glo "are_signs_of_text", .glo "is_sign", .glo "is_term", .glo "is_tongue", .glo "is_variable", .glo "is_whole", .glo "nodes", .glo "places_of", .int "MOST_LETTERS" (8), .int "MOST_NODES" (400), .int "MOST_PLACES" (4), .int "MOST_SIGNS" (12), .glo "is_whole", .glo "are_signs_of_text", .glo "is_sign", .glo "is_variable", .glo "is_tongue", .glo "places_of", .glo "nodes", .glo "is_term", .glo "_law_state", .glo "_law_take", .glo "_law_pick", .glo "_law_tongue", .glo "_law_term", .glo "_law_text", .glo "_law_word", .glo "_law_says", .glo "_law_wrong", .glo "law"]
abbrev R : PySem.W.OpenRow := PySem.W.OpenLaw.row PySem.Challenge.rw_termwright_k01_signs_and_terms
abbrev hk : PySem.W.Hook := He.hookD 4 fa fn
def ob (s : PySem.W.SharedT) : He.AlD := He.obsDG 4 fa fn (HandSHeadRun.getT s)
theorem ob_eq (s : PySem.W.SharedT) : ob s = hk.obs s.abs := He.obsDG_eq (HandSHeadRun.getT_eq s)
theorem run (w : World) : HandSHeadRun.RunEq R (PySem.W.view R.prog [25]) hk ob 4000 ["MOST_SIGNS", "MOST_PLACES", "MOST_NODES", "MOST_LETTERS", "is_whole", "are_signs_of_text", "is_sign", "is_variable", "is_tongue", "places_of", "nodes", "is_term", "_law_state", "_law_take", "_law_pick", "_law_tongue", "_law_term", "_law_put", "_law_names", "_law_text", "_law_word", "_law_says", "_law_wrong"] w := by
  intro os
  kernel_rfl
theorem facts {K : PySem.W.Frag} {h : Heap} {mg : Str → Option Value} (X : K.In h) (G : h.Ns mainGlobals mg) (c : He.SaysD fa fn K) : GF K mg ∧ DF K := by
  refine ⟨⟨He.free_ok X G (c.fact 0 (f := .free "abs") rfl), He.free_ok X G (c.fact 1 (f := .free "all") rfl), He.free_ok X G (c.fact 2 (f := .free "bool") rfl), He.free_ok X G (c.fact 3 (f := .free "int") rfl), He.free_ok X G (c.fact 4 (f := .free "isinstance") rfl), He.free_ok X G (c.fact 5 (f := .free "len") rfl), He.free_ok X G (c.fact 6 (f := .free "list") rfl), He.free_ok X G (c.fact 7 (f := .free "range") rfl), He.free_ok X G (c.fact 8 (f := .free "str") rfl), He.free_ok X G (c.fact 9 (f := .free "tuple") rfl), He.glo_ok X G (c.fact 10 (f := .glo "_law_pick") rfl), He.glo_ok X G (c.fact 11 (f := .glo "_law_says") rfl), He.glo_ok X G (c.fact 12 (f := .glo "_law_state") rfl), He.glo_ok X G (c.fact 13 (f := .glo "_law_take") rfl), He.glo_ok X G (c.fact 14 (f := .glo "_law_term") rfl), He.glo_ok X G (c.fact 15 (f := .glo "_law_text") rfl), He.glo_ok X G (c.fact 16 (f := .glo "_law_tongue") rfl), He.glo_ok X G (c.fact 17 (f := .glo "_law_word") rfl), He.glo_ok X G (c.fact 18 (f := .glo "_law_wrong") rfl), He.glo_ok X G (c.fact 19 (f := .glo "are_signs_of_text") rfl), He.glo_ok X G (c.fact 20 (f := .glo "is_sign") rfl), He.glo_ok X G (c.fact 21 (f := .glo "is_term") rfl), He.glo_ok X G (c.fact 22 (f := .glo "is_tongue") rfl), He.glo_ok X G (c.fact 23 (f := .glo "is_variable") rfl), He.glo_ok X G (c.fact 24 (f := .glo "is_whole") rfl), He.glo_ok X G (c.fact 25 (f := .glo "nodes") rfl), He.glo_ok X G (c.fact 26 (f := .glo "places_of") rfl), He.int_ok X G (c.fact 27 (f := .int "MOST_LETTERS" (8)) rfl), He.int_ok X G (c.fact 28 (f := .int "MOST_NODES" (400)) rfl), He.int_ok X G (c.fact 29 (f := .int "MOST_PLACES" (4)) rfl), He.int_ok X G (c.fact 30 (f := .int "MOST_SIGNS" (12)) rfl)⟩, ⟨c.def_ 0 (d := h_is_whole) rfl, c.def_ 1 (d := h_are_signs_of_text) rfl, c.def_ 2 (d := h_is_sign) rfl, c.def_ 3 (d := h_is_variable) rfl, c.def_ 4 (d := h_is_tongue) rfl, c.def_ 5 (d := h_places_of) rfl, c.def_ 6 (d := h_nodes) rfl, c.def_ 7 (d := h_is_term) rfl, c.def_ 8 (d := h_l_state) rfl, c.def_ 9 (d := h_l_take) rfl, c.def_ 10 (d := h_l_pick) rfl, c.def_ 11 (d := h_l_tongue) rfl, c.def_ 12 (d := h_l_term) rfl, c.def_ 13 (d := h_l_text) rfl, c.def_ 14 (d := h_l_word) rfl, c.def_ 15 (d := h_l_says) rfl, c.def_ 16 (d := h_l_wrong) rfl, c.def_ 17 (d := h_law) rfl⟩⟩
theorem holds_of (LT : ∀ ns : List Int, ns.length ≤ 63 → ∃ mh, callM T 131 17 [.scr ns] [] = some (.bl true, mh)) : PySem.Challenge.rw_termwright_k01_signs_and_terms.Holds := by
  open PySem.W PySem.Calls in
  w_on; o_law
  refine HandSHeadRun.head_any (r := PySem.W.OpenLaw.row PySem.Challenge.rw_termwright_k01_signs_and_terms) (q := PySem.W.view (PySem.W.OpenLaw.row PySem.Challenge.rw_termwright_k01_signs_and_terms).prog [25]) (H := hk) (ob := ob) (M := 4000) (loose := ["MOST_SIGNS", "MOST_PLACES", "MOST_NODES", "MOST_LETTERS", "is_whole", "are_signs_of_text", "is_sign", "is_variable", "is_tongue", "places_of", "nodes", "is_term", "_law_state", "_law_take", "_law_pick", "_law_tongue", "_law_term", "_law_put", "_law_names", "_law_text", "_law_word", "_law_says", "_law_wrong"]) (d := HandSHeadRun.topDef (PySem.W.OpenLaw.row PySem.Challenge.rw_termwright_k01_signs_and_terms).prog 25) (kwd := []) ob_eq
    (by kernel_rfl) (fun s => by kernel_rfl) run (by kernel_rfl) (by kernel_rfl) (by kernel_rfl) (by rfl) (by first | assumption | decide +kernel) (by decide +kernel) ⟨rfl, rfl, rfl, rfl, rfl, by decide +kernel⟩ ?hw ?hc
  case hw => w_witness2
  case hc =>
    refine L2.walk_ofE (l := PySem.Challenge.rw_termwright_k01_signs_and_terms) (n := 63) (k := 131) (x := "script") (CX := L2.CX0) rfl (by decide) (by kernel_rfl) ⟨rfl, by decide, by decide⟩ ?F (fun _ _ _ _ z => z)
    intro w mg fa h Y G hmg0
    obtain ⟨K, KX, c⟩ := Y
    have hmg : mg ("law" : PySem.Str) = some (.ref fa) := by
      have e : (HandSHeadRun.topDef (PySem.W.OpenLaw.row PySem.Challenge.rw_termwright_k01_signs_and_terms).prog 25).name = ("law" : PySem.Str) := by kernel_rfl
      rw [← e]
      exact hmg0
    obtain ⟨g, D⟩ := facts KX G c
    have e := hmg.symm.trans (He.glo_ok KX G (c.fact 48 (f := .glo "law") rfl))
    cases e
    obtain ⟨fd, F⟩ := D.d_law
    have b := FunD.bindsA (ps := P_law) F fun _ _ _ _ _ _ us hl => match us, hl with | [_], _ => rfl
    refine ⟨K, fd, spC (gb K) (callM T 131) 17 1, KX, fun s v => b s [v] rfl, fun H a ns hl _ hS => ?_, fun base _ _ => ?_⟩
    · obtain ⟨mh, e⟩ := LT ns hl
      exact sp_law (G := gb K) e hS
    · exact fnOk_of (fnC_of (table g D) 130) rfl F sc_law rfl fun k C cdv A outer s H E FF hr => b_law g _ cdv A outer s H E FF hr
end L2.Mi.k01

theorem PySem.Challenge.cw_termwright_k01_signs_and_terms_holds : PySem.Challenge.rw_termwright_k01_signs_and_terms.Holds := by
  exact L2.Mi.k01.holds_of fun ns _ => L2.Mi.k01.law_true ns
