import PyProof.Rows.All
import Wide.All
import OpenK.AllK
import Wide.FinOn
import KE.KStateDown
import HandS.ForMost
import HandS.More
import HandS.Deep
import HandS.Property
import HandS.MakeKw
import HandS.MakeKwOnly
import HandS.IsInst
import HandS.TupMul
import HandS.Gcd
import HandS.Star
import HandS.SortInts
import HandS.SortKw
import HandS.WordsExc
import HandS.Defaults
import HandS.Head0
import HandS.Head1
import HandS.Head2
import HandS.HeadEnd
import HandS.HeadHook1
import HandS.HeadHook2
import KE.GoesMore
import KE.GoesEnum
import HandS.HeadWalk
import HandS.HeadHook4
import PySem.Challenge.RW_anyrowline_k81_slips_in_long_loops
set_option Elab.async false
set_option linter.all false
set_option maxRecDepth 100000
set_option maxHeartbeats 0
/-! A small machine over plain values: what the program's text computes, read off a text of its own (E, S). -/
namespace VM
abbrev Str := PySem.Str
inductive Val where
  | non | bool (b : Bool) | int (i : Int) | str (s : Str)
  | tup (vs : List Val) | lst (vs : List Val)
  | dct (kvs : List (Val × Val))
  | obj (c : Nat) (fs : List (Nat × Val))
  | cell (n : Nat)
  | rng (lo hi : Int)
  | scr (ns : List Int)
inductive Cell where
  | lst (vs : List Val) (lk : Bool)
  | dct (kvs : List (Val × Val)) (lk : Bool)
  | ins (c : Nat) (fs : List (Nat × Val))
structure Store where
  next : Nat
  get : Nat → Option Cell
def Store.set (st : Store) (n : Nat) (c : Cell) : Store := ⟨st.next, fun m => if m = n then some c else st.get m⟩
def Store.del (st : Store) (n : Nat) : Store := ⟨st.next, fun m => if m = n then none else st.get m⟩
def Store.new (st : Store) (c : Cell) : Store := ⟨st.next + 1, fun m => if m = st.next then some c else st.get m⟩

abbrev Env := List (Option Val)
abbrev Post := Val → Store → Prop
abbrev XPost := Nat → Val → Store → Prop
abbrev FnSem := Nat → List Val → Store → Post → XPost → Prop

inductive BOp where | add | sub | mul | mod | fdiv | pow
inductive COp where | eq | ne | lt | le | gt | ge | isN | notN | mem | nmem
inductive Ty where | tint | tbool | tstr | tseq | ttup | tcls (c : Nat)
inductive B1 where | len | sum | all | any | tuple | list | int | str | max | min | sorted | sortedR | set
inductive B2 where | max | min | gcd
inductive Tgt where
  | name (i : Nat)
  | nil
  | cons (t : Tgt) (r : Tgt)

mutual
inductive E where
  | var (i : Nat)
  | con (v : Val)
  | glb (g : Nat) (v : Val)
  | tup (es : EL)
  | lst (es : EL)
  | nlst (es : EL)
  | lstar (es : EL)
  | and (a b : E)
  | or (a b : E)
  | not (a : E)
  | neg (a : E)
  | bin (op : BOp) (a b : E)
  | cmp (op : COp) (a b : E)
  | chain (p q : COp) (a b c : E)
  | ite (c a b : E)
  | sub (a b : E)
  | slice (a : E) (lo hi : EO)
  | prop (c f : Nat) (a : E)
  | fld (c f : Nat) (a : E)
  | call (f : Nat) (es : EL)
  | make (c f : Nat) (es : EL)
  | makeK (c f : Nat) (es : EL) (e : E)
  | meth (c f : Nat) (a : E) (es : EL)
  | bi1 (b : B1) (a : E)
  | bi2 (b : B2) (a c : E)
  | isin (t : Ty) (a : E)
  | comp (own : List Nat) (s : Src) (t : Tgt) (c : EO) (e : E)
  | frz (a : E)
  | pop (a : E)
inductive EL where
  | nil | cons (e : E) (r : EL)
inductive EO where
  | no | yes (e : E)
inductive Src where
  | seq (e : E) | rng1 (e : E) | rng2 (a b : E) | enum (e : E)
end
mutual
inductive S where
  | set (i : Nat) (e : E)
  | asg (t : Tgt) (e : E)
  | item (o i e : E)
  | fld (i : Nat) (c f : Nat) (e : E)
  | aug (i : Nat) (e : E)
  | ifs (c : E) (a b : SL)
  | for_ (s : Src) (t : Tgt) (b : SL)
  | while_ (c : E) (b : SL)
  | ret (e : E)
  | retN
  | brk | cnt | pass
  | ex (e : E)
  | append (o e : E)
  | extend (o e : E)
  | raise (c : Nat) (e : E)
  | die
inductive SL where
  | nil | cons (s : S) (r : SL)
end
structure FD where
  arity : Nat
  slots : Nat
  body : SL

/-! ### values -/
def getv : Env → Nat → (Val → Prop) → Prop
  | [], _, _ => False
  | some v :: _, 0, k => k v
  | none :: _, 0, _ => False
  | _ :: r, n + 1, k => getv r n k
def isB (v : Val) (k : Bool → Prop) : Prop := match v with
  | .bool b => k b
  | _ => False
def isI (v : Val) (k : Int → Prop) : Prop := match v with
  | .int i => k i
  | _ => False
def isS (v : Val) (k : Str → Prop) : Prop := match v with
  | .str i => k i
  | _ => False
def isT (v : Val) (k : List Val → Prop) : Prop := match v with
  | .tup i => k i
  | _ => False
/-- a list or a tuple, read -/
def seqOf (st : Store) (v : Val) : Option (List Val) := match v with
  | .tup vs => some vs
  | .lst vs => some vs
  | .cell n => match st.get n with
    | some (.lst vs _) => some vs
    | _ => none
  | _ => none
/-- a list -/
def lstOf (st : Store) (v : Val) : Option (List Val) := match v with
  | .lst vs => some vs
  | .cell n => match st.get n with
    | some (.lst vs _) => some vs
    | _ => none
  | _ => none
def onO {α : Type} (o : Option α) (k : α → Prop) : Prop := match o with
  | some x => k x
  | none => False
def ixN (n : Nat) (i : Int) : Option Nat := if 0 ≤ i then (if i < n then some i.toNat else none) else if -(n : Int) ≤ i then some (i + n).toNat else none
def atI {α : Type} (xs : List α) (i : Int) : Option α := (ixN xs.length i).bind fun j => xs[j]?
def sIx (n d : Nat) : Option Int → Nat
  | none => d
  | some v => if v < 0 then (v + n).toNat else Nat.min v.toNat n
def cutL {α : Type} (xs : List α) (lo hi : Option Int) : List α := (xs.drop (sIx xs.length 0 lo)).take (sIx xs.length xs.length hi - sIx xs.length 0 lo)
mutual
def veq : Val → Val → Bool
  | .non, .non => true
  | .bool a, .bool b => a == b
  | .bool a, .int j => (if a then 1 else 0) == j
  | .int i, .bool b => i == (if b then 1 else 0)
  | .int i, .int j => i == j
  | .str x, .str y => x == y
  | .lst xs, .lst ys => veqL xs ys
  | .tup xs, .tup ys => veqL xs ys
  | _, _ => false
def veqL : List Val → List Val → Bool
  | [], [] => true
  | x :: xs, y :: ys => veq x y && veqL xs ys
  | _, _ => false
end
def strSmall (x : Str) : Bool := x.cps.all (· < 0x110000)
/-- plain data of depth at most n -/
def data : Nat → Val → Bool
  | _, .non => true
  | _, .bool _ => true
  | _, .int _ => true
  | _, .str x => strSmall x
  | n + 1, .tup vs => vs.all (data n)
  | n + 1, .lst vs => vs.all (data n)
  | _, _ => false
def flat : Val → Bool
  | .non => true
  | .bool _ => true
  | .int _ => true
  | .str _ => true
  | _ => false
def allB : List Val → Option (List Bool)
  | [] => some []
  | .bool b :: r => (allB r).map (b :: ·)
  | _ :: _ => none
def allI : List Val → Option (List Int)
  | [] => some []
  | .int b :: r => (allI r).map (b :: ·)
  | _ :: _ => none
def CMul (i j : Int) : Prop := (-(2 ^ 64) < i ∧ i < 2 ^ 64) ∨ (-(2 ^ 64) < j ∧ j < 2 ^ 64)
def binI (op : BOp) (i j : Int) (k : Int → Prop) : Prop := match op with
  | .add => k (i + j)
  | .sub => k (i - j)
  | .mul => CMul i j ∧ k (i * j)
  | .mod => 0 < j ∧ k (i % j)
  | .fdiv => 0 < j ∧ j < 1073741824 ∧ k (i / j)
  | .pow => 0 ≤ j ∧ j ≤ 1000 ∧ i.natAbs < 2 ^ 64 ∧ k (i ^ j.toNat)
def big : Nat := 16777216
def wpBin (op : BOp) (a b : Val) (st : Store) (Q : Post) : Prop := match a, b with
  | .int i, .int j => binI op i j fun n => Q (.int n) st
  | .tup xs, .tup ys => match op with
    | .add => xs.length + ys.length ≤ big ∧ Q (.tup (xs ++ ys)) st
    | _ => False
  | .tup xs, .int n => match op with
    | .mul => xs ≠ [] ∧ 1 ≤ n ∧ n < 2 ^ 40 ∧ xs.length * n.toNat ≤ big ∧ Q (.tup (List.replicate n.toNat xs).flatten) st
    | _ => False
  | .lst xs, .lst ys => match op with
    | .add => xs.length + ys.length ≤ big ∧ Q (.lst (xs ++ ys)) st
    | _ => False
  | .lst xs, .int n => match op with
    | .mul => 0 ≤ n ∧ n < 2 ^ 40 ∧ xs.length * n.toNat ≤ big ∧ Q (.lst (List.replicate n.toNat xs).flatten) st
    | _ => False
  | .str xs, .str ys => match op with
    | .add => xs.length + ys.length ≤ big ∧ Q (.str (xs ++ ys)) st
    | _ => False
  | _, _ => False
def wpEq (a b : Val) (k : Bool → Prop) : Prop := match a, b with
  | .int i, .int j => k (decide (i = j))
  | .str i, .str j => k (decide (i = j))
  | a, b => data 60 a = true ∧ data 60 b = true ∧ k (veq a b)
def cmpI (op : COp) (i j : Int) (k : Bool → Prop) : Prop := match op with
  | .lt => k (decide (i < j))
  | .le => k (decide (i ≤ j))
  | .gt => k (decide (j < i))
  | .ge => k (decide (j ≤ i))
  | _ => False
def isNon : Val → Bool
  | .non => true
  | _ => false
/-- x in a list or a tuple -/
def wpMem (x : Val) (y : Val) (st : Store) (k : Bool → Prop) : Prop := match y with
  | .tup vs => flat x = true ∧ vs.all flat = true ∧ k (vs.any fun z => veq z x)
  | y => onO (lstOf st y) fun vs => data 60 x = true ∧ vs.all (data 59) = true ∧ k (vs.any fun z => veq z x)
def wpCmp (op : COp) (a b : Val) (st : Store) (k : Bool → Prop) : Prop := match op with
  | .eq => wpEq a b k
  | .ne => wpEq a b fun c => k (!c)
  | .isN => b = .non ∧ k (isNon a)
  | .notN => b = .non ∧ k (!isNon a)
  | .mem => wpMem a b st k
  | .nmem => wpMem a b st fun c => k (!c)
  | op => isI a fun i => isI b fun j => cmpI op i j k
def wpSub (a b : Val) (st : Store) (Q : Post) : Prop :=
  onO (seqOf st a) fun vs => isI b fun i => onO (atI vs i) fun v => Q v st
def wpSlice (a : Val) (lo hi : Option Int) (st : Store) (Q : Post) : Prop := match a with
  | .tup vs => ¬ (sIx vs.length 0 lo = 0 ∧ sIx vs.length vs.length hi = vs.length) ∧ Q (.tup (cutL vs lo hi)) st
  | .scr ns => Q (.lst (cutL (ns.map Val.int) lo hi)) st
  | a => onO (lstOf st a) fun vs => Q (.lst (cutL vs lo hi)) st
def lookF (f : Nat) : List (Nat × Val) → Option Val
  | [] => none
  | (g, v) :: r => if g = f then some v else lookF f r
def putF (f : Nat) (v : Val) : List (Nat × Val) → List (Nat × Val)
  | [] => [(f, v)]
  | (g, u) :: r => if g = f then (f, v) :: r else (g, u) :: putF f v r
def fldsOf (st : Store) (c : Nat) (v : Val) : Option (List (Nat × Val)) := match v with
  | .obj d fs => if d = c then some fs else none
  | .cell n => match st.get n with
    | some (.ins d fs) => if d = c then some fs else none
    | _ => none
  | _ => none
def tyN : Val → Option Nat
  | .non => some 0
  | .bool _ => some 1
  | .int _ => some 2
  | .str _ => some 3
  | .tup _ => some 4
  | .lst _ => some 5
  | _ => none
/-- isinstance's answer, where it is told here -/
def isTy (t : Ty) (v : Val) : Option Bool := match t with
  | .tint => (tyN v).map fun n => n == 1 || n == 2
  | .tbool => (tyN v).map fun n => n == 1
  | .tstr => (tyN v).map fun n => n == 3
  | .tseq => (tyN v).map fun n => n == 4 || n == 5
  | .ttup => (tyN v).map fun n => n == 4
  | .tcls c => match v with
    | .obj d _ => if d = c then some true else none
    | _ => none
def maxL : List Int → Int
  | [] => 0
  | [x] => x
  | x :: r => max x (maxL r)
def minL : List Int → Int
  | [] => 0
  | [x] => x
  | x :: r => min x (minL r)
def wpB1 (b : B1) (v : Val) (st : Store) (Q : Post) : Prop := match b with
  | .len => (match v with
    | .str x => x.length ≤ big ∧ Q (.int x.length) st
    | .scr ns => Q (.int ns.length) st
    | v => onO (seqOf st v) fun vs => Q (.int vs.length) st)
  | .sum => onO (lstOf st v) fun vs => onO (allI vs) fun ns => Q (.int ns.sum) st
  | .all => onO (lstOf st v) fun vs => onO (allB vs) fun bs => Q (.bool (bs.all id)) st
  | .any => onO (lstOf st v) fun vs => onO (allB vs) fun bs => Q (.bool (bs.any id)) st
  | .tuple => onO (seqOf st v) fun vs => Q (.tup vs) st
  | .list => onO (seqOf st v) fun vs => Q (.lst vs) st
  | .int => isI v fun i => Q (.int i) st
  | .max => onO (lstOf st v) fun vs => onO (allI vs) fun ns => ns ≠ [] ∧ Q (.int (maxL ns)) st
  | .min => onO (lstOf st v) fun vs => onO (allI vs) fun ns => ns ≠ [] ∧ Q (.int (minL ns)) st
  | _ => False
def wpB2 (b : B2) (v u : Val) (st : Store) (Q : Post) : Prop := isI v fun i => isI u fun j => match b with
  | .max => Q (.int (if i < j then j else i)) st
  | .min => Q (.int (if j < i then j else i)) st
  | .gcd => Q (.int (Int.gcd i j)) st
def wpFrz (v : Val) (st : Store) (Q : Post) : Prop := match v with
  | .cell n => (match st.get n with
    | some (.lst vs false) => Q (.lst vs) (st.del n)
    | _ => False)
  | _ => False
def wpPop (v : Val) (st : Store) (Q : Post) : Prop := match v with
  | .cell n => (match st.get n with
    | some (.lst vs false) => onO vs.getLast? fun x => Q x (st.set n (.lst vs.dropLast false))
    | _ => False)
  | _ => False
/-- a value's truth -/
def truth (st : Store) (v : Val) (k : Bool → Prop) : Prop := match v with
  | .bool b => k b
  | v => onO (lstOf st v) fun vs => k (!vs.isEmpty)
/-- a target takes a value -/
def wpTgt : Tgt → Val → Env → (Env → Prop) → Prop
  | .name i, v, ρ, k => i < ρ.length ∧ k (ρ.set i (some v))
  | .nil, v, ρ, k => isT v fun vs => vs = [] ∧ k ρ
  | .cons t r, v, ρ, k => match v with
    | .tup (x :: xs) => wpTgt t x ρ fun ρ1 => wpTgt r (.tup xs) ρ1 k
    | _ => False
def wipe (ρ : Env) : List Nat → Env
  | [] => ρ
  | i :: r => (wipe ρ r).set i none
def numb : Nat → List Val → List Val
  | _, [] => []
  | n, v :: r => .tup [.int n, v] :: numb (n + 1) r
/-- the turns of a comprehension -/
def wpTurns (step : Val → Store → (Option Val → Store → Prop) → Prop) : List Val → List Val → Store → (List Val → Store → Prop) → Prop
  | [], acc, st, k => k acc st
  | v :: r, acc, st, k => step v st fun o st1 => match o with
    | some x => wpTurns step r (acc ++ [x]) st1 k
    | none => wpTurns step r acc st1 k
def intsFrom (lo : Int) : Nat → List Val
  | 0 => []
  | n + 1 => .int lo :: intsFrom (lo + 1) n

section
variable (Φ : FnSem) (X : XPost)
mutual
def wpE : E → Env → Store → Post → Prop
  | .var i, ρ, st, Q => getv ρ i fun v => Q v st
  | .con v, _, st, Q => Q v st
  | .glb _ v, _, st, Q => Q v st
  | .tup es, ρ, st, Q => wpEL es ρ st fun vs st1 => Q (.tup vs) st1
  | .lst es, ρ, st, Q => wpEL es ρ st fun vs st1 => Q (.lst vs) st1
  | .nlst es, ρ, st, Q => wpEL es ρ st fun vs st1 => Q (.cell st1.next) (st1.new (.lst vs false))
  | .lstar es, ρ, st, Q => wpStar es ρ st fun vs st1 => vs.length ≤ big ∧ Q (.lst vs) st1
  | .and a b, ρ, st, Q => wpE a ρ st fun v st1 => isB v fun c => if c = true then wpE b ρ st1 Q else Q (.bool false) st1
  | .or a b, ρ, st, Q => wpE a ρ st fun v st1 => isB v fun c => if c = true then Q (.bool true) st1 else wpE b ρ st1 Q
  | .not a, ρ, st, Q => wpE a ρ st fun v st1 => isB v fun c => Q (.bool (!c)) st1
  | .neg a, ρ, st, Q => wpE a ρ st fun v st1 => isI v fun i => Q (.int (-i)) st1
  | .bin op a b, ρ, st, Q => wpE a ρ st fun v st1 => wpE b ρ st1 fun u st2 => wpBin op v u st2 Q
  | .cmp op a b, ρ, st, Q => wpE a ρ st fun v st1 => wpE b ρ st1 fun u st2 => wpCmp op v u st2 fun c => Q (.bool c) st2
  | .chain p q a b c, ρ, st, Q => wpE a ρ st fun v st1 => wpE b ρ st1 fun u st2 => wpCmp p v u st2 fun d => if d = true then wpE c ρ st2 fun w st3 => wpCmp q u w st3 fun d => Q (.bool d) st3 else Q (.bool false) st2
  | .ite c a b, ρ, st, Q => wpE c ρ st fun v st1 => truth st1 v fun d => if d = true then wpE a ρ st1 Q else wpE b ρ st1 Q
  | .sub a b, ρ, st, Q => wpE a ρ st fun v st1 => wpE b ρ st1 fun u st2 => wpSub v u st2 Q
  | .slice a lo hi, ρ, st, Q => wpE a ρ st fun v st1 => wpEO lo ρ st1 fun l st2 => wpEO hi ρ st2 fun h st3 => wpSlice v l h st3 Q
  | .prop c f a, ρ, st, Q => wpE a ρ st fun v st1 => (match v with
    | .obj d _ => d = c ∧ Φ f [v] st1 Q X
    | _ => False)
  | .fld c f a, ρ, st, Q => wpE a ρ st fun v st1 => onO (fldsOf st1 c v) fun fs => onO (lookF f fs) fun u => Q u st1
  | .call f es, ρ, st, Q => wpEL es ρ st fun vs st1 => Φ f vs st1 Q X
  | .make c f es, ρ, st, Q => wpEL es ρ st fun vs st1 => Φ f (.cell st1.next :: vs) (st1.new (.ins c [])) (fun r st2 => match st2.get st1.next with
    | some (.ins d fs) => d = c ∧ r = .non ∧ Q (.obj c fs) (st2.del st1.next)
    | _ => False) X
  | .makeK c f es e, ρ, st, Q => wpEL es ρ st fun vs st0 => wpE e ρ st0 fun u st1 => Φ f (.cell st1.next :: (vs ++ [u])) (st1.new (.ins c [])) (fun r st2 => match st2.get st1.next with
    | some (.ins d fs) => d = c ∧ r = .non ∧ Q (.obj c fs) (st2.del st1.next)
    | _ => False) X
  | .meth c f a es, ρ, st, Q => wpE a ρ st fun v st1 => (match v with
    | .obj d _ => d = c ∧ wpEL es ρ st1 fun vs st2 => Φ f (v :: vs) st2 Q X
    | _ => False)
  | .bi1 b a, ρ, st, Q => wpE a ρ st fun v st1 => wpB1 b v st1 Q
  | .bi2 b a c, ρ, st, Q => wpE a ρ st fun v st1 => wpE c ρ st1 fun u st2 => wpB2 b v u st2 Q
  | .isin t a, ρ, st, Q => wpE a ρ st fun v st1 => onO (isTy t v) fun b => Q (.bool b) st1
  | .comp own s t c e, ρ, st, Q => wpSrc s ρ st fun vs st1 => wpTurns (fun v st2 k => wpTgt t v (wipe ρ own) fun ρ1 => wpC c ρ1 st2 fun d st3 => if d = true then wpE e ρ1 st3 fun x st4 => k (some x) st4 else k none st3) vs [] st1 fun out st2 => Q (.lst out) st2
  | .frz a, ρ, st, Q => wpE a ρ st fun v st1 => wpFrz v st1 Q
  | .pop a, ρ, st, Q => wpE a ρ st fun v st1 => wpPop v st1 Q
def wpEL : EL → Env → Store → (List Val → Store → Prop) → Prop
  | .nil, _, st, Q => Q [] st
  | .cons e r, ρ, st, Q => wpE e ρ st fun v st1 => wpEL r ρ st1 fun vs st2 => Q (v :: vs) st2
def wpStar : EL → Env → Store → (List Val → Store → Prop) → Prop
  | .nil, _, st, Q => Q [] st
  | .cons e r, ρ, st, Q => wpE e ρ st fun v st1 => onO (seqOf st1 v) fun xs => wpStar r ρ st1 fun vs st2 => Q (xs ++ vs) st2
def wpEO : EO → Env → Store → (Option Int → Store → Prop) → Prop
  | .no, _, st, Q => Q none st
  | .yes e, ρ, st, Q => wpE e ρ st fun v st1 => isI v fun i => Q (some i) st1
/-- a clause's test -/
def wpC : EO → Env → Store → (Bool → Store → Prop) → Prop
  | .no, _, st, Q => Q true st
  | .yes e, ρ, st, Q => wpE e ρ st fun v st1 => truth st1 v fun d => Q d st1
def wpSrc : Src → Env → Store → (List Val → Store → Prop) → Prop
  | .seq e, ρ, st, Q => wpE e ρ st fun v st1 => (match v with
    | .tup vs => Q vs st1
    | .lst vs => Q vs st1
    | _ => False)
  | .rng1 e, ρ, st, Q => wpE e ρ st fun v st1 => isI v fun j => -(2 ^ 60) ≤ j ∧ j ≤ big ∧ Q (intsFrom 0 j.toNat) st1
  | .rng2 a b, ρ, st, Q => wpE a ρ st fun v st1 => wpE b ρ st1 fun u st2 => isI v fun i => isI u fun j => (-(2 ^ 60) ≤ i ∧ i < 2 ^ 60 ∧ -(2 ^ 60) ≤ j ∧ j < 2 ^ 60 ∧ j - i ≤ big) ∧ Q (intsFrom i (j - i).toNat) st2
  | .enum e, ρ, st, Q => wpE e ρ st fun v st1 => (match v with
    | .tup vs => Q (numb 0 vs) st1
    | .lst vs => Q (numb 0 vs) st1
    | _ => False)
end
end

structure Ends where
  nx : Env → Store → Prop
  rt : Val → Store → Prop
  bk : Env → Store → Prop
  ct : Env → Store → Prop
def wpFor (t : Tgt) (body : Env → Store → Ends → Prop) (D : Ends) : List Val → Env → Store → Prop
  | [], ρ, st => D.nx ρ st
  | v :: r, ρ, st => wpTgt t v ρ fun ρ1 => body ρ1 st ⟨fun ρ2 st2 => wpFor t body D r ρ2 st2, D.rt, D.nx, fun ρ2 st2 => wpFor t body D r ρ2 st2⟩
def wpWhile (c : Env → Store → (Bool → Store → Prop) → Prop) (body : Env → Store → Ends → Prop) (D : Ends) : Nat → Env → Store → Prop
  | 0, _, _ => False
  | n + 1, ρ, st => c ρ st fun b st1 => if b = true then body ρ st1 ⟨fun ρ2 st2 => wpWhile c body D n ρ2 st2, D.rt, D.nx, fun ρ2 st2 => wpWhile c body D n ρ2 st2⟩ else D.nx ρ st1
def onL (st : Store) (v : Val) (k : Nat → List Val → Prop) : Prop := match v with
  | .cell n => (match st.get n with
    | some (.lst vs false) => k n vs
    | _ => False)
  | _ => False
def wpItem (o i v : Val) (st : Store) (k : Store → Prop) : Prop := match o with
  | .cell n => (match st.get n with
    | some (.lst vs false) => isI i fun z => onO (ixN vs.length z) fun j => k (st.set n (.lst (vs.set j v) false))
    | _ => False)
  | _ => False
section
variable (Φ : FnSem) (X : XPost)
mutual
def wpS : S → Env → Store → Ends → Prop
  | .set i e, ρ, st, D => wpE Φ X e ρ st fun v st1 => i < ρ.length ∧ D.nx (ρ.set i (some v)) st1
  | .asg t e, ρ, st, D => wpE Φ X e ρ st fun v st1 => wpTgt t v ρ fun ρ1 => D.nx ρ1 st1
  | .item o i e, ρ, st, D => wpE Φ X e ρ st fun v st1 => wpE Φ X o ρ st1 fun u st2 => wpE Φ X i ρ st2 fun z st3 => wpItem u z v st3 fun st4 => D.nx ρ st4
  | .fld i c f e, ρ, st, D => wpE Φ X e ρ st fun v st1 => getv ρ i fun o => (match o with
    | .cell n => (match st1.get n with
      | some (.ins d fs) => d = c ∧ fs.length < 900 ∧ D.nx ρ (st1.set n (.ins c (putF f v fs)))
      | _ => False)
    | _ => False)
  | .aug i e, ρ, st, D => getv ρ i fun x => wpE Φ X e ρ st fun v st1 => isI x fun a => isI v fun b => D.nx (ρ.set i (some (.int (a + b)))) st1
  | .ifs c a b, ρ, st, D => wpE Φ X c ρ st fun v st1 => truth st1 v fun d => if d = true then wpSL a ρ st1 D else wpSL b ρ st1 D
  | .for_ s t b, ρ, st, D => wpSrc Φ X s ρ st fun vs st1 => wpFor t (fun ρ1 st2 D1 => wpSL b ρ1 st2 D1) D vs ρ st1
  | .while_ c b, ρ, st, D => ∃ n, wpWhile (fun ρ1 st1 k => wpE Φ X c ρ1 st1 fun v st2 => truth st2 v fun d => k d st2) (fun ρ1 st2 D1 => wpSL b ρ1 st2 D1) D n ρ st
  | .ret e, ρ, st, D => wpE Φ X e ρ st D.rt
  | .retN, _, st, D => D.rt .non st
  | .brk, ρ, st, D => D.bk ρ st
  | .cnt, ρ, st, D => D.ct ρ st
  | .pass, ρ, st, D => D.nx ρ st
  | .ex e, ρ, st, D => wpE Φ X e ρ st fun _ st1 => D.nx ρ st1
  | .append o e, ρ, st, D => wpE Φ X o ρ st fun u st1 => onL st1 u fun _ _ => wpE Φ X e ρ st1 fun v st2 => onL st2 u fun n vs => vs.length < big ∧ D.nx ρ (st2.set n (.lst (vs ++ [v]) false))
  | .extend o e, ρ, st, D => wpE Φ X o ρ st fun u st1 => onL st1 u fun _ _ => wpE Φ X e ρ st1 fun v st2 => onL st2 u fun n vs => (match v with
    | .lst ws => vs.length + ws.length ≤ big ∧ D.nx ρ (st2.set n (.lst (vs ++ ws) false))
    | _ => False)
  | .raise c e, ρ, st, _ => wpE Φ X e ρ st fun v st1 => X c v st1
  | .die, _, _, _ => False
def wpSL : SL → Env → Store → Ends → Prop
  | .nil, ρ, st, D => D.nx ρ st
  | .cons s r, ρ, st, D => wpS s ρ st { D with nx := fun ρ1 st1 => wpSL r ρ1 st1 D }
end
end
def start (fd : FD) (vs : List Val) : Env := vs.map some ++ List.replicate (fd.slots - vs.length) none
def Fn (T : Nat → Option FD) : Nat → FnSem
  | 0 => fun _ _ _ _ _ => False
  | k + 1 => fun f vs st Q X => match T f with
    | some fd => vs.length = fd.arity ∧ wpSL (Fn T k) X fd.body (start fd vs) st ⟨fun _ st1 => Q .non st1, Q, fun _ _ => False, fun _ _ => False⟩
    | none => False
end VM

namespace VM
def MonoF (Φ : FnSem) : Prop := ∀ f vs st (Q Q' : Post) X, Φ f vs st Q X → (∀ v st, Q v st → Q' v st) → Φ f vs st Q' X
theorem getv_mono : ∀ {ρ : Env} {i : Nat} {k k' : Val → Prop}, getv ρ i k → (∀ v, k v → k' v) → getv ρ i k'
  | some v :: _, 0, _, _, h, m => m v h
  | none :: _, 0, _, _, h, _ => h.elim
  | some _ :: r, n + 1, _, _, h, m => getv_mono (ρ := r) (i := n) h m
  | none :: r, n + 1, _, _, h, m => getv_mono (ρ := r) (i := n) h m
  | [], _, _, _, h, _ => by simp only [getv] at h
theorem getv_iff : ∀ {ρ : Env} {i : Nat} {k : Val → Prop}, getv ρ i k ↔ ∃ v, ρ[i]? = some (some v) ∧ k v
  | some v :: _, 0, _ => by simp [getv]
  | none :: _, 0, _ => by simp [getv]
  | some _ :: r, n + 1, k => by
    have := getv_iff (ρ := r) (i := n) (k := k)
    simpa [getv] using this
  | none :: r, n + 1, k => by
    have := getv_iff (ρ := r) (i := n) (k := k)
    simpa [getv] using this
  | [], _, _ => by simp [getv]
theorem isB_mono {v : Val} {k k' : Bool → Prop} (h : isB v k) (m : ∀ b, k b → k' b) : isB v k' := by
  cases v <;> first | exact m _ h | exact h
theorem isI_mono {v : Val} {k k' : Int → Prop} (h : isI v k) (m : ∀ b, k b → k' b) : isI v k' := by
  cases v <;> first | exact m _ h | exact h
theorem isT_mono {v : Val} {k k' : List Val → Prop} (h : isT v k) (m : ∀ b, k b → k' b) : isT v k' := by
  cases v <;> first | exact m _ h | exact h
theorem onO_mono {α : Type} {o : Option α} {k k' : α → Prop} (h : onO o k) (m : ∀ b, k b → k' b) : onO o k' := by
  cases o <;> first | exact m _ h | exact h
theorem onO_iff {α : Type} {o : Option α} {k : α → Prop} : onO o k ↔ ∃ x, o = some x ∧ k x := by
  cases o <;> simp [onO]
theorem binI_mono {op : BOp} {i j : Int} {k k' : Int → Prop} (h : binI op i j k) (m : ∀ b, k b → k' b) : binI op i j k' := by
  cases op
  case add => exact m _ h
  case sub => exact m _ h
  case mul => exact ⟨h.1, m _ h.2⟩
  case mod => exact ⟨h.1, m _ h.2⟩
  case fdiv => exact ⟨h.1, h.2.1, m _ h.2.2⟩
  case pow => exact ⟨h.1, h.2.1, h.2.2.1, m _ h.2.2.2⟩
theorem wpBin_mono {op : BOp} {a b : Val} {st : Store} {Q Q' : Post} (h : wpBin op a b st Q) (m : ∀ v st, Q v st → Q' v st) : wpBin op a b st Q' := by
  unfold wpBin at h ⊢
  split at h
  · exact binI_mono h fun n h => m _ _ h
  all_goals first | exact h.elim | (split at h <;> first | exact h.elim | exact ⟨h.1, h.2.1, m _ _ h.2.2⟩ | exact ⟨h.1, h.2.1, h.2.2.1, m _ _ h.2.2.2⟩ | exact ⟨h.1, m _ _ h.2⟩ | exact ⟨h.1, h.2.1, h.2.2.1, h.2.2.2.1, m _ _ h.2.2.2.2⟩)
theorem wpEq_mono {a b : Val} {k k' : Bool → Prop} (h : wpEq a b k) (m : ∀ b, k b → k' b) : wpEq a b k' := by
  unfold wpEq at h ⊢
  split at h <;> first | exact m _ h | exact ⟨h.1, h.2.1, m _ h.2.2⟩
theorem wpMem_mono {x y : Val} {st : Store} {k k' : Bool → Prop} (h : wpMem x y st k) (m : ∀ b, k b → k' b) : wpMem x y st k' := by
  unfold wpMem at h ⊢
  split at h
  · exact ⟨h.1, h.2.1, m _ h.2.2⟩
  · exact onO_mono h fun vs h => ⟨h.1, h.2.1, m _ h.2.2⟩
theorem cmpI_mono {op : COp} {i j : Int} {k k' : Bool → Prop} (h : cmpI op i j k) (m : ∀ b, k b → k' b) : cmpI op i j k' := by
  cases op <;> first | exact m _ h | exact h
theorem wpCmp_mono {op : COp} {a b : Val} {st : Store} {k k' : Bool → Prop} (h : wpCmp op a b st k) (m : ∀ b, k b → k' b) : wpCmp op a b st k' := by
  cases op
  case eq => exact wpEq_mono (k := k) h m
  case ne => exact wpEq_mono (k := fun c => k (!c)) h fun b => m _
  case isN => exact ⟨h.1, m _ h.2⟩
  case notN => exact ⟨h.1, m _ h.2⟩
  case mem => exact wpMem_mono (k := k) h m
  case nmem => exact wpMem_mono (k := fun c => k (!c)) h fun b => m _
  all_goals exact isI_mono h fun i h => isI_mono h fun j h => cmpI_mono h m
theorem wpSub_mono {a b : Val} {st : Store} {Q Q' : Post} (h : wpSub a b st Q) (m : ∀ v st, Q v st → Q' v st) : wpSub a b st Q' :=
  onO_mono h fun vs h => isI_mono h fun i h => onO_mono h fun v h => m _ _ h
theorem wpSlice_mono {a : Val} {lo hi : Option Int} {st : Store} {Q Q' : Post} (h : wpSlice a lo hi st Q) (m : ∀ v st, Q v st → Q' v st) : wpSlice a lo hi st Q' := by
  unfold wpSlice at h ⊢
  split at h
  · exact ⟨h.1, m _ _ h.2⟩
  · exact m _ _ h
  · exact onO_mono h fun vs h => m _ _ h
theorem wpB1_mono {b : B1} {v : Val} {st : Store} {Q Q' : Post} (h : wpB1 b v st Q) (m : ∀ v st, Q v st → Q' v st) : wpB1 b v st Q' := by
  cases b
  case len =>
    simp only [wpB1] at h ⊢
    split at h
    · exact ⟨h.1, m _ _ h.2⟩
    · exact m _ _ h
    · exact onO_mono h fun vs h => m _ _ h
  case sum => exact onO_mono h fun vs h => onO_mono h fun ns h => m _ _ h
  case all => exact onO_mono h fun vs h => onO_mono h fun ns h => m _ _ h
  case any => exact onO_mono h fun vs h => onO_mono h fun ns h => m _ _ h
  case tuple => exact onO_mono h fun vs h => m _ _ h
  case list => exact onO_mono h fun vs h => m _ _ h
  case int => exact isI_mono h fun vs h => m _ _ h
  case max => exact onO_mono h fun vs h => onO_mono h fun ns h => ⟨h.1, m _ _ h.2⟩
  case min => exact onO_mono h fun vs h => onO_mono h fun ns h => ⟨h.1, m _ _ h.2⟩
  all_goals exact h
theorem wpB2_mono {b : B2} {v u : Val} {st : Store} {Q Q' : Post} (h : wpB2 b v u st Q) (m : ∀ v st, Q v st → Q' v st) : wpB2 b v u st Q' :=
  isI_mono h fun i h => isI_mono h fun j h => by
    cases b <;> exact m _ _ h
theorem wpFrz_mono {v : Val} {st : Store} {Q Q' : Post} (h : wpFrz v st Q) (m : ∀ v st, Q v st → Q' v st) : wpFrz v st Q' := by
  unfold wpFrz at h ⊢
  split at h
  · split at h
    · exact m _ _ h
    · exact h
  · exact h
theorem wpPop_mono {v : Val} {st : Store} {Q Q' : Post} (h : wpPop v st Q) (m : ∀ v st, Q v st → Q' v st) : wpPop v st Q' := by
  unfold wpPop at h ⊢
  split at h
  · split at h
    · exact onO_mono h fun x h => m _ _ h
    · exact h
  · exact h
theorem truth_mono {st : Store} {v : Val} {k k' : Bool → Prop} (h : truth st v k) (m : ∀ b, k b → k' b) : truth st v k' := by
  unfold truth at h ⊢
  split at h
  · exact m _ h
  · exact onO_mono h fun x h => m _ h
theorem wpTgt_mono : ∀ {t : Tgt} {v : Val} {ρ : Env} {k k' : Env → Prop}, wpTgt t v ρ k → (∀ ρ, k ρ → k' ρ) → wpTgt t v ρ k'
  | .name i, v, ρ, k, k', h, m => ⟨h.1, m _ h.2⟩
  | .nil, v, ρ, k, k', h, m => isT_mono h fun vs h => ⟨h.1, m _ h.2⟩
  | .cons t r, v, ρ, k, k', h, m => by
    simp only [wpTgt] at h ⊢
    split at h
    · exact wpTgt_mono h fun ρ1 h => wpTgt_mono h m
    · exact h
theorem wpTurns_mono {s s' : Val → Store → (Option Val → Store → Prop) → Prop} (hs : ∀ v st (k k' : Option Val → Store → Prop), s v st k → (∀ o st, k o st → k' o st) → s' v st k') :
    ∀ {vs acc : List Val} {st : Store} {k k' : List Val → Store → Prop}, wpTurns s vs acc st k → (∀ vs st, k vs st → k' vs st) → wpTurns s' vs acc st k'
  | [], acc, st, k, k', h, m => m _ _ h
  | v :: r, acc, st, k, k', h, m => by
    refine hs v st _ _ h fun o st1 h => ?_
    cases o with
    | some x => exact wpTurns_mono hs (vs := r) h m
    | none => exact wpTurns_mono hs (vs := r) h m
section
variable {Φ : FnSem} {X : XPost} (hΦ : MonoF Φ)
include hΦ
mutual
theorem wpE_mono : ∀ {e : E} {ρ : Env} {st : Store} {Q Q' : Post}, wpE Φ X e ρ st Q → (∀ v st, Q v st → Q' v st) → wpE Φ X e ρ st Q'
  | .var i, ρ, st, Q, Q', h, m => getv_mono (k := fun v => Q v st) h fun v => m _ _
  | .con v, ρ, st, Q, Q', h, m => m _ _ h
  | .glb _ v, ρ, st, Q, Q', h, m => m _ _ h
  | .tup es, ρ, st, Q, Q', h, m => wpEL_mono (es := es) h fun vs st1 h => m _ _ h
  | .lst es, ρ, st, Q, Q', h, m => wpEL_mono (es := es) h fun vs st1 h => m _ _ h
  | .nlst es, ρ, st, Q, Q', h, m => wpEL_mono (es := es) h fun vs st1 h => m _ _ h
  | .lstar es, ρ, st, Q, Q', h, m => wpStar_mono (es := es) h fun vs st1 h => ⟨h.1, m _ _ h.2⟩
  | .and a b, ρ, st, Q, Q', h, m => wpE_mono (e := a) h fun v st1 h => isB_mono h fun c h => by
      cases c
      · exact m _ _ h
      · exact wpE_mono (e := b) (Q := Q) h m
  | .or a b, ρ, st, Q, Q', h, m => wpE_mono (e := a) h fun v st1 h => isB_mono h fun c h => by
      cases c
      · exact wpE_mono (e := b) (Q := Q) h m
      · exact m _ _ h
  | .not a, ρ, st, Q, Q', h, m => wpE_mono (e := a) h fun v st1 h => isB_mono h fun c h => m _ _ h
  | .neg a, ρ, st, Q, Q', h, m => wpE_mono (e := a) h fun v st1 h => isI_mono h fun c h => m _ _ h
  | .bin op a b, ρ, st, Q, Q', h, m => wpE_mono (e := a) h fun v st1 h => wpE_mono (e := b) h fun u st2 h => wpBin_mono h m
  | .cmp op a b, ρ, st, Q, Q', h, m => wpE_mono (e := a) h fun v st1 h => wpE_mono (e := b) h fun u st2 h => wpCmp_mono h fun c h => m _ _ h
  | .chain p q a b c, ρ, st, Q, Q', h, m => wpE_mono (e := a) h fun v st1 h => wpE_mono (e := b) h fun u st2 h => wpCmp_mono h fun d h => by
      cases d
      · exact m _ _ h
      · exact wpE_mono (e := c) h fun w st3 h => wpCmp_mono h fun d h => m _ _ h
  | .ite c a b, ρ, st, Q, Q', h, m => wpE_mono (e := c) h fun v st1 h => truth_mono h fun d h => by
      cases d
      · exact wpE_mono (e := b) (Q := Q) h m
      · exact wpE_mono (e := a) (Q := Q) h m
  | .sub a b, ρ, st, Q, Q', h, m => wpE_mono (e := a) h fun v st1 h => wpE_mono (e := b) h fun u st2 h => wpSub_mono h m
  | .slice a lo hi, ρ, st, Q, Q', h, m => wpE_mono (e := a) h fun v st1 h => wpEO_mono (e := lo) h fun l st2 h => wpEO_mono (e := hi) h fun u st3 h => wpSlice_mono h m
  | .prop c f a, ρ, st, Q, Q', h, m => wpE_mono (e := a) h fun v st1 h => by
      cases v <;> first | exact ⟨h.1, hΦ _ _ _ _ _ _ h.2 m⟩ | exact h
  | .fld c f a, ρ, st, Q, Q', h, m => wpE_mono (e := a) h fun v st1 h => onO_mono h fun fs h => onO_mono h fun u h => m _ _ h
  | .call f es, ρ, st, Q, Q', h, m => wpEL_mono (es := es) h fun vs st1 h => hΦ _ _ _ _ _ _ h m
  | .make c f es, ρ, st, Q, Q', h, m => wpEL_mono (es := es) h fun vs st1 h => hΦ _ _ _ _ _ _ h fun v st2 h => by
      split at h
      · exact ⟨h.1, h.2.1, m _ _ h.2.2⟩
      · exact h
  | .makeK c f es e, ρ, st, Q, Q', h, m => wpEL_mono (es := es) h fun vs st0 h => wpE_mono (e := e) h fun u st1 h => hΦ _ _ _ _ _ _ h fun v st2 h => by
      split at h
      · exact ⟨h.1, h.2.1, m _ _ h.2.2⟩
      · exact h
  | .meth c f a es, ρ, st, Q, Q', h, m => wpE_mono (e := a) h fun v st1 h => by
      cases v <;> first | exact ⟨h.1, wpEL_mono (es := es) h.2 fun vs st2 h => hΦ _ _ _ _ _ _ h m⟩ | exact h
  | .bi1 b a, ρ, st, Q, Q', h, m => wpE_mono (e := a) h fun v st1 h => wpB1_mono h m
  | .bi2 b a c, ρ, st, Q, Q', h, m => wpE_mono (e := a) h fun v st1 h => wpE_mono (e := c) h fun u st2 h => wpB2_mono h m
  | .isin t a, ρ, st, Q, Q', h, m => wpE_mono (e := a) h fun v st1 h => onO_mono h fun b h => m _ _ h
  | .comp own s t c e, ρ, st, Q, Q', h, m => by
    simp only [wpE] at h ⊢
    refine wpSrc_mono (s := s) h fun vs st1 h => ?_
    refine wpTurns_mono ?_ h fun out st2 h => m _ _ h
    intro v st2 k k' h m
    refine wpTgt_mono h fun ρ1 h => ?_
    refine wpC_mono (e := c) h fun d st3 h => ?_
    cases d
    · exact m _ _ h
    · simp only [if_true] at h ⊢
      exact wpE_mono (e := e) h fun x st4 h => m _ _ h
  | .frz a, ρ, st, Q, Q', h, m => wpE_mono (e := a) h fun v st1 h => wpFrz_mono h m
  | .pop a, ρ, st, Q, Q', h, m => wpE_mono (e := a) h fun v st1 h => wpPop_mono h m
theorem wpEL_mono : ∀ {es : EL} {ρ : Env} {st : Store} {Q Q' : List Val → Store → Prop}, wpEL Φ X es ρ st Q → (∀ v st, Q v st → Q' v st) → wpEL Φ X es ρ st Q'
  | .nil, ρ, st, Q, Q', h, m => m _ _ h
  | .cons e r, ρ, st, Q, Q', h, m => wpE_mono (e := e) h fun v st1 h => wpEL_mono (es := r) h fun vs st2 h => m _ _ h
theorem wpStar_mono : ∀ {es : EL} {ρ : Env} {st : Store} {Q Q' : List Val → Store → Prop}, wpStar Φ X es ρ st Q → (∀ v st, Q v st → Q' v st) → wpStar Φ X es ρ st Q'
  | .nil, ρ, st, Q, Q', h, m => m _ _ h
  | .cons e r, ρ, st, Q, Q', h, m => wpE_mono (e := e) h fun v st1 h => onO_mono h fun xs h => wpStar_mono (es := r) h fun vs st2 h => m _ _ h
theorem wpEO_mono : ∀ {e : EO} {ρ : Env} {st : Store} {Q Q' : Option Int → Store → Prop}, wpEO Φ X e ρ st Q → (∀ v st, Q v st → Q' v st) → wpEO Φ X e ρ st Q'
  | .no, ρ, st, Q, Q', h, m => m _ _ h
  | .yes e, ρ, st, Q, Q', h, m => wpE_mono (e := e) h fun v st1 h => isI_mono h fun i h => m _ _ h
theorem wpC_mono : ∀ {e : EO} {ρ : Env} {st : Store} {Q Q' : Bool → Store → Prop}, wpC Φ X e ρ st Q → (∀ v st, Q v st → Q' v st) → wpC Φ X e ρ st Q'
  | .no, ρ, st, Q, Q', h, m => m _ _ h
  | .yes e, ρ, st, Q, Q', h, m => wpE_mono (e := e) h fun v st1 h => truth_mono h fun i h => m _ _ h
theorem wpSrc_mono : ∀ {s : Src} {ρ : Env} {st : Store} {Q Q' : List Val → Store → Prop}, wpSrc Φ X s ρ st Q → (∀ v st, Q v st → Q' v st) → wpSrc Φ X s ρ st Q'
  | .seq e, ρ, st, Q, Q', h, m => wpE_mono (e := e) h fun v st1 h => by
      cases v <;> first | exact m _ _ h | exact h
  | .rng1 e, ρ, st, Q, Q', h, m => wpE_mono (e := e) h fun v st1 h => isI_mono h fun i h => ⟨h.1, h.2.1, m _ _ h.2.2⟩
  | .rng2 a b, ρ, st, Q, Q', h, m => wpE_mono (e := a) h fun v st1 h => wpE_mono (e := b) h fun v st1 h => isI_mono h fun i h => isI_mono h fun j h => ⟨h.1, m _ _ h.2⟩
  | .enum e, ρ, st, Q, Q', h, m => wpE_mono (e := e) h fun v st1 h => by
      cases v <;> first | exact m _ _ h | exact h
end
end
structure Ends.Le (D D' : Ends) : Prop where
  nx : ∀ ρ st, D.nx ρ st → D'.nx ρ st
  rt : ∀ v st, D.rt v st → D'.rt v st
  bk : ∀ ρ st, D.bk ρ st → D'.bk ρ st
  ct : ∀ ρ st, D.ct ρ st → D'.ct ρ st
theorem wpFor_mono {t : Tgt} {b b' : Env → Store → Ends → Prop} (hb : ∀ ρ st D D', Ends.Le D D' → b ρ st D → b' ρ st D') {D D' : Ends} (d : Ends.Le D D') :
    ∀ {vs : List Val} {ρ : Env} {st : Store}, wpFor t b D vs ρ st → wpFor t b' D' vs ρ st
  | [], ρ, st, h => d.nx _ _ h
  | v :: r, ρ, st, h => wpTgt_mono h fun ρ1 h => by
    refine hb _ _ _ _ ?_ h
    exact ⟨fun ρ st h => wpFor_mono hb d (vs := r) h, d.rt, d.nx, fun ρ st h => wpFor_mono hb d (vs := r) h⟩
theorem wpWhile_mono {c c' : Env → Store → (Bool → Store → Prop) → Prop} {b b' : Env → Store → Ends → Prop} (hc : ∀ ρ st k k', c ρ st k → (∀ b st, k b st → k' b st) → c' ρ st k') (hb : ∀ ρ st D D', Ends.Le D D' → b ρ st D → b' ρ st D') {D D' : Ends} (d : Ends.Le D D') :
    ∀ {n : Nat} {ρ : Env} {st : Store}, wpWhile c b D n ρ st → wpWhile c' b' D' n ρ st
  | 0, ρ, st, h => h
  | n + 1, ρ, st, h => hc _ _ _ _ h fun t st1 h => by
    cases t
    · exact d.nx _ _ h
    · refine hb _ _ _ _ ?_ h
      exact ⟨fun ρ st h => wpWhile_mono hc hb d (n := n) h, d.rt, d.nx, fun ρ st h => wpWhile_mono hc hb d (n := n) h⟩
theorem onL_mono {st : Store} {v : Val} {k k' : Nat → List Val → Prop} (h : onL st v k) (m : ∀ n vs, k n vs → k' n vs) : onL st v k' := by
  unfold onL at h ⊢
  split at h
  · split at h
    · exact m _ _ h
    · exact h
  · exact h
theorem wpItem_mono {o i v : Val} {st : Store} {k k' : Store → Prop} (h : wpItem o i v st k) (m : ∀ st, k st → k' st) : wpItem o i v st k' := by
  unfold wpItem at h ⊢
  split at h
  · split at h
    · exact isI_mono h fun z h => onO_mono h fun j h => m _ h
    · exact h
  · exact h
section
variable {Φ : FnSem} {X : XPost} (hΦ : MonoF Φ)
include hΦ
mutual
theorem wpS_mono : ∀ {s : S} {ρ : Env} {st : Store} {D D' : Ends}, wpS Φ X s ρ st D → Ends.Le D D' → wpS Φ X s ρ st D'
  | .set i e, ρ, st, D, D', h, m => wpE_mono hΦ (e := e) h fun v st1 h => ⟨h.1, m.nx _ _ h.2⟩
  | .asg t e, ρ, st, D, D', h, m => wpE_mono hΦ (e := e) h fun v st1 h => wpTgt_mono h fun ρ1 h => m.nx _ _ h
  | .item o i e, ρ, st, D, D', h, m => wpE_mono hΦ (e := e) h fun v st1 h => wpE_mono hΦ (e := o) h fun u st2 h => wpE_mono hΦ (e := i) h fun z st3 h => wpItem_mono h fun st h => m.nx _ _ h
  | .fld i c f e, ρ, st, D, D', h, m => wpE_mono hΦ (e := e) h fun v st1 h => getv_mono h fun o h => by
      split at h
      · split at h
        · exact ⟨h.1, h.2.1, m.nx _ _ h.2.2⟩
        · exact h
      · exact h
  | .aug i e, ρ, st, D, D', h, m => getv_mono h fun x h => wpE_mono hΦ (e := e) h fun v st1 h => isI_mono h fun a h => isI_mono h fun b h => m.nx _ _ h
  | .ifs c a b, ρ, st, D, D', h, m => wpE_mono hΦ (e := c) h fun v st1 h => truth_mono h fun d h => by
      cases d
      · exact wpSL_mono (s := b) (D := D) h m
      · exact wpSL_mono (s := a) (D := D) h m
  | .for_ s t b, ρ, st, D, D', h, m => by
    simp only [wpS] at h ⊢
    refine wpSrc_mono hΦ (s := s) h fun vs st1 h => ?_
    refine wpFor_mono ?_ m h
    intro ρ st D D' d h
    exact wpSL_mono (s := b) h d
  | .while_ c b, ρ, st, D, D', h, m => by
    simp only [wpS] at h ⊢
    obtain ⟨n, h⟩ := h
    refine ⟨n, wpWhile_mono ?_ ?_ m h⟩
    · intro ρ st k k' h m
      exact wpE_mono hΦ (e := c) h fun v st1 h => truth_mono h fun d h => m _ _ h
    · intro ρ st D D' d h
      exact wpSL_mono (s := b) h d
  | .ret e, ρ, st, D, D', h, m => wpE_mono hΦ (e := e) (Q := D.rt) h m.rt
  | .retN, ρ, st, D, D', h, m => m.rt _ _ h
  | .brk, ρ, st, D, D', h, m => m.bk _ _ h
  | .cnt, ρ, st, D, D', h, m => m.ct _ _ h
  | .pass, ρ, st, D, D', h, m => m.nx _ _ h
  | .ex e, ρ, st, D, D', h, m => wpE_mono hΦ (e := e) h fun v st1 h => m.nx _ _ h
  | .append o e, ρ, st, D, D', h, m => wpE_mono hΦ (e := o) h fun v st1 h => onL_mono h fun _ _ h => wpE_mono hΦ (e := e) h fun v st1 h => onL_mono h fun n vs h => ⟨h.1, m.nx _ _ h.2⟩
  | .extend o e, ρ, st, D, D', h, m => wpE_mono hΦ (e := o) h fun v st1 h => onL_mono h fun _ _ h => wpE_mono hΦ (e := e) h fun v st1 h => onL_mono h fun n vs h => by
      cases v <;> first | exact ⟨h.1, m.nx _ _ h.2⟩ | exact h
  | .raise c e, ρ, st, D, D', h, m => h
  | .die, ρ, st, D, D', h, m => h
theorem wpSL_mono : ∀ {s : SL} {ρ : Env} {st : Store} {D D' : Ends}, wpSL Φ X s ρ st D → Ends.Le D D' → wpSL Φ X s ρ st D'
  | .nil, ρ, st, D, D', h, m => m.nx _ _ h
  | .cons s r, ρ, st, D, D', h, m => wpS_mono (s := s) (D := { D with nx := fun ρ1 st1 => wpSL Φ X r ρ1 st1 D }) (D' := { D' with nx := fun ρ1 st1 => wpSL Φ X r ρ1 st1 D' }) h ⟨fun ρ st h => wpSL_mono (s := r) (D := D) h m, m.rt, m.bk, m.ct⟩
end
end
theorem Fn_mono (T : Nat → Option FD) : ∀ k, MonoF (Fn T k)
  | 0, f, vs, st, Q, Q', X, h, m => h
  | k + 1, f, vs, st, Q, Q', X, h, m => by
    simp only [Fn] at h ⊢
    split at h
    · exact ⟨h.1, wpSL_mono (Fn_mono T k) h.2 ⟨fun ρ st h => m _ _ h, m, fun _ _ h => h, fun _ _ h => h⟩⟩
    · exact h
end VM

/-! The small machine's runs are runs of the program: values, the store and the heap. -/
namespace VM
open PySem PySem.Spec PyProof.Rows L2
/-- the names of functions, classes, fields, constants, by number; what stands in this text -/
structure Nm where
  fname : Nat → Str
  cname : Nat → Str
  fld : Nat → Str
  gname : Nat → Str
  gval : Nat → Option Int
  has : Nat → Bool
  glob : Nat → Bool
  met : Nat → Nat → Bool
  prp : Nat → Nat → Bool
  mak : Nat → Nat → Bool
  makK : Nat → Nat → Bool
  pos : Nat → Bool
  cl : Nat → Bool
  nof : Nat → Nat → Bool
  arity : Nat → Nat
  kwn : Nat → Str
/-- the module: its text, its written part -/
structure Md where
  P : Program
  w : World
  K : PySem.W.Frag
  mg : Str → Option Value
  base : Heap
  nm : Nm
  cls : Nat → Addr
  fa : Nat → Addr
  fd : Nat → FuncData
  fps : Nat → List Str
/-- where the cells stand; what is hidden (a list that a comprehension fills) -/
structure Io where
  at_ : Nat → Addr
  hid : Addr → Prop
/-- a list of the module's own -/
def SqK (K : PySem.W.Frag) (a : Addr) (xs : List V) : Prop :=
  ∃ (o : Obj) (its : Array Value) (n : Nat), K.lookup a = some o ∧ o.cls = .type "list" ∧ o.dict = none ∧ o.data = .seq its n ∧ its.size ≤ sizeLine ∧ Vals xs its.toList
/-- no live cell stands there, and it is not hidden -/
def Noc (i : Io) (st : Store) (p : Addr) : Prop := (∀ n c, st.get n = some c → i.at_ n ≠ p) ∧ ¬ i.hid p
section
variable (M : Md) (i : Io) (st : Store) (H : Hp)
mutual
def Rep : Val → V → Prop
  | .non, a => a = .non
  | .bool b, a => a = .bl b
  | .int n, a => a = .int n
  | .str s, a => a = .str s
  | .tup vs, a => ∃ p xs, a = .ref p ∧ H p = some (.tup xs) ∧ Noc i st p ∧ RepL vs xs
  | .lst vs, a => ∃ p xs, a = .ref p ∧ H p = some (.lst xs) ∧ Noc i st p ∧ RepL vs xs
  | .dct _, _ => False
  | .obj c fs, a => ∃ p dx gs, a = .ref p ∧ H p = some (.ins (M.cls c) dx gs) ∧ Noc i st p ∧ RepF fs gs
  | .cell n, a => a = .ref (i.at_ n) ∧ n < st.next
  | .rng _ _, _ => False
  | .scr ns, a => ∃ p, a = .ref p ∧ ((∃ u, H p = some u ∧ (u = .lst (ns.map V.int) ∨ ∃ o, u = .frz o (.lst (ns.map V.int))) ∧ Noc i st p) ∨ SqK M.K p (ns.map V.int))
def RepL : List Val → List V → Prop
  | [], xs => xs = []
  | v :: vs, xs => ∃ a r, xs = a :: r ∧ Rep v a ∧ RepL vs r
def RepF : List (Nat × Val) → List (Str × V) → Prop
  | [], gs => gs = []
  | (f, v) :: r, gs => ∃ a t, gs = (M.nm.fld f, a) :: t ∧ Rep v a ∧ RepF r t
end
end
/-- what stood and is no cell stands -/
structure Kp (i : Io) (st : Store) (H : Hp) (j : Io) (su : Store) (G : Hp) : Prop where
  next : st.next ≤ su.next
  io : ∀ n, n < st.next → j.at_ n = i.at_ n
  keep : ∀ p u, H p = some u → Noc i st p → G p = some u ∧ Noc j su p
/-- .. and what is hidden stands -/
structure Ext (i : Io) (st : Store) (H : Hp) (j : Io) (su : Store) (G : Hp) : Prop extends Kp i st H j su G where
  hidk : ∀ p u, i.hid p → H p = some u → G p = some u ∧ j.hid p
theorem Kp.refl (i : Io) (st : Store) (H : Hp) : Kp i st H i st H := ⟨Nat.le_refl _, fun _ _ => rfl, fun _ _ h n => ⟨h, n⟩⟩
theorem Kp.trans {i j k : Io} {st su sv : Store} {H G F : Hp} (a : Kp i st H j su G) (b : Kp j su G k sv F) : Kp i st H k sv F :=
  ⟨Nat.le_trans a.next b.next, fun n h => (b.io n (Nat.lt_of_lt_of_le h a.next)).trans (a.io n h), fun p u h n => by
    obtain ⟨h1, n1⟩ := a.keep p u h n
    exact b.keep p u h1 n1⟩
theorem Ext.refl (i : Io) (st : Store) (H : Hp) : Ext i st H i st H := ⟨Kp.refl .., fun _ _ a b => ⟨b, a⟩⟩
theorem Ext.trans {i j k : Io} {st su sv : Store} {H G F : Hp} (a : Ext i st H j su G) (b : Ext j su G k sv F) : Ext i st H k sv F :=
  ⟨a.toKp.trans b.toKp, fun p u h q => by
    obtain ⟨h1, n1⟩ := a.hidk p u h q
    exact b.hidk p u n1 h1⟩
section
variable {M : Md} {i j : Io} {st su : Store} {H G : Hp}
mutual
theorem Rep.kp (e : Kp i st H j su G) : ∀ {v : Val} {a : V}, Rep M i st H v a → Rep M j su G v a
  | .non, _, h => by simpa only [Rep] using h
  | .bool _, _, h => by simpa only [Rep] using h
  | .int _, _, h => by simpa only [Rep] using h
  | .str _, _, h => by simpa only [Rep] using h
  | .tup vs, a, h => by
    simp only [Rep] at h ⊢
    obtain ⟨p, xs, r, h1, n, h2⟩ := h
    obtain ⟨k1, k2⟩ := e.keep _ _ h1 n
    exact ⟨p, xs, r, k1, k2, RepL.kp e h2⟩
  | .lst vs, a, h => by
    simp only [Rep] at h ⊢
    obtain ⟨p, xs, r, h1, n, h2⟩ := h
    obtain ⟨k1, k2⟩ := e.keep _ _ h1 n
    exact ⟨p, xs, r, k1, k2, RepL.kp e h2⟩
  | .dct _, _, h => by simp only [Rep] at h
  | .obj c fs, a, h => by
    simp only [Rep] at h ⊢
    obtain ⟨p, dx, gs, r, h1, n, h2⟩ := h
    obtain ⟨k1, k2⟩ := e.keep _ _ h1 n
    exact ⟨p, dx, gs, r, k1, k2, RepF.kp e h2⟩
  | .cell n, a, h => by
    simp only [Rep] at h ⊢
    obtain ⟨r, l⟩ := h
    exact ⟨by rw [r, e.io n l], Nat.lt_of_lt_of_le l e.next⟩
  | .rng _ _, _, h => by simp only [Rep] at h
  | .scr ns, a, h => by
    simp only [Rep] at h ⊢
    obtain ⟨p, r, ⟨u, h1, h2, n⟩ | h1⟩ := h
    · obtain ⟨k1, k2⟩ := e.keep _ _ h1 n
      exact ⟨p, r, .inl ⟨u, k1, h2, k2⟩⟩
    · exact ⟨p, r, .inr h1⟩
theorem RepL.kp (e : Kp i st H j su G) : ∀ {vs : List Val} {xs : List V}, RepL M i st H vs xs → RepL M j su G vs xs
  | [], _, h => by simpa only [RepL] using h
  | v :: vs, xs, h => by
    simp only [RepL] at h ⊢
    obtain ⟨a, r, e1, h1, h2⟩ := h
    exact ⟨a, r, e1, Rep.kp e h1, RepL.kp e h2⟩
theorem RepF.kp (e : Kp i st H j su G) : ∀ {vs : List (Nat × Val)} {xs : List (Str × V)}, RepF M i st H vs xs → RepF M j su G vs xs
  | [], _, h => by simpa only [RepF] using h
  | (f, v) :: vs, xs, h => by
    simp only [RepF] at h ⊢
    obtain ⟨a, r, e1, h1, h2⟩ := h
    exact ⟨a, r, e1, Rep.kp e h1, RepF.kp e h2⟩
end
theorem Rep.ext (e : Ext i st H j su G) {v : Val} {a : V} (h : Rep M i st H v a) : Rep M j su G v a := Rep.kp e.toKp h
theorem RepL.ext (e : Ext i st H j su G) {v : List Val} {a : List V} (h : RepL M i st H v a) : RepL M j su G v a := RepL.kp e.toKp h
theorem RepF.ext (e : Ext i st H j su G) {v : List (Nat × Val)} {a : List (Str × V)} (h : RepF M i st H v a) : RepF M j su G v a := RepF.kp e.toKp h
end
end VM

namespace VM
open PySem PySem.Spec PyProof.Rows L2
/-! ### the store and the heap -/
def CellAt' (M : Md) (i : Io) (st : Store) (H : Hp) (p : Addr) : Cell → Prop
  | .lst vs _ => ∃ xs, H p = some (.lst xs) ∧ RepL M i st H vs xs
  | .dct _ _ => False
  | .ins c fs => ∃ dx gs, H p = some (.ins (M.cls c) dx gs) ∧ RepF M i st H fs gs
structure StRel (M : Md) (i : Io) (st : Store) (H : Hp) : Prop where
  lt : ∀ n c, st.get n = some c → n < st.next
  inj : ∀ n m c d, st.get n = some c → st.get m = some d → i.at_ n = i.at_ m → n = m
  cell : ∀ n c, st.get n = some c → CellAt' M i st H (i.at_ n) c
  nohid : ∀ n c, st.get n = some c → ¬ i.hid (i.at_ n)
  hidt : ∀ p, i.hid p → ∃ u, H p = some u
section
variable {M : Md} {i j : Io} {st su : Store} {H G : Hp} {p : Addr} {o : HO}
theorem CellAt'.ext (e : Kp i st H j su G) {c : Cell} (h : CellAt' M i st H p c) (hp : G p = H p) : CellAt' M j su G p c := by
  cases c with
  | lst vs lk => obtain ⟨xs, h1, h2⟩ := h; exact ⟨xs, hp.trans h1, RepL.kp e h2⟩
  | dct vs lk => exact h
  | ins c fs => obtain ⟨dx, gs, h1, h2⟩ := h; exact ⟨dx, gs, hp.trans h1, RepF.kp e h2⟩
theorem StRel.there (S : StRel M i st H) {n : Nat} {c : Cell} (h : st.get n = some c) : ∃ u, H (i.at_ n) = some u := by
  have := S.cell n c h
  cases c with
  | lst vs lk => obtain ⟨xs, h1, _⟩ := this; exact ⟨_, h1⟩
  | dct vs lk => exact this.elim
  | ins c fs => obtain ⟨dx, gs, h1, _⟩ := this; exact ⟨_, h1⟩
theorem StRel.nocN (S : StRel M i st H) (h : H p = none) : Noc i st p := by
  refine ⟨fun n c hn e => ?_, fun q => ?_⟩
  · obtain ⟨u, hu⟩ := S.there hn
    rw [e, h] at hu
    cases hu
  · obtain ⟨u, hu⟩ := S.hidt p q
    rw [h] at hu
    cases hu
/-- a new thing, no cell -/
theorem Ext.new (S : StRel M i st H) (hp : H p = none) : Ext i st H i st (upd H p o) :=
  ⟨⟨Nat.le_refl _, fun _ _ => rfl, fun q u h n => ⟨by rw [upd_ne (ne_of_none h hp)]; exact h, n⟩⟩, fun q u a h => ⟨by rw [upd_ne (ne_of_none h hp)]; exact h, a⟩⟩
theorem upd_there {q : Addr} (h : ∃ u, H q = some u) : ∃ u, upd H p o q = some u := by
  by_cases z : q = p
  · exact ⟨o, by rw [z]; exact upd_same⟩
  · rw [upd_ne z]; exact h
theorem StRel.new (S : StRel M i st H) (hp : H p = none) : StRel M i st (upd H p o) :=
  ⟨S.lt, S.inj, fun n c h => (S.cell n c h).ext (Ext.new S hp).toKp (by
    obtain ⟨u, hu⟩ := S.there h
    exact upd_ne (ne_of_none hu hp)), S.nohid, fun q a => upd_there (S.hidt q a)⟩
def ioSet (i : Io) (n : Nat) (p : Addr) : Io := ⟨fun m => if m = n then p else i.at_ m, i.hid⟩
theorem ioSet_same {n : Nat} : (ioSet i n p).at_ n = p := if_pos rfl
theorem ioSet_ne {n m : Nat} (h : m ≠ n) : (ioSet i n p).at_ m = i.at_ m := if_neg h
/-- a new cell -/
theorem Ext.cell (S : StRel M i st H) (hp : H p = none) {c : Cell} : Ext i st H (ioSet i st.next p) (st.new c) (upd H p o) :=
  ⟨⟨Nat.le_succ _, fun n h => ioSet_ne (Nat.ne_of_lt h), fun q u h n => ⟨by rw [upd_ne (ne_of_none h hp)]; exact h, fun m d hm e => by
    by_cases z : m = st.next
    · rw [z, ioSet_same] at e
      rw [e, h] at hp
      cases hp
    · rw [ioSet_ne z] at e
      have hm' : st.get m = some d := by
        have hm : (if m = st.next then some c else st.get m) = some d := hm
        rwa [if_neg z] at hm
      exact n.1 m d hm' e
    , n.2⟩⟩, fun q u a h => ⟨by rw [upd_ne (ne_of_none h hp)]; exact h, a⟩⟩
theorem StRel.mkcell (S : StRel M i st H) (hp : H p = none) {c : Cell} (h : CellAt' M (ioSet i st.next p) (st.new c) (upd H p o) p c) : StRel M (ioSet i st.next p) (st.new c) (upd H p o) := by
  have get : ∀ m d, (st.new c).get m = some d → (m = st.next ∧ d = c) ∨ (m ≠ st.next ∧ st.get m = some d) := fun m d hm => by
    have hm : (if m = st.next then some c else st.get m) = some d := hm
    by_cases z : m = st.next
    · rw [if_pos z] at hm; cases hm; exact .inl ⟨z, rfl⟩
    · rw [if_neg z] at hm; exact .inr ⟨z, hm⟩
  refine ⟨fun m d hm => ?_, fun m k d d' hm hk e => ?_, fun m d hm => ?_, fun m d hm => ?_, fun q a => upd_there (S.hidt q a)⟩
  · rcases get m d hm with ⟨z, _⟩ | ⟨_, z⟩
    · rw [z]; exact Nat.lt_succ_self _
    · exact Nat.lt_succ_of_lt (S.lt m d z)
  · rcases get m d hm with ⟨z, _⟩ | ⟨z, hm⟩ <;> rcases get k d' hk with ⟨y, _⟩ | ⟨y, hk⟩
    · rw [z, y]
    · rw [z, ioSet_same, ioSet_ne y] at e
      obtain ⟨u, hu⟩ := S.there hk
      rw [← e, hp] at hu; cases hu
    · rw [y, ioSet_same, ioSet_ne z] at e
      obtain ⟨u, hu⟩ := S.there hm
      rw [e, hp] at hu; cases hu
    · rw [ioSet_ne z, ioSet_ne y] at e
      exact S.inj m k d d' hm hk e
  · rcases get m d hm with ⟨z, y⟩ | ⟨z, hm⟩
    · rw [z, y, ioSet_same]; exact h
    · rw [ioSet_ne z]
      refine (S.cell m d hm).ext (Ext.cell S hp).toKp ?_
      obtain ⟨u, hu⟩ := S.there hm
      exact upd_ne (ne_of_none hu hp)
  · rcases get m d hm with ⟨z, y⟩ | ⟨z, hm⟩
    · rw [z, ioSet_same]
      intro q
      obtain ⟨u, hu⟩ := S.hidt p q
      rw [hp] at hu; cases hu
    · rw [ioSet_ne z]; exact S.nohid m d hm
/-- a cell is written -/
theorem Ext.put (S : StRel M i st H) {n : Nat} {c d : Cell} (hn : st.get n = some c) : Ext i st H i (st.set n d) (upd H (i.at_ n) o) :=
  ⟨⟨Nat.le_refl _, fun _ _ => rfl, fun q u h k => ⟨by rw [upd_ne (Ne.symm (k.1 n c hn))]; exact h, fun m d' hm e => by
    have hm : (if m = n then some d else st.get m) = some d' := hm
    by_cases z : m = n
    · rw [z] at e; exact k.1 n c hn e
    · rw [if_neg z] at hm; exact k.1 m d' hm e
    , k.2⟩⟩, fun q u a h => ⟨by rw [upd_ne (fun z : q = i.at_ n => S.nohid n c hn (z ▸ a))]; exact h, a⟩⟩
theorem StRel.put (S : StRel M i st H) {n : Nat} {c d : Cell} (hn : st.get n = some c) (h : CellAt' M i (st.set n d) (upd H (i.at_ n) o) (i.at_ n) d) : StRel M i (st.set n d) (upd H (i.at_ n) o) := by
  have get : ∀ m e, (st.set n d).get m = some e → (m = n ∧ e = d) ∨ (m ≠ n ∧ st.get m = some e) := fun m e hm => by
    have hm : (if m = n then some d else st.get m) = some e := hm
    by_cases z : m = n
    · rw [if_pos z] at hm; cases hm; exact .inl ⟨z, rfl⟩
    · rw [if_neg z] at hm; exact .inr ⟨z, hm⟩
  have there : ∀ m e, (st.set n d).get m = some e → ∃ e', st.get m = some e' := fun m e hm => by
    rcases get m e hm with ⟨z, _⟩ | ⟨_, z⟩
    · exact ⟨c, by rw [z]; exact hn⟩
    · exact ⟨e, z⟩
  refine ⟨fun m e hm => ?_, fun m k e e' hm hk q => ?_, fun m e hm => ?_, fun m e hm => ?_, fun q a => upd_there (S.hidt q a)⟩
  · obtain ⟨e', z⟩ := there m e hm
    exact S.lt m e' z
  · obtain ⟨a, z⟩ := there m e hm
    obtain ⟨b, y⟩ := there k e' hk
    exact S.inj m k a b z y q
  · rcases get m e hm with ⟨z, y⟩ | ⟨z, hm⟩
    · rw [z, y]; exact h
    · exact (S.cell m e hm).ext (Ext.put S hn).toKp (upd_ne fun q => z (S.inj m n e c hm hn q))
  · obtain ⟨e', z⟩ := there m e hm
    exact S.nohid m e' z
/-- a cell is frozen -/
theorem Ext.del (S : StRel M i st H) (n : Nat) : Ext i st H i (st.del n) H :=
  ⟨⟨Nat.le_refl _, fun _ _ => rfl, fun q u h k => ⟨h, fun m d hm e => by
    have hm : (if m = n then none else st.get m) = some d := hm
    by_cases z : m = n
    · rw [if_pos z] at hm; cases hm
    · rw [if_neg z] at hm; exact k.1 m d hm e
    , k.2⟩⟩, fun q u a h => ⟨h, a⟩⟩
theorem del_get {n m : Nat} {d : Cell} (hm : (st.del n).get m = some d) : m ≠ n ∧ st.get m = some d := by
  have hm : (if m = n then none else st.get m) = some d := hm
  by_cases z : m = n
  · rw [if_pos z] at hm; cases hm
  · rw [if_neg z] at hm; exact ⟨z, hm⟩
theorem StRel.del (S : StRel M i st H) (n : Nat) : StRel M i (st.del n) H :=
  ⟨fun m e hm => S.lt m e (del_get hm).2, fun m k e e' hm hk q => S.inj m k e e' (del_get hm).2 (del_get hk).2 q, fun m e hm => (S.cell m e (del_get hm).2).ext (Ext.del S n).toKp rfl, fun m e hm => S.nohid m e (del_get hm).2, S.hidt⟩
theorem StRel.nocD (S : StRel M i st H) {n : Nat} {c : Cell} (h : st.get n = some c) : Noc i (st.del n) (i.at_ n) := ⟨fun m d hm e => (del_get hm).1 (S.inj m n d c (del_get hm).2 h e), S.nohid n c h⟩
/-! ### hiding -/
def hide (i : Io) (D : Addr) : Io := ⟨i.at_, fun p => p = D ∨ i.hid p⟩
def bare (i : Io) (D : Addr) : Io := ⟨i.at_, fun p => p ≠ D ∧ i.hid p⟩
theorem Ext.hide (S : StRel M i st H) (hp : H p = none) : Ext i st H (hide i p) st (upd H p o) :=
  ⟨⟨Nat.le_refl _, fun _ _ => rfl, fun q u h n => ⟨by rw [upd_ne (ne_of_none h hp)]; exact h, n.1, fun z => z.elim (ne_of_none h hp) n.2⟩⟩, fun q u a h => ⟨by rw [upd_ne (ne_of_none h hp)]; exact h, .inr a⟩⟩
theorem StRel.hide (S : StRel M i st H) (hp : H p = none) : StRel M (hide i p) st (upd H p o) :=
  ⟨S.lt, S.inj, fun n c h => (S.cell n c h).ext (Ext.hide S hp).toKp (by
    obtain ⟨u, hu⟩ := S.there h
    exact upd_ne (ne_of_none hu hp)), fun n c h z => (S.there h).elim fun u hu => z.elim (ne_of_none hu hp) (S.nohid n c h), fun q a => a.elim (fun z => ⟨o, by rw [z]; exact upd_same⟩) fun a => upd_there (S.hidt q a)⟩
/-- a hidden thing is written -/
theorem Kp.hput (hp : i.hid p) : Kp i st H i st (upd H p o) :=
  ⟨Nat.le_refl _, fun _ _ => rfl, fun q u h n => ⟨by rw [upd_ne (fun z : q = p => n.2 (z ▸ hp))]; exact h, n⟩⟩
theorem StRel.hput (S : StRel M i st H) (hp : i.hid p) : StRel M i st (upd H p o) :=
  ⟨S.lt, S.inj, fun n c h => (S.cell n c h).ext (Kp.hput hp) (upd_ne fun z => S.nohid n c h (z ▸ hp)), S.nohid, fun q a => upd_there (S.hidt q a)⟩
theorem Kp.bare {D : Addr} : Kp i st H (bare i D) st H := ⟨Nat.le_refl _, fun _ _ => rfl, fun q u h n => ⟨h, n.1, fun z => n.2 z.2⟩⟩
theorem StRel.bare (S : StRel M i st H) (D : Addr) : StRel M (bare i D) st H :=
  ⟨S.lt, S.inj, fun n c h => (S.cell n c h).ext Kp.bare rfl, fun n c h z => S.nohid n c h z.2, fun q a => S.hidt q a.2⟩
/-! ### lists of values -/
theorem RepL.length : ∀ {vs : List Val} {xs : List V}, RepL M i st H vs xs → vs.length = xs.length
  | [], xs, h => by simp only [RepL] at h; rw [h]; rfl
  | v :: vs, xs, h => by
    simp only [RepL] at h
    obtain ⟨a, r, rfl, _, h2⟩ := h
    simp only [List.length_cons, RepL.length h2]
theorem RepL.cons {v : Val} {a : V} {vs : List Val} {xs : List V} (h : Rep M i st H v a) (h2 : RepL M i st H vs xs) : RepL M i st H (v :: vs) (a :: xs) := by
  simp only [RepL]; exact ⟨a, xs, rfl, h, h2⟩
theorem RepL.nil : RepL M i st H [] [] := by simp only [RepL]
theorem RepL.get : ∀ {vs : List Val} {xs : List V} {n : Nat} {v : Val}, RepL M i st H vs xs → vs[n]? = some v → ∃ a, xs[n]? = some a ∧ Rep M i st H v a
  | [], xs, n, v, h, e => by simp at e
  | u :: vs, xs, 0, v, h, e => by
    simp only [RepL] at h
    obtain ⟨a, r, rfl, h1, h2⟩ := h
    simp at e; subst e
    exact ⟨a, rfl, h1⟩
  | u :: vs, xs, n + 1, v, h, e => by
    simp only [RepL] at h
    obtain ⟨a, r, rfl, h1, h2⟩ := h
    simpa using RepL.get (n := n) (v := v) h2 (by simpa using e)
theorem RepL.append : ∀ {vs us : List Val} {xs ys : List V}, RepL M i st H vs xs → RepL M i st H us ys → RepL M i st H (vs ++ us) (xs ++ ys)
  | [], us, xs, ys, h, h2 => by simp only [RepL] at h; rw [h]; exact h2
  | v :: vs, us, xs, ys, h, h2 => by
    simp only [RepL] at h
    obtain ⟨a, r, rfl, h1, h3⟩ := h
    exact RepL.cons h1 (RepL.append h3 h2)
theorem RepL.take : ∀ {vs : List Val} {xs : List V} (n : Nat), RepL M i st H vs xs → RepL M i st H (vs.take n) (xs.take n)
  | [], xs, n, h => by simp only [RepL] at h; rw [h]; simpa using RepL.nil
  | v :: vs, xs, 0, h => by simpa using RepL.nil
  | v :: vs, xs, n + 1, h => by
    simp only [RepL] at h
    obtain ⟨a, r, rfl, h1, h3⟩ := h
    exact RepL.cons h1 (RepL.take n h3)
theorem RepL.drop : ∀ {vs : List Val} {xs : List V} (n : Nat), RepL M i st H vs xs → RepL M i st H (vs.drop n) (xs.drop n)
  | [], xs, n, h => by simp only [RepL] at h; rw [h]; simpa using RepL.nil
  | v :: vs, xs, 0, h => by simpa using h
  | v :: vs, xs, n + 1, h => by
    simp only [RepL] at h
    obtain ⟨a, r, rfl, h1, h3⟩ := h
    exact RepL.drop n h3
theorem RepL.set : ∀ {vs : List Val} {xs : List V} (n : Nat) {v : Val} {a : V}, RepL M i st H vs xs → Rep M i st H v a → RepL M i st H (vs.set n v) (xs.set n a)
  | [], xs, n, v, a, h, r => by simp only [RepL] at h; rw [h]; simpa using RepL.nil
  | u :: vs, xs, 0, v, a, h, r => by
    simp only [RepL] at h
    obtain ⟨b, q, rfl, h1, h3⟩ := h
    exact RepL.cons r h3
  | u :: vs, xs, n + 1, v, a, h, r => by
    simp only [RepL] at h
    obtain ⟨b, q, rfl, h1, h3⟩ := h
    exact RepL.cons h1 (RepL.set n h3 r)
theorem RepL.rep {vs : List Val} {xs : List V} (h : RepL M i st H vs xs) : ∀ k : Nat, RepL M i st H (List.replicate k vs).flatten (List.replicate k xs).flatten
  | 0 => by simpa using RepL.nil
  | k + 1 => by
    simp only [List.replicate_succ, List.flatten_cons]
    exact RepL.append h (RepL.rep h k)
theorem RepL.dropLast {vs : List Val} {xs : List V} (h : RepL M i st H vs xs) : RepL M i st H vs.dropLast xs.dropLast := by
  rw [List.dropLast_eq_take, List.dropLast_eq_take, ← h.length]
  exact RepL.take _ h
theorem RepL.ints : ∀ {ns : List Int}, RepL M i st H (ns.map Val.int) (ns.map V.int)
  | [] => RepL.nil
  | n :: ns => RepL.cons (by simp only [Rep]) RepL.ints
/-! ### names -/
structure EnvRel (M : Md) (i : Io) (st : Store) (H : Hp) (ρ : Env) (σ : L2.St) : Prop where
  len : ρ.length = σ.length
  at_ : ∀ (n : Nat) (v : Val), ρ[n]? = some (some v) → ∃ a, σ[n]? = some (some a) ∧ Rep M i st H v a
theorem EnvRel.kp {ρ : Env} {σ : L2.St} (h : EnvRel M i st H ρ σ) (e : Kp i st H j su G) : EnvRel M j su G ρ σ :=
  ⟨h.len, fun n v q => let ⟨a, h1, h2⟩ := h.at_ n v q; ⟨a, h1, Rep.kp e h2⟩⟩
theorem EnvRel.ext {ρ : Env} {σ : L2.St} (h : EnvRel M i st H ρ σ) (e : Ext i st H j su G) : EnvRel M j su G ρ σ := h.kp e.toKp
theorem EnvRel.set {ρ : Env} {σ : L2.St} (h : EnvRel M i st H ρ σ) {n : Nat} {v : Val} {a : V} (r : Rep M i st H v a) : EnvRel M i st H (ρ.set n (some v)) (σ.set n (some a)) := by
  refine ⟨by simpa using h.len, fun m u q => ?_⟩
  by_cases z : n = m
  · subst z
    by_cases l : n < ρ.length
    · rw [List.getElem?_set_self l] at q
      cases q
      exact ⟨a, List.getElem?_set_self (by rw [← h.len]; exact l), r⟩
    · rw [List.getElem?_eq_none (by simpa using l)] at q
      cases q
  · rw [List.getElem?_set_ne z] at q
    obtain ⟨b, h1, h2⟩ := h.at_ m u q
    exact ⟨b, by rw [List.getElem?_set_ne z]; exact h1, h2⟩
theorem EnvRel.wip1 {ρ : Env} {σ : L2.St} (h : EnvRel M i st H ρ σ) (n : Nat) : EnvRel M i st H (ρ.set n none) (σ.set n none) := by
  refine ⟨by simpa using h.len, fun m u q => ?_⟩
  by_cases z : n = m
  · subst z
    by_cases l : n < ρ.length
    · rw [List.getElem?_set_self l] at q
      cases q
    · rw [List.getElem?_eq_none (by simpa using l)] at q
      cases q
  · rw [List.getElem?_set_ne z] at q
    obtain ⟨b, h1, h2⟩ := h.at_ m u q
    exact ⟨b, by rw [List.getElem?_set_ne z]; exact h1, h2⟩
theorem EnvRel.wipe {ρ : Env} {σ : L2.St} (h : EnvRel M i st H ρ σ) : ∀ own : List Nat, EnvRel M i st H (VM.wipe ρ own) (L2.wipe σ own)
  | [] => h
  | n :: r => (EnvRel.wipe h r).wip1 n
end
structure Sim (M : Md) (i : Io) (ρ : Env) (st : Store) (σ : L2.St) (H : Hp) : Prop where
  env : EnvRel M i st H ρ σ
  str : StRel M i st H
section
variable {M : Md} {i j : Io} {st su : Store} {H G : Hp} {ρ : Env} {σ : L2.St}
theorem Sim.ext (S : Sim M i ρ st σ H) (e : Ext i st H j su G) (R : StRel M j su G) : Sim M j ρ su σ G := ⟨S.env.ext e, R⟩
end
/-! ### readings -/
section
variable (M : Md) (Φ : FnSem)
def noX : XPost := fun _ _ _ => False
def Aft (i : Io) (st : Store) (H : Hp) (Q : VK) : Post := fun v su => ∀ j G a, Ext i st H j su G → StRel M j su G → Rep M j su G v a → Q a G
def AftB (i : Io) (st : Store) (H : Hp) (Q : Bool → Hp → Prop) : Bool → Store → Prop := fun b su => ∀ j G, Ext i st H j su G → StRel M j su G → Q b G
def AftL (i : Io) (st : Store) (H : Hp) (Q : List V → Hp → Prop) : List Val → Store → Prop := fun vs su => ∀ j G as, Ext i st H j su G → StRel M j su G → RepL M j su G vs as → Q as G
def rdE (e : E) : TE := fun σ H Q => ∃ ρ st i, Sim M i ρ st σ H ∧ wpE Φ noX e ρ st (Aft M i st H Q)
def rdT (e : E) : TT := fun σ H Q => ∃ ρ st i, Sim M i ρ st σ H ∧ wpE Φ noX e ρ st fun v su => truth su v fun b => AftB M i st H Q b su
def rdL (es : EL) : TA := fun σ H Q => ∃ ρ st i, Sim M i ρ st σ H ∧ wpEL Φ noX es ρ st (AftL M i st H Q)
end
section
variable {M : Md} {i j : Io} {st su : Store} {H G : Hp}
theorem Aft.ext {Q : VK} (e : Ext i st H j su G) {v : Val} {sv : Store} (h : Aft M i st H Q v sv) : Aft M j su G Q v sv := fun k F a e2 s r => h k F a (e.trans e2) s r
theorem AftB.ext {Q : Bool → Hp → Prop} (e : Ext i st H j su G) {v : Bool} {sv : Store} (h : AftB M i st H Q v sv) : AftB M j su G Q v sv := fun k F e2 s => h k F (e.trans e2) s
theorem AftL.ext {Q : List V → Hp → Prop} (e : Ext i st H j su G) {v : List Val} {sv : Store} (h : AftL M i st H Q v sv) : AftL M j su G Q v sv := fun k F a e2 s r => h k F a (e.trans e2) s r
/-- the end at the state as it is -/
theorem Aft.now {Q : VK} {v : Val} {a : V} (h : Aft M i st H Q v st) (S : StRel M i st H) (r : Rep M i st H v a) : Q a H := h i H a (Ext.refl ..) S r
/-- .. with a new thing -/
theorem Aft.nw {Q : VK} {v : Val} {p : Addr} {o : HO} (h : Aft M i st H Q v st) (S : StRel M i st H) (hp : H p = none) (r : Rep M i st (upd H p o) v (.ref p)) : Q (.ref p) (upd H p o) :=
  h i _ _ (Ext.new S hp) (S.new hp) r
end
/-- a reading may be weakened -/
theorem PEimp {X : Cx} {e : Expr} {t t' : TE} (h : PE X e t) (m : ∀ σ H Q, t' σ H Q → t σ H Q) : PE X e t' := ⟨fun pins s σ H Q I q => h.run pins s σ H Q I (m _ _ _ q)⟩
theorem PTimp {X : Cx} {e : Expr} {t t' : TT} (h : PT X e t) (m : ∀ σ H Q, t' σ H Q → t σ H Q) : PT X e t' := ⟨fun pins s σ H Q I q => h.run pins s σ H Q I (m _ _ _ q)⟩
theorem PWimp {X : Cx} {e : Expr} {t t' : TT} (h : PW X e t) (m : ∀ σ H Q, t' σ H Q → t σ H Q) : PW X e t' := ⟨fun wh pins s σ H Q I q => h.run wh pins s σ H Q I (m _ _ _ q)⟩
theorem PAimp {X : Cx} {e : List Expr} {t t' : TA} (h : PA X e t) (m : ∀ σ H Q, t' σ H Q → t σ H Q) : PA X e t' := ⟨fun pos pins s σ H Q I q => h.run pos pins s σ H Q I (m _ _ _ q)⟩
section
variable {M : Md} {Φ : FnSem} (hΦ : MonoF Φ) {i : Io} {st : Store} {H : Hp} {ρ : Env} {σ : L2.St}
include hΦ
/-- one expression, then what follows -/
theorem rd1 {a : E} {R : Val → Store → Prop} {k : V → Hp → Prop} (S : Sim M i ρ st σ H) (h : wpE Φ noX a ρ st R)
    (m : ∀ v su j G x, Ext i st H j su G → Sim M j ρ su σ G → Rep M j su G v x → R v su → k x G) : rdE M Φ a σ H k :=
  ⟨ρ, st, i, S, wpE_mono hΦ h fun v su q j G x e T r => m v su j G x e (S.ext e T) r q⟩
theorem rd2 {a b : E} {R : Val → Val → Store → Prop} {k : V → V → Hp → Prop} (S : Sim M i ρ st σ H) (h : wpE Φ noX a ρ st fun v s1 => wpE Φ noX b ρ s1 fun u s2 => R v u s2)
    (m : ∀ v u su j G x y, Ext i st H j su G → Sim M j ρ su σ G → Rep M j su G v x → Rep M j su G u y → R v u su → k x y G) : rdE M Φ a σ H fun x H1 => rdE M Φ b σ H1 fun y H2 => k x y H2 :=
  rd1 hΦ S h fun v s1 j1 G1 x e1 S1 r1 q => rd1 hΦ S1 q fun u s2 j2 G2 y e2 S2 r2 q => m v u s2 j2 G2 x y (e1.trans e2) S2 (Rep.ext e2 r1) r2 q
theorem rdt {a : E} {R : Bool → Store → Prop} {k : Bool → Hp → Prop} (S : Sim M i ρ st σ H) (h : wpE Φ noX a ρ st fun v su => truth su v fun b => R b su)
    (m : ∀ b su j G, Ext i st H j su G → Sim M j ρ su σ G → R b su → k b G) : rdT M Φ a σ H k :=
  ⟨ρ, st, i, S, wpE_mono hΦ h fun v su q => truth_mono q fun b q j G e T => m b su j G e (S.ext e T) q⟩
theorem rdl {a : EL} {R : List Val → Store → Prop} {k : List V → Hp → Prop} (S : Sim M i ρ st σ H) (h : wpEL Φ noX a ρ st R)
    (m : ∀ v su j G x, Ext i st H j su G → Sim M j ρ su σ G → RepL M j su G v x → R v su → k x G) : rdL M Φ a σ H k :=
  ⟨ρ, st, i, S, wpEL_mono hΦ h fun v su q j G x e T r => m v su j G x e (S.ext e T) r q⟩
end
end VM

namespace VM
open PySem PySem.Spec PyProof.Rows L2
/-- where the text runs -/
structure Gd (M : Md) (k : Nat) (N : List Str) (sc : Scope) (X : Cx) : Prop where
  hP : X.prog = M.P
  hw : X.w = M.w
  hK : X.K = M.K
  hmg : X.mg = M.mg
  hbase : X.base = M.base
  hN : X.N = N
  nd : N.Nodup
  hsc : X.env.scope = sc
  kind : sc.kind = .function
  calm : X.calm = true
  room : Room (2 * k + 1) X.A
  xe : PassesOwn (model X.prog X.w) X.A X.env X.xe
/-- the names that may be stored here (so: the scope as written) -/
def Asg (so sc : Scope) (X : Cx) : Prop := ∀ x, L2.Loc so x → L2.Loc sc x ∧ (X.fn x = true ∨ sc.names.lookup x = some .local)
section
variable {M : Md} {i j : Io} {st su : Store} {H G : Hp} {p : Addr}
theorem rep_newT (S : StRel M i st H) (hp : H p = none) {vs : List Val} {xs : List V} (h : RepL M i st H vs xs) : Rep M i st (upd H p (.tup xs)) (.tup vs) (.ref p) := by
  simp only [Rep]; exact ⟨p, xs, rfl, upd_same, S.nocN hp, RepL.ext (Ext.new S hp) h⟩
theorem rep_newL (S : StRel M i st H) (hp : H p = none) {vs : List Val} {xs : List V} (h : RepL M i st H vs xs) : Rep M i st (upd H p (.lst xs)) (.lst vs) (.ref p) := by
  simp only [Rep]; exact ⟨p, xs, rfl, upd_same, S.nocN hp, RepL.ext (Ext.new S hp) h⟩
theorem rep_bool {b : Bool} : Rep M i st H (.bool b) (.bl b) := by simp only [Rep]
theorem rep_int {b : Int} : Rep M i st H (.int b) (.int b) := by simp only [Rep]
theorem rep_str {b : Str} : Rep M i st H (.str b) (.str b) := by simp only [Rep]
theorem rep_non : Rep M i st H .non .non := by simp only [Rep]
theorem of_bool {b : Bool} {a : V} (h : Rep M i st H (.bool b) a) : a = .bl b := by simpa only [Rep] using h
theorem of_int {b : Int} {a : V} (h : Rep M i st H (.int b) a) : a = .int b := by simpa only [Rep] using h
theorem of_str {b : Str} {a : V} (h : Rep M i st H (.str b) a) : a = .str b := by simpa only [Rep] using h
theorem of_non {a : V} (h : Rep M i st H .non a) : a = .non := by simpa only [Rep] using h
theorem of_tup {vs : List Val} {a : V} (h : Rep M i st H (.tup vs) a) : ∃ p xs, a = .ref p ∧ H p = some (.tup xs) ∧ Noc i st p ∧ RepL M i st H vs xs := by simpa only [Rep] using h
theorem of_lst {vs : List Val} {a : V} (h : Rep M i st H (.lst vs) a) : ∃ p xs, a = .ref p ∧ H p = some (.lst xs) ∧ Noc i st p ∧ RepL M i st H vs xs := by simpa only [Rep] using h
theorem of_cell {n : Nat} {a : V} (h : Rep M i st H (.cell n) a) : a = .ref (i.at_ n) ∧ n < st.next := by simpa only [Rep] using h
theorem lst_rep (S : StRel M i st H) {v : Val} {a : V} {vs : List Val} (r : Rep M i st H v a) (h : lstOf st v = some vs) : ∃ p xs, a = .ref p ∧ H p = some (.lst xs) ∧ RepL M i st H vs xs := by
  unfold lstOf at h
  split at h
  · cases h
    obtain ⟨p, xs, e, h1, _, h2⟩ := of_lst r
    exact ⟨p, xs, e, h1, h2⟩
  · split at h
    · rename_i n _ _ _ hg
      cases h
      obtain ⟨e, _⟩ := of_cell r
      obtain ⟨xs, h1, h2⟩ := S.cell _ _ hg
      exact ⟨_, xs, e, h1, h2⟩
    · cases h
  · cases h
theorem seq_rep (S : StRel M i st H) {v : Val} {a : V} {vs : List Val} (r : Rep M i st H v a) (h : seqOf st v = some vs) : ∃ p xs, a = .ref p ∧ (H p = some (.lst xs) ∨ (H p = some (.tup xs) ∧ Noc i st p)) ∧ RepL M i st H vs xs := by
  cases v with
  | tup us =>
    cases h
    obtain ⟨p, xs, e, h1, n1, h2⟩ := of_tup r
    exact ⟨p, xs, e, .inr ⟨h1, n1⟩, h2⟩
  | lst us =>
    obtain ⟨p, xs, e, h1, h2⟩ := lst_rep S (vs := vs) r h
    exact ⟨p, xs, e, .inl h1, h2⟩
  | cell n =>
    obtain ⟨p, xs, e, h1, h2⟩ := lst_rep S (vs := vs) r h
    exact ⟨p, xs, e, .inl h1, h2⟩
  | _ => cases h
end
/-! ### tests from values -/
section
variable {M : Md} {k : Nat} {N : List Str} {sc : Scope} {X : Cx} {Φ : FnSem} (hΦ : MonoF Φ) (g : Gd M k N sc X)
include hΦ g
theorem truth_rep {v : Val} {a : V} {i : Io} {st : Store} {H : Hp} {R : Bool → Prop} (S : StRel M i st H) (r : Rep M i st H v a) (h : truth st v R) : ∃ b, TruV X.K a H b ∧ R b := by
  unfold truth at h
  split at h
  · rw [of_bool r]; exact ⟨_, rfl, h⟩
  · rename_i u hu
    obtain ⟨vs, e, h⟩ := onO_iff.mp h
    obtain ⟨p, xs, e1, h1, h2⟩ := lst_rep S r e
    subst e1
    refine ⟨!vs.isEmpty, .inl ⟨xs, SqL.of h1, ?_⟩, h⟩
    have := h2.length
    cases vs <;> cases xs <;> first | rfl | simp at this
theorem sndT {e : E} {x : Expr} (h : PE X x (rdE M Φ e)) (he : ∀ whole, isTrue x X.env whole = (do let v ← whole; standAt x.pos; holding [v] (truthy v)) := by intro _; rfl) : PT X x (rdT M Φ e) := by
  refine PTimp (pt_truth h he) ?_
  rintro σ H Q ⟨ρ, st, i, S, h⟩
  refine rd1 hΦ S h fun v su j G a e1 S1 r1 q => ?_
  obtain ⟨b, h1, h2⟩ := truth_rep hΦ g S1.str r1 q
  exact ⟨b, h1, h2 _ _ (e1) S1.str⟩
/-! ### names and constants -/
theorem snd_var {n : Nat} {x : Str} {pos : Pos} (h1 : N[n]? = some x) (h2 : Vis sc x) (h3 : (x == ("__debug__" : Str)) = false) (h4 : (x == ("__classdict__" : Str)) = false) : PE X (.Name x pos) (rdE M Φ (.var n)) := by
  refine PEimp (pe_var (i := n) (by rw [g.hN]; exact h1) (by rw [g.hsc]; exact h2) h3 h4) ?_
  rintro σ H Q ⟨ρ, st, i, S, h⟩
  obtain ⟨v, h5, h6⟩ := getv_iff.mp h
  obtain ⟨a, h7, h8⟩ := S.env.at_ n v h5
  exact ⟨a, h7, h6.now S.str h8⟩
theorem snd_none {j pos} : PE X (.Constant .none j pos) (rdE M Φ (.con .non)) := by
  refine PEimp pe_non ?_
  rintro σ H Q ⟨ρ, st, i, S, h⟩
  exact Aft.now h S.str rep_non
theorem snd_bool {b j pos} : PE X (.Constant (.bool b) j pos) (rdE M Φ (.con (.bool b))) := by
  refine PEimp pe_bl ?_
  rintro σ H Q ⟨ρ, st, i, S, h⟩
  exact Aft.now h S.str rep_bool
theorem snd_int {b j pos} : PE X (.Constant (.int b) j pos) (rdE M Φ (.con (.int b))) := by
  refine PEimp pe_int ?_
  rintro σ H Q ⟨ρ, st, i, S, h⟩
  exact Aft.now h S.str rep_int
theorem snd_str {b j pos} : PE X (.Constant (.str b) j pos) (rdE M Φ (.con (.str b))) := by
  refine PEimp pe_str ?_
  rintro σ H Q ⟨ρ, st, i, S, h⟩
  exact Aft.now h S.str rep_str
theorem snd_glb {n : Nat} {b : Int} {x : Str} {pos : Pos} {t : Tok} (h1 : sc.names.lookup x = some .globalImplicit) (h2 : M.mg x = some (.int b t)) (h3 : (x == ("__debug__" : Str)) = false) : PE X (.Name x pos) (rdE M Φ (.glb n (.int b))) := by
  refine PEimp (pe_glob (v := .int b) (show X.env.scope.names.lookup x = _ by rw [g.hsc]; exact h1) (by rw [g.hmg]; exact h2) ⟨t, rfl⟩ h3) ?_
  rintro σ H Q ⟨ρ, st, i, S, h⟩
  exact Aft.now h S.str rep_int
/-! ### argument lists, displays -/
theorem snd_nil : PA X [] (rdL M Φ .nil) := by
  refine PAimp pa_nil ?_
  rintro σ H Q ⟨ρ, st, i, S, h⟩
  exact h i H [] (Ext.refl ..) S.str RepL.nil
theorem snd_cons {e : E} {r : EL} {x : Expr} {xs : List Expr} (h1 : PE X x (rdE M Φ e)) (h2 : PA X xs (rdL M Φ r)) (hs : starEach (x :: xs) X.env = (false, eval x X.env) :: starEach xs X.env) : PA X (x :: xs) (rdL M Φ (.cons e r)) := by
  refine PAimp (pa_cons h1 h2 hs) ?_
  rintro σ H Q ⟨ρ, st, i, S, h⟩
  refine rd1 hΦ S h fun v su j G a e1 S1 r1 q => ?_
  refine rdl hΦ S1 q fun vs s2 j2 G2 as e2 S2 r2 q2 => ?_
  exact q2 j2 G2 (a :: as) (e1.trans e2) S2.str (RepL.cons (Rep.ext e2 r1) r2)
theorem snd_tup {es : EL} {xs : List Expr} {x1 pos} (h : PA X xs (rdL M Φ es)) (hz : ∀ ρ st R, wpEL Φ noX es ρ st R → wpEL Φ noX es ρ st fun vs s1 => vs.length ≤ 1000 ∧ R vs s1) : PE X (.Tuple xs x1 pos) (rdE M Φ (.tup es)) := by
  refine PEimp (pe_tup h) ?_
  rintro σ H Q ⟨ρ, st, i, S, h⟩
  refine rdl hΦ S (hz _ _ _ h) fun vs s2 j2 G2 as e2 S2 r2 q2 => ?_
  refine ⟨?_, fun p hp => (q2.2.ext e2).nw S2.str hp (rep_newT S2.str hp r2)⟩
  rw [← r2.length, sizeLine_eq]; omega
theorem snd_lst {es : EL} {xs : List Expr} {pos} (h : PA X xs (rdL M Φ es)) (hz : ∀ ρ st R, wpEL Φ noX es ρ st R → wpEL Φ noX es ρ st fun vs s1 => vs.length ≤ 1000 ∧ R vs s1) : PE X (.List xs pos) (rdE M Φ (.lst es)) := by
  refine PEimp (pe_lst h) ?_
  rintro σ H Q ⟨ρ, st, i, S, h⟩
  refine rdl hΦ S (hz _ _ _ h) fun vs s2 j2 G2 as e2 S2 r2 q2 => ?_
  refine ⟨?_, fun p hp => (q2.2.ext e2).nw S2.str hp (rep_newL S2.str hp r2)⟩
  rw [← r2.length, sizeLine_eq]; omega
theorem snd_nlst {es : EL} {xs : List Expr} {pos} (h : PA X xs (rdL M Φ es)) (hz : ∀ ρ st R, wpEL Φ noX es ρ st R → wpEL Φ noX es ρ st fun vs s1 => vs.length ≤ 1000 ∧ R vs s1) : PE X (.List xs pos) (rdE M Φ (.nlst es)) := by
  refine PEimp (pe_lst h) ?_
  rintro σ H Q ⟨ρ, st, i, S, h⟩
  refine rdl hΦ S (hz _ _ _ h) fun vs s2 j2 G2 as e2 S2 r2 q2 => ?_
  refine ⟨by rw [← r2.length, sizeLine_eq]; omega, fun p hp => ?_⟩
  have e3 := Ext.cell (o := .lst as) S2.str hp (c := .lst vs false)
  refine q2.2 _ _ _ (e2.trans e3) (S2.str.mkcell hp ⟨as, upd_same, RepL.ext e3 r2⟩) ?_
  simp only [Rep]
  exact ⟨by rw [ioSet_same], Nat.lt_succ_self _⟩
/-! ### and, or, not -/
theorem snd_and2 {a b : E} {x y : Expr} {pos} (ha : PE X x (rdE M Φ a)) (hb : PE X y (rdE M Φ b)) : PE X (.BoolOp .And [x, y] pos) (rdE M Φ (.and a b)) := by
  refine PEimp (pe_and ha (pe_one hb)) ?_
  rintro σ H Q ⟨ρ, st, i, S, h⟩
  refine rd1 hΦ S h fun v su j G a e1 S1 r1 q => ?_
  cases v <;> try exact q.elim
  rename_i c
  refine ⟨c, of_bool r1, ?_⟩
  cases c
  · exact (Aft.ext e1 q).now S1.str rep_bool
  · exact ⟨ρ, su, j, S1, wpE_mono hΦ q fun v s q => q.ext e1⟩
theorem snd_andM {a b : E} {x y z : Expr} {zs : List Expr} {pos} (ha : PE X x (rdE M Φ a)) (hb : PE X (.BoolOp .And (y :: z :: zs) pos) (rdE M Φ b)) : PE X (.BoolOp .And (x :: y :: z :: zs) pos) (rdE M Φ (.and a b)) := by
  refine PEimp (pe_and ha hb) ?_
  rintro σ H Q ⟨ρ, st, i, S, h⟩
  refine rd1 hΦ S h fun v su j G a e1 S1 r1 q => ?_
  cases v <;> try exact q.elim
  rename_i c
  refine ⟨c, of_bool r1, ?_⟩
  cases c
  · exact (Aft.ext e1 q).now S1.str rep_bool
  · exact ⟨ρ, su, j, S1, wpE_mono hΦ q fun v s q => q.ext e1⟩
theorem snd_or2 {a b : E} {x y : Expr} {pos} (ha : PE X x (rdE M Φ a)) (hb : PE X y (rdE M Φ b)) : PE X (.BoolOp .Or [x, y] pos) (rdE M Φ (.or a b)) := by
  refine PEimp (pe_or ha (pe_one hb)) ?_
  rintro σ H Q ⟨ρ, st, i, S, h⟩
  refine rd1 hΦ S h fun v su j G a e1 S1 r1 q => ?_
  cases v <;> try exact q.elim
  rename_i c
  refine ⟨c, of_bool r1, ?_⟩
  cases c
  · exact ⟨ρ, su, j, S1, wpE_mono hΦ q fun v s q => q.ext e1⟩
  · exact (Aft.ext e1 q).now S1.str rep_bool
theorem snd_orM {a b : E} {x y z : Expr} {zs : List Expr} {pos} (ha : PE X x (rdE M Φ a)) (hb : PE X (.BoolOp .Or (y :: z :: zs) pos) (rdE M Φ b)) : PE X (.BoolOp .Or (x :: y :: z :: zs) pos) (rdE M Φ (.or a b)) := by
  refine PEimp (pe_or ha hb) ?_
  rintro σ H Q ⟨ρ, st, i, S, h⟩
  refine rd1 hΦ S h fun v su j G a e1 S1 r1 q => ?_
  cases v <;> try exact q.elim
  rename_i c
  refine ⟨c, of_bool r1, ?_⟩
  cases c
  · exact ⟨ρ, su, j, S1, wpE_mono hΦ q fun v s q => q.ext e1⟩
  · exact (Aft.ext e1 q).now S1.str rep_bool
/-- an operand's test -/
theorem and_tst {a b : E} {ρ : Env} {st : Store} {i : Io} {σ : L2.St} {H : Hp} {Q : Bool → Hp → Prop} (S : Sim M i ρ st σ H)
    (h : wpE Φ noX (.and a b) ρ st fun v su => truth su v fun d => AftB M i st H Q d su) : rdT M Φ a σ H fun c H1 => if c = true then rdT M Φ b σ H1 Q else Q false H1 := by
  refine rdt hΦ S (R := fun d su => if d = true then wpE Φ noX b ρ su fun v s => truth s v fun d => AftB M i st H Q d s else AftB M i st H Q false su) (wpE_mono hΦ h fun v su q => ?_) fun d su j G e1 S1 q => ?_
  · cases v <;> try exact q.elim
    rename_i c
    cases c
    · exact q
    · exact q
  · cases d
    · exact q j G e1 S1.str
    · exact ⟨ρ, su, j, S1, wpE_mono hΦ q fun v s q => truth_mono q fun d q => q.ext e1⟩
theorem or_tst {a b : E} {ρ : Env} {st : Store} {i : Io} {σ : L2.St} {H : Hp} {Q : Bool → Hp → Prop} (S : Sim M i ρ st σ H)
    (h : wpE Φ noX (.or a b) ρ st fun v su => truth su v fun d => AftB M i st H Q d su) : rdT M Φ a σ H fun c H1 => if c = true then Q true H1 else rdT M Φ b σ H1 Q := by
  refine rdt hΦ S (R := fun d su => if d = true then AftB M i st H Q true su else wpE Φ noX b ρ su fun v s => truth s v fun d => AftB M i st H Q d s) (wpE_mono hΦ h fun v su q => ?_) fun d su j G e1 S1 q => ?_
  · cases v <;> try exact q.elim
    rename_i c
    cases c
    · exact q
    · exact q
  · cases d
    · exact ⟨ρ, su, j, S1, wpE_mono hΦ q fun v s q => truth_mono q fun d q => q.ext e1⟩
    · exact q j G e1 S1.str
theorem tst_and2 {a b : E} {x y : Expr} {pos} (ha : PT X x (rdT M Φ a)) (hb : PT X y (rdT M Φ b)) : PW X (.BoolOp .And [x, y] pos) (rdT M Φ (.and a b)) := by
  refine PWimp (pw_and ha (pw_and1 hb)) ?_
  rintro σ H Q ⟨ρ, st, i, S, h⟩
  exact and_tst hΦ g S h
theorem tst_andM {a b : E} {x y z : Expr} {zs : List Expr} {pos} (ha : PT X x (rdT M Φ a)) (hb : PW X (.BoolOp .And (y :: z :: zs) pos) (rdT M Φ b)) : PW X (.BoolOp .And (x :: y :: z :: zs) pos) (rdT M Φ (.and a b)) := by
  refine PWimp (pw_and ha hb) ?_
  rintro σ H Q ⟨ρ, st, i, S, h⟩
  exact and_tst hΦ g S h
theorem tst_or2 {a b : E} {x y : Expr} {pos} (ha : PT X x (rdT M Φ a)) (hb : PT X y (rdT M Φ b)) : PW X (.BoolOp .Or [x, y] pos) (rdT M Φ (.or a b)) := by
  refine PWimp (pw_or ha (pw_or1 hb)) ?_
  rintro σ H Q ⟨ρ, st, i, S, h⟩
  exact or_tst hΦ g S h
theorem tst_orM {a b : E} {x y z : Expr} {zs : List Expr} {pos} (ha : PT X x (rdT M Φ a)) (hb : PW X (.BoolOp .Or (y :: z :: zs) pos) (rdT M Φ b)) : PW X (.BoolOp .Or (x :: y :: z :: zs) pos) (rdT M Φ (.or a b)) := by
  refine PWimp (pw_or ha hb) ?_
  rintro σ H Q ⟨ρ, st, i, S, h⟩
  exact or_tst hΦ g S h
theorem snd_not {a : E} {x : Expr} {pos} (ha : PE X x (rdE M Φ a)) : PE X (.UnaryOp .Not x pos) (rdE M Φ (.not a)) := by
  refine PEimp (pe_not ha) ?_
  rintro σ H Q ⟨ρ, st, i, S, h⟩
  refine rd1 hΦ S h fun v su j G a e1 S1 r1 q => ?_
  cases v <;> try exact q.elim
  rename_i c
  exact ⟨c, of_bool r1, (Aft.ext e1 q).now S1.str rep_bool⟩
theorem tst_not {a : E} {x : Expr} {pos} (ha : PT X x (rdT M Φ a)) : PT X (.UnaryOp .Not x pos) (rdT M Φ (.not a)) := by
  refine PTimp (pt_not ha) ?_
  rintro σ H Q ⟨ρ, st, i, S, h⟩
  refine rdt hΦ S (R := fun d su => AftB M i st H Q (!d) su) (wpE_mono hΦ h fun v su q => ?_) fun d su j G e1 S1 q => q j G e1 S1.str
  cases v <;> try exact q.elim
  exact q
/-- e1 if c else e2 -/
theorem snd_ite {c a b : E} {x y z : Expr} {pos} (hc : PT X x (rdT M Φ c)) (ha : PE X y (rdE M Φ a)) (hb : PE X z (rdE M Φ b)) : PE X (.IfExp x y z pos) (rdE M Φ (.ite c a b)) := by
  refine PEimp (pe_ifExp hc ha hb) ?_
  rintro σ H Q ⟨ρ, st, i, S, h⟩
  refine rdt hΦ S (R := fun d su => if d = true then wpE Φ noX a ρ su (Aft M i st H Q) else wpE Φ noX b ρ su (Aft M i st H Q)) h fun d su j G e1 S1 q => ?_
  cases d
  · exact ⟨ρ, su, j, S1, wpE_mono hΦ q fun v s q => q.ext e1⟩
  · exact ⟨ρ, su, j, S1, wpE_mono hΦ q fun v s q => q.ext e1⟩
end
end VM

namespace VM
open PySem PySem.Spec PyProof.Rows L2
/-! ### more operations: () + t, t * n -/
def rCat0 (K : PySem.W.Frag) : R2 := fun x y H Q => ∃ a b ys, x = V.ref a ∧ y = V.ref b ∧ SqT K H a [] ∧ SqT K H b ys ∧ Q (.ref b) H
theorem op_cat0 {X : Cx} : OpR X (binaryOp .Add) (rCat0 X.K) := by
  intro pins s σ H x y v u Q I rx ry h
  obtain ⟨a, b, ys, e1, e2, ha, hb, q⟩ := h
  subst e1 e2
  cases rx
  cases ry
  obtain ⟨its, r1, ⟨⟨c1, d1, t1, s1⟩, g1, k1, n1, z1⟩, _⟩ := I.tuple ha
  obtain ⟨its2, r2, ⟨⟨c2, d2, t2, s2⟩, g2, k2, n2, z2⟩, _⟩ := I.tuple hb
  cases r1
  simp only at k1 z1 k2 z2
  subst k1 z1 k2 z2
  refine concat_meets ⟨_, g1, rfl⟩ ⟨_, g2, rfl⟩ noFill_tuple_add seq_tuple_add PySem.F.slot_tuple_add PySem.F.entry_tuple_add (PySem.F.args_tuple_add_2 _ _) (tuple_addW0 a b ([] : List Value).toArray its2.toArray n1 n2 d1 d2 s1 s2 rfl) ?_
  exact ⟨g1, g2, ⟨V.ref b, H, I, rfl, q⟩⟩
theorem mul_same (l : Addr) (its : Array Value) (n : Nat) (dd : Option Addr) (sl : Array (Option Value)) (x : Int) (u : Tok) (c0 : (decide (x < -(2 ^ 63)) || decide (x ≥ 2 ^ 63)) = false) (c1 : (its.isEmpty || x == 1) = true) :
    Meets (Builtin.«tuple.__mul__» ⟨[.ref l, .int x u], []⟩) (fun _ R s => s.heap.get? l = some ⟨.type "tuple", dd, .seq its n, sl⟩ ∧ R (.ok (.ret (Value.ref l))) s) :=
  .of_wp fun prog w A R s h => by
    obtain ⟨hl, h⟩ := h
    obtain ⟨hp, g, d, tk, os⟩ := s
    have f1 := AutoSeq1.idx_int
    wp_walk using wpAny_loadPart' hl
    repeat (first
      | (refine wpAny_ite_false (decide_eq_false (fun z => by rw [c0] at z; cases z)) ?_; wp_walk using wpAny_loadPart' hl)
      | (refine wpAny_ite_true (decide_eq_true c1) ?_; wp_walk using wpAny_loadPart' hl))
    exact ⟨_, rfl, h⟩
/-- t * n, n from 1 on, t not empty -/
def rRepN (K : PySem.W.Frag) : R2 := fun x y H Q => ∃ l k xs, x = V.ref l ∧ y = V.int k ∧ SqT K H l xs ∧ xs ≠ [] ∧ 1 ≤ k ∧ k < 2 ^ 40 ∧ xs.length * k.toNat ≤ sizeLine ∧
  (k = 1 → Q (.ref l) H) ∧ (k ≠ 1 → ∀ p, H p = none → Q (.ref p) (upd H p (.tup (List.replicate k.toNat xs).flatten)))
theorem op_repN {X : Cx} : OpR X (binaryOp .Mult) (rRepN X.K) := by
  intro pins s σ H x y v u Q I rx ry h
  obtain ⟨l, k, xs, e1, e2, hT, hne, h1, h2, hz, q1, q2⟩ := h
  subst e1 e2
  cases rx
  obtain ⟨t, rfl⟩ := ry
  obtain ⟨its, r, ⟨⟨c, dd, dt, sl⟩, g1, z1, n, z2⟩, hs⟩ := I.tuple hT
  simp only at z1 z2
  subst z1 z2
  have hle := r.length
  have hsl := sizeLine_eq
  have c0 : (decide (k < -(2 ^ 63)) || decide (k ≥ 2 ^ 63)) = false := by
    have a : ¬ k < -(2 ^ 63) := by omega
    have b : ¬ k ≥ 2 ^ 63 := by omega
    rw [decide_eq_false a, decide_eq_false b]
    rfl
  have hi : its.toArray.isEmpty = false := by
    cases its with
    | nil => exact absurd (List.eq_nil_of_length_eq_zero hle) hne
    | cons _ _ => rfl
  by_cases hk : k = 1
  · have c1 : (its.toArray.isEmpty || k == 1) = true := by rw [hk]; simp
    refine wpAny_binaryOp_repeat_ref (T := "tuple") (U := "int") (by decide) ⟨_, g1, rfl⟩ (fun s' => typeIs_int s' k t) noFill_tuple_mul F.fills_int_mul F.slot_int_rmul repeat_tuple F.slot_int_index.lookup ?_
    refine call_meets F.slot_int_rmul (typeIs_int s k t) F.entry_int_rmul (F.args_int_rmul_2 _ _) (int_rmul_tuple k t l its.toArray n dd sl) ⟨g1, rfl, ⟨_, g1, rfl⟩, ?_⟩
    exact call_meets F.slot_tuple_mul ⟨_, g1, rfl⟩ F.entry_tuple_mul (F.args_tuple_mul_2 _ _) (mul_same l its.toArray n dd sl k t c0 c1) ⟨g1, V.ref l, H, I, rfl, q1 hk⟩
  · have c1 : (its.toArray.isEmpty || k == 1) = false := by rw [hi, beq_eq_false_iff_ne.mpr hk]; rfl
    have c2 : (decide (k ≤ 0) || its.toArray.isEmpty) = false := by
      have a : ¬ k ≤ 0 := by omega
      rw [hi, decide_eq_false a]
      rfl
    have hm : ((its.toArray.size : Nat) : Int) * k ≤ 16777216 := by
      have a1 : ((its.length * k.toNat : Nat) : Int) ≤ 16777216 := by
        rw [hle] at hz; rw [hsl] at hz; exact Int.ofNat_le.mpr hz
      have a2 : ((its.length * k.toNat : Nat) : Int) = (its.length : Int) * k := by
        rw [Int.natCast_mul, Int.toNat_of_nonneg (by omega)]
      rw [List.size_toArray, ← a2]; exact a1
    have c4 : Builtin.Tuple.tupleTooMany (((its.toArray.size : Nat) : Int) * k) = false := by
      unfold Builtin.Tuple.tupleTooMany
      rw [hsl]
      exact decide_eq_false (by omega)
    have fl : (List.replicate k.toNat its).flatten.length ≤ sizeLine := by
      rw [PyProof.Rows.lm_len_rep_flat, ← hle, Nat.mul_comm]; exact hz
    refine wpAny_binaryOp_repeat_ref (T := "tuple") (U := "int") (by decide) ⟨_, g1, rfl⟩ (fun s' => typeIs_int s' k t) noFill_tuple_mul F.fills_int_mul F.slot_int_rmul repeat_tuple F.slot_int_index.lookup ?_
    refine call_meets F.slot_int_rmul (typeIs_int s k t) F.entry_int_rmul (F.args_int_rmul_2 _ _) (int_rmul_tuple k t l its.toArray n dd sl) ⟨g1, rfl, ⟨_, g1, rfl⟩, ?_⟩
    refine call_meets F.slot_tuple_mul ⟨_, g1, rfl⟩ F.entry_tuple_mul (F.args_tuple_mul_2 _ _) (tuple_mulW l its.toArray n dd sl k t c0 c1 c2 (by omega) c4 (by rw [size_rep, List.size_toArray]; exact fl)) ⟨g1, ?_⟩
    rw [size_rep]
    refine ⟨.ref s.heap.objs.size, _, I.laid (t' := s.toks) (o := .tup (List.replicate k.toNat xs).flatten) (fun _ _ q => Heap.get?_push_of_some _ q) (Nat.le_refl _) ?_, rfl, q2 hk _ (I.hok.fresh (Nat.le_refl _))⟩
    refine ⟨?_, _, r.rep k.toNat, IsTup.new _ _⟩
    rw [PyProof.Rows.lm_len_rep_flat, Nat.mul_comm]; exact hz
end VM

namespace VM
open PySem PySem.Spec PyProof.Rows L2
/-! ### enumerate of a list or a tuple -/
section
theorem meets_enum1 {v : Value} {o : Obj} {C : Heap → Prop} (B : Begins v o C) :
    Meets (Builtin.«enumerate.__new__» ⟨[.type "enumerate", v], []⟩) (fun _ R s => C s.heap ∧
      R (.ok (.ret (.ref (s.heap.push o).objs.size))) { s with heap := (s.heap.push o).push ⟨.type "enumerate", none, .fields #[.none, .bool false, .ref s.heap.objs.size, rawInt 0, .none, .none], #[]⟩ }) :=
  .of_wp fun prog w A R s h => by
    obtain ⟨h1, h⟩ := h
    obtain ⟨hp, gn, dr, tk, os⟩ := s
    have hsub := sub_enumerate
    have begin_ : ∀ {A1 : Around} {E1 : Value → Shared → Prop} {Q1 : Value → Shared → Prop}, Q1 (.ref hp.objs.size) ⟨hp.push o, gn, dr, tk, os⟩ → wpAny (model prog w) A1 (pyIter v) Q1 E1 ⟨hp, gn, dr, tk, os⟩ := fun q => B.iter _ _ _ _ _ _ h1 q
    wp_walk using begin_
    refine wpAny_stack_any fun stk => wpAny_pure ?_
    split
    · rename_i c _ _ _ _ _
      cases (c == Value.type "enumerate") <;> (wp_walk using begin_) <;> exact ⟨_, rfl, h⟩
    · wp_walk using begin_
      exact ⟨_, rfl, h⟩
theorem call_enum1 {prog : Program} {w : World} {A : Around} {E : Value → Shared → Prop} {s : Shared} {v : Value} {o : Obj} {C : Heap → Prop} {Q : Value → Shared → Prop} (B : Begins v o C) (hC : C s.heap)
    (h : ∀ h', IsEnum h' (s.heap.objs.size + 1) s.heap.objs.size 0 .none → h'.get? s.heap.objs.size = some o → (∀ b u, s.heap.get? b = some u → h'.get? b = some u) → Q (.ref (s.heap.objs.size + 1)) { s with heap := h' }) :
    wpAny (model prog w) A (call (.type "enumerate") [v]) Q E s := by
  refine callType_new F.called_enumerate (by decide) (F.typeCall_enumerate_1 _) (F.newCall_enumerate_1 _) (fun ob => F.args_object_init_2 ob _) F.entry_enumerate_new (meets_enum1 B) ⟨hC, ?_⟩
  have hz : (s.heap.push o).objs.size = s.heap.objs.size + 1 := Heap.size_push ..
  show _ ∧ _
  rw [hz]
  have he : ((s.heap.push o).push ⟨.type "enumerate", none, .fields #[.none, .bool false, .ref s.heap.objs.size, rawInt 0, .none, .none], #[]⟩).get? (s.heap.objs.size + 1) = some ⟨.type "enumerate", none, .fields #[.none, .bool false, .ref s.heap.objs.size, rawInt 0, .none, .none], #[]⟩ := by
    have z := Heap.get?_push_size (s.heap.push o) (o := ⟨.type "enumerate", none, .fields #[.none, .bool false, .ref s.heap.objs.size, rawInt 0, .none, .none], #[]⟩) rfl
    rw [hz] at z
    exact z
  exact ⟨⟨_, he, rfl⟩, h _ he (Heap.get?_push_of_some _ (Heap.get?_push_size _ B.free)) fun _ _ x => Heap.get?_push_of_some _ (Heap.get?_push_of_some _ x)⟩
/-- a thing with items at a: G tells the items off the abstract heap, C off the heap -/
structure SrcK (P : Program) (w : World) (a : Addr) (G : Hp → List V → Prop) (C : Heap → Array Value → Prop) (T : Addr → Nat → Heap → Prop) : Prop where
  at_ : ∀ {X : Cx} {pins : List (Addr × Obj)} {σ : L2.St} {H : Hp} {s : Shared} {xs : List V}, L2.Inv X pins σ H s → G H xs → ∃ its : List Value, Vals xs its ∧ C s.heap its.toArray
  here : ∀ {H : Hp} {xs : List V}, G H xs → ∃ u, H a = some u
  inj : ∀ {H : Hp} {xs ys : List V}, G H xs → G H ys → xs = ys
  obj : ∀ {it : Addr} {n : Nat} {h : Heap}, T it n h → ∃ o, h.get? it = some o ∧ ∀ v, o.data ≠ .cell v
  same : ∀ {it : Addr} {n : Nat} {h h' : Heap}, T it n h → (∀ o, h.get? it = some o → h'.get? it = some o) → T it n h'
  draws : ∀ {A : Around} (hh : A.handled = none) (it : Addr) (hne : a ≠ it) (its : Array Value), Draws P w A it [it, a] its.size (fun n v => its[n]? = some v) (fun n h => T it n h ∧ C h its)
theorem kind_tup {P : Program} {w : World} {a : Addr} : SrcK P w a (fun H xs => H a = some (.tup xs)) (fun h its => h.IsTuple a its) (fun it n h => h.IsTupleIter it a n) where
  at_ := fun I h => by
    obtain ⟨its, r, t, _⟩ := I.tuple (SqT.of h)
    exact ⟨its, r, t⟩
  here := fun h => ⟨_, h⟩
  inj := fun h h' => by rw [h] at h'; cases h'; rfl
  obj := fun ⟨o, ho, _, hd⟩ => ⟨o, ho, fun v z => by rw [hd] at z; cases z⟩
  same := fun t k => t.at k
  draws := fun hh it hne its => Draws.tuple hh it a hne its
theorem kind_lst {P : Program} {w : World} {a : Addr} : SrcK P w a (fun H xs => H a = some (.lst xs)) (fun h its => h.IsList a its) (fun it n h => h.IsListIter it a n) where
  at_ := fun I h => by
    obtain ⟨its, r, t, _⟩ := I.list (SqL.of h)
    exact ⟨its, r, t.isList⟩
  here := fun h => ⟨_, h⟩
  inj := fun h h' => by rw [h] at h'; cases h'; rfl
  obj := fun ⟨o, ho, _, hd⟩ => ⟨o, ho, fun v z => by rw [hd] at z; cases z⟩
  same := fun t k => t.at k
  draws := fun hh it hne its => Draws.list hh it a hne its
/-- each item in a new pair with its place -/
def Ien (G : Hp → List V → Prop) : It :=
  ⟨fun n H => ∃ xs x, G H xs ∧ xs[n]? = some x, fun n H v H' => ∃ T x, v = .ref T ∧ H T = none ∧ H' = upd H T (.tup [.int (n : Nat), x]) ∧ ∀ xs, G H xs → xs[n]? = some x, fun n H => ∃ xs, G H xs ∧ xs.length = n⟩
theorem turn_en {P : Program} {w : World} {K : PySem.W.Frag} {a : Addr} {G : Hp → List V → Prop} {C : Heap → Array Value → Prop} {T : Addr → Nat → Heap → Prop} (k : SrcK P w a G C T) {elts : List Expr} {kk : Nat} {tpos : Pos} (e it : Addr) (hei : e ≠ it) :
    Turn P w K (.Tuple elts kk tpos) (Ien G) [e, it] e (fun n h => (∃ old, IsEnum h e it (n : Nat) old) ∧ T it n h) where
  mem := by simp
  obj := fun n h st b hb => by
    obtain ⟨⟨old, he⟩, ht⟩ := st
    rcases (by simpa using hb : b = e ∨ b = it) with z | z
    · subst z; exact ⟨_, he, fun v q => nomatch q⟩
    · subst z; exact k.obj ht
  keep := fun n h h' st q => by
    obtain ⟨⟨old, he⟩, ht⟩ := st
    exact ⟨⟨old, q e (by simp) _ he⟩, k.same ht fun o z => q it (by simp) o z⟩
  item := by
    intro X hP hw hK hc n pins s σ H E I hf st hg
    subst hP hw hK
    obtain ⟨⟨old, he⟩, ht⟩ := st
    obtain ⟨xs, x, hG, hx⟩ := hg
    obtain ⟨its, rv, hC⟩ := k.at_ I hG
    obtain ⟨u, hu, ru⟩ := rv.get hx
    obtain ⟨ua, hua⟩ := k.here hG
    have nea : ∀ b ∈ [e, it], a ≠ b := fun b hb q => by
      have := (hf b hb).1
      rw [← q, hua] at this
      cases this
    have W := WalksT.enumerateD (k.draws (A := X.A.in1) (I.ok.hd hc) it (nea it (by simp)) its.toArray) e hei (by simp only [List.mem_cons, List.not_mem_nil, or_false, not_or]; exact ⟨hei, (nea e (by simp)).symm⟩) (by simp)
    have hlt : n < its.toArray.size := by
      have := (List.getElem?_eq_some_iff.mp hu).1
      simpa using this
    refine W.item n s _ _ hlt ⟨⟨old, he⟩, ht, hC⟩ fun Tp vals h1 tk hP hT isT mid kp => ⟨_, rfl, ?_⟩
    refine W.go elts kk tpos n Tp { s with heap := h1, toks := tk } _ _ mid fun h2 st2 kp2 => ?_
    obtain ⟨t, y, hy, ev⟩ := hP
    subst ev
    have ey : y = u := by
      have : its.toArray[n]? = some u := by simpa using hu
      rw [this] at hy; cases hy; rfl
    subst ey
    obtain ⟨oT, gT, cT, nT, dT⟩ := isT
    have apart := W.apart n Tp h1 mid
    have new : ObjOk X.prog X.w (upd H Tp (.tup [.int (n : Nat), x])) h2 Tp (.tup [.int (n : Nat), x]) :=
      ⟨by show 2 ≤ sizeLine; decide, [.int (n : Nat) t, y], .cons ⟨t, rfl⟩ (.cons ru .nil), oT, kp2 Tp oT apart gT, cT, nT, dT⟩
    have I1 := I.turnedNew (t' := tk) (ch := [e, it]) (fun b o hb q => kp2 b o hb (kp b o hb q)) hf hT new
    refine ⟨.ref Tp, _, I1, rfl, ⟨Tp, x, rfl, I.hok.fresh hT, rfl, fun ys hy => by rw [k.inj hy hG]; exact hx⟩, ⟨st2.1, st2.2.1⟩, fun b hb => ?_⟩
    rw [upd_ne fun z => apart (by rw [← z]; exact hb)]
    exact (hf b hb).1
  done := by
    intro X hP hw hK hc n pins s σ H E I hf st hg
    subst hP hw hK
    obtain ⟨⟨old, he⟩, ht⟩ := st
    obtain ⟨xs, hG, hl⟩ := hg
    obtain ⟨its, rv, hC⟩ := k.at_ I hG
    obtain ⟨ua, hua⟩ := k.here hG
    have nea : ∀ b ∈ [e, it], a ≠ b := fun b hb q => by
      have := (hf b hb).1
      rw [← q, hua] at this
      cases this
    have W := WalksT.enumerateD (k.draws (A := X.A.in1) (I.ok.hd hc) it (nea it (by simp)) its.toArray) e hei (by simp only [List.mem_cons, List.not_mem_nil, or_false, not_or]; exact ⟨hei, (nea e (by simp)).symm⟩) (by simp)
    have hn : its.toArray.size = n := by rw [List.size_toArray, ← rv.length, hl]
    refine W.done s _ _ (by rw [hn]; exact ⟨⟨old, he⟩, ht, hC⟩) fun h1 tk kp => ⟨rfl, ?_⟩
    exact I.turnedL (t' := tk) (ch := [e, it]) (fun b o hb q => kp b o hb q) hf
  self := fun A n s Q E st h => by
    obtain ⟨⟨old, he⟩, _⟩ := st
    exact wpAny_pyIter_enum he h
end
/-! ### what a for walks -/
section
variable {X : Cx}
/-- a list or a tuple -/
def iSeq (K : PySem.W.Frag) (tl : TE) : TI := fun σ H R => tl σ H fun x H1 => ∃ a, x = .ref a ∧ ((∃ xs, H1 a = some (.lst xs) ∧ R (Itl K a) H1) ∨ ∃ xs, H1 a = some (.tup xs) ∧ R (Itt K a) H1)
theorem pi_seq {tg l : Expr} {tl : TE} (hl : PE X l tl) : PI X tg l (iSeq X.K tl) := by
  refine ⟨fun pins s σ H R I h => thn (hl.run pins s σ H _ I h) fun v s1 ⟨x, H1, I1, r1, a, ex, q⟩ => ?_⟩
  subst ex
  cases r1
  have nw := I1.hok.fresh (Nat.le_refl _)
  rcases q with ⟨xs, hx, q⟩ | ⟨xs, hx, q⟩
  · obtain ⟨its, rv, pl, _⟩ := I1.list (SqL.of hx)
    exact wpAny_pyIter_list pl.isList ⟨_, [s1.heap.objs.size], _, _, H1, rfl, I1.kept (t' := s1.toks) (fun _ _ z => Heap.get?_push_of_some _ z), turn_list a _, ⟨_, Heap.get?_push_size _ rfl, rfl, rfl⟩, fun b hb => by rw [List.mem_singleton.mp hb]; exact I1.fpOk (Nat.le_refl _) nw, q⟩
  · obtain ⟨its, rv, pl, _⟩ := I1.tuple (SqT.of hx)
    exact wpAny_pyIter_tuple (show s1.heap.IsTuple a its.toArray from pl) ⟨_, [s1.heap.objs.size], _, _, H1, rfl, I1.kept (t' := s1.toks) (fun _ _ z => Heap.get?_push_of_some _ z), turn_tuple a _, ⟨_, Heap.get?_push_size _ rfl, rfl, rfl⟩, fun b hb => by rw [List.mem_singleton.mp hb]; exact I1.fpOk (Nat.le_refl _) nw, q⟩
/-- enumerate of one -/
def iEn (ta : TA) : TI := fun σ H R => ta σ H fun vs H1 => ∃ a, vs = [.ref a] ∧ ((∃ xs, H1 a = some (.lst xs) ∧ R (Ien fun G ys => G a = some (.lst ys)) H1) ∨ ∃ xs, H1 a = some (.tup xs) ∧ R (Ien fun G ys => G a = some (.tup ys)) H1)
theorem pi_en {e : Expr} {ta : TA} {p pos tpos : Pos} {elts : List Expr} {kk : Nat} (hg : Gl X "enumerate") (hm : X.mg "enumerate" = none) (ha : PA X [e] ta) (hs : starEach [e] X.env = [(false, eval e X.env)]) :
    PI X (.Tuple elts kk tpos) (.Call (.Name "enumerate" p) [e] [] pos) (iEn ta) := by
  refine ⟨fun pins s σ H R I h => ?_⟩
  refine Call_ (ld_blt I hg hm boot_enumerate (PyProof.Rows.callWith_type1 (thn (ha.run pos pins s σ H _ I h) fun us s1 ⟨vs, H1, I1, r1, a, ex, q⟩ => ?_) hs rfl))
  subst ex
  obtain ⟨u, rfl, ru⟩ := vals1 r1
  cases ru
  have fin : ∀ {G : Hp → List V → Prop} {C : Heap → Array Value → Prop} {T : Addr → Nat → Heap → Prop} {o : Obj} {D : Heap → Prop} (kd : SrcK X.prog X.w a G C T) (B : Begins (.ref a) o D) (hD : D s1.heap) (hT : ∀ h : Heap, h.get? s1.heap.objs.size = some o → T s1.heap.objs.size 0 h) (hR : R (Ien G) H1),
      wpAny (model X.prog X.w) X.A (call (.type "enumerate") [.ref a]) (fun v s1 => wpAny (model X.prog X.w) X.A (pyIter v) (PIE X pins σ (.Tuple elts kk tpos) R) X.xe s1) X.xe s1 := fun {G C T o D} kd B hD hT hR => by
    refine call_enum1 B hD fun h1 he hit hk => wpAny_pyIter_enum he ?_
    refine ⟨s1.heap.objs.size + 1, [s1.heap.objs.size + 1, s1.heap.objs.size], _, _, H1, rfl, I1.kept (t' := s1.toks) hk, turn_en kd (s1.heap.objs.size + 1) s1.heap.objs.size (Nat.succ_ne_self _), ⟨⟨.none, he⟩, hT h1 hit⟩, fun b hb => ?_, hR⟩
    have hle : s1.heap.objs.size ≤ b := by
      rcases (by simpa using hb : b = s1.heap.objs.size + 1 ∨ b = s1.heap.objs.size) with z | z
      · rw [z]; exact Nat.le_succ _
      · rw [z]; exact Nat.le_refl _
    exact I1.fpOk hle (I1.hok.fresh hle)
  rcases q with ⟨xs, hx, q⟩ | ⟨xs, hx, q⟩
  · obtain ⟨its, rv, pl, _⟩ := I1.list (SqL.of hx)
    exact fin kind_lst (begins_list a its.toArray) pl.isList (fun h z => ⟨_, z, rfl, rfl⟩) q
  · obtain ⟨its, rv, pl, _⟩ := I1.tuple (SqT.of hx)
    exact fin kind_tup (begins_tuple a its.toArray) (show s1.heap.IsTuple a its.toArray from pl) (fun h z => ⟨_, z, rfl, rfl⟩) q
end
end VM

namespace VM
open PySem PySem.Spec PyProof.Rows L2
theorem ixN_eq (n : Nat) (i : Int) : VM.ixN n i = L2.ixN n i := rfl
theorem atI_eq {α : Type} (xs : List α) (i : Int) : VM.atI xs i = L2.atI xs i := rfl
theorem sIx_eq (n d : Nat) : ∀ o : Option Int, VM.sIx n d o = HT.sIx n d o
  | none => rfl
  | some v => rfl
theorem big_eq : big = sizeLine := by rw [sizeLine_eq]; rfl
section
variable {M : Md} {i j : Io} {st su : Store} {H G : Hp} {p : Addr}
theorem RepL.at_ {vs : List Val} {xs : List V} {n : Int} {v : Val} (h : RepL M i st H vs xs) (e : VM.atI vs n = some v) : ∃ a, L2.atI xs n = some a ∧ Rep M i st H v a := by
  unfold VM.atI at e
  unfold L2.atI
  rw [← h.length, ← ixN_eq]
  cases q : VM.ixN vs.length n with
  | none => rw [q] at e; cases e
  | some k => rw [q] at e; exact h.get e
theorem RepL.cut {vs : List Val} {xs : List V} (lo hi : Option Int) (h : RepL M i st H vs xs) : RepL M i st H (cutL vs lo hi) (cutV xs lo hi) := by
  unfold cutL cutV
  rw [sIx_eq, sIx_eq, h.length]
  exact (h.drop _).take _
/-- ints in a list -/
theorem RepL.allI : ∀ {vs : List Val} {xs : List V} {ns : List Int}, RepL M i st H vs xs → VM.allI vs = some ns → xs = ns.map V.int
  | [], xs, ns, h, e => by simp only [RepL] at h; cases e; exact h
  | .int b :: vs, xs, ns, h, e => by
    simp only [RepL] at h
    obtain ⟨a, r, rfl, h1, h2⟩ := h
    simp only [VM.allI, Option.map_eq_some_iff] at e
    obtain ⟨ms, e1, rfl⟩ := e
    rw [of_int h1, RepL.allI h2 e1]
    rfl
  | .non :: _, _, _, _, e => by cases e
  | .bool _ :: _, _, _, _, e => by cases e
  | .str _ :: _, _, _, _, e => by cases e
  | .tup _ :: _, _, _, _, e => by cases e
  | .lst _ :: _, _, _, _, e => by cases e
  | .dct _ :: _, _, _, _, e => by cases e
  | .obj _ _ :: _, _, _, _, e => by cases e
  | .cell _ :: _, _, _, _, e => by cases e
  | .rng _ _ :: _, _, _, _, e => by cases e
  | .scr _ :: _, _, _, _, e => by cases e
theorem RepL.allB : ∀ {vs : List Val} {xs : List V} {ns : List Bool}, RepL M i st H vs xs → VM.allB vs = some ns → xs = ns.map V.bl
  | [], xs, ns, h, e => by simp only [RepL] at h; cases e; exact h
  | .bool b :: vs, xs, ns, h, e => by
    simp only [RepL] at h
    obtain ⟨a, r, rfl, h1, h2⟩ := h
    simp only [VM.allB, Option.map_eq_some_iff] at e
    obtain ⟨ms, e1, rfl⟩ := e
    rw [of_bool h1, RepL.allB h2 e1]
    rfl
  | .non :: _, _, _, _, e => by cases e
  | .int _ :: _, _, _, _, e => by cases e
  | .str _ :: _, _, _, _, e => by cases e
  | .tup _ :: _, _, _, _, e => by cases e
  | .lst _ :: _, _, _, _, e => by cases e
  | .dct _ :: _, _, _, _, e => by cases e
  | .obj _ _ :: _, _, _, _, e => by cases e
  | .cell _ :: _, _, _, _, e => by cases e
  | .rng _ _ :: _, _, _, _, e => by cases e
  | .scr _ :: _, _, _, _, e => by cases e
/-- the largest of a list is told by two facts -/
theorem maxL_of : ∀ {ns : List Int} {m : Int}, m ∈ ns → (∀ y, y ∈ ns → y ≤ m) → m = maxL ns
  | [x], m, h, _ => by simpa [maxL] using h
  | x :: y :: r, m, h, k => by
    have ge : ∀ z ∈ y :: r, z ≤ maxL (y :: r) := by
      have : ∀ (l : List Int) (z : Int), z ∈ l → z ≤ maxL l := by
        intro l
        induction l with
        | nil => intro z hz; cases hz
        | cons a b ih =>
          intro z hz
          cases b with
          | nil => simp at hz; subst hz; exact Int.le_refl _
          | cons c d =>
            simp only [maxL]
            rcases List.mem_cons.mp hz with e | e
            · subst e; exact Int.le_max_left _ _
            · exact Int.le_trans (ih z e) (Int.le_max_right _ _)
      exact this _
    have mem : maxL (y :: r) ∈ y :: r := by
      have : ∀ (l : List Int), l ≠ [] → maxL l ∈ l := by
        intro l
        induction l with
        | nil => intro h; exact absurd rfl h
        | cons a b ih =>
          intro _
          cases b with
          | nil => simp [maxL]
          | cons c d =>
            simp only [maxL]
            rcases Int.le_total a (maxL (c :: d)) with q | q
            · rw [Int.max_eq_right q]; exact List.mem_cons_of_mem _ (ih (by simp))
            · rw [Int.max_eq_left q]; exact List.mem_cons_self
      exact this _ (by simp)
    simp only [maxL]
    have h1 := k x List.mem_cons_self
    have h2 := k _ (List.mem_cons_of_mem _ mem)
    rcases List.mem_cons.mp h with e | e
    · subst e; rw [Int.max_eq_left h2]
    · have h3 := ge m e
      have : m = maxL (y :: r) := by omega
      rw [← this, Int.max_eq_right h1]
theorem minL_of : ∀ {ns : List Int} {m : Int}, m ∈ ns → (∀ y, y ∈ ns → m ≤ y) → m = minL ns
  | [x], m, h, _ => by simpa [minL] using h
  | x :: y :: r, m, h, k => by
    have ge : ∀ z ∈ y :: r, minL (y :: r) ≤ z := by
      have : ∀ (l : List Int) (z : Int), z ∈ l → minL l ≤ z := by
        intro l
        induction l with
        | nil => intro z hz; cases hz
        | cons a b ih =>
          intro z hz
          cases b with
          | nil => simp at hz; subst hz; exact Int.le_refl _
          | cons c d =>
            simp only [minL]
            rcases List.mem_cons.mp hz with e | e
            · subst e; exact Int.min_le_left _ _
            · exact Int.le_trans (Int.min_le_right _ _) (ih z e)
      exact this _
    have mem : minL (y :: r) ∈ y :: r := by
      have : ∀ (l : List Int), l ≠ [] → minL l ∈ l := by
        intro l
        induction l with
        | nil => intro h; exact absurd rfl h
        | cons a b ih =>
          intro _
          cases b with
          | nil => simp [minL]
          | cons c d =>
            simp only [minL]
            rcases Int.le_total a (minL (c :: d)) with q | q
            · rw [Int.min_eq_left q]; exact List.mem_cons_self
            · rw [Int.min_eq_right q]; exact List.mem_cons_of_mem _ (ih (by simp))
      exact this _ (by simp)
    simp only [minL]
    have h1 := k x List.mem_cons_self
    have h2 := k _ (List.mem_cons_of_mem _ mem)
    rcases List.mem_cons.mp h with e | e
    · subst e; rw [Int.min_eq_left h2]
    · have h3 := ge m e
      have : m = minL (y :: r) := by omega
      rw [← this, Int.min_eq_right h1]
/-! ### data -/
mutual
def toD : Val → PyData
  | .non => .none
  | .bool b => .bool b
  | .int n => .int n
  | .str s => .str s
  | .tup vs => .tuple (toDL vs)
  | .lst vs => .list (toDL vs)
  | _ => .none
def toDL : List Val → List PyData
  | [] => []
  | v :: vs => toD v :: toDL vs
end
theorem small_ok {x : Str} (h : strSmall x = true) : PyData.strOk x = true := h
/-! depth and letters fit -/
mutual
theorem data_lay : ∀ {n : Nat} {v : Val}, data n v = true → (toD v).canLay0 = true ∧ (toD v).depth ≤ n
  | n, .non, _ => by simp [toD, PyData.canLay0, PyData.depth]
  | n, .bool b, _ => by simp [toD, PyData.canLay0, PyData.depth]
  | n, .int b, _ => by simp [toD, PyData.canLay0, PyData.depth]
  | n, .str b, h => by
    have h : PyData.strOk b = true := by
      cases n <;> exact h
    simp [toD, PyData.canLay0, PyData.depth, h]
  | n + 1, .tup vs, d => by
    obtain ⟨h1, h2⟩ := data_layL (n := n) (vs := vs) (by simpa only [data] using d)
    simp only [toD, PyData.canLay0, PyData.depth]
    exact ⟨h1, by omega⟩
  | n + 1, .lst vs, d => by
    obtain ⟨h1, h2⟩ := data_layL (n := n) (vs := vs) (by simpa only [data] using d)
    simp only [toD, PyData.canLay0, PyData.depth]
    exact ⟨h1, by omega⟩
  | 0, .tup vs, d => by simp [data] at d
  | 0, .lst vs, d => by simp [data] at d
  | n, .dct vs, d => by cases n <;> simp [data] at d
  | n, .obj _ vs, d => by cases n <;> simp [data] at d
  | n, .cell vs, d => by cases n <;> simp [data] at d
  | n, .rng vs _, d => by cases n <;> simp [data] at d
  | n, .scr vs, d => by cases n <;> simp [data] at d
theorem data_layL : ∀ {n : Nat} {vs : List Val}, vs.all (data n) = true → PyData.canLayAll0 (toDL vs) = true ∧ PyData.depthAll (toDL vs) ≤ n
  | n, [], _ => by simp [toDL, PyData.canLayAll0, PyData.depthAll]
  | n, v :: vs, d => by
    rw [List.all_cons, Bool.and_eq_true] at d
    obtain ⟨h1, h2⟩ := data_lay (n := n) d.1
    obtain ⟨h3, h4⟩ := data_layL (n := n) d.2
    simp only [toDL, PyData.canLayAll0, PyData.depthAll, h1, h3, Bool.and_self, true_and]
    exact Nat.max_le.mpr ⟨h2, h4⟩
end
theorem data_shaped {n : Nat} {v : Val} (h : data n v = true) (hn : n ≤ 60) : SeqAt.shaped (toD v) = true := by
  obtain ⟨h1, h2⟩ := data_lay h
  unfold SeqAt.shaped
  rw [h1, decide_eq_true (by omega)]
  rfl
mutual
theorem veq_eqv : ∀ {n m : Nat} {v u : Val}, data n v = true → data m u = true → veq v u = PyData.eqv (toD v) (toD u)
  | n + 1, m + 1, .tup vs, .tup us, d, e => by
    simp only [veq, toD, PyData.eqv]
    exact veq_eqvL (n := n) (m := m) (by simpa only [data] using d) (by simpa only [data] using e)
  | n + 1, m + 1, .lst vs, .lst us, d, e => by
    simp only [veq, toD, PyData.eqv]
    exact veq_eqvL (n := n) (m := m) (by simpa only [data] using d) (by simpa only [data] using e)
  | 0, _, .tup _, _, d, _ => by simp [data] at d
  | 0, _, .lst _, _, d, _ => by simp [data] at d
  | _, 0, _, .tup _, _, e => by simp [data] at e
  | _, 0, _, .lst _, _, e => by simp [data] at e
  | n, m, .dct vs, _, d, _ => by cases n <;> simp [data] at d
  | n, m, .obj _ vs, _, d, _ => by cases n <;> simp [data] at d
  | n, m, .cell vs, _, d, _ => by cases n <;> simp [data] at d
  | n, m, .rng vs _, _, d, _ => by cases n <;> simp [data] at d
  | n, m, .scr vs, _, d, _ => by cases n <;> simp [data] at d
  | n, m, _, .dct vs, _, e => by cases m <;> simp [data] at e
  | n, m, _, .obj _ vs, _, e => by cases m <;> simp [data] at e
  | n, m, _, .cell vs, _, e => by cases m <;> simp [data] at e
  | n, m, _, .rng vs _, _, e => by cases m <;> simp [data] at e
  | n, m, _, .scr vs, _, e => by cases m <;> simp [data] at e
  | n, m, .non, .non, _, _ => by simp [veq, toD, PyData.eqv]
  | n, m, .non, .bool _, _, _ => by simp [veq, toD, PyData.eqv]
  | n, m, .non, .int _, _, _ => by simp [veq, toD, PyData.eqv]
  | n, m, .non, .str _, _, _ => by simp [veq, toD, PyData.eqv]
  | n, m, .non, .tup _, _, _ => by simp [veq, toD, PyData.eqv]
  | n, m, .non, .lst _, _, _ => by simp [veq, toD, PyData.eqv]
  | n, m, .bool _, .non, _, _ => by simp [veq, toD, PyData.eqv]
  | n, m, .bool _, .bool _, _, _ => by simp only [veq, toD, PyData.eqv]
  | n, m, .bool _, .int _, _, _ => by simp only [veq, toD, PyData.eqv]
  | n, m, .bool _, .str _, _, _ => by simp [veq, toD, PyData.eqv]
  | n, m, .bool _, .tup _, _, _ => by simp [veq, toD, PyData.eqv]
  | n, m, .bool _, .lst _, _, _ => by simp [veq, toD, PyData.eqv]
  | n, m, .int _, .non, _, _ => by simp [veq, toD, PyData.eqv]
  | n, m, .int _, .bool _, _, _ => by simp only [veq, toD, PyData.eqv]
  | n, m, .int _, .int _, _, _ => by simp only [veq, toD, PyData.eqv]
  | n, m, .int _, .str _, _, _ => by simp [veq, toD, PyData.eqv]
  | n, m, .int _, .tup _, _, _ => by simp [veq, toD, PyData.eqv]
  | n, m, .int _, .lst _, _, _ => by simp [veq, toD, PyData.eqv]
  | n, m, .str _, .non, _, _ => by simp [veq, toD, PyData.eqv]
  | n, m, .str _, .bool _, _, _ => by simp [veq, toD, PyData.eqv]
  | n, m, .str _, .int _, _, _ => by simp [veq, toD, PyData.eqv]
  | n, m, .str _, .str _, _, _ => by simp only [veq, toD, PyData.eqv]
  | n, m, .str _, .tup _, _, _ => by simp [veq, toD, PyData.eqv]
  | n, m, .str _, .lst _, _, _ => by simp [veq, toD, PyData.eqv]
  | n, m, .tup _, .non, _, _ => by simp [veq, toD, PyData.eqv]
  | n, m, .tup _, .bool _, _, _ => by simp [veq, toD, PyData.eqv]
  | n, m, .tup _, .int _, _, _ => by simp [veq, toD, PyData.eqv]
  | n, m, .tup _, .str _, _, _ => by simp [veq, toD, PyData.eqv]
  | n, m, .tup _, .lst _, _, _ => by simp [veq, toD, PyData.eqv]
  | n, m, .lst _, .non, _, _ => by simp [veq, toD, PyData.eqv]
  | n, m, .lst _, .bool _, _, _ => by simp [veq, toD, PyData.eqv]
  | n, m, .lst _, .int _, _, _ => by simp [veq, toD, PyData.eqv]
  | n, m, .lst _, .str _, _, _ => by simp [veq, toD, PyData.eqv]
  | n, m, .lst _, .tup _, _, _ => by simp [veq, toD, PyData.eqv]
theorem veq_eqvL : ∀ {n m : Nat} {vs us : List Val}, vs.all (data n) = true → us.all (data m) = true → veqL vs us = PyData.eqvAll (toDL vs) (toDL us)
  | n, m, [], [], _, _ => by simp [veqL, toDL, PyData.eqvAll]
  | n, m, [], _ :: _, _, _ => by simp [veqL, toDL, PyData.eqvAll]
  | n, m, _ :: _, [], _, _ => by simp [veqL, toDL, PyData.eqvAll]
  | n, m, v :: vs, u :: us, d, e => by
    rw [List.all_cons, Bool.and_eq_true] at d e
    simp only [veqL, toDL, PyData.eqvAll]
    rw [veq_eqv d.1 e.1, veq_eqvL d.2 e.2]
end
mutual
theorem data_dp : ∀ {n : Nat} {v : Val} {a : V}, data n v = true → Rep M i st H v a → Dp M.K H a (toD v)
  | n, .non, a, _, r => by rw [of_non r]; simp only [toD]; exact .non
  | n, .bool b, a, _, r => by rw [of_bool r]; simp only [toD]; exact .bl b
  | n, .int b, a, _, r => by rw [of_int r]; simp only [toD]; exact .int b
  | n, .str b, a, _, r => by rw [of_str r]; simp only [toD]; exact .str b
  | n + 1, .tup vs, a, d, r => by
    obtain ⟨p, xs, e, h1, _, h2⟩ := of_tup r
    subst e
    simp only [toD]
    exact .tup (SqT.of h1) (data_dpL (by simpa only [data] using d) h2)
  | n + 1, .lst vs, a, d, r => by
    obtain ⟨p, xs, e, h1, _, h2⟩ := of_lst r
    subst e
    simp only [toD]
    exact .lst (SqL.of h1) (data_dpL (by simpa only [data] using d) h2)
  | 0, .tup vs, a, d, r => by simp [data] at d
  | 0, .lst vs, a, d, r => by simp [data] at d
  | n, .dct vs, a, d, r => by cases n <;> simp [data] at d
  | n, .obj _ vs, a, d, r => by cases n <;> simp [data] at d
  | n, .cell vs, a, d, r => by cases n <;> simp [data] at d
  | n, .rng vs _, a, d, r => by cases n <;> simp [data] at d
  | n, .scr vs, a, d, r => by cases n <;> simp [data] at d
theorem data_dpL : ∀ {n : Nat} {vs : List Val} {xs : List V}, vs.all (data n) = true → RepL M i st H vs xs → DpAll M.K H xs (toDL vs)
  | n, [], xs, _, r => by simp only [RepL] at r; subst r; simp only [toDL]; exact .nil
  | n, v :: vs, xs, d, r => by
    simp only [RepL] at r
    obtain ⟨a, q, rfl, h1, h2⟩ := r
    rw [List.all_cons, Bool.and_eq_true] at d
    simp only [toDL]
    exact .cons (data_dp d.1 h1) (data_dpL d.2 h2)
end
end
end VM

namespace VM
open PySem PySem.Spec PyProof.Rows L2
def opOf : BOp → Operator
  | .add => .Add
  | .sub => .Sub
  | .mul => .Mult
  | .mod => .Mod
  | .fdiv => .FloorDiv
  | .pow => .Pow
def copOf : COp → CmpOp
  | .eq => .Eq
  | .ne => .NotEq
  | .lt => .Lt
  | .le => .LtE
  | .gt => .Gt
  | .ge => .GtE
  | .isN => .Is
  | .notN => .IsNot
  | .mem => .In
  | .nmem => .NotIn
section
variable {M : Md} {i j : Io} {st su : Store} {H G : Hp} {p : Addr}
/-- what an operator asks -/
def rOf (X : Cx) : BOp → R2
  | .add => fun x y H Q => rI0 (fun i j => .int (i + j)) x y H Q ∨ rCatT X.K x y H Q ∨ rCat0 X.K x y H Q ∨ rCat x y H Q ∨ (∃ i j, x = .str i ∧ y = .str j ∧ i.length + j.length ≤ sizeLine ∧ Q (.str (i ++ j)) H)
  | .sub => rI0 fun i j => .int (i - j)
  | .mul => fun x y H Q => rI L2.CMul (fun i j => .int (i * j)) x y H Q ∨ rRepN X.K x y H Q ∨ rRep x y H Q
  | .mod => rI (fun _ j => 0 < j) fun i j => .int (i % j)
  | .fdiv => rI CDiv fun i j => .int (i / j)
  | .pow => rI CPow fun i j => .int (i ^ j.toNat)
theorem op_ok {X : Cx} : ∀ op, OpR X (binaryOp (opOf op)) (rOf X op)
  | .add => op_add.or (op_catT.or (op_cat0.or (op_cat.or op_add_str)))
  | .sub => op_sub
  | .mul => op_mul.or (op_repN.or op_rep)
  | .mod => op_mod
  | .fdiv => op_fdiv
  | .pow => op_pow
theorem bin_rd {X : Cx} {op : BOp} {v u : Val} {x y : V} {i0 : Io} {st0 : Store} {H0 : Hp} {Q : VK} (e : Ext i0 st0 H0 i st H) (S : StRel M i st H) (rx : Rep M i st H v x) (ry : Rep M i st H u y)
    (h : wpBin op v u st (Aft M i0 st0 H0 Q)) : rOf X op x y H Q := by
  unfold wpBin at h
  split at h
  · rename_i a b
    cases op
    · exact .inl ⟨a, b, of_int rx, of_int ry, (Aft.ext e h).now S rep_int⟩
    · exact ⟨a, b, of_int rx, of_int ry, (Aft.ext e h).now S rep_int⟩
    · exact .inl ⟨a, b, of_int rx, of_int ry, h.1, (Aft.ext e h.2).now S rep_int⟩
    · exact ⟨a, b, of_int rx, of_int ry, h.1, (Aft.ext e h.2).now S rep_int⟩
    · exact ⟨a, b, of_int rx, of_int ry, ⟨h.1, h.2.1⟩, (Aft.ext e h.2.2).now S rep_int⟩
    · exact ⟨a, b, of_int rx, of_int ry, ⟨h.1, by have := h.2.1; omega, h.2.2.1⟩, (Aft.ext e h.2.2.2).now S rep_int⟩
  · rename_i vs us
    cases op <;> try exact h.elim
    obtain ⟨p, xs, rfl, h1, n1, l1⟩ := of_tup rx
    obtain ⟨q, ys, rfl, h2, n2, l2⟩ := of_tup ry
    obtain ⟨hz, h⟩ := h
    have z1 := l1.length
    have z2 := l2.length
    by_cases hx : xs = []
    · subst hx
      cases vs with
      | cons _ _ => simp at z1
      | nil => exact .inr (.inr (.inl ⟨p, q, ys, rfl, rfl, SqT.of h1, SqT.of h2, (Aft.ext e h).now S ry⟩))
    · refine .inr (.inl ⟨p, q, xs, ys, rfl, rfl, SqT.of h1, SqT.of h2, hx, by rw [← z1, ← z2, ← big_eq]; exact hz, fun hy => ?_, fun hy r hr => (Aft.ext e h).nw S hr (rep_newT S hr (l1.append l2))⟩)
      subst hy
      cases us with
      | cons _ _ => simp at z2
      | nil => exact (Aft.ext e h).now S (by rw [List.append_nil]; exact rx)
  · rename_i vs n
    cases op <;> try exact h.elim
    obtain ⟨p, xs, rfl, h1, n1, l1⟩ := of_tup rx
    obtain ⟨hne, k1, k2, hz, h⟩ := h
    have z1 := l1.length
    refine .inr (.inl ⟨p, n, xs, rfl, of_int ry, SqT.of h1, fun q => hne ?_, k1, k2, by rw [← z1, ← big_eq]; exact hz, fun e1 => ?_, fun e1 r hr => (Aft.ext e h).nw S hr (rep_newT S hr (l1.rep _))⟩)
    · subst q; exact List.eq_nil_of_length_eq_zero z1
    · subst e1
      exact (Aft.ext e h).now S (by simpa using rx)
  · rename_i vs us
    cases op <;> try exact h.elim
    obtain ⟨p, xs, rfl, h1, n1, l1⟩ := of_lst rx
    obtain ⟨q, ys, rfl, h2, n2, l2⟩ := of_lst ry
    obtain ⟨hz, h⟩ := h
    have z1 := l1.length
    have z2 := l2.length
    exact .inr (.inr (.inr (.inl ⟨p, q, xs, ys, rfl, rfl, h1, h2, by rw [← z1, ← z2, ← big_eq]; exact hz, fun r hr => (Aft.ext e h).nw S hr (rep_newL S hr (l1.append l2))⟩)))
  · rename_i vs n
    cases op <;> try exact h.elim
    obtain ⟨p, xs, rfl, h1, n1, l1⟩ := of_lst rx
    obtain ⟨k1, k2, hz, h⟩ := h
    have z1 := l1.length
    exact .inr (.inr ⟨p, n, xs, rfl, of_int ry, h1, by omega, by omega, by rw [← z1, ← big_eq]; exact hz, fun r hr => (Aft.ext e h).nw S hr (rep_newL S hr (l1.rep _))⟩)
  · rename_i a b
    cases op <;> try exact h.elim
    exact .inr (.inr (.inr (.inr ⟨a, b, of_str rx, of_str ry, by rw [← big_eq]; exact h.1, (Aft.ext e h.2).now S rep_str⟩)))
  · exact h.elim
/-! ### comparisons -/
theorem Room.u65 {k : Nat} {A : Around} (r : Room k A) : A.units + 65 < cLine := by have := r.un; omega
def rCmp (X : Cx) : COp → R2
  | .eq => fun x y H Q => rEq x y H Q ∨ rEqD X.K x y H Q
  | .ne => fun x y H Q => rNe x y H Q ∨ rNeD X.K x y H Q
  | .lt => rI0 fun i j => .bl (decide (i < j))
  | .le => rI0 fun i j => .bl (decide (i ≤ j))
  | .gt => rI0 fun i j => .bl (decide (j < i))
  | .ge => rI0 fun i j => .bl (decide (j ≤ i))
  | .isN => fun x y H Q => y = .non ∧ Q (.bl (decide (x = .non))) H
  | .notN => fun x y H Q => y = .non ∧ Q (.bl (!decide (x = .non))) H
  | .mem => fun x y H Q => rIn X.K false x y H Q ∨ rInD X.K x y H Q
  | .nmem => fun x y H Q => rIn X.K true x y H Q ∨ rNotInD X.K x y H Q
theorem cmp_ok {X : Cx} {k : Nat} (r : Room k X.A) : ∀ op, OpR X (compareOp (copOf op)) (rCmp X op)
  | .eq => op_eq.or (op_eqD r.units)
  | .ne => op_ne.or (op_neD r.units)
  | .lt => op_lt
  | .le => op_le
  | .gt => op_gt
  | .ge => op_ge
  | .isN => op_isN
  | .notN => op_notN
  | .mem => op_in_seq.or (op_inD (Room.u65 r))
  | .nmem => op_notIn_seq.or (op_notInD (Room.u65 r))
theorem rep_non_iff {v : Val} {x : V} (r : Rep M i st H v x) : decide (x = .non) = isNon v := by
  cases v with
  | non => rw [of_non r]; rfl
  | bool b => rw [of_bool r]; rfl
  | int b => rw [of_int r]; rfl
  | str b => rw [of_str r]; rfl
  | tup b => obtain ⟨p, xs, rfl, _⟩ := of_tup r; rfl
  | lst b => obtain ⟨p, xs, rfl, _⟩ := of_lst r; rfl
  | dct b => simp only [Rep] at r
  | obj c b => simp only [Rep] at r; obtain ⟨p, xs, gs, rfl, _⟩ := r; rfl
  | cell n => rw [(of_cell r).1]; rfl
  | rng a b => simp only [Rep] at r
  | scr b => simp only [Rep] at r; obtain ⟨p, rfl, _⟩ := r; rfl
theorem flat_rep {v : Val} {x : V} (r : Rep M i st H v x) (f : flat v = true) : flatV x = true := by
  cases v with
  | non => rw [of_non r]; rfl
  | bool b => rw [of_bool r]; rfl
  | int b => rw [of_int r]; rfl
  | str b => rw [of_str r]; rfl
  | _ => cases f
theorem flatL_rep : ∀ {vs : List Val} {xs : List V}, RepL M i st H vs xs → vs.all flat = true → xs.all flatV = true
  | [], xs, r, _ => by simp only [RepL] at r; subst r; rfl
  | v :: vs, xs, r, f => by
    simp only [RepL] at r
    obtain ⟨a, q, rfl, h1, h2⟩ := r
    rw [List.all_cons, Bool.and_eq_true] at f ⊢
    exact ⟨flat_rep h1 f.1, flatL_rep h2 f.2⟩
theorem eqV_rep {v u : Val} {x y : V} (r : Rep M i st H v x) (q : Rep M i st H u y) (f : flat v = true) (g : flat u = true) : eqV x y = veq v u := by
  cases v <;> try cases f
  all_goals (cases u <;> try cases g)
  all_goals (first | rw [of_non r] | rw [of_bool r] | rw [of_int r] | rw [of_str r])
  all_goals (first | rw [of_non q] | rw [of_bool q] | rw [of_int q] | rw [of_str q])
  all_goals simp only [eqV, veq]
theorem inV_rep {u : Val} {y : V} (q : Rep M i st H u y) (g : flat u = true) : ∀ {vs : List Val} {xs : List V}, RepL M i st H vs xs → vs.all flat = true → inV y xs = vs.any fun z => veq z u
  | [], xs, r, _ => by simp only [RepL] at r; subst r; rfl
  | v :: vs, xs, r, f => by
    simp only [RepL] at r
    obtain ⟨a, q', rfl, h1, h2⟩ := r
    rw [List.all_cons, Bool.and_eq_true] at f
    have ih := inV_rep q g h2 f.2
    unfold inV at ih ⊢
    rw [List.any_cons, List.any_cons, eqV_rep h1 q f.1 g, ih]
theorem eq_rd {X : Cx} (hK : X.K = M.K) {v u : Val} {x y : V} {R : Bool → Prop} (rx : Rep M i st H v x) (ry : Rep M i st H u y)
    (h : wpEq v u R) : (scal x y = true ∧ R (decide (x = y))) ∨ ∃ d e, Dp X.K H x d ∧ Dp X.K H y e ∧ SeqAt.shaped d = true ∧ SeqAt.shaped e = true ∧ R (PyData.eqv d e) := by
  rw [hK]
  unfold wpEq at h
  split at h
  · rename_i a b
    rw [of_int rx, of_int ry]
    refine .inl ⟨rfl, ?_⟩
    rw [dec_int, Bool.beq_eq_decide_eq]
    exact h
  · rename_i a b
    rw [of_str rx, of_str ry]
    refine .inl ⟨rfl, ?_⟩
    rw [dec_str, Bool.beq_eq_decide_eq]
    exact h
  · obtain ⟨d, e, h⟩ := h
    exact .inr ⟨toD v, toD u, data_dp d rx, data_dp e ry, data_shaped d (Nat.le_refl _), data_shaped e (Nat.le_refl _), by rw [← veq_eqv d e]; exact h⟩
theorem data_all {n : Nat} : ∀ {vs : List Val}, vs.all (data n) = true → ∀ {u : Val} {m : Nat}, data m u = true → (vs.any fun z => veq z u) = (toDL vs).any fun z => PyData.eqv z (toD u)
  | [], _, u, m, _ => by simp only [toDL]; rfl
  | v :: vs, d, u, m, e => by
    rw [List.all_cons, Bool.and_eq_true] at d
    simp only [toDL, List.any_cons]
    rw [veq_eqv d.1 e, data_all d.2 e]
theorem mem_rd {X : Cx} (hK : X.K = M.K) (S : StRel M i st H) {v u : Val} {x y : V} {R : Bool → Prop} (rx : Rep M i st H v x) (ry : Rep M i st H u y)
    (h : wpMem v u st R) : (∃ p xs, y = .ref p ∧ (SqL X.K H p xs ∨ SqT X.K H p xs) ∧ flatV x = true ∧ xs.all flatV = true ∧ R (inV x xs)) ∨
      ∃ d ds, Dp X.K H x d ∧ Dp X.K H y (.list ds) ∧ SeqAt.shaped d = true ∧ SeqAt.shaped (.list ds) = true ∧ R (ds.any fun z => PyData.eqv z d) := by
  rw [hK]
  unfold wpMem at h
  split at h
  · rename_i vs
    obtain ⟨p, xs, rfl, h1, n1, l1⟩ := of_tup ry
    obtain ⟨f, g, h⟩ := h
    exact .inl ⟨p, xs, rfl, .inr (SqT.of h1), flat_rep rx f, flatL_rep l1 g, by rw [inV_rep rx f l1 g]; exact h⟩
  · obtain ⟨vs, e, d, ds, h⟩ := onO_iff.mp h
    obtain ⟨p, xs, rfl, h1, l1⟩ := lst_rep S ry e
    refine .inr ⟨toD v, toDL vs, data_dp d rx, .lst (SqL.of h1) (data_dpL ds l1), data_shaped d (Nat.le_refl _), ?_, by rw [← data_all ds d]; exact h⟩
    exact data_shaped (n := 60) (v := .lst vs) (by simpa only [data] using ds) (Nat.le_refl _)
theorem cmpI_rd {X : Cx} {op : COp} {a b : Int} {x y : V} {Q : VK} {R : Bool → Prop} (hx : x = .int a) (hy : y = .int b) (h : cmpI op a b R) (m : ∀ c, R c → Q (.bl c) H) : rCmp X op x y H Q := by
  cases op <;> first | exact h.elim | exact ⟨a, b, hx, hy, m _ h⟩
theorem cmp_rd {X : Cx} (hK : X.K = M.K) {op : COp} {v u : Val} {x y : V} {Q : VK} {R : Bool → Prop} (S : StRel M i st H) (rx : Rep M i st H v x) (ry : Rep M i st H u y)
    (h : wpCmp op v u st R) (m : ∀ c, R c → Q (.bl c) H) : rCmp X op x y H Q := by
  have onInts : ∀ {op}, (isI v fun a => isI u fun b => cmpI op a b R) → rCmp X op x y H Q := fun {op} h => by
    cases v <;> try exact h.elim
    cases u <;> try exact h.elim
    exact cmpI_rd (of_int rx) (of_int ry) h m
  cases op
  · rcases eq_rd hK rx ry h with ⟨a, b⟩ | ⟨d, e, h1, h2, h3, h4, h5⟩
    · exact .inl ⟨a, m _ b⟩
    · exact .inr ⟨d, e, h1, h2, h3, h4, m _ h5⟩
  · rcases eq_rd (R := fun c => R (!c)) hK rx ry h with ⟨a, b⟩ | ⟨d, e, h1, h2, h3, h4, h5⟩
    · exact .inl ⟨a, m _ b⟩
    · exact .inr ⟨d, e, h1, h2, h3, h4, m _ h5⟩
  · exact onInts h
  · exact onInts h
  · exact onInts h
  · exact onInts h
  · obtain ⟨e, h⟩ := h
    subst e
    refine ⟨of_non ry, ?_⟩
    rw [rep_non_iff rx]
    exact m _ h
  · obtain ⟨e, h⟩ := h
    subst e
    refine ⟨of_non ry, ?_⟩
    rw [rep_non_iff rx]
    exact m _ h
  · rcases mem_rd hK S rx ry h with ⟨p, xs, a, b, c, d, e⟩ | ⟨d, ds, h1, h2, h3, h4, h5⟩
    · exact .inl ⟨p, xs, a, b, c, d, m _ e⟩
    · exact .inr ⟨d, ds, h1, h2, h3, h4, m _ h5⟩
  · rcases mem_rd (R := fun c => R (!c)) hK S rx ry h with ⟨p, xs, a, b, c, d, e⟩ | ⟨d, ds, h1, h2, h3, h4, h5⟩
    · exact .inl ⟨p, xs, a, b, c, d, m _ e⟩
    · exact .inr ⟨d, ds, h1, h2, h3, h4, m _ h5⟩
end
section
variable {M : Md} {k : Nat} {N : List Str} {sc : Scope} {X : Cx} {Φ : FnSem} (hΦ : MonoF Φ) (g : Gd M k N sc X)
include hΦ g
theorem snd_bin {op : BOp} {a b : E} {x y : Expr} {pos} (ha : PE X x (rdE M Φ a)) (hb : PE X y (rdE M Φ b)) : PE X (.BinOp x (opOf op) y pos) (rdE M Φ (.bin op a b)) := by
  refine PEimp (pe_op (op_ok op) ha hb) ?_
  rintro σ H Q ⟨ρ, st, i, S, h⟩
  exact rd2 hΦ S h fun v u su j G x y e1 S1 rx ry q => bin_rd e1 S1.str rx ry q
theorem snd_neg {a : E} {x : Expr} {pos} (ha : PE X x (rdE M Φ a)) : PE X (.UnaryOp .USub x pos) (rdE M Φ (.neg a)) := by
  refine PEimp (pe_un un_neg ha) ?_
  rintro σ H Q ⟨ρ, st, i, S, h⟩
  refine rd1 hΦ S h fun v su j G x e1 S1 r1 q => ?_
  cases v <;> try exact q.elim
  exact ⟨_, of_int r1, (Aft.ext e1 q).now S1.str rep_int⟩
theorem cmp_go {op : COp} {a b : E} {ρ : Env} {st : Store} {i : Io} {σ : L2.St} {H : Hp} {R : Bool → Store → Prop} {Q : VK} (S : Sim M i ρ st σ H)
    (h : wpE Φ noX a ρ st fun v s1 => wpE Φ noX b ρ s1 fun u s2 => wpCmp op v u s2 fun c => R c s2) (m : ∀ c su j G, Ext i st H j su G → Sim M j ρ su σ G → R c su → Q (.bl c) G) :
    tOp (rCmp X op) (rdE M Φ a) (rdE M Φ b) σ H Q :=
  rd2 hΦ S h fun v u su j G x y e1 S1 rx ry q => cmp_rd g.hK S1.str rx ry q fun c q => m c su j G e1 S1 q
theorem snd_cmp {op : COp} {a b : E} {x y : Expr} {pos} (ha : PE X x (rdE M Φ a)) (hb : PE X y (rdE M Φ b)) (hm : behindInMarks (copOf op) y = false) : PE X (.Compare x [copOf op] [y] pos) (rdE M Φ (.cmp op a b)) := by
  refine PEimp (pe_cmpR (cmp_ok g.room op) ha hb hm) ?_
  rintro σ H Q ⟨ρ, st, i, S, h⟩
  exact cmp_go hΦ g S (R := fun c su => Aft M i st H Q (.bool c) su) h fun c su j G e1 S1 q => (Aft.ext e1 q).now S1.str rep_bool
theorem tst_cmp {op : COp} {a b : E} {x y : Expr} {pos} (ha : PE X x (rdE M Φ a)) (hb : PE X y (rdE M Φ b)) (hm : behindInMarks (copOf op) y = false) : PT X (.Compare x [copOf op] [y] pos) (rdT M Φ (.cmp op a b)) := by
  refine PTimp (pt_cmpR (cmp_ok g.room op) ha hb hm) ?_
  rintro σ H Q ⟨ρ, st, i, S, h⟩
  exact cmp_go hΦ g S (R := fun c su => AftB M i st H Q c su) h fun c su j G e1 S1 q => ⟨c, rfl, q j G e1 S1.str⟩
theorem chain_go {p q : COp} {a b c : E} {ρ : Env} {st : Store} {i : Io} {σ : L2.St} {H : Hp} {R : Bool → Store → Prop} {Q : VK} (S : Sim M i ρ st σ H)
    (h : wpE Φ noX a ρ st fun v st1 => wpE Φ noX b ρ st1 fun u st2 => wpCmp p v u st2 fun d => if d = true then wpE Φ noX c ρ st2 fun w st3 => wpCmp q u w st3 fun d => R d st3 else R false st2)
    (m : ∀ c su j G, Ext i st H j su G → Sim M j ρ su σ G → R c su → Q (.bl c) G) :
    tChain (rCmp X p) (rCmp X q) (rdE M Φ a) (rdE M Φ b) (rdE M Φ c) σ H Q := by
  refine rd2 hΦ S h fun v u su j G x y e1 S1 rx ry h => ?_
  refine cmp_rd g.hK S1.str rx ry h fun d h => ⟨d, rfl, ?_⟩
  cases d
  · exact m false su j G e1 S1 h
  · exact rd1 hΦ S1 h fun w s3 j3 G3 z e3 S3 rz h => cmp_rd g.hK S3.str (Rep.ext e3 ry) rz h fun d h => m d s3 j3 G3 (e1.trans e3) S3 h
theorem snd_chain {p q : COp} {a b c : E} {x y z : Expr} {pos} (ha : PE X x (rdE M Φ a)) (hb : PE X y (rdE M Φ b)) (hc : PE X z (rdE M Φ c)) (hm : behindInMarks (copOf q) z = false) : PE X (.Compare x [copOf p, copOf q] [y, z] pos) (rdE M Φ (.chain p q a b c)) := by
  refine PEimp (pe_chain (cmp_ok g.room p) (cmp_ok g.room q) ha hb hc hm) ?_
  rintro σ H Q ⟨ρ, st, i, S, h⟩
  exact chain_go hΦ g S (R := fun c su => Aft M i st H Q (.bool c) su) h fun c su j G e1 S1 q => (Aft.ext e1 q).now S1.str rep_bool
theorem tst_chain {p q : COp} {a b c : E} {x y z : Expr} {pos} (ha : PE X x (rdE M Φ a)) (hb : PE X y (rdE M Φ b)) (hc : PE X z (rdE M Φ c)) (hm : behindInMarks (copOf q) z = false) : PT X (.Compare x [copOf p, copOf q] [y, z] pos) (rdT M Φ (.chain p q a b c)) := by
  refine PTimp (pt_chain (cmp_ok g.room p) (cmp_ok g.room q) ha hb hc hm) ?_
  rintro σ H Q ⟨ρ, st, i, S, h⟩
  refine chain_go hΦ g S (R := fun c su => AftB M i st H Q c su) (wpE_mono hΦ h fun v s1 h => wpE_mono hΦ h fun u s2 h => wpCmp_mono h fun d h => ?_) fun c su j G e1 S1 q => ⟨c, rfl, q j G e1 S1.str⟩
  cases d
  · exact h
  · exact wpE_mono hΦ h fun w s3 h => wpCmp_mono h fun d h => h
end
end VM

namespace VM
open PySem PySem.Spec PyProof.Rows L2
/-! ### the shape of an argument list -/
def nst : Expr → Bool
  | .Starred .. => false
  | _ => true
theorem star_cons {x : Expr} {xs : List Expr} {env : PySem.Env} (h : nst x = true) : starEach (x :: xs) env = (false, eval x env) :: starEach xs env := by
  cases x <;> first | rfl | cases h
theorem star_none {xs : List Expr} {env : PySem.Env} {pos : Pos} (h : xs.all nst = true) : (backTo pos (starEach xs env)).any (·.1) = false := by
  induction xs with
  | nil => rfl
  | cons x xs ih =>
    rw [List.all_cons, Bool.and_eq_true] at h
    rw [star_cons h.1]
    show (false || (backTo pos (starEach xs env)).any (·.1)) = false
    rw [ih h.2]
    rfl
/-! ### what is known of the module -/
def spF (M : Md) (Φ : FnSem) (f : Nat) : Sp := fun vs H Q _ => vs.length = (M.fps f).length ∧ ∃ us st i, RepL M i st H us vs ∧ StRel M i st H ∧ Φ f us st (Aft M i st H Q) noX
def frees : List Str := ["len", "sum", "all", "any", "tuple", "list", "int", "str", "max", "min", "sorted", "set", "range", "enumerate", "zip", "isinstance", "bool"]
/-- what isinstance asks of a class -/
def TyInfo (M : Md) (c : Nat) : Prop := ∀ (H : Hp) (a dx : Addr) (gs : List (Str × V)), H a = some (.ins (M.cls c) dx gs) → TyX M.K H (.ref a) (.ref (M.cls c))
structure Facts (M : Md) (k : Nat) (Φ : FnSem) : Prop where
  ok : ∀ f, M.nm.has f = true → FnOk M.P M.w M.K M.mg M.base CX0 (2 * k) (M.fa f) (M.fd f) (M.fps f) (spF M Φ f)
  kp : ∀ f, M.nm.has f = true → PySem.W.keepIn M.K (.ref (M.fa f)) = true
  bd : ∀ f, M.nm.pos f = true → Binds M.K (M.fd f) (M.fps f) []
  fn : ∀ f, M.nm.glob f = true → M.mg (M.nm.fname f) = some (.ref (M.fa f)) ∧ M.nm.has f = true ∧ M.nm.pos f = true
  fdb : ∀ f, (M.nm.fname f == ("__debug__" : Str)) = false
  cdb : ∀ f, (M.nm.cname f == ("__debug__" : Str)) = false
  mt : ∀ c f, M.nm.met c f = true → Cls M.K (M.cls c) ∧ Meth M.K (M.cls c) (M.nm.fname f) (M.fa f) ∧ M.nm.has f = true ∧ M.nm.pos f = true ∧ ∀ g, M.nm.fld g ≠ M.nm.fname f
  pr : ∀ c f, M.nm.prp c f = true → Cls M.K (M.cls c) ∧ (∃ p, PropOf M.K (M.cls c) (M.nm.fname f) p (M.fa f)) ∧ M.nm.has f = true ∧ M.nm.pos f = true
  mkr : ∀ c f, M.nm.mak c f = true → Mk M.K (M.cls c) (M.fa f) ∧ M.mg (M.nm.cname c) = some (.ref (M.cls c)) ∧ M.nm.has f = true ∧ M.nm.pos f = true
  mkk : ∀ c f, M.nm.makK c f = true → Mk M.K (M.cls c) (M.fa f) ∧ M.mg (M.nm.cname c) = some (.ref (M.cls c)) ∧ M.nm.has f = true ∧
    KBn M.K (M.fd f) (M.fps f) (M.nm.arity f - 1) [M.nm.kwn f] (fun us ws => us ++ ws) (fun vs zs => vs ++ zs)
  ar : ∀ f, M.nm.has f = true → (M.fps f).length = M.nm.arity f
  no : ∀ c f, M.nm.nof c f = true → Cls M.K (M.cls c) ∧ NoAttr M.K (M.cls c) (M.nm.fld f)
  fi : ∀ f g, M.nm.fld f = M.nm.fld g → f = g
  cl : ∀ c, M.nm.cl c = true → TyInfo M c
  free : ∀ x, x ∈ frees → M.mg x = none
  glb : ∀ g b, M.nm.gval g = some b → ∃ t, M.mg (M.nm.gname g) = some (.int b t)
  gdb : ∀ g, (M.nm.gname g == ("__debug__" : Str)) = false
section
variable {M : Md} {k : Nat} {N : List Str} {sc : Scope} {X : Cx} {Φ : FnSem} (hΦ : MonoF Φ) (g : Gd M k N sc X)
include hΦ g
theorem snd_sub {a b : E} {x y : Expr} {pos} (ha : PE X x (rdE M Φ a)) (hb : PE X y (rdE M Φ b)) (hp : PlainIx y) : PE X (.Subscript x y pos) (rdE M Φ (.sub a b)) := by
  refine PEimp (pe_ix ix_seq ha hb hp) ?_
  rintro σ H Q ⟨ρ, st, i, S, h⟩
  refine rd2 hΦ S h fun v u su j G x y e1 S1 rx ry q => ?_
  obtain ⟨vs, e2, q⟩ := onO_iff.mp q
  cases u <;> try exact q.elim
  obtain ⟨w, e3, q⟩ := onO_iff.mp q
  obtain ⟨p, xs, rfl, h1, l1⟩ := seq_rep S1.str rx e2
  obtain ⟨z, e4, rz⟩ := l1.at_ e3
  have q := (Aft.ext e1 q).now S1.str rz
  rcases h1 with h1 | h1
  · exact .inl ⟨p, xs, _, z, rfl, of_int ry, SqL.of h1, e4, q⟩
  · exact .inr (.inl ⟨p, xs, _, z, rfl, of_int ry, SqT.of h1.1, e4, q⟩)
/-- a slice's bound -/
def rdO (M : Md) (Φ : FnSem) (e : EO) : TO := fun σ H Q => ∃ ρ st i, Sim M i ρ st σ H ∧ wpEO Φ noX e ρ st fun o su => ∀ j G, Ext i st H j su G → StRel M j su G → Q o G
theorem snd_no : PO X none (rdO M Φ .no) := by
  refine ⟨fun pins s σ H Q I h => ?_⟩
  obtain ⟨ρ, st, i, S, h⟩ := h
  exact po_none.run pins s σ H Q I (h i H (Ext.refl ..) S.str)
theorem snd_yes {e : E} {x : Expr} (h : PE X x (rdE M Φ e)) : PO X (some x) (rdO M Φ (.yes e)) := by
  refine ⟨fun pins s σ H Q I q => ?_⟩
  obtain ⟨ρ, st, i, S, q⟩ := q
  refine (po_some h).run pins s σ H Q I (rd1 hΦ S q fun v su j G x e1 S1 r1 q => ?_)
  cases v <;> try exact q.elim
  exact ⟨_, of_int r1, q j G e1 S1.str⟩
def rSl (X : Cx) : V → Option Int → Option Int → Hp → VK → Prop := fun x lo hi H Q => rSlT X.K x lo hi H Q ∨ rSlL X.K x lo hi H Q
theorem sl_ok : SlR X (rSl X) := sl_tup.or sl_list
theorem sl_rd {i0 : Io} {st0 : Store} {H0 : Hp} {i : Io} {st : Store} {H : Hp} {v : Val} {x : V} {lo hi : Option Int} {Q : VK} (e : Ext i0 st0 H0 i st H) (S : StRel M i st H) (rx : Rep M i st H v x) (h : wpSlice v lo hi st (Aft M i0 st0 H0 Q)) : rSl X x lo hi H Q := by
  unfold wpSlice at h
  split at h
  · obtain ⟨p, xs, rfl, h1, n1, l1⟩ := of_tup rx
    obtain ⟨hw, h⟩ := h
    refine .inl ⟨p, xs, rfl, SqT.of h1, ?_, fun r hr => (Aft.ext e h).nw S hr (rep_newT S hr (l1.cut lo hi))⟩
    rw [← l1.length, ← sIx_eq, ← sIx_eq]
    exact hw
  · rename_i ns
    simp only [Rep] at rx
    obtain ⟨p, rfl, hx⟩ := rx
    have hs : SqL X.K H p (ns.map V.int) := by
      rcases hx with ⟨u, h1, h2, _⟩ | h1
      · rcases h2 with h2 | ⟨o, h2⟩
        · subst h2; exact SqL.of h1
        · subst h2; exact .inl (.inr ⟨o, h1⟩)
      · rw [g.hK]; exact .inr h1
    refine .inr ⟨p, _, rfl, hs, fun r hr => (Aft.ext e h).nw S hr (rep_newL S hr ?_)⟩
    exact RepL.cut lo hi RepL.ints
  · obtain ⟨vs, e2, h⟩ := onO_iff.mp h
    obtain ⟨p, xs, rfl, h1, l1⟩ := lst_rep S rx e2
    exact .inr ⟨p, xs, rfl, SqL.of h1, fun r hr => (Aft.ext e h).nw S hr (rep_newL S hr (l1.cut lo hi))⟩
theorem snd_slice {a : E} {lo hi : EO} {x : Expr} {l u : Option Expr} {p2 pos} (ha : PE X x (rdE M Φ a)) (hl : PO X l (rdO M Φ lo)) (hh : PO X u (rdO M Φ hi)) : PE X (.Subscript x (.Slice l u none p2) pos) (rdE M Φ (.slice a lo hi)) := by
  refine PEimp (pe_slice (sl_ok hΦ g) ha hl hh) ?_
  rintro σ H Q ⟨ρ, st, i, S, h⟩
  refine rd1 hΦ S h fun v su j G x e1 S1 rx q => ⟨ρ, su, j, S1, wpEO_mono hΦ q fun o s2 q j2 G2 e2 T2 => ?_⟩
  have S2 := S1.ext e2 T2
  refine ⟨ρ, s2, j2, S2, wpEO_mono hΦ q fun o s3 q j3 G3 e3 T3 => ?_⟩
  exact sl_rd hΦ g (e1.trans (e2.trans e3)) T3 (Rep.ext e3 (Rep.ext e2 rx)) q
end
/-! ### calls -/
section
variable {M : Md} {k : Nat} {N : List Str} {sc : Scope} {X : Cx} {Φ : FnSem} (hΦ : MonoF Φ) (F : Facts M k Φ) (g : Gd M k N sc X)
theorem ok_at (F : Facts M k Φ) (g : Gd M k N sc X) {f : Nat} (h : M.nm.has f = true) : FnOk X.prog X.w X.K X.mg X.base CX0 (2 * k) (M.fa f) (M.fd f) (M.fps f) (spF M Φ f) := by
  rw [g.hP, g.hw, g.hK, g.hmg, g.hbase]; exact F.ok f h
/-- a promise from the small machine's call -/
theorem sp_of (F : Facts M k Φ) {f : Nat} {us : List Val} {vs : List V} {i0 i : Io} {st0 st : Store} {H0 H : Hp} {Q : VK} (hlen : vs.length = (M.fps f).length) (e : Ext i0 st0 H0 i st H) (S : StRel M i st H) (r : RepL M i st H us vs) (hΦ : MonoF Φ) (h : Φ f us st (Aft M i0 st0 H0 Q) noX) : spF M Φ f vs H Q E0 :=
  ⟨hlen, us, st, i, r, S, hΦ _ _ _ _ _ _ h fun v s q => q.ext e⟩
include hΦ F g
theorem snd_call {f : Nat} {es : EL} {x : Expr} {xs : List Expr} {p pos} (hf : M.nm.glob f = true) (ha : PA X (x :: xs) (rdL M Φ es)) (hg : sc.names.lookup (M.nm.fname f) = some .globalImplicit) (hs : (x :: xs).all nst = true)
    (hl : ∀ ρ st R, wpEL Φ noX es ρ st R → wpEL Φ noX es ρ st fun vs s1 => vs.length = (M.fps f).length ∧ R vs s1) : PE X (.Call (.Name (M.nm.fname f) p) (x :: xs) [] pos) (rdE M Φ (.call f es)) := by
  obtain ⟨h1, h2, h3⟩ := F.fn f hf
  rw [List.all_cons, Bool.and_eq_true] at hs
  refine PEimp (pe_call (dvs := []) (ok_at F g h2) (g.room.mono (Nat.le_succ _)) (show X.env.scope.names.lookup _ = _ by rw [g.hsc]; exact hg) (by rw [g.hmg]; exact h1) (by rw [g.hK]; exact F.kp f h2) (by rw [g.hK]; exact F.bd f h3) .nil pass0 ha (F.fdb f) (star_cons hs.1) (star_none hs.2)) ?_
  rintro σ H Q ⟨ρ, st, i, S, h⟩
  refine rdl hΦ S (hl _ _ _ h) fun vs su j G ys e1 S1 r1 q => ?_
  rw [List.append_nil]
  exact sp_of F (by rw [← r1.length]; exact q.1) e1 S1.str r1 hΦ q.2
theorem snd_call0 {f : Nat} {p pos} (hf : M.nm.glob f = true) (hg : sc.names.lookup (M.nm.fname f) = some .globalImplicit) (hl : (M.fps f).length = 0) : PE X (.Call (.Name (M.nm.fname f) p) [] [] pos) (rdE M Φ (.call f .nil)) := by
  obtain ⟨h1, h2, h3⟩ := F.fn f hf
  refine PEimp (pe_call0 (dvs := []) (ok_at F g h2) (g.room.mono (Nat.le_succ _)) (show X.env.scope.names.lookup _ = _ by rw [g.hsc]; exact hg) (by rw [g.hmg]; exact h1) (by rw [g.hK]; exact F.kp f h2) (by rw [g.hK]; exact F.bd f h3) .nil pass0 (F.fdb f)) ?_
  rintro σ H Q ⟨ρ, st, i, S, h⟩
  exact sp_of F (by rw [hl]; rfl) (Ext.refl ..) S.str RepL.nil hΦ h
/-- a property -/
theorem snd_prop {c f : Nat} {a : E} {x : Expr} {pos} (hf : M.nm.prp c f = true) (h1 : (M.fps f).length = 1) (ha : PE X x (rdE M Φ a)) (hb : attributeBase x (M.nm.fname f) X.env (eval x X.env) = eval x X.env) : PE X (.Attribute x (M.nm.fname f) pos) (rdE M Φ (.prop c f a)) := by
  obtain ⟨h2, ⟨p, h3⟩, h4, h5⟩ := F.pr c f hf
  refine PEimp (pe_prop (dvs := []) ha (C := M.cls c) (by rw [g.hK]; exact h2) (by rw [g.hK]; exact h3) (ok_at F g h4) g.room (by rw [g.hK]; exact F.bd f h5) .nil pass0 hb) ?_
  rintro σ H Q ⟨ρ, st, i, S, h⟩
  refine rd1 hΦ S h fun v su j G y e1 S1 r1 q => ?_
  cases v <;> try exact q.elim
  obtain ⟨e2, q⟩ := q
  subst e2
  obtain ⟨p, dx, gs, rfl, h6, n1, l1⟩ := (show ∃ p dx gs, y = .ref p ∧ G p = some (.ins (M.cls _) dx gs) ∧ Noc j su p ∧ RepF M j su G _ gs by simpa only [Rep] using r1)
  exact ⟨p, dx, gs, rfl, h6, sp_of F (by rw [h1]; rfl) e1 S1.str (RepL.cons r1 RepL.nil) hΦ q⟩
omit F in
theorem lookF_rep {i : Io} {st : Store} {H : Hp} (fi : ∀ f g, M.nm.fld f = M.nm.fld g → f = g) {f : Nat} {u : Val} : ∀ {fs : List (Nat × Val)} {gs : List (Str × V)}, RepF M i st H fs gs → lookF f fs = some u → ∃ a, gs.lookup (M.nm.fld f) = some a ∧ Rep M i st H u a
  | [], gs, r, e => by cases e
  | (d, v) :: fs, gs, r, e => by
    simp only [RepF] at r
    obtain ⟨a, t, rfl, h1, h2⟩ := r
    unfold lookF at e
    by_cases z : d = f
    · subst z
      rw [if_pos rfl] at e
      cases e
      exact ⟨a, by simp [List.lookup_cons], h1⟩
    · rw [if_neg z] at e
      obtain ⟨b, h3, h4⟩ := lookF_rep fi h2 e
      refine ⟨b, ?_, h4⟩
      have : (M.nm.fld f == M.nm.fld d) = false := beq_eq_false_iff_ne.mpr fun q => z (fi _ _ q).symm
      rw [List.lookup_cons, this]
      exact h3
/-- a field -/
theorem snd_fld {c f : Nat} {a : E} {x : Expr} {pos} (hf : M.nm.nof c f = true) (ha : PE X x (rdE M Φ a)) (hb : attributeBase x (M.nm.fld f) X.env (eval x X.env) = eval x X.env) : PE X (.Attribute x (M.nm.fld f) pos) (rdE M Φ (.fld c f a)) := by
  obtain ⟨h2, h3⟩ := F.no c f hf
  refine PEimp (pe_fld ha hb) ?_
  rintro σ H Q ⟨ρ, st, i, S, h⟩
  refine rd1 hΦ S h fun v su j G y e1 S1 r1 q => ?_
  obtain ⟨fs, e2, q⟩ := onO_iff.mp q
  obtain ⟨u, e3, q⟩ := onO_iff.mp q
  have : ∃ p dx gs, y = .ref p ∧ G p = some (.ins (M.cls c) dx gs) ∧ RepF M j su G fs gs := by
    unfold fldsOf at e2
    split at e2
    · split at e2 <;> cases e2
      rename_i hd
      subst hd
      simp only [Rep] at r1
      obtain ⟨p, dx, gs, e, h6, n1, l1⟩ := r1
      exact ⟨p, dx, gs, e, h6, l1⟩
    · split at e2
      · rename_i hg
        split at e2 <;> cases e2
        rename_i hd
        subst hd
        obtain ⟨dx, gs, h6, l1⟩ := S1.str.cell _ _ hg
        exact ⟨_, dx, gs, (of_cell r1).1, h6, l1⟩
      · cases e2
    · cases e2
  obtain ⟨p, dx, gs, rfl, h6, l1⟩ := this
  obtain ⟨b, h7, h8⟩ := lookF_rep hΦ g F.fi l1 e3
  rw [g.hK]
  exact ⟨p, M.cls c, dx, gs, b, rfl, h6, h2, h3, h7, (Aft.ext e1 q).now S1.str h8⟩
omit F in
theorem noLook {i : Io} {st : Store} {H : Hp} {m : Str} (hm : ∀ d, M.nm.fld d ≠ m) : ∀ {fs : List (Nat × Val)} {gs : List (Str × V)}, RepF M i st H fs gs → gs.lookup m = none
  | [], gs, r => by simp only [RepF] at r; subst r; rfl
  | (d, v) :: fs, gs, r => by
    simp only [RepF] at r
    obtain ⟨a, t, rfl, h1, h2⟩ := r
    have : (m == M.nm.fld d) = false := beq_eq_false_iff_ne.mpr fun q => hm d q.symm
    rw [List.lookup_cons, this]
    exact noLook hm h2
/-- a method -/
theorem snd_meth {c f : Nat} {a : E} {es : EL} {o x : Expr} {xs : List Expr} {apos pos} {pl : Sem Bool} (hf : M.nm.met c f = true) (ho : PE X o (rdE M Φ a)) (ha : PA X (x :: xs) (rdL M Φ es)) (hs : (x :: xs).all nst = true)
    (hl : ∀ ρ st R, wpEL Φ noX es ρ st R → wpEL Φ noX es ρ st fun vs s1 => vs.length + 1 = (M.fps f).length ∧ R vs s1)
    (ht : eval (.Call (.Attribute o (M.nm.fname f) apos) (x :: xs) [] pos) X.env = (do
      let ov ← eval o X.env
      standAt apos.atName
      let (f, first) ← holding [ov] (getMethod ov (M.nm.fname f) pl)
      callWith pos f first (backTo pos (starEach (x :: xs) X.env)) (backToKw pos (keywordEach [] X.env)))) :
    PE X (.Call (.Attribute o (M.nm.fname f) apos) (x :: xs) [] pos) (rdE M Φ (.meth c f a es)) := by
  obtain ⟨h1, h2, h3, h4, h5⟩ := F.mt c f hf
  rw [List.all_cons, Bool.and_eq_true] at hs
  refine PEimp (pe_meth (dvs := []) ho (C := M.cls c) (by rw [g.hK]; exact h1) (by rw [g.hK]; exact h2) (ok_at F g h3) (g.room.mono (Nat.le_succ _)) (by rw [g.hK]; exact F.bd f h4) .nil pass0 ha (star_cons hs.1) (star_none hs.2) ht) ?_
  rintro σ H Q ⟨ρ, st, i, S, h⟩
  refine rd1 hΦ S h fun v su j G y e1 S1 r1 q => ?_
  cases v <;> try exact q.elim
  obtain ⟨e2, q⟩ := q
  subst e2
  obtain ⟨p, dx, gs, rfl, h6, n1, l1⟩ := (show ∃ p dx gs, y = .ref p ∧ G p = some (.ins (M.cls _) dx gs) ∧ Noc j su p ∧ RepF M j su G _ gs by simpa only [Rep] using r1)
  refine ⟨p, dx, gs, rfl, h6, noLook hΦ g h5 l1, ?_⟩
  refine rdl hΦ S1 (hl _ _ _ q) fun vs s2 j2 G2 ys e3 S3 r3 q => ?_
  rw [List.append_nil]
  exact sp_of F (by rw [List.length_cons, ← r3.length]; exact q.1) (e1.trans e3) S3.str (RepL.cons (Rep.ext e3 r1) r3) hΦ q.2
theorem snd_meth0 {c f : Nat} {a : E} {o : Expr} {apos pos} {pl : Sem Bool} (hf : M.nm.met c f = true) (ho : PE X o (rdE M Φ a)) (hl : (M.fps f).length = 1)
    (ht : eval (.Call (.Attribute o (M.nm.fname f) apos) [] [] pos) X.env = (do
      let ov ← eval o X.env
      standAt apos.atName
      let (f, first) ← holding [ov] (getMethod ov (M.nm.fname f) pl)
      callWith pos f first (backTo pos (starEach [] X.env)) (backToKw pos (keywordEach [] X.env)))) :
    PE X (.Call (.Attribute o (M.nm.fname f) apos) [] [] pos) (rdE M Φ (.meth c f a .nil)) := by
  obtain ⟨h1, h2, h3, h4, h5⟩ := F.mt c f hf
  refine PEimp (pe_meth0 (dvs := []) ho (C := M.cls c) (by rw [g.hK]; exact h1) (by rw [g.hK]; exact h2) (ok_at F g h3) (g.room.mono (Nat.le_succ _)) (by rw [g.hK]; exact F.bd f h4) .nil pass0 ht) ?_
  rintro σ H Q ⟨ρ, st, i, S, h⟩
  refine rd1 hΦ S h fun v su j G y e1 S1 r1 q => ?_
  cases v <;> try exact q.elim
  obtain ⟨e2, q⟩ := q
  subst e2
  obtain ⟨p, dx, gs, rfl, h6, n1, l1⟩ := (show ∃ p dx gs, y = .ref p ∧ G p = some (.ins (M.cls _) dx gs) ∧ Noc j su p ∧ RepF M j su G _ gs by simpa only [Rep] using r1)
  refine ⟨p, dx, gs, rfl, h6, noLook hΦ g h5 l1, ?_⟩
  exact sp_of F (by rw [hl]; rfl) e1 S1.str (RepL.cons r1 RepL.nil) hΦ q
/-! ### a new object -/
omit F in
theorem make_rd {c f : Nat} {us : List Val} {xs : List V} {x dx : Addr} {i0 : Io} {st0 : Store} {H0 : Hp} {i : Io} {st : Store} {H : Hp} {Q : VK} (e : Ext i0 st0 H0 i st H) (S : StRel M i st H) (r : RepL M i st H us xs) (hx : H x = none) (hdx : H dx = none) (hne : dx ≠ x)
    (hlen : (V.ref x :: xs).length = (M.fps f).length)
    (h : Φ f (.cell st.next :: us) (st.new (.ins c [])) (fun r s2 => match s2.get st.next with
      | some (.ins d fs) => d = c ∧ r = .non ∧ Aft M i0 st0 H0 Q (.obj c fs) (s2.del st.next)
      | _ => False) noX) :
    spF M Φ f (V.ref x :: xs) (upd (upd H dx (.own x)) x (.ins (M.cls c) dx [])) (fun v H2 => v = .non ∧ Q (.ref x) H2) E0 := by
  have S1 := S.new hdx (o := .own x)
  have e1 := Ext.new S hdx (o := .own x)
  have hx1 : upd H dx (.own x) x = none := by rw [upd_ne hne.symm]; exact hx
  have e2 := Ext.cell S1 hx1 (o := .ins (M.cls c) dx []) (c := .ins c [])
  have S2 := S1.mkcell hx1 (o := .ins (M.cls c) dx []) (c := .ins c []) ⟨dx, [], upd_same, by simp only [RepF]⟩
  refine ⟨hlen, .cell st.next :: us, _, _, RepL.cons ?_ (RepL.ext (e1.trans e2) r), S2, hΦ _ _ _ _ _ _ h fun v s2 q j2 G2 a e3 T3 ra => ?_⟩
  · simp only [Rep]
    exact ⟨by rw [ioSet_same], Nat.lt_succ_self _⟩
  · split at q
    · rename_i d fs hg
      obtain ⟨q1, q2, q3⟩ := q
      subst q1 q2
      refine ⟨of_non ra, ?_⟩
      obtain ⟨dx2, gs, h6, l1⟩ := T3.cell _ _ hg
      have hio : j2.at_ st.next = x := by rw [e3.io _ (Nat.lt_succ_self _), ioSet_same]
      have e4 := Ext.del T3 st.next
      refine q3 j2 G2 _ (e.trans (e1.trans (e2.trans (e3.trans e4)))) (T3.del _) ?_
      simp only [Rep]
      refine ⟨x, dx2, gs, rfl, ?_, ?_, RepF.ext e4 l1⟩
      · rw [← hio]; exact h6
      · have := T3.nocD hg; rw [hio] at this; exact this
    · exact q.elim
theorem snd_make {c f : Nat} {es : EL} {x : Expr} {xs : List Expr} {p pos} (hf : M.nm.mak c f = true) (ha : PA X (x :: xs) (rdL M Φ es)) (hg : sc.names.lookup (M.nm.cname c) = some .globalImplicit) (hs : (x :: xs).all nst = true)
    (hl : ∀ ρ st R, wpEL Φ noX es ρ st R → wpEL Φ noX es ρ st fun vs s1 => vs.length + 1 = (M.fps f).length ∧ R vs s1) : PE X (.Call (.Name (M.nm.cname c) p) (x :: xs) [] pos) (rdE M Φ (.make c f es)) := by
  obtain ⟨h1, h2, h3, h4⟩ := F.mkr c f hf
  rw [List.all_cons, Bool.and_eq_true] at hs
  refine PEimp (pe_make (dvs := []) (C := M.cls c) (by rw [g.hK]; exact h1) (ok_at F g h3) g.room (show X.env.scope.names.lookup _ = _ by rw [g.hsc]; exact hg) (by rw [g.hmg]; exact h2) (by rw [g.hK]; exact F.bd f h4) .nil pass0 ha (F.cdb c) (star_cons hs.1) (star_none hs.2)) ?_
  rintro σ H Q ⟨ρ, st, i, S, h⟩
  refine rdl hΦ S (hl _ _ _ h) fun vs su j G ys e1 S1 r1 q x dx hx hdx hne => ?_
  rw [List.append_nil]
  exact make_rd hΦ g e1 S1.str r1 hx hdx hne (by rw [List.length_cons, ← r1.length]; exact q.1) q.2
theorem snd_make0 {c f : Nat} {p pos} (hf : M.nm.mak c f = true) (hg : sc.names.lookup (M.nm.cname c) = some .globalImplicit) (hl : (M.fps f).length = 1) : PE X (.Call (.Name (M.nm.cname c) p) [] [] pos) (rdE M Φ (.make c f .nil)) := by
  obtain ⟨h1, h2, h3, h4⟩ := F.mkr c f hf
  refine PEimp (pe_make0 (dvs := []) (C := M.cls c) (by rw [g.hK]; exact h1) (ok_at F g h3) g.room (show X.env.scope.names.lookup _ = _ by rw [g.hsc]; exact hg) (by rw [g.hmg]; exact h2) (by rw [g.hK]; exact F.bd f h4) .nil pass0 (F.cdb c)) ?_
  rintro σ H Q ⟨ρ, st, i, S, h⟩
  intro x dx hx hdx hne
  exact make_rd hΦ g (Ext.refl ..) S.str RepL.nil hx hdx hne (by rw [hl]; rfl) h
theorem snd_makeK {c f : Nat} {es : EL} {e : E} {x y : Expr} {xs : List Expr} {p kpos pos} {nm : Str} {n : Nat} (hf : M.nm.makK c f = true) (har : M.nm.arity f = n + 2) (har2 : n + 2 = (M.fps f).length) (ha : PA X (x :: xs) (rdL M Φ es)) (he : PE X y (rdE M Φ e)) (hnm : nm = M.nm.kwn f) (hg : sc.names.lookup (M.nm.cname c) = some .globalImplicit) (hs : (x :: xs).all nst = true)
    (hl : ∀ ρ st R, wpEL Φ noX es ρ st R → wpEL Φ noX es ρ st fun vs s1 => vs.length = n ∧ R vs s1) : PE X (.Call (.Name (M.nm.cname c) p) (x :: xs) [⟨some nm, y, kpos⟩] pos) (rdE M Φ (.makeK c f es e)) := by
  obtain ⟨h1, h2, h3, h4⟩ := F.mkk c f hf
  subst hnm
  have hsall := hs
  rw [List.all_cons, Bool.and_eq_true] at hs
  rw [har, show n + 2 - 1 = n + 1 from rfl] at h4
  refine PEimp (pe_makeK (n := n) (C := M.cls c) (by rw [g.hK]; exact h1) (ok_at F g h3) g.room (show X.env.scope.names.lookup _ = _ by rw [g.hsc]; exact hg) (by rw [g.hmg]; exact h2) (by rw [g.hK]; exact h4) pass0 ha (pk_cons he pk_nil) rfl rfl (F.cdb c) (star_cons hs.1) ?_) ?_
  · rw [star_none (xs := x :: xs) hsall]
    rfl
  · rintro σ H Q ⟨ρ, st, i, S, h⟩
    refine rdl hΦ S (hl _ _ _ h) fun vs s1 j1 G1 ys e1 S1 r1 q => ?_
    refine rd1 hΦ S1 q.2 fun u su j G z e2 S2 r2 q2 => ?_
    refine ⟨by rw [← r1.length]; exact q.1, rfl, fun a dx hx hdx hne => ?_⟩
    have r3 := RepL.append (RepL.ext e2 r1) (RepL.cons r2 RepL.nil)
    refine make_rd hΦ g (e1.trans e2) S2.str r3 hx hdx hne ?_ q2
    have := r3.length
    show (ys ++ [z]).length + 1 = _
    rw [← this, List.length_append, q.1]
    simp only [List.length_cons, List.length_nil]
    omega
end
end VM

namespace VM
open PySem PySem.Spec PyProof.Rows L2
/-! ### built-in functions of one value -/
inductive BK where | fn (id : String) | ty (T : String)
def b1Name : B1 → Str
  | .len => "len" | .sum => "sum" | .all => "all" | .any => "any" | .tuple => "tuple" | .list => "list" | .int => "int" | .str => "str"
  | .max => "max" | .min => "min" | .sorted => "sorted" | .sortedR => "sorted" | .set => "set"
section
variable {M : Md} {k : Nat} {N : List Str} {sc : Scope} {X : Cx} {Φ : FnSem} (hΦ : MonoF Φ) (F : Facts M k Φ) (g : Gd M k N sc X)
/-- from a rule over the argument's value -/
theorem b1_fn {b : B1} {id : String} {r : List V → Hp → VK → Prop} {a : E} {x : Expr} {p pos} (hΦ : MonoF Φ) (F : Facts M k Φ) (g : Gd M k N sc X) (hc : CallR X (.builtin id) r) (hv : bootBuiltins (b1Name b) = some (.builtin id)) (hg : sc.names.lookup (b1Name b) = some .globalImplicit) (hfr : b1Name b ∈ frees)
    (hn : b1Name b ≠ "__name__") (hd : (b1Name b == ("__debug__" : Str)) = false) (ha : PE X x (rdE M Φ a)) (hs : nst x = true)
    (m : ∀ {i0 : Io} {st0 : Store} {H0 : Hp} {i : Io} {st : Store} {H : Hp} {v : Val} {y : V} {Q : VK}, Ext i0 st0 H0 i st H → StRel M i st H → Rep M i st H v y → wpB1 b v st (Aft M i0 st0 H0 Q) → r [y] H Q) :
    PE X (.Call (.Name (b1Name b) p) [x] [] pos) (rdE M Φ (.bi1 b a)) := by
  refine PEimp (pe_callB hc (show X.env.scope.names.lookup _ = _ by rw [g.hsc]; exact hg) (by rw [g.hmg]; exact F.free _ hfr) hv (pa_cons ha pa_nil (star_cons hs)) hn hd (star_cons hs) rfl) ?_
  rintro σ H Q ⟨ρ, st, i, S, h⟩
  exact rd1 hΦ S h fun v su j G y e1 S1 r1 q => m e1 S1.str r1 q
theorem b1_ty {b : B1} {T : String} {r : List V → Hp → VK → Prop} {a : E} {x : Expr} {p pos} (hΦ : MonoF Φ) (F : Facts M k Φ) (g : Gd M k N sc X) (hc : CallR X (.type T) r) (hv : bootBuiltins (b1Name b) = some (.type T)) (hg : sc.names.lookup (b1Name b) = some .globalImplicit) (hfr : b1Name b ∈ frees)
    (hn : b1Name b ≠ "__name__") (hd : (b1Name b == ("__debug__" : Str)) = false) (ha : PE X x (rdE M Φ a)) (hs : nst x = true)
    (m : ∀ {i0 : Io} {st0 : Store} {H0 : Hp} {i : Io} {st : Store} {H : Hp} {v : Val} {y : V} {Q : VK}, Ext i0 st0 H0 i st H → StRel M i st H → Rep M i st H v y → wpB1 b v st (Aft M i0 st0 H0 Q) → r [y] H Q) :
    PE X (.Call (.Name (b1Name b) p) [x] [] pos) (rdE M Φ (.bi1 b a)) := by
  refine PEimp (pe_callTy hc (show X.env.scope.names.lookup _ = _ by rw [g.hsc]; exact hg) (by rw [g.hmg]; exact F.free _ hfr) hv (pa_cons ha pa_nil (star_cons hs)) hn hd (star_cons hs) rfl) ?_
  rintro σ H Q ⟨ρ, st, i, S, h⟩
  exact rd1 hΦ S h fun v su j G y e1 S1 r1 q => m e1 S1.str r1 q
include hΦ F g
/-- which of them are carried -/
def b1Ok : B1 → Bool
  | .len => true | .sum => true | .all => true | .any => true | .tuple => true | .list => true | .int => true | .max => true | .min => true
  | _ => false
omit hΦ F in
theorem len_rd {i0 : Io} {st0 : Store} {H0 : Hp} {i : Io} {st : Store} {H : Hp} {v : Val} {y : V} {Q : VK} (e : Ext i0 st0 H0 i st H) (S : StRel M i st H) (r : Rep M i st H v y) (h : wpB1 .len v st (Aft M i0 st0 H0 Q)) :
    ∃ x n, [y] = [x] ∧ LenV X.K x H n ∧ Q (.int n) H := by
  simp only [wpB1] at h
  split at h
  · rw [of_str r]
    exact ⟨_, _, rfl, ⟨by rw [← big_eq]; exact h.1, rfl⟩, (Aft.ext e h.2).now S rep_int⟩
  · rename_i ns
    simp only [Rep] at r
    obtain ⟨p, rfl, hx⟩ := r
    have hs : SqL X.K H p (ns.map V.int) := by
      rcases hx with ⟨u, h1, h2, _⟩ | h1
      · rcases h2 with h2 | ⟨o, h2⟩
        · subst h2; exact SqL.of h1
        · subst h2; exact .inl (.inr ⟨o, h1⟩)
      · rw [g.hK]; exact .inr h1
    exact ⟨_, ns.length, rfl, .inl ⟨_, hs, by rw [List.length_map]⟩, (Aft.ext e h).now S rep_int⟩
  · obtain ⟨vs, e2, h⟩ := onO_iff.mp h
    obtain ⟨p, xs, rfl, h1, l1⟩ := seq_rep S r e2
    have q := (Aft.ext e h).now S rep_int
    rw [l1.length] at q
    rcases h1 with h1 | h1
    · exact ⟨_, _, rfl, .inl ⟨xs, SqL.of h1, rfl⟩, q⟩
    · exact ⟨_, _, rfl, .inr ⟨xs, SqT.of h1.1, rfl⟩, q⟩
theorem snd_b1 {b : B1} {a : E} {x : Expr} {p pos} (hb : b1Ok b = true) (hg : sc.names.lookup (b1Name b) = some .globalImplicit) (ha : PE X x (rdE M Φ a)) (hs : nst x = true) :
    PE X (.Call (.Name (b1Name b) p) [x] [] pos) (rdE M Φ (.bi1 b a)) := by
  cases b <;> try cases hb
  case len => exact b1_fn hΦ F g call_len PySem.boot_len hg (by decide +kernel) (by decide +kernel) (by decide +kernel) ha hs fun e S r h => len_rd g e S r h
  case sum =>
    refine b1_fn hΦ F g (cr_sum g.calm) PyProof.Rows.boot_sum hg (by decide +kernel) (by decide +kernel) (by decide +kernel) ha hs ?_
    intro i0 st0 H0 i st H v y Q e S r h
    obtain ⟨vs, e2, h⟩ := onO_iff.mp h
    obtain ⟨ns, e3, h⟩ := onO_iff.mp h
    obtain ⟨q, xs, rfl, h1, l1⟩ := lst_rep S r e2
    exact ⟨q, ns, rfl, by rw [← l1.allI e3]; exact SqL.of h1, (Aft.ext e h).now S rep_int⟩
  case all =>
    refine b1_fn hΦ F g (cr_all g.calm) PyProof.Rows.boot_all hg (by decide +kernel) (by decide +kernel) (by decide +kernel) ha hs ?_
    intro i0 st0 H0 i st H v y Q e S r h
    obtain ⟨vs, e2, h⟩ := onO_iff.mp h
    obtain ⟨ns, e3, h⟩ := onO_iff.mp h
    obtain ⟨q, xs, rfl, h1, l1⟩ := lst_rep S r e2
    exact ⟨q, ns, rfl, by rw [← l1.allB e3]; exact SqL.of h1, (Aft.ext e h).now S rep_bool⟩
  case any =>
    refine b1_fn hΦ F g (cr_any g.calm) PyProof.Rows.boot_any hg (by decide +kernel) (by decide +kernel) (by decide +kernel) ha hs ?_
    intro i0 st0 H0 i st H v y Q e S r h
    obtain ⟨vs, e2, h⟩ := onO_iff.mp h
    obtain ⟨ns, e3, h⟩ := onO_iff.mp h
    obtain ⟨q, xs, rfl, h1, l1⟩ := lst_rep S r e2
    exact ⟨q, ns, rfl, by rw [← l1.allB e3]; exact SqL.of h1, (Aft.ext e h).now S rep_bool⟩
  case max =>
    refine b1_fn hΦ F g (cr_max g.calm) PyProof.Rows.boot_max hg (by decide +kernel) (by decide +kernel) (by decide +kernel) ha hs ?_
    intro i0 st0 H0 i st H v y Q e S r h
    obtain ⟨vs, e2, h⟩ := onO_iff.mp h
    obtain ⟨ns, e3, hne, h⟩ := onO_iff.mp h
    obtain ⟨q, xs, rfl, h1, l1⟩ := lst_rep S r e2
    refine ⟨q, ns, rfl, by rw [← l1.allI e3]; exact SqL.of h1, List.length_pos_iff.mpr hne, fun m h2 h3 => ?_⟩
    rw [maxL_of h2 h3]
    exact (Aft.ext e h).now S rep_int
  case min =>
    refine b1_fn hΦ F g (cr_min g.calm) PyProof.Rows.boot_min hg (by decide +kernel) (by decide +kernel) (by decide +kernel) ha hs ?_
    intro i0 st0 H0 i st H v y Q e S r h
    obtain ⟨vs, e2, h⟩ := onO_iff.mp h
    obtain ⟨ns, e3, hne, h⟩ := onO_iff.mp h
    obtain ⟨q, xs, rfl, h1, l1⟩ := lst_rep S r e2
    refine ⟨q, ns, rfl, by rw [← l1.allI e3]; exact SqL.of h1, List.length_pos_iff.mpr hne, fun m h2 h3 => ?_⟩
    rw [minL_of h2 h3]
    exact (Aft.ext e h).now S rep_int
  case tuple =>
    refine b1_ty hΦ F g call_tuple_of PyProof.Rows.boot_tuple hg (by decide +kernel) (by decide +kernel) (by decide +kernel) ha hs ?_
    intro i0 st0 H0 i st H v y Q e S r h
    obtain ⟨vs, e2, h⟩ := onO_iff.mp h
    obtain ⟨q, xs, rfl, h1, l1⟩ := seq_rep S r e2
    rcases h1 with h1 | h1
    · exact ⟨q, xs, rfl, .inl ⟨SqL.of h1, fun l hl => (Aft.ext e h).nw S hl (rep_newT S hl l1)⟩⟩
    · exact ⟨q, xs, rfl, .inr ⟨SqT.of h1.1, (Aft.ext e h).now S (by simp only [Rep]; exact ⟨q, xs, rfl, h1.1, h1.2, l1⟩)⟩⟩
  case list =>
    refine b1_ty hΦ F g call_list_of PyProof.Rows.boot_list hg (by decide +kernel) (by decide +kernel) (by decide +kernel) ha hs ?_
    intro i0 st0 H0 i st H v y Q e S r h
    obtain ⟨vs, e2, h⟩ := onO_iff.mp h
    obtain ⟨q, xs, rfl, h1, l1⟩ := seq_rep S r e2
    refine ⟨q, xs, rfl, ?_, fun l hl => (Aft.ext e h).nw S hl (rep_newL S hl l1)⟩
    rcases h1 with h1 | h1
    · exact .inl (SqL.of h1)
    · exact .inr (SqT.of h1.1)
  case int =>
    refine b1_ty hΦ F g call_int1 PyProof.Rows.boot_int hg (by decide +kernel) (by decide +kernel) (by decide +kernel) ha hs ?_
    intro i0 st0 H0 i st H v y Q e S r h
    cases v <;> try exact h.elim
    rw [of_int r]
    exact .inl ⟨_, rfl, (Aft.ext e h).now S rep_int⟩
/-! ### of two -/
def b2Name : B2 → Str
  | .max => "max" | .min => "min" | .gcd => "gcd"
theorem snd_b2m {a c : E} {x y : Expr} {p pos} (hg : sc.names.lookup ("max" : Str) = some .globalImplicit) (ha : PE X x (rdE M Φ a)) (hc : PE X y (rdE M Φ c)) (hs : nst x = true) (hs2 : nst y = true) :
    PE X (.Call (.Name "max" p) [x, y] [] pos) (rdE M Φ (.bi2 .max a c)) := by
  refine PEimp (pe_callB (call_max2 g.calm) (show X.env.scope.names.lookup _ = _ by rw [g.hsc]; exact hg) (by rw [g.hmg]; exact F.free _ (by decide +kernel)) PyProof.Rows.boot_max (pa_cons ha (pa_cons hc pa_nil (star_cons hs2)) (star_cons hs)) (by decide +kernel) (by decide +kernel) (star_cons hs) (star_none (by rw [List.all_cons, hs2]; rfl))) ?_
  rintro σ H Q ⟨ρ, st, i, S, h⟩
  refine rd2 hΦ S h fun v u su j G x y e1 S1 rx ry q => ?_
  cases v <;> try exact q.elim
  cases u <;> try exact q.elim
  rw [of_int rx, of_int ry]
  exact ⟨_, _, rfl, (Aft.ext e1 q).now S1.str rep_int⟩
theorem snd_b2n {a c : E} {x y : Expr} {p pos} (hg : sc.names.lookup ("min" : Str) = some .globalImplicit) (ha : PE X x (rdE M Φ a)) (hc : PE X y (rdE M Φ c)) (hs : nst x = true) (hs2 : nst y = true) :
    PE X (.Call (.Name "min" p) [x, y] [] pos) (rdE M Φ (.bi2 .min a c)) := by
  refine PEimp (pe_callB (call_min2 g.calm) (show X.env.scope.names.lookup _ = _ by rw [g.hsc]; exact hg) (by rw [g.hmg]; exact F.free _ (by decide +kernel)) PyProof.Rows.boot_min (pa_cons ha (pa_cons hc pa_nil (star_cons hs2)) (star_cons hs)) (by decide +kernel) (by decide +kernel) (star_cons hs) (star_none (by rw [List.all_cons, hs2]; rfl))) ?_
  rintro σ H Q ⟨ρ, st, i, S, h⟩
  refine rd2 hΦ S h fun v u su j G x y e1 S1 rx ry q => ?_
  cases v <;> try exact q.elim
  cases u <;> try exact q.elim
  rw [of_int rx, of_int ry]
  exact ⟨_, _, rfl, (Aft.ext e1 q).now S1.str rep_int⟩
/-! ### isinstance -/
def tyS : Nat → String
  | 0 => "NoneType" | 1 => "bool" | 2 => "int" | 3 => "str" | 4 => "tuple" | _ => "list"
omit hΦ F g in
theorem tyN_lt {v : Val} {n : Nat} (h : tyN v = some n) : n < 6 := by
  cases v <;> cases h <;> decide
omit hΦ F g in
theorem tyN_rep {i : Io} {st : Store} {H : Hp} {v : Val} {x : V} {n : Nat} (r : Rep M i st H v x) (h : tyN v = some n) : TyX M.K H x (.type (tyS n)) := by
  cases v <;> cases h
  · rw [of_non r]; exact .base .non
  · rw [of_bool r]; exact .base (.bl _)
  · rw [of_int r]; exact .base (.int _)
  · rw [of_str r]; exact .base (.str _)
  · obtain ⟨p, xs, rfl, h1, _⟩ := of_tup r; exact .base (.tup h1)
  · obtain ⟨p, xs, rfl, h1, _⟩ := of_lst r; exact .base (.lst h1)
def kit (n : Nat) (T : String) : Bool := (L2.kitB (tyS n) T) == some (T == tyS n || (n == 1 && T == "int"))
omit hΦ F g in
theorem kit_all : ∀ n, n < 6 → (["bool", "int", "str", "tuple", "list"].all fun T => kit n T) = true := by
  decide +kernel
omit hΦ F g in
theorem kit_is {K : PySem.W.Frag} {n : Nat} {T : String} (hn : n < 6) (hT : T ∈ ["bool", "int", "str", "tuple", "list"]) : PySem.W.kitOne K (.type (tyS n)) (.type T) = some (T == tyS n || (n == 1 && T == "int")) := by
  have h := List.all_eq_true.mp (kit_all n hn) T hT
  exact L2.kit_ty (by unfold kit at h; exact eq_of_beq h)
/-- a class's name as a value -/
theorem snd_ty {T : Str} {S : String} {p} (hg : sc.names.lookup T = some .globalImplicit) (hfr : T ∈ frees) (hv : bootBuiltins T = some (.type S)) (hn : T ≠ "__name__") (hd : (T == ("__debug__" : Str)) = false) : PE X (.Name T p) (tC (.ty S)) :=
  pe_bltn (show X.env.scope.names.lookup _ = _ by rw [g.hsc]; exact hg) (by rw [g.hmg]; exact F.free _ hfr) hv rfl hn hd
theorem isin_one {t : Ty} {T : Str} {Ts : String} {a : E} {x : Expr} {p q pos} (hT : Ts ∈ ["bool", "int", "str", "tuple", "list"]) (ht : ∀ v, isTy t v = (tyN v).map fun n => Ts == tyS n || (n == 1 && Ts == "int"))
    (hgi : sc.names.lookup ("isinstance" : Str) = some .globalImplicit) (hg : sc.names.lookup T = some .globalImplicit) (hfr : T ∈ frees) (hv : bootBuiltins T = some (.type Ts)) (hn : T ≠ "__name__") (hd : (T == ("__debug__" : Str)) = false) (ha : PE X x (rdE M Φ a)) (hs : nst x = true) :
    PE X (.Call (.Name "isinstance" p) [x, .Name T q] [] pos) (rdE M Φ (.isin t a)) := by
  refine PEimp (pe_callB call_isi (show X.env.scope.names.lookup _ = _ by rw [g.hsc]; exact hgi) (by rw [g.hmg]; exact F.free _ (by decide +kernel)) PyProof.Rows.boot_isinstance (pa_cons ha (pa_cons (snd_ty hΦ F g hg hfr hv hn hd) pa_nil rfl) (star_cons hs)) (by decide +kernel) (by decide +kernel) (star_cons hs) rfl) ?_
  rintro σ H Q ⟨ρ, st, i, S, h⟩
  refine rd1 hΦ S h fun v su j G y e1 S1 r1 q => ?_
  obtain ⟨b, e2, q⟩ := onO_iff.mp q
  rw [ht v] at e2
  obtain ⟨n, e3, e4⟩ := Option.map_eq_some_iff.mp e2
  refine ⟨y, .ty Ts, _, _, b, rfl, .ty Ts, by rw [g.hK]; exact tyN_rep r1 e3, ?_, (Aft.ext e1 q).now S1.str rep_bool⟩
  rw [kit_is (tyN_lt e3) hT, e4]
theorem isin_seq {a : E} {x : Expr} {p q1 q2 x1 q pos} (hgi : sc.names.lookup ("isinstance" : Str) = some .globalImplicit) (hg1 : sc.names.lookup ("list" : Str) = some .globalImplicit) (hg2 : sc.names.lookup ("tuple" : Str) = some .globalImplicit) (ha : PE X x (rdE M Φ a)) (hs : nst x = true) :
    PE X (.Call (.Name "isinstance" p) [x, .Tuple [.Name "list" q1, .Name "tuple" q2] x1 q] [] pos) (rdE M Φ (.isin .tseq a)) := by
  refine PEimp (pe_callB call_isiT (show X.env.scope.names.lookup _ = _ by rw [g.hsc]; exact hgi) (by rw [g.hmg]; exact F.free _ (by decide +kernel)) PyProof.Rows.boot_isinstance
    (pa_cons ha (pa_cons (pe_tup (pa_cons (snd_ty hΦ F g hg1 (by decide +kernel) PyProof.Rows.boot_list (by decide +kernel) (by decide +kernel)) (pa_cons (snd_ty hΦ F g hg2 (by decide +kernel) PyProof.Rows.boot_tuple (by decide +kernel) (by decide +kernel)) pa_nil rfl) rfl)) pa_nil rfl) (star_cons hs)) (by decide +kernel) (by decide +kernel) (star_cons hs) rfl) ?_
  rintro σ H Q ⟨ρ, st, i, S, h⟩
  refine rd1 hΦ S h fun v su j G y e1 S1 r1 q => ?_
  obtain ⟨b, e2, q⟩ := onO_iff.mp q
  obtain ⟨n, e3, e4⟩ := Option.map_eq_some_iff.mp e2
  refine ⟨by show 2 ≤ sizeLine; decide, fun pt hpt => ?_⟩
  have S2 := S1.str.new (o := .tup [V.ty "list", V.ty "tuple"]) hpt
  have e5 := Ext.new (o := .tup [V.ty "list", V.ty "tuple"]) S1.str hpt
  refine ⟨y, pt, _, _, [.type "list", .type "tuple"], b, rfl, upd_same, .cons (.ty _) (.cons (.ty _) .nil), by rw [g.hK]; exact tyN_rep (Rep.ext e5 r1) e3, ?_, (Aft.ext (e1.trans e5) q).now S2 rep_bool⟩
  have h1 : PySem.W.kitOne X.K (.type (tyS n)) (.type "list") = some ("list" == tyS n || (n == 1 && ("list" : String) == "int")) := kit_is (tyN_lt e3) (by decide)
  have h2 : PySem.W.kitOne X.K (.type (tyS n)) (.type "tuple") = some ("tuple" == tyS n || (n == 1 && ("tuple" : String) == "int")) := kit_is (tyN_lt e3) (by decide)
  have hn := tyN_lt e3
  unfold PySem.W.kitAny
  rw [h1]
  unfold PySem.W.kitAny
  rw [h2]
  subst e4
  have hn' : n = 0 ∨ n = 1 ∨ n = 2 ∨ n = 3 ∨ n = 4 ∨ n = 5 := by omega
  rcases hn' with e | e | e | e | e | e <;> subst e <;> rfl
/-! ### freezing, popping -/
theorem snd_frz {a : E} {x : Expr} (ha : PE X x (rdE M Φ a)) : PE X x (rdE M Φ (.frz a)) := by
  refine PEimp ha ?_
  rintro σ H Q ⟨ρ, st, i, S, h⟩
  refine ⟨ρ, st, i, S, wpE_mono hΦ h fun v su q j G y e1 S1 r1 => ?_⟩
  unfold wpFrz at q
  split at q
  · rename_i n
    split at q
    · rename_i vs hg
      obtain ⟨xs, h1, l1⟩ := S1.cell _ _ hg
      have e2 := Ext.del S1 n
      refine q j G y (e1.trans e2) (S1.del n) ?_
      rw [(of_cell r1).1]
      simp only [Rep]
      exact ⟨_, xs, rfl, h1, S1.nocD hg, l1.ext e2⟩
    · exact q.elim
  · exact q.elim
theorem snd_pop {a : E} {x : Expr} {apos pos} (ha : PE X x (rdE M Φ a)) (pe : PE X (.Call (.Attribute x "pop" apos) [] [] pos) (tBM0 X.K "list" rPop (rdE M Φ a))) : PE X (.Call (.Attribute x "pop" apos) [] [] pos) (rdE M Φ (.pop a)) := by
  refine PEimp pe ?_
  rintro σ H Q ⟨ρ, st, i, S, h⟩
  refine rd1 hΦ S h fun v su j G y e1 S1 r1 q => ?_
  unfold wpPop at q
  split at q
  · rename_i n
    split at q
    · rename_i vs hg
      obtain ⟨w, e2, q⟩ := onO_iff.mp q
      obtain ⟨xs, h1, l1⟩ := S1.str.cell _ _ hg
      rw [(of_cell r1).1]
      have e3 : vs[vs.length - 1]? = some w := by rw [← e2, List.getLast?_eq_getElem?]
      obtain ⟨z, h2, rz⟩ := l1.get e3
      refine ⟨.inl ⟨rfl, _, SqL.of h1⟩, _, xs, z, rfl, rfl, h1, by rw [← l1.length]; exact h2, ?_⟩
      have e4 := Ext.put (o := .lst xs.dropLast) (d := .lst vs.dropLast false) S1.str hg
      exact q j _ z (e1.trans e4) (S1.str.put hg ⟨_, upd_same, (l1.dropLast).ext e4⟩) (Rep.ext e4 rz)
    · exact q.elim
  · exact q.elim
end
end VM

namespace VM
open PySem PySem.Spec PyProof.Rows L2
/-! ### what a for walks, over the small machine -/
/-- the walk J hands out the values vs, while what stood stands -/
def Wk (M : Md) (i0 : Io) (st0 : Store) (H0 : Hp) (J : It) (vs : List Val) : Prop := ∀ (n : Nat) (i : Io) (st : Store) (H : Hp), Ext i0 st0 H0 i st H → StRel M i st H →
  (∀ v, vs[n]? = some v → J.go n H ∧ ∀ x H', J.yld n H x H' → Ext i st H i st H' ∧ StRel M i st H' ∧ Rep M i st H' v x) ∧ (n = vs.length → J.stop n H)
def rdI (M : Md) (Φ : FnSem) (s : Src) : TI := fun σ H R => ∃ ρ st i, Sim M i ρ st σ H ∧ wpSrc Φ noX s ρ st fun vs su => ∀ j G J, Ext i st H j su G → StRel M j su G → Wk M j su G J vs → vs.length ≤ sizeLine → R J G
theorem PIimp {X : Cx} {tg e : Expr} {t t' : TI} (h : PI X tg e t) (m : ∀ σ H Q, t' σ H Q → t σ H Q) : PI X tg e t' := ⟨fun pins s σ H Q I q => h.run pins s σ H Q I (m _ _ _ q)⟩
section
variable {M : Md} {i j : Io} {st su : Store} {H G : Hp} {p : Addr}
theorem wk_lst {K : PySem.W.Frag} {xs : List V} {vs : List Val} (h : H p = some (.lst xs)) (n : Noc i st p) (r : RepL M i st H vs xs) : Wk M i st H (Itl K p) vs := by
  intro m j su G e S
  obtain ⟨h1, n1⟩ := e.keep _ _ h n
  have r1 := RepL.ext e r
  refine ⟨fun v hv => ?_, fun hm => ⟨xs, SqL.of h1, by rw [hm, r.length]; exact Nat.le_refl _⟩⟩
  obtain ⟨a, ha, ra⟩ := r1.get hv
  refine ⟨⟨xs, a, SqL.of h1, ha⟩, fun x H' ⟨q1, q2⟩ => ?_⟩
  subst q1
  have := q2 xs (SqL.of h1)
  rw [ha] at this
  cases this
  exact ⟨Ext.refl .., S, ra⟩
theorem wk_tup {K : PySem.W.Frag} {xs : List V} {vs : List Val} (h : H p = some (.tup xs)) (n : Noc i st p) (r : RepL M i st H vs xs) : Wk M i st H (Itt K p) vs := by
  intro m j su G e S
  obtain ⟨h1, n1⟩ := e.keep _ _ h n
  have r1 := RepL.ext e r
  refine ⟨fun v hv => ?_, fun hm => ⟨xs, SqT.of h1, by rw [hm, r.length]; exact Nat.le_refl _⟩⟩
  obtain ⟨a, ha, ra⟩ := r1.get hv
  refine ⟨⟨xs, a, SqT.of h1, ha⟩, fun x H' ⟨q1, q2⟩ => ?_⟩
  subst q1
  have := q2 xs (SqT.of h1)
  rw [ha] at this
  cases this
  exact ⟨Ext.refl .., S, ra⟩
theorem numb_get : ∀ {vs : List Val} {k n : Nat} {v : Val}, (numb k vs)[n]? = some v → ∃ u, vs[n]? = some u ∧ v = .tup [.int ((k + n : Nat) : Int), u]
  | [], k, n, v, h => by simp [numb] at h
  | u :: vs, k, 0, v, h => by
    simp only [numb, List.getElem?_cons_zero, Option.some.injEq] at h
    exact ⟨u, rfl, by rw [← h]; rfl⟩
  | u :: vs, k, n + 1, v, h => by
    simp only [numb, List.getElem?_cons_succ] at h
    obtain ⟨w, h1, h2⟩ := numb_get h
    exact ⟨w, by simpa using h1, by rw [h2, show k + 1 + n = k + (n + 1) by omega]⟩
theorem numb_length : ∀ {vs : List Val} {k : Nat}, (numb k vs).length = vs.length
  | [], _ => rfl
  | _ :: vs, k => by simp only [numb, List.length_cons, numb_length]
theorem wk_en {Gf : Hp → List V → Prop} {xs : List V} {vs : List Val} (st_ : ∀ {j su G}, Ext i st H j su G → Gf G xs) (uq : ∀ {G ys}, Gf G xs → Gf G ys → ys = xs) (r : RepL M i st H vs xs) : Wk M i st H (Ien Gf) (numb 0 vs) := by
  intro m j su G e S
  have h1 := st_ e
  have r1 := RepL.ext e r
  refine ⟨fun v hv => ?_, fun hm => ⟨xs, h1, by rw [hm, numb_length, r.length]⟩⟩
  obtain ⟨u, hu, ev⟩ := numb_get hv
  obtain ⟨a, ha, ra⟩ := r1.get hu
  refine ⟨⟨xs, a, h1, ha⟩, fun x H' ⟨T, y, q1, q2, q3, q4⟩ => ?_⟩
  subst q1 q3 ev
  have := q4 xs h1
  rw [ha] at this
  cases this
  refine ⟨Ext.new S q2, S.new q2, ?_⟩
  rw [Nat.zero_add]
  exact rep_newT S q2 (RepL.cons rep_int (RepL.cons ra RepL.nil))
theorem ints_get : ∀ {k n : Nat} {lo : Int} {v : Val}, (intsFrom lo k)[n]? = some v → v = .int (lo + n) ∧ n < k
  | 0, n, lo, v, h => by simp [intsFrom] at h
  | k + 1, 0, lo, v, h => by
    simp only [intsFrom, List.getElem?_cons_zero, Option.some.injEq] at h
    exact ⟨by rw [← h]; simp, Nat.succ_pos _⟩
  | k + 1, n + 1, lo, v, h => by
    simp only [intsFrom, List.getElem?_cons_succ] at h
    obtain ⟨h1, h2⟩ := ints_get h
    exact ⟨by rw [h1]; congr 1; omega, by omega⟩
theorem ints_length : ∀ {k : Nat} {lo : Int}, (intsFrom lo k).length = k
  | 0, _ => rfl
  | k + 1, lo => by simp only [intsFrom, List.length_cons, ints_length]
theorem wk_rng {lo : Int} {k : Nat} : Wk M i st H (Itr lo k) (intsFrom lo k) := by
  intro m j su G e S
  refine ⟨fun v hv => ?_, fun hm => ?_⟩
  · obtain ⟨ev, hlt⟩ := ints_get hv
    refine ⟨hlt, fun x H' ⟨q1, q2⟩ => ?_⟩
    subst q1 q2 ev
    exact ⟨Ext.refl .., S, rep_int⟩
  · show k ≤ m
    rw [hm, ints_length]
    exact Nat.le_refl _
end
section
variable {M : Md} {k : Nat} {N : List Str} {sc : Scope} {X : Cx} {Φ : FnSem} (hΦ : MonoF Φ) (F : Facts M k Φ) (g : Gd M k N sc X)
/-- every list that is tracked has a lawful size -/
theorem size_of {pins : List (Addr × Obj)} {σ : L2.St} {H : Hp} {s : Shared} (I : L2.Inv X pins σ H s) : (∀ p xs, H p = some (.lst xs) → xs.length ≤ sizeLine) ∧ (∀ p xs, H p = some (.tup xs) → xs.length ≤ sizeLine) :=
  ⟨fun p xs h => (I.hok p _ h).1, fun p xs h => (I.hok p _ h).1⟩
include hΦ g
theorem src_seq {tg x : Expr} {a : E} (ha : PE X x (rdE M Φ a)) : PI X tg x (rdI M Φ (.seq a)) := by
  refine ⟨fun pins s σ H R I h => ?_⟩
  obtain ⟨ρ, st, i, S, h⟩ := h
  have ha' : PE X x fun σ H Q => rdE M Φ a σ H fun y G => (∀ p xs, G p = some (.lst xs) → xs.length ≤ sizeLine) ∧ (∀ p xs, G p = some (.tup xs) → xs.length ≤ sizeLine) → Q y G :=
    ⟨fun pins s σ H Q I h => thn (ha.run pins s σ H _ I h) fun u s1 ⟨y, G, I1, r1, q⟩ => ⟨y, G, I1, r1, q (size_of I1)⟩⟩
  refine (pi_seq ha').run pins s σ H R I ?_
  refine rd1 hΦ S h fun v su j G y e1 S1 r1 q => fun sz => ?_
  cases v <;> try exact q.elim
  · obtain ⟨p, xs, rfl, h1, n1, l1⟩ := of_tup r1
    exact ⟨p, rfl, .inr ⟨xs, h1, q j G _ e1 S1.str (wk_tup h1 n1 l1) (by rw [l1.length]; exact sz.2 p xs h1)⟩⟩
  · obtain ⟨p, xs, rfl, h1, n1, l1⟩ := of_lst r1
    exact ⟨p, rfl, .inl ⟨xs, h1, q j G _ e1 S1.str (wk_lst h1 n1 l1) (by rw [l1.length]; exact sz.1 p xs h1)⟩⟩
include F
theorem src_rng1 {tg x : Expr} {a : E} {p pos} (hg : sc.names.lookup ("range" : Str) = some .globalImplicit) (ha : PE X x (rdE M Φ a)) (hs : nst x = true) : PI X tg (.Call (.Name "range" p) [x] [] pos) (rdI M Φ (.rng1 a)) := by
  refine PIimp (pi_range1 (show X.env.scope.names.lookup _ = _ by rw [g.hsc]; exact hg) (by rw [g.hmg]; exact F.free _ (by decide +kernel)) (pa_cons ha pa_nil (star_cons hs)) (star_cons hs)) ?_
  rintro σ H R ⟨ρ, st, i, S, h⟩
  refine rd1 hΦ S h fun v su j G y e1 S1 r1 q => ?_
  cases v <;> try exact q.elim
  rename_i n
  obtain ⟨h0, hn, q⟩ := q
  have hb : (n : Int) ≤ 16777216 := hn
  exact ⟨n, by rw [of_int r1], by omega, by omega, q j G _ e1 S1.str wk_rng (by rw [ints_length, sizeLine_eq]; omega)⟩
theorem src_rng2 {tg x y : Expr} {a b : E} {p pos} (hg : sc.names.lookup ("range" : Str) = some .globalImplicit) (ha : PE X x (rdE M Φ a)) (hb : PE X y (rdE M Φ b)) (hs : nst x = true) (hs2 : nst y = true) : PI X tg (.Call (.Name "range" p) [x, y] [] pos) (rdI M Φ (.rng2 a b)) := by
  refine PIimp (pi_range2 (show X.env.scope.names.lookup _ = _ by rw [g.hsc]; exact hg) (by rw [g.hmg]; exact F.free _ (by decide +kernel)) (pa_cons ha (pa_cons hb pa_nil (star_cons hs2)) (star_cons hs)) (by rw [star_cons hs, star_cons hs2]; rfl) (by rw [star_cons hs2]; rfl)) ?_
  rintro σ H R ⟨ρ, st, i, S, h⟩
  refine rd2 hΦ S h fun v u su j G y z e1 S1 rx ry q => ?_
  cases v <;> try exact q.elim
  cases u <;> try exact q.elim
  rename_i lo hi
  obtain ⟨⟨h1, h2, h3, h4, h5⟩, q⟩ := q
  have hb : hi - lo ≤ 16777216 := h5
  exact ⟨lo, hi, by rw [of_int rx, of_int ry], ⟨by omega, by omega, by omega, by omega⟩, q j G _ e1 S1.str wk_rng (by rw [ints_length, sizeLine_eq]; omega)⟩
theorem src_enum {x : Expr} {a : E} {p pos tpos : Pos} {elts : List Expr} {kk : Nat} (hg : sc.names.lookup ("enumerate" : Str) = some .globalImplicit) (ha : PE X x (rdE M Φ a)) (hs : nst x = true) : PI X (.Tuple elts kk tpos) (.Call (.Name "enumerate" p) [x] [] pos) (rdI M Φ (.enum a)) := by
  refine ⟨fun pins s σ H R I h => ?_⟩
  obtain ⟨ρ, st, i, S, h⟩ := h
  have ha' : PE X x fun σ H Q => rdE M Φ a σ H fun y G => (∀ p xs, G p = some (.lst xs) → xs.length ≤ sizeLine) ∧ (∀ p xs, G p = some (.tup xs) → xs.length ≤ sizeLine) → Q y G :=
    ⟨fun pins s σ H Q I h => thn (ha.run pins s σ H _ I h) fun u s1 ⟨y, G, I1, r1, q⟩ => ⟨y, G, I1, r1, q (size_of I1)⟩⟩
  refine (pi_en (show X.env.scope.names.lookup _ = _ by rw [g.hsc]; exact hg) (by rw [g.hmg]; exact F.free _ (by decide +kernel)) (pa_cons ha' pa_nil (star_cons hs)) (star_cons hs)).run pins s σ H R I ?_
  refine rd1 hΦ S h fun v su j G y e1 S1 r1 q => fun sz => ?_
  cases v <;> try exact q.elim
  · obtain ⟨p, xs, rfl, h1, n1, l1⟩ := of_tup r1
    refine ⟨p, rfl, .inr ⟨xs, h1, q j G _ e1 S1.str (wk_en (fun e => (e.keep _ _ h1 n1).1) (fun a b => by rw [a] at b; cases b; rfl) l1) (by rw [numb_length, l1.length]; exact sz.2 p xs h1)⟩⟩
  · obtain ⟨p, xs, rfl, h1, n1, l1⟩ := of_lst r1
    refine ⟨p, rfl, .inl ⟨xs, h1, q j G _ e1 S1.str (wk_en (fun e => (e.keep _ _ h1 n1).1) (fun a b => by rw [a] at b; cases b; rfl) l1) (by rw [numb_length, l1.length]; exact sz.1 p xs h1)⟩⟩
end
/-! ### targets -/
def tslots : Tgt → List Nat
  | .name n => [n]
  | .nil => []
  | .cons t r => tslots t ++ tslots r
theorem wipe_set {σ : L2.St} {n : Nat} {o : Option V} : ∀ {own : List Nat}, n ∈ own → L2.wipe (σ.set n o) own = L2.wipe σ own
  | m :: own, h => by
    show (L2.wipe (σ.set n o) own).set m none = (L2.wipe σ own).set m none
    by_cases z : n ∈ own
    · rw [wipe_set z]
    · have e : n = m := (List.mem_cons.mp h).resolve_right z
      subst e
      have : ∀ (own : List Nat), n ∉ own → L2.wipe (σ.set n o) own = (L2.wipe σ own).set n o := by
        intro own
        induction own with
        | nil => intro _; rfl
        | cons a r ih =>
          intro h
          show (L2.wipe (σ.set n o) r).set a none = ((L2.wipe σ r).set a none).set n o
          rw [ih fun z => h (List.mem_cons_of_mem _ z), List.set_comm]
          exact fun e => h (by rw [e]; exact List.mem_cons_self)
      rw [this own z, List.set_set]
def rdG (M : Md) (t : Tgt) : TG := fun v σ H Q => ∃ ρ st i u, Sim M i ρ st σ H ∧ Rep M i st H u v ∧ wpTgt t u ρ fun ρ1 => ∀ σ1, EnvRel M i st H ρ1 σ1 → (∀ own : List Nat, (∀ n ∈ tslots t, n ∈ own) → L2.wipe σ1 own = L2.wipe σ own) → Q σ1 H
def rdGs (M : Md) (t : Tgt) : TGs := fun vs σ H Q => ∃ ρ st i us, Sim M i ρ st σ H ∧ RepL M i st H us vs ∧ wpTgt t (.tup us) ρ fun ρ1 => ∀ σ1, EnvRel M i st H ρ1 σ1 → (∀ own : List Nat, (∀ n ∈ tslots t, n ∈ own) → L2.wipe σ1 own = L2.wipe σ own) → Q σ1 H
theorem PGimp {X : Cx} {e : Expr} {t t' : TG} (h : PG X e t) (m : ∀ v σ H Q, t' v σ H Q → t v σ H Q) : PG X e t' := ⟨fun pins s σ H v u Q I r q => h.run pins s σ H v u Q I r (m _ _ _ _ q)⟩
theorem PGsimp {X : Cx} {e : List Expr} {t t' : TGs} (h : PGs X e t) (m : ∀ v σ H Q, t' v σ H Q → t v σ H Q) : PGs X e t' := ⟨fun pins s σ H v u Q I r q => h.run pins s σ H v u Q I r (m _ _ _ _ q)⟩
theorem asg_cons {x : Expr} {xs : List Expr} {env : PySem.Env} (h : nst x = true) : assignEach (x :: xs) env = (false, assign x env) :: assignEach xs env := by
  cases x <;> first | rfl | cases h
theorem asg_all {xs : List Expr} {env : PySem.Env} (h : xs.all nst = true) : (assignEach xs env).length = xs.length ∧ (assignEach xs env).findIdx? (·.1) = none := by
  induction xs with
  | nil => exact ⟨rfl, rfl⟩
  | cons x xs ih =>
    rw [List.all_cons, Bool.and_eq_true] at h
    rw [asg_cons h.1]
    obtain ⟨h1, h2⟩ := ih h.2
    refine ⟨by rw [List.length_cons, h1]; rfl, ?_⟩
    rw [List.findIdx?_cons, h2]
    rfl
section
variable {M : Md} {k : Nat} {N : List Str} {so sc : Scope} {X : Cx} (g : Gd M k N sc X) (as : Asg so sc X)
include g as
theorem snd_tname {n : Nat} {x : Str} {pos : Pos} (h1 : N[n]? = some x) (h2 : L2.Loc so x) : PG X (.Name x pos) (rdG M (.name n)) := by
  obtain ⟨h3, h4⟩ := as x h2
  refine PGimp (pg_name (i := n) (by rw [g.hN]; exact g.nd) (by rw [g.hN]; exact h1) (by rw [g.hsc]; exact h3) (by rw [g.hsc]; exact h4)) ?_
  rintro v σ H Q ⟨ρ, st, i, u, S, r, _, h⟩
  exact h _ (S.env.set r) fun own ho => wipe_set (ho n (by simp [tslots]))
omit g as in
theorem snd_tnil : PGs X [] (rdGs M .nil) := by
  refine PGsimp pgs_nil ?_
  rintro v σ H Q ⟨ρ, st, i, us, S, r, e, h⟩
  subst e
  simp only [RepL] at r
  exact ⟨r, h σ S.env fun _ _ => rfl⟩
omit g as in
theorem snd_tcons {t r : Tgt} {x : Expr} {xs : List Expr} (h1 : PG X x (rdG M t)) (h2 : PGs X xs (rdGs M r)) (hs : nst x = true) : PGs X (x :: xs) (rdGs M (.cons t r)) := by
  refine PGsimp (pgs_cons h1 h2 (by rw [asg_cons hs]; rfl)) ?_
  rintro v σ H Q ⟨ρ, st, i, us, S, rl, h⟩
  cases us with
  | nil => exact h.elim
  | cons u us =>
    simp only [RepL] at rl
    obtain ⟨a, q, rfl, r1, r2⟩ := rl
    refine ⟨a, q, rfl, ρ, st, i, u, S, r1, wpTgt_mono h fun ρ1 h σ1 e1 w1 => ⟨ρ1, st, i, us, ⟨e1, S.str⟩, r2, wpTgt_mono h fun ρ2 h σ2 e2 w2 => h σ2 e2 fun own ho => ?_⟩⟩
    rw [w2 own fun n hn => ho n (by simp [tslots, hn]), w1 own fun n hn => ho n (by simp [tslots, hn])]
omit as in
theorem snd_ttup {t : Tgt} {xs : List Expr} {kk pos} (h1 : PGs X xs (rdGs M t)) (hs : xs.all nst = true) (hl : ∀ us ρ R, wpTgt t (.tup us) ρ R → us.length = xs.length) (ht : ∀ v ρ R, wpTgt t v ρ R → ∃ us, v = .tup us) : PG X (.Tuple xs kk pos) (rdG M t) := by
  obtain ⟨a1, a2⟩ := asg_all (env := X.env) hs
  refine PGimp (pg_tup (n := xs.length) g.calm h1 a1 a2) ?_
  rintro v σ H Q ⟨ρ, st, i, u, S, r, h⟩
  obtain ⟨us, rfl⟩ := ht _ _ _ h
  obtain ⟨p, ys, rfl, h3, n3, l3⟩ := of_tup r
  exact ⟨p, ys, rfl, SqT.of h3, by rw [← l3.length]; exact hl _ _ _ h, ρ, st, i, us, S, l3, h⟩
end
end VM

namespace VM
open PySem PySem.Spec PyProof.Rows L2
/-! ### comprehensions -/
theorem wipe_comm (σ : L2.St) (n : Nat) : ∀ own : List Nat, L2.wipe (σ.set n none) own = (L2.wipe σ own).set n none
  | [] => rfl
  | m :: own => by
    show (L2.wipe (σ.set n none) own).set m none = ((L2.wipe σ own).set m none).set n none
    rw [wipe_comm σ n own]
    by_cases z : n = m
    · subst z; rfl
    · rw [List.set_comm _ _ z]
theorem wipe_idem (σ : L2.St) : ∀ own : List Nat, L2.wipe (L2.wipe σ own) own = L2.wipe σ own
  | [] => rfl
  | m :: own => by
    show (L2.wipe ((L2.wipe σ own).set m none) own).set m none = (L2.wipe σ own).set m none
    rw [wipe_comm, wipe_idem σ own, List.set_set]
theorem Ext.unhide {j k : Io} {su sv : Store} {G F : Hp} {D : Addr} (e : Ext j su G k sv F) (hD : G D = none) : Ext j su G (bare k D) sv F :=
  ⟨e.toKp.trans Kp.bare, fun p u a h => by
    obtain ⟨h1, h2⟩ := e.hidk p u a h
    exact ⟨h1, ne_of_none h hD, h2⟩⟩
theorem Ext.updN {j k : Io} {su sv : Store} {G F : Hp} {D : Addr} {o : HO} (e : Ext j su G k sv F) (hD : G D = none) : Ext j su G k sv (upd F D o) :=
  ⟨⟨e.next, e.io, fun p u h n => by
    obtain ⟨h1, h2⟩ := e.keep p u h n
    exact ⟨by rw [upd_ne (ne_of_none h hD)]; exact h1, h2⟩⟩, fun p u a h => by
    obtain ⟨h1, h2⟩ := e.hidk p u a h
    exact ⟨by rw [upd_ne (ne_of_none h hD)]; exact h1, h2⟩⟩
def rdC (M : Md) (Φ : FnSem) (c : EO) : TT := fun σ H Q => ∃ ρ st i, Sim M i ρ st σ H ∧ wpC Φ noX c ρ st (AftB M i st H Q)
theorem snd_cno {M : Md} {Φ : FnSem} {X : Cx} : PTs X [] (rdC M Φ .no) :=
  ⟨fun pins s σ H Q I h => by
    obtain ⟨ρ, st, i, S, h⟩ := h
    exact pts_nil.run pins s σ H Q I (h i H (Ext.refl ..) S.str)⟩
theorem snd_cyes {M : Md} {Φ : FnSem} {X : Cx} {e : E} {x : Expr} (h : PT X x (rdT M Φ e)) : PTs X [x] (rdC M Φ (.yes e)) :=
  ⟨fun pins s σ H Q I q => (pts_one h).run pins s σ H Q I q⟩
section
variable {M : Md} {k : Nat} {N : List Str} {sc : Scope} {X : Cx} {Φ : FnSem} (hΦ : MonoF Φ) (g : Gd M k N sc X)
include hΦ
/-- one turn after another -/
theorem comp_rd {s : Src} {t : Tgt} {c : EO} {e : E} {own : List Nat} {σ : L2.St} {H : Hp} {Q : VK} (hown : ∀ n ∈ tslots t, n ∈ own) (h : rdE M Φ (.comp own s t c e) σ H Q) : tLc (rdI M Φ s) (rdG M t) (rdC M Φ c) (rdE M Φ e) own σ H Q := by
  obtain ⟨ρ, st, i, S, h⟩ := h
  refine ⟨ρ, st, i, S, wpSrc_mono hΦ h fun vs su q j G J e0 T0 wk hz D hD => ?_⟩
  generalize hstep : (fun v st2 (kk : Option Val → Store → Prop) => wpTgt t v (VM.wipe ρ own) fun ρ1 => wpC Φ noX c ρ1 st2 fun d st3 => if d = true then wpE Φ noX e ρ1 st3 fun x st4 => kk (some x) st4 else kk none st3) = step at q
  let Wn : Nat → List Val → Hp → Prop := fun n rest F => ∃ acc xs sv kk, vs.drop n = rest ∧ n ≤ vs.length ∧ Ext j su G kk sv F ∧ StRel M kk sv F ∧ kk.hid D ∧ F D = some (.lst xs) ∧ RepL M kk sv F acc xs ∧ acc.length ≤ n ∧
    wpTurns step rest acc sv fun out st2 => Aft M i st H Q (.lst out) st2
  refine ⟨fun n m F => ∃ rest, m = rest.length ∧ Wn n rest F, ⟨vs.length, vs, rfl, [], [], su, hide j D, rfl, Nat.zero_le _, Ext.hide T0 hD, T0.hide hD, .inl rfl, upd_same, RepL.nil, Nat.le_refl _, q⟩, ?_⟩
  rintro n m F ⟨rest, rfl, acc, xs, sv, kk, hd, hn, eb, T, hh, hF, ra, hl, q⟩
  cases rest with
  | nil =>
    have hn' : n = vs.length := by
      have := congrArg List.length hd
      rw [List.length_drop] at this
      simp at this
      omega
    refine .inl ⟨((wk n kk sv F eb T).2 hn'), ?_⟩
    have T2 := T.bare D
    refine q (bare kk D) F (.ref D) (e0.trans (eb.unhide hD)) T2 ?_
    simp only [Rep]
    exact ⟨D, xs, rfl, hF, ⟨fun a c ha (z : kk.at_ a = D) => T.nohid a c ha (by rw [z]; exact hh), fun z => z.1 rfl⟩, RepL.kp Kp.bare ra⟩
  | cons v r =>
    have hv : vs[n]? = some v := by
      have := congrArg (fun l => l[0]?) hd
      simpa [List.getElem?_drop] using this
    have hlt : n < vs.length := (List.getElem?_eq_some_iff.mp hv).1
    have hd2 : vs.drop (n + 1) = r := by
      have := congrArg List.tail hd
      simpa [List.tail_drop] using this
    obtain ⟨go, yl⟩ := (wk n kk sv F eb T).1 v hv
    refine .inr ⟨go, Wn (n + 1) r, fun F' w => ⟨r.length, Nat.lt_succ_self _, r, rfl, w⟩, fun x F1 hy => ?_⟩
    obtain ⟨e1, T1, rx⟩ := yl x F1 hy
    have eb1 := eb.trans e1
    have hh1 := e1.hidk D _ hh hF
    have ra1 := ra.ext e1
    subst hstep
    refine ⟨VM.wipe ρ own, sv, kk, v, ⟨(S.env.ext (e0.trans eb1)).wipe own, T1⟩, rx, wpTgt_mono q fun ρ1 q σ1 s1 w1 => ⟨by rw [w1 own hown, wipe_idem], ?_⟩⟩
    refine ⟨ρ1, sv, kk, ⟨s1, T1⟩, wpC_mono hΦ q fun d sw q k2 F2 e2 T2 => ?_⟩
    have hh2 := e2.hidk D _ hh1.2 hh1.1
    have eb2 := eb1.trans e2
    have ra2 := ra1.ext e2
    cases d with
    | false => exact ⟨acc, xs, sw, k2, hd2, hlt, eb2, T2, hh2.2, hh2.1, ra2, Nat.le_succ_of_le hl, q⟩
    | true =>
      refine ⟨ρ1, sw, k2, ⟨s1.ext e2, T2⟩, wpE_mono hΦ q fun y sx q k3 F3 b e3 T3 rb => ?_⟩
      have hh3 := e3.hidk D _ hh2.2 hh2.1
      have ra3 := ra2.ext e3
      refine ⟨xs, hh3.1, ?_, acc ++ [y], xs ++ [b], sx, k3, hd2, hlt, (eb2.trans e3).updN hD, T3.hput hh3.2, hh3.2, upd_same, ?_, ?_, q⟩
      · rw [← ra3.length]; omega
      · exact RepL.kp (Kp.hput hh3.2) (ra3.append (RepL.cons rb RepL.nil))
      · rw [List.length_append]; simpa using hl
include g
theorem snd_comp {s : Src} {t : Tgt} {c : EO} {e : E} {own : List (Str × Nat)} {elt tg iter : Expr} {ifs : List Expr} {scope : Scope} {pos : Pos} (hown : ∀ n ∈ tslots t, n ∈ own.map (·.2)) (hi : PI X tg iter (rdI M Φ s)) (ok : BlkOk N sc scope own)
    (hg : ∀ (s : Shared) (H : Hp) (C : Addr) (cl : List (Str × Addr)) (fp : List Addr), PG (X.blk s H scope (compEnvC scope cl C X.env) fp) tg (rdG M t)) (ht : ∀ (s : Shared) (H : Hp) (C : Addr) (cl : List (Str × Addr)) (fp : List Addr), PTs (X.blk s H scope (compEnvC scope cl C X.env) fp) ifs (rdC M Φ c))
    (he : ∀ (s : Shared) (H : Hp) (C : Addr) (cl : List (Str × Addr)) (fp : List Addr), PE (X.blk s H scope (compEnvC scope cl C X.env) fp) elt (rdE M Φ e)) (hs : ∀ x, foldedSetIterable iter X.env x = pure x) :
    PE X (.ListComp elt [⟨tg, iter, ifs, 0⟩] scope pos) (rdE M Φ (.comp (own.map (·.2)) s t c e)) := by
  refine PEimp (pe_lc g.calm (by rw [g.hN]; exact g.nd) hi (by rw [g.hN, g.hsc]; exact ok) hg ht he hs) ?_
  intro σ H Q h
  exact comp_rd hΦ hown h
/-- name = [..] -/
theorem snd_setComp {s : Src} {t : Tgt} {c : EO} {e : E} {own : List (Str × Nat)} {elt tg iter : Expr} {ifs : List Expr} {scope : Scope} {pos py spos : Pos} {n : Nat} {y : Str} (hown : ∀ n ∈ tslots t, n ∈ own.map (·.2)) (hi : PI X tg iter (rdI M Φ s)) (ok : BlkOk N sc scope own)
    (hy : N[n]? = some y) (hyl : sc.names.lookup y = some .local) (hsw : swapsWith (.ListComp elt [⟨tg, iter, ifs, 0⟩] scope pos) (some (.Name y py)) spos.line X.env = pure true)
    (hg : ∀ (s : Shared) (H : Hp) (C : Addr) (cl : List (Str × Addr)) (fp : List Addr), PG (X.blk s H scope (compEnvC scope cl C X.env) fp) tg (rdG M t)) (ht : ∀ (s : Shared) (H : Hp) (C : Addr) (cl : List (Str × Addr)) (fp : List Addr), PTs (X.blk s H scope (compEnvC scope cl C X.env) fp) ifs (rdC M Φ c))
    (he : ∀ (s : Shared) (H : Hp) (C : Addr) (cl : List (Str × Addr)) (fp : List Addr), PE (X.blk s H scope (compEnvC scope cl C X.env) fp) elt (rdE M Φ e)) (hs : ∀ x, foldedSetIterable iter X.env x = pure x) :
    PS X (.Assign [.Name y py] (.ListComp elt [⟨tg, iter, ifs, 0⟩] scope pos) spos) (tAsg (rdE M Φ (.comp (own.map (·.2)) s t c e)) (gName n)) := by
  have h := ps_setLc (i := n) (y := y) (py := py) (spos := spos) (pos := pos) g.calm (by rw [g.hN]; exact g.nd) (by rw [g.hN]; exact hy) (by rw [g.hsc]; exact hyl) hsw hi (by rw [g.hN, g.hsc]; exact ok) hg ht he hs
  refine ⟨fun pins s σ H D I q => h.run pins s σ H D I ?_⟩
  exact comp_rd hΦ hown q
end
/-- a comprehension's block is a good place, too -/
theorem Gd.blk {M : Md} {k : Nat} {N : List Str} {sc : Scope} {X : Cx} (g : Gd M k N sc X) {scope : Scope} (s : Shared) (H : Hp) (C : Addr) (cl : List (Str × Addr)) (fp : List Addr) (hk : scope.kind = .function) : Gd M k N (relS scope sc) (X.blk s H scope (compEnvC scope cl C X.env) fp) where
  hP := g.hP
  hw := g.hw
  hK := g.hK
  hmg := g.hmg
  hbase := g.hbase
  hN := g.hN
  nd := g.nd
  hsc := by rw [← g.hsc]; rfl
  kind := hk
  calm := g.calm
  room := g.room
  xe := PassesOwn.never
theorem Asg.blk {X : Cx} {scope sc : Scope} (hsc : X.env.scope = sc) (s : Shared) (H : Hp) (C : Addr) (cl : List (Str × Addr)) (fp : List Addr) : Asg scope (relS scope sc) (X.blk s H scope (compEnvC scope cl C X.env) fp) := by
  intro x hx
  rcases hx with h | h
  · exact ⟨.inl (lookup_relS_keep (by decide) h), .inr (lookup_relS_keep (by decide) h)⟩
  · refine ⟨.inr (lookup_relS_keep (by decide) h), .inl ?_⟩
    show (scope.names.lookup x == some .cell) = true
    rw [h]
    rfl
end VM

namespace VM
open PySem PySem.Spec PyProof.Rows L2
/-! ### shapes -/
def nsup : Expr → Bool
  | .Call (.Name _ _) [] [] _ => false
  | _ => true
theorem base_of {o : Expr} {m : Str} {env : PySem.Env} (h : nsup o = true) (w : Sem Value) : attributeBase o m env w = w := by
  unfold attributeBase
  split
  · cases h
  · rfl
def nslc : Expr → Bool
  | .Slice .. => false
  | _ => true
theorem ix_of {y : Expr} (h : nslc y = true) : PlainIx y := by
  intro o i
  cases y <;> first | rfl | cases h
def nset : Expr → Bool
  | .Set .. => false
  | _ => true
theorem fold_of {y : Expr} {env : PySem.Env} (h : nset y = true) : ∀ x, foldedSetIterable y env x = pure x := by
  intro x
  cases y <;> first | rfl | cases h
def ncmp : Expr → Bool
  | .ListComp .. => false
  | .SetComp .. => false
  | .DictComp .. => false
  | _ => true
theorem swap_of {y : Expr} {t : Option Expr} {l : Nat} {env : PySem.Env} (h : ncmp y = true) : swapsWith y t l env = pure false := by
  cases y <;> first | rfl | cases h
theorem mark_of {y : Expr} {op : CmpOp} (h : nset y = true) : behindInMarks op y = false := by
  cases y <;> first | rfl | cases h
def ntup : Expr → Bool
  | .Tuple .. => false
  | _ => true
theorem store_of {t y : Expr} {env : PySem.Env} (h : ntup y = true) : swappedStores [t] y env = pure none := by
  unfold swappedStores
  cases y <;> first | (cases t <;> rfl) | cases h
theorem store_sub {a b y : Expr} {p : Pos} {env : PySem.Env} : swappedStores [.Subscript a b p] y env = pure none := rfl
/-! ### statements -/
def EndsOf (M : Md) (i : Io) (st : Store) (H : Hp) (D : L2.Ends) : VM.Ends where
  nx := fun ρ1 s1 => ∀ j G σ1, Ext i st H j s1 G → Sim M j ρ1 s1 σ1 G → D.nx σ1 G
  rt := Aft M i st H D.rt
  bk := fun ρ1 s1 => ∀ j G σ1, Ext i st H j s1 G → Sim M j ρ1 s1 σ1 G → D.bk σ1 G
  ct := fun ρ1 s1 => ∀ j G σ1, Ext i st H j s1 G → Sim M j ρ1 s1 σ1 G → D.ct σ1 G
theorem EndsOf.ext {M : Md} {i j : Io} {st su : Store} {H G : Hp} {D : L2.Ends} (e : Ext i st H j su G) : VM.Ends.Le (EndsOf M i st H D) (EndsOf M j su G D) :=
  ⟨fun ρ s h k F σ e2 S => h k F σ (e.trans e2) S, fun v s h => h.ext e, fun ρ s h k F σ e2 S => h k F σ (e.trans e2) S, fun ρ s h k F σ e2 S => h k F σ (e.trans e2) S⟩
def rdS (M : Md) (Φ : FnSem) (s : S) : TS := fun D σ H => ∃ ρ st i, Sim M i ρ st σ H ∧ wpS Φ noX s ρ st (EndsOf M i st H D)
def rdB (M : Md) (Φ : FnSem) (s : SL) : TS := fun D σ H => ∃ ρ st i, Sim M i ρ st σ H ∧ wpSL Φ noX s ρ st (EndsOf M i st H D)
theorem PSimp {X : Cx} {s : Stmt} {t t' : TS} (h : PS X s t) (m : ∀ D σ H, t' D σ H → t D σ H) : PS X s t' := ⟨fun pins s σ H D I q => h.run pins s σ H D I (m _ _ _ q)⟩
theorem PSsimp {X : Cx} {s : List Stmt} {t t' : TS} (h : PSs X s t) (m : ∀ D σ H, t' D σ H → t D σ H) : PSs X s t' := ⟨fun pins s σ H D I q => h.run pins s σ H D I (m _ _ _ q)⟩
section
variable {M : Md} {k : Nat} {N : List Str} {so sc : Scope} {X : Cx} {Φ : FnSem} (hΦ : MonoF Φ) (F : Facts M k Φ) (g : Gd M k N sc X) (as : Asg so sc X)
include hΦ
theorem st_nil : PSs X [] (rdB M Φ .nil) := by
  refine PSsimp pss_nil ?_
  rintro D σ H ⟨ρ, st, i, S, h⟩
  exact h i H σ (Ext.refl ..) S
theorem st_cons {s : S} {r : SL} {x : Stmt} {xs : List Stmt} (h1 : PS X x (rdS M Φ s)) (h2 : PSs X xs (rdB M Φ r)) : PSs X (x :: xs) (rdB M Φ (.cons s r)) := by
  refine PSsimp (pss_cons h1 h2) ?_
  rintro D σ H ⟨ρ, st, i, S, h⟩
  refine ⟨ρ, st, i, S, wpS_mono hΦ h ⟨fun ρ1 s1 h j G σ1 e S1 => ⟨ρ1, s1, j, S1, wpSL_mono hΦ h (EndsOf.ext e)⟩, fun _ _ h => h, fun _ _ h => h, fun _ _ h => h⟩⟩
theorem st_if {c : E} {a b : SL} {x : Expr} {xs ys : List Stmt} {pos} (hc : PT X x (rdT M Φ c)) (ha : PSs X xs (rdB M Φ a)) (hb : PSs X ys (rdB M Φ b)) : PS X (.If x xs ys pos) (rdS M Φ (.ifs c a b)) := by
  refine PSimp (ps_if hc ha hb) ?_
  rintro D σ H ⟨ρ, st, i, S, h⟩
  refine rdt hΦ S (R := fun d su => if d = true then wpSL Φ noX a ρ su (EndsOf M i st H D) else wpSL Φ noX b ρ su (EndsOf M i st H D)) h fun d su j G e1 S1 q => ?_
  cases d
  · exact ⟨ρ, su, j, S1, wpSL_mono hΦ q (EndsOf.ext e1)⟩
  · exact ⟨ρ, su, j, S1, wpSL_mono hΦ q (EndsOf.ext e1)⟩
theorem st_ret {e : E} {x : Expr} {pos} (he : PE X x (rdE M Φ e)) : PS X (.Return (some x) pos) (rdS M Φ (.ret e)) := by
  refine PSimp (ps_ret he) ?_
  rintro D σ H ⟨ρ, st, i, S, h⟩
  exact ⟨ρ, st, i, S, h⟩
theorem st_retN {pos} : PS X (.Return none pos) (rdS M Φ .retN) := by
  refine PSimp ps_retN ?_
  rintro D σ H ⟨ρ, st, i, S, h⟩
  exact Aft.now h S.str rep_non
theorem st_brk {pos} : PS X (.Break pos) (rdS M Φ .brk) := by
  refine PSimp ps_break ?_
  rintro D σ H ⟨ρ, st, i, S, h⟩
  exact h i H σ (Ext.refl ..) S
theorem st_cnt {pos} : PS X (.Continue pos) (rdS M Φ .cnt) := by
  refine PSimp ps_continue ?_
  rintro D σ H ⟨ρ, st, i, S, h⟩
  exact h i H σ (Ext.refl ..) S
theorem st_pass {pos} : PS X (.Pass pos) (rdS M Φ .pass) := by
  refine PSimp ps_pass ?_
  rintro D σ H ⟨ρ, st, i, S, h⟩
  exact h i H σ (Ext.refl ..) S
theorem st_die {x : Stmt} : PS X x (rdS M Φ .die) := by
  refine PSimp ps_never ?_
  rintro D σ H ⟨ρ, st, i, S, h⟩
  exact h
theorem st_ex {e : E} {x : Expr} {pos} (he : PE X x (rdE M Φ e)) (hs : ncmp x = true) : PS X (.Expr x pos) (rdS M Φ (.ex e)) := by
  refine PSimp (ps_expr he (swap_of hs)) ?_
  rintro D σ H ⟨ρ, st, i, S, h⟩
  exact rd1 hΦ S h fun v su j G y e1 S1 r1 q => q j G σ e1 S1
omit hΦ in
theorem nx_set {n : Nat} {v : Val} {a : V} {ρ : Env} {st su : Store} {i j : Io} {H G : Hp} {σ : L2.St} {D : L2.Ends} (e1 : Ext i st H j su G) (S1 : Sim M j ρ su σ G) (r1 : Rep M j su G v a) (q : (EndsOf M i st H D).nx (ρ.set n (some v)) su) : D.nx (σ.set n (some a)) G :=
  q j G _ e1 ⟨S1.env.set r1, S1.str⟩
include g as in
theorem st_set {n : Nat} {e : E} {x : Expr} {y : Str} {py pos} (h1 : N[n]? = some y) (h2 : L2.Loc so y) (he : PE X x (rdE M Φ e)) (hs : swapsWith x (some (.Name y py)) pos.line X.env = pure false) : PS X (.Assign [.Name y py] x pos) (rdS M Φ (.set n e)) := by
  obtain ⟨h3, h4⟩ := as y h2
  refine PSimp (ps_set (i := n) (by rw [g.hN]; exact g.nd) (by rw [g.hN]; exact h1) (by rw [g.hsc]; exact h3) he hs (by rw [g.hsc]; exact h4)) ?_
  rintro D σ H ⟨ρ, st, i, S, h⟩
  exact rd1 hΦ S h fun v su j G a e1 S1 r1 q => nx_set e1 S1 r1 q.2
theorem st_setC {n : Nat} {e : E} {x : Stmt} (h : PS X x (tAsg (rdE M Φ e) (gName n))) : PS X x (rdS M Φ (.set n e)) := by
  refine PSimp h ?_
  rintro D σ H ⟨ρ, st, i, S, h⟩
  exact rd1 hΦ S h fun v su j G a e1 S1 r1 q => nx_set e1 S1 r1 q.2
theorem st_asg {t : Tgt} {e : E} {x tg : Expr} {pos} (he : PE X x (rdE M Φ e)) (hg : PG X tg (rdG M t)) (hs : ncmp x = true) (hw : ntup x = true) (hn : nst tg = true) : PS X (.Assign [tg] x pos) (rdS M Φ (.asg t e)) := by
  refine PSimp (ps_asg he hg (swap_of hs) (store_of hw) (by rw [asg_cons hn]; rfl)) ?_
  rintro D σ H ⟨ρ, st, i, S, h⟩
  refine rd1 hΦ S h fun v su j G a e1 S1 r1 q => ⟨ρ, su, j, v, S1, r1, wpTgt_mono q fun ρ1 q σ1 s1 _ => q j G σ1 e1 ⟨s1, S1.str⟩⟩
theorem st_item {o z e : E} {x y w : Expr} {tpos pos} (ho : PE X x (rdE M Φ o)) (hz : PE X y (rdE M Φ z)) (he : PE X w (rdE M Φ e)) (hs : ncmp w = true) (hy : nslc y = true) : PS X (.Assign [.Subscript x y tpos] w pos) (rdS M Φ (.item o z e)) := by
  refine PSimp (ps_asg he (pg_sub ho hz set_list (by intro v; cases y <;> first | rfl | cases hy)) (by have := swap_of (t := some (.Subscript x y tpos)) (l := pos.line) (env := X.env) hs; exact this) store_sub rfl) ?_
  rintro D σ H ⟨ρ, st, i, S, h⟩
  refine rd1 hΦ S h fun v su j G a e1 S1 r1 q => ?_
  refine rd1 hΦ S1 q fun u s2 j2 G2 b e2 S2 r2 q => ?_
  refine rd1 hΦ S2 q fun m s3 j3 G3 c e3 S3 r3 q => ?_
  have rv := Rep.ext e3 (Rep.ext e2 r1)
  have ro := Rep.ext e3 r2
  unfold wpItem at q
  split at q
  · rename_i n
    split at q
    · rename_i vs hg
      cases m <;> try exact q.elim
      obtain ⟨jx, e4, q⟩ := onO_iff.mp q
      obtain ⟨xs, h5, l5⟩ := S3.str.cell _ _ hg
      rw [(of_cell ro).1, of_int r3]
      refine ⟨_, xs, _, jx, rfl, rfl, h5, by rw [← l5.length]; exact e4, ?_⟩
      have ep := Ext.put (o := .lst (xs.set jx a)) (d := .lst (vs.set jx v) false) S3.str hg
      exact q j3 _ σ ((e1.trans (e2.trans e3)).trans ep) (S3.ext ep (S3.str.put hg ⟨_, upd_same, (l5.set jx rv).ext ep⟩))
    · exact q.elim
  · exact q.elim
include g as in
theorem st_aug {n : Nat} {e : E} {x : Expr} {y : Str} {py pos} (h1 : N[n]? = some y) (h2 : L2.Loc so y) (he : PE X x (rdE M Φ e)) : PS X (.AugAssign (.Name y py) .Add x pos) (rdS M Φ (.aug n e)) := by
  obtain ⟨h3, h4⟩ := as y h2
  refine PSimp (ps_aug (i := n) (by rw [g.hN]; exact g.nd) (by rw [g.hN]; exact h1) (by rw [g.hsc]; exact h3) he ip_add (by rw [g.hsc]; exact h4)) ?_
  rintro D σ H ⟨ρ, st, i, S, h⟩
  obtain ⟨v, e1, h⟩ := getv_iff.mp h
  obtain ⟨a, h5, r5⟩ := S.env.at_ n v e1
  refine ⟨a, h5, rd1 hΦ S h fun u su j G b e1x S1 r1 q => ?_⟩
  cases v <;> try exact q.elim
  cases u <;> try exact q.elim
  have rr := of_int (Rep.ext e1x r5)
  exact ⟨_, _, rr, of_int r1, nx_set e1x S1 rep_int q⟩
omit hΦ in
theorem onL_rep {i : Io} {st : Store} {H : Hp} {u : Val} {a : V} {K : Nat → List Val → Prop} (S : StRel M i st H) (r : Rep M i st H u a) (h : onL st u K) : ∃ n vs xs, a = .ref (i.at_ n) ∧ st.get n = some (.lst vs false) ∧ H (i.at_ n) = some (.lst xs) ∧ RepL M i st H vs xs ∧ K n vs := by
  unfold onL at h
  split at h
  · rename_i n
    split at h
    · rename_i vs hg
      obtain ⟨xs, h5, l5⟩ := S.cell _ _ hg
      exact ⟨n, vs, xs, (of_cell r).1, hg, h5, l5, h⟩
    · exact h.elim
  · exact h.elim
theorem st_append {o e : E} {x y : Expr} {apos cpos pos} (ho : PE X x (rdE M Φ o)) (he : PE X y (rdE M Φ e)) (hb : nsup x = true) (hs : nst y = true) (hline : (apos.endLine == cpos.line) = true) : PS X (.Expr (.Call (.Attribute x "append" apos) [y] [] cpos) pos) (rdS M Φ (.append o e)) := by
  refine PSimp (ps_expr (pe_bm PySem.F.plainAttrs_list PySem.F.slot_list_append PySem.F.type_list_append mt_append ho (pa_cons he pa_nil (star_cons hs)) (base_of hb _) (by rw [star_cons hs]; rfl) hline (star_cons hs) rfl) (swap_of rfl)) ?_
  rintro D σ H ⟨ρ, st, i, S, h⟩
  refine rd1 hΦ S h fun u s1 j G a e1 S1 r1 q => ?_
  obtain ⟨n, vs, xs, ea, hg, h5, l5, q⟩ := onL_rep S1.str r1 q
  refine ⟨by rw [ea]; exact .inl ⟨rfl, xs, SqL.of h5⟩, rd1 hΦ S1 q fun v su j2 G2 b e2 S2 r2 q => ?_⟩
  obtain ⟨n, vs, xs, ea, hg, h5, l5, hz, q⟩ := onL_rep S2.str (Rep.ext e2 r1) q
  have hz' : vs.length < 16777216 := hz
  refine ⟨_, xs, b, ea, rfl, h5, by rw [← l5.length, sizeLine_eq]; exact hz', ?_⟩
  have ep := Ext.put (o := .lst (xs ++ [b])) (d := .lst (vs ++ [v]) false) S2.str hg
  exact q j2 _ σ ((e1.trans e2).trans ep) (S2.ext ep (S2.str.put hg ⟨_, upd_same, (l5.append (RepL.cons r2 RepL.nil)).ext ep⟩))
theorem st_extend {o e : E} {x y : Expr} {apos cpos pos} (ho : PE X x (rdE M Φ o)) (he : PE X y (rdE M Φ e)) (hb : nsup x = true) (hs : nst y = true) (hline : (apos.endLine == cpos.line) = true) : PS X (.Expr (.Call (.Attribute x "extend" apos) [y] [] cpos) pos) (rdS M Φ (.extend o e)) := by
  refine PSimp (ps_expr (pe_bm PySem.F.plainAttrs_list PySem.F.slot_list_extend PySem.F.type_list_extend mt_extend ho (pa_cons he pa_nil (star_cons hs)) (base_of hb _) (by rw [star_cons hs]; rfl) hline (star_cons hs) rfl) (swap_of rfl)) ?_
  rintro D σ H ⟨ρ, st, i, S, h⟩
  refine rd1 hΦ S h fun u s1 j G a e1 S1 r1 q => ?_
  obtain ⟨n, vs, xs, ea, hg, h5, l5, q⟩ := onL_rep S1.str r1 q
  refine ⟨by rw [ea]; exact .inl ⟨rfl, xs, SqL.of h5⟩, rd1 hΦ S1 q fun v su j2 G2 b e2 S2 r2 q => ?_⟩
  obtain ⟨n, vs, xs, ea, hg, h5, l5, q⟩ := onL_rep S2.str (Rep.ext e2 r1) q
  obtain ⟨ws, rfl, hz, q⟩ : ∃ ws, v = .lst ws ∧ vs.length + ws.length ≤ big ∧ (EndsOf M i st H D).nx ρ (su.set n (.lst (vs ++ ws) false)) := by
    cases v <;> first | exact ⟨_, rfl, q⟩ | exact q.elim
  obtain ⟨p, zs, eb, h6, n6, l6⟩ := of_lst r2
  have hz' : vs.length + ws.length ≤ 16777216 := hz
  refine ⟨_, p, xs, zs, ea, by rw [eb], h5, h6, by rw [← l5.length, ← l6.length, sizeLine_eq]; exact hz', ?_⟩
  have ep := Ext.put (o := .lst (xs ++ zs)) (d := .lst (vs ++ ws) false) S2.str hg
  exact q j2 _ σ ((e1.trans e2).trans ep) (S2.ext ep (S2.str.put hg ⟨_, upd_same, (l5.append l6).ext ep⟩))
include F g
theorem putF_rep {i : Io} {st : Store} {H : Hp} {f : Nat} {v : Val} {a : V} : ∀ {fs : List (Nat × Val)} {gs : List (Str × V)}, RepF M i st H fs gs → Rep M i st H v a → RepF M i st H (VM.putF f v fs) (L2.putF (M.nm.fld f) a gs)
  | [], gs, r, ra => by
    simp only [RepF] at r
    subst r
    simp only [VM.putF, L2.putF, RepF]
    exact ⟨a, [], rfl, ra, rfl⟩
  | (d, u) :: fs, gs, r, ra => by
    simp only [RepF] at r
    obtain ⟨b, t, rfl, h1, h2⟩ := r
    by_cases z : d = f
    · subst z
      have e1 : L2.putF (M.nm.fld d) a ((M.nm.fld d, b) :: t) = (M.nm.fld d, a) :: t := by
        show (if M.nm.fld d = M.nm.fld d then _ else _) = _
        rw [if_pos rfl]
      rw [e1]
      simp only [VM.putF, if_pos, RepF]
      exact ⟨a, t, rfl, ra, h2⟩
    · have e1 : L2.putF (M.nm.fld f) a ((M.nm.fld d, b) :: t) = (M.nm.fld d, b) :: L2.putF (M.nm.fld f) a t := by
        show (if M.nm.fld d = M.nm.fld f then _ else _) = _
        rw [if_neg fun q => z (F.fi _ _ q)]
      rw [e1]
      simp only [VM.putF, if_neg z, RepF]
      exact ⟨b, _, rfl, h1, putF_rep h2 ra⟩
omit hΦ F g in
theorem RepF.length {i : Io} {st : Store} {H : Hp} : ∀ {fs : List (Nat × Val)} {gs : List (Str × V)}, RepF M i st H fs gs → fs.length = gs.length
  | [], gs, h => by simp only [RepF] at h; rw [h]; rfl
  | (f, v) :: vs, xs, h => by
    simp only [RepF] at h
    obtain ⟨a, r, rfl, _, h2⟩ := h
    simp only [List.length_cons, RepF.length h2]
theorem st_fld {n c f : Nat} {e : E} {x : Expr} {y : Str} {py tpos pos} (hf : M.nm.nof c f = true) (hy : PE X (.Name y py) (tVar n)) (he : PE X x (rdE M Φ e)) (hs : ncmp x = true) : PS X (.Assign [.Attribute (.Name y py) (M.nm.fld f) tpos] x pos) (rdS M Φ (.fld n c f e)) := by
  obtain ⟨h2, h3⟩ := F.no c f hf
  refine PSimp (ps_fld hy he (swap_of hs)) ?_
  rintro D σ H ⟨ρ, st, i, S, h⟩
  refine rd1 hΦ S h fun v su j G a e1 S1 r1 q => ?_
  obtain ⟨o, e2, q⟩ := getv_iff.mp q
  obtain ⟨b, h5, r5⟩ := S1.env.at_ n o e2
  refine ⟨b, h5, ?_⟩
  split at q
  · rename_i m
    split at q
    · rename_i d fs hg
      obtain ⟨ed, hz, q⟩ := q
      subst ed
      obtain ⟨dx, gs, h6, l6⟩ := S1.str.cell _ _ hg
      rw [g.hK]
      refine ⟨_, M.cls d, dx, gs, (of_cell r5).1, h6, h2, h3, by rw [← l6.length]; omega, ?_⟩
      have ep := Ext.put (o := .ins (M.cls d) dx (L2.putF (M.nm.fld f) a gs)) (d := .ins d (VM.putF f v fs)) S1.str hg
      exact q j _ σ (e1.trans ep) (S1.ext ep (S1.str.put hg ⟨dx, _, upd_same, RepF.ext ep (putF_rep hΦ F g l6 r1)⟩))
    · exact q.elim
  · exact q.elim
/-! ### loops -/
omit F in
theorem st_for {s : Src} {t : Tgt} {b : SL} {x tg : Expr} {xs : List Stmt} {pos} (hi : PI X tg x (rdI M Φ s)) (hg : PG X tg (rdG M t)) (hb : PSs X xs (rdB M Φ b)) (hs : nset x = true) : PS X (.For tg x xs [] pos) (rdS M Φ (.for_ s t b)) := by
  refine PSimp (ps_for g.xe g.calm hi hg hb (fold_of hs)) ?_
  rintro D σ H ⟨ρ, st, i, S, h⟩
  refine ⟨ρ, st, i, S, wpSrc_mono hΦ h fun vs su q j G J e0 T0 wk hz => ?_⟩
  let Wn : Nat → List Val → L2.St → Hp → Prop := fun n rest σ1 F1 => ∃ ρ1 sv kk, vs.drop n = rest ∧ n ≤ vs.length ∧ Ext j su G kk sv F1 ∧ Sim M kk ρ1 sv σ1 F1 ∧ wpFor t (fun ρ1 s2 D1 => wpSL Φ noX b ρ1 s2 D1) (EndsOf M i st H D) rest ρ1 sv
  refine ⟨fun n m σ1 F1 => ∃ rest, m = rest.length ∧ Wn n rest σ1 F1, ⟨vs.length, vs, rfl, ρ, su, j, rfl, Nat.zero_le _, Ext.refl .., S.ext e0 T0, q⟩, ?_⟩
  rintro n m σ1 F1 ⟨rest, rfl, ρ1, sv, kk, hd, hn, eb, S1, q⟩
  cases rest with
  | nil =>
    have hn' : n = vs.length := by
      have := congrArg List.length hd
      rw [List.length_drop] at this
      simp at this
      omega
    exact .inl ⟨(wk n kk sv F1 eb S1.str).2 hn', q kk F1 σ1 (e0.trans eb) S1⟩
  | cons v r =>
    have hv : vs[n]? = some v := by
      have := congrArg (fun l => l[0]?) hd
      simpa [List.getElem?_drop] using this
    have hlt : n < vs.length := (List.getElem?_eq_some_iff.mp hv).1
    have hd2 : vs.drop (n + 1) = r := by
      have := congrArg List.tail hd
      simpa [List.tail_drop] using this
    obtain ⟨go, yl⟩ := (wk n kk sv F1 eb S1.str).1 v hv
    refine .inr ⟨go, Wn (n + 1) r, fun σ' F' w => ⟨r.length, Nat.lt_succ_self _, r, rfl, w⟩, fun x F2 hy => ?_⟩
    obtain ⟨e1, T1, rx⟩ := yl x F2 hy
    have S2 := S1.ext e1 T1
    have eb1 := eb.trans e1
    refine ⟨ρ1, sv, kk, v, S2, rx, wpTgt_mono q fun ρ2 q σ2 s2 _ => ⟨ρ2, sv, kk, ⟨s2, T1⟩, wpSL_mono hΦ q ⟨?_, ?_, ?_, ?_⟩⟩⟩
    · exact fun ρ3 s3 q k3 F3 σ3 e3 S3 => ⟨ρ3, s3, k3, hd2, hlt, eb1.trans e3, S3, q⟩
    · exact fun v s3 q => q.ext (e0.trans eb1)
    · exact fun ρ3 s3 q k3 F3 σ3 e3 S3 => q k3 F3 σ3 ((e0.trans eb1).trans e3) S3
    · exact fun ρ3 s3 q k3 F3 σ3 e3 S3 => ⟨ρ3, s3, k3, hd2, hlt, eb1.trans e3, S3, q⟩
omit F in
theorem st_while {c : E} {b : SL} {x : Expr} {xs : List Stmt} {pos} (hc : PT X x (rdT M Φ c)) (hb : PSs X xs (rdB M Φ b)) : PS X (.While x xs [] pos) (rdS M Φ (.while_ c b)) := by
  refine PSimp (ps_while g.xe hc hb) ?_
  rintro D σ H ⟨ρ, st, i, S, m0, h⟩
  let W : Nat → L2.St → Hp → Prop := fun m σ1 F1 => ∃ ρ1 sv kk, Ext i st H kk sv F1 ∧ Sim M kk ρ1 sv σ1 F1 ∧ wpWhile (fun ρ1 st1 k => wpE Φ noX c ρ1 st1 fun v st2 => truth st2 v fun d => k d st2) (fun ρ1 st2 D1 => wpSL Φ noX b ρ1 st2 D1) (EndsOf M i st H D) m ρ1 sv
  refine ⟨W, ⟨m0, ρ, st, i, Ext.refl .., S, h⟩, ?_⟩
  rintro m σ1 F1 ⟨ρ1, sv, kk, eb, S1, q⟩
  cases m with
  | zero => exact q.elim
  | succ m =>
    refine rdt hΦ S1 q fun d su j G e1 S2 q => ?_
    have eb1 := eb.trans e1
    cases d with
    | false => exact q j G σ1 eb1 S2
    | true =>
      refine ⟨W m, fun σ' F' w => ⟨m, Nat.lt_succ_self _, w⟩, ρ1, su, j, S2, wpSL_mono hΦ q ⟨?_, ?_, ?_, ?_⟩⟩
      · exact fun ρ3 s3 q k3 F3 σ3 e3 S3 => ⟨ρ3, s3, k3, eb1.trans e3, S3, q⟩
      · exact fun v s3 q => q.ext eb1
      · exact fun ρ3 s3 q k3 F3 σ3 e3 S3 => q k3 F3 σ3 (eb1.trans e3) S3
      · exact fun ρ3 s3 q k3 F3 σ3 e3 S3 => ⟨ρ3, s3, k3, eb1.trans e3, S3, q⟩
end
end VM

namespace VM
open PySem PySem.Spec PyProof.Rows L2
/-! ### the text is the small machine's text -/
def vis (sc : Scope) (x : Str) : Bool := (match sc.names.lookup x with
  | some .local => true
  | some .cell => true
  | some .free => true
  | _ => false) && !(x == ("__debug__" : Str)) && !(x == ("__classdict__" : Str))
def loc (so : Scope) (x : Str) : Bool := match so.names.lookup x with
  | some .local => true
  | some .cell => true
  | _ => false
def glo (sc : Scope) (x : Str) : Bool := match sc.names.lookup x with
  | some .globalImplicit => true
  | _ => false
def EL.len : EL → Nat
  | .nil => 0
  | .cons _ r => r.len + 1
def chkCon : Val → Const → Bool
  | .non, .none => true
  | .bool b, .bool c => b == c
  | .int b, .int c => decide (b = c)
  | .str b, .str c => decide (b = c)
  | _, _ => false
def ordC : COp → Bool
  | .lt => true | .le => true | .gt => true | .ge => true
  | _ => false
def opEq (op : BOp) (o : Operator) : Bool := decide (opOf op = o)
def copEq (op : COp) (o : CmpOp) : Bool := decide (copOf op = o)
def chkT (N : List Str) (so : Scope) : Tgt → Expr → Bool
  | .name n, x => (match x with
    | .Name y _ => decide (N[n]? = some y) && loc so y
    | _ => false)
  | .nil, x => (match x with
    | .Tuple [] _ _ => true
    | _ => false)
  | .cons t r, x => (match x with
    | .Tuple (y :: ys) k p => nst y && (chkT N so t y && chkT N so r (.Tuple ys k p))
    | _ => false)
section
variable (nm : Nm) (N : List Str)
mutual
def chkE : E → Scope → Expr → Bool
  | .var n, sc, x => (match x with
    | .Name y _ => decide (N[n]? = some y) && vis sc y
    | _ => false)
  | .con v, sc, x => (match x with
    | .Constant c _ _ => chkCon v c
    | _ => false)
  | .glb n v, sc, x => (match x with
    | .Name y _ => decide (y = nm.gname n) && glo sc y && (match v with
      | .int b => decide (nm.gval n = some b)
      | _ => false)
    | _ => false)
  | .tup es, sc, x => (match x with
    | .Tuple xs _ _ => decide (es.len ≤ 1000) && chkEL es sc xs
    | _ => false)
  | .lst es, sc, x => (match x with
    | .List xs _ => decide (es.len ≤ 1000) && chkEL es sc xs
    | _ => false)
  | .nlst es, sc, x => (match x with
    | .List xs _ => decide (es.len ≤ 1000) && chkEL es sc xs
    | _ => false)
  | .lstar es, sc, x => (match x with
    | .List xs _ => chkStar es sc xs
    | _ => false)
  | .and a b, sc, x => (match x with
    | .BoolOp .And [y, z] _ => chkE a sc y && chkE b sc z
    | .BoolOp .And (y :: z :: w :: ws) p => chkE a sc y && chkE b sc (.BoolOp .And (z :: w :: ws) p)
    | _ => false)
  | .or a b, sc, x => (match x with
    | .BoolOp .Or [y, z] _ => chkE a sc y && chkE b sc z
    | .BoolOp .Or (y :: z :: w :: ws) p => chkE a sc y && chkE b sc (.BoolOp .Or (z :: w :: ws) p)
    | _ => false)
  | .not a, sc, x => (match x with
    | .UnaryOp .Not y _ => chkE a sc y
    | _ => false)
  | .neg a, sc, x => (match x with
    | .UnaryOp .USub y _ => chkE a sc y
    | _ => false)
  | .bin op a b, sc, x => (match x with
    | .BinOp y o z _ => opEq op o && (chkE a sc y && chkE b sc z)
    | _ => false)
  | .cmp op a b, sc, x => (match x with
    | .Compare y [o] [z] _ => copEq op o && nset z && (chkE a sc y && chkE b sc z)
    | _ => false)
  | .chain p q a b c, sc, x => (match x with
    | .Compare y [o, r] [z, w] _ => copEq p o && copEq q r && nset w && (chkE a sc y && (chkE b sc z && chkE c sc w))
    | _ => false)
  | .ite c a b, sc, x => (match x with
    | .IfExp y z w _ => chkE c sc y && (chkE a sc z && chkE b sc w)
    | _ => false)
  | .sub a b, sc, x => (match x with
    | .Subscript y z _ => nslc z && (chkE a sc y && chkE b sc z)
    | _ => false)
  | .slice a lo hi, sc, x => (match x with
    | .Subscript y (.Slice l u none _) _ => chkE a sc y && (chkEO lo sc l && chkEO hi sc u)
    | _ => false)
  | .prop c f a, sc, x => (match x with
    | .Attribute y m _ => decide (m = nm.fname f) && nm.prp c f && decide (nm.arity f = 1) && nsup y && chkE a sc y
    | _ => false)
  | .fld c f a, sc, x => (match x with
    | .Attribute y m _ => decide (m = nm.fld f) && nm.nof c f && nsup y && chkE a sc y
    | _ => false)
  | .call f es, sc, x => (match x with
    | .Call (.Name y _) xs [] _ => decide (y = nm.fname f) && nm.glob f && glo sc y && decide (es.len = nm.arity f) && chkEL es sc xs
    | _ => false)
  | .make c f es, sc, x => (match x with
    | .Call (.Name y _) xs [] _ => decide (y = nm.cname c) && nm.mak c f && glo sc y && decide (es.len + 1 = nm.arity f) && chkEL es sc xs
    | _ => false)
  | .makeK c f es e, sc, x => (match x with
    | .Call (.Name y _) xs [⟨some n, z, _⟩] _ => decide (y = nm.cname c) && nm.makK c f && glo sc y && decide (es.len + 2 = nm.arity f) && decide (n = nm.kwn f) && decide (0 < es.len) && (chkEL es sc xs && chkE e sc z)
    | _ => false)
  | .meth c f a es, sc, x => (match x with
    | .Call (.Attribute y m ap) xs [] cp => decide (m = nm.fname f) && nm.met c f && decide (es.len + 1 = nm.arity f) && nsup y && (ap.endLine == cp.line) && decide (es.len < 25) && (chkE a sc y && chkEL es sc xs)
    | _ => false)
  | .bi1 b a, sc, x => (match x with
    | .Call (.Name y _) [z] [] _ => decide (y = b1Name b) && b1Ok b && glo sc y && nst z && chkE a sc z
    | _ => false)
  | .bi2 b a c, sc, x => (match x with
    | .Call (.Name y _) [z, w] [] _ => decide (y = b2Name b) && (match b with
      | .max => true
      | .min => true
      | _ => false) && glo sc y && nst z && nst w && (chkE a sc z && chkE c sc w)
    | _ => false)
  | .isin t a, sc, x => (match x with
    | .Call (.Name y _) [z, w] [] _ => decide (y = ("isinstance" : Str)) && glo sc y && nst z && (match t, w with
      | .tint, .Name n _ => decide (n = ("int" : Str)) && glo sc n
      | .tbool, .Name n _ => decide (n = ("bool" : Str)) && glo sc n
      | .tstr, .Name n _ => decide (n = ("str" : Str)) && glo sc n
      | .ttup, .Name n _ => decide (n = ("tuple" : Str)) && glo sc n
      | .tseq, .Tuple [.Name n _, .Name m _] _ _ => decide (n = ("list" : Str)) && decide (m = ("tuple" : Str)) && glo sc n && glo sc m
      | _, _ => false) && chkE a sc z
    | _ => false)
  | .comp own s t c e, sc, x => (match x with
    | .ListComp elt [⟨tg, iter, ifs, 0⟩] scope _ => blkC N sc scope (own.map fun n => (N.getD n "", n)) && (tslots t).all (fun n => own.contains n) && nst tg && nset iter && chkT N scope t tg && chkSrc s sc tg iter && chkC c (relS scope sc) ifs && chkE e (relS scope sc) elt
    | _ => false)
  | .frz a, sc, x => (match x with
    | .Name _ _ => chkE a sc x
    | _ => false)
  | .pop a, sc, x => (match x with
    | .Call (.Attribute y m ap) [] [] cp => decide (m = ("pop" : Str)) && nsup y && (ap.endLine == cp.line) && chkE a sc y
    | _ => false)
def chkEL : EL → Scope → List Expr → Bool
  | .nil, sc, xs => xs.isEmpty
  | .cons e r, sc, xs => (match xs with
    | y :: ys => nst y && chkE e sc y && chkEL r sc ys
    | _ => false)
def chkStar : EL → Scope → List Expr → Bool
  | .nil, sc, xs => xs.isEmpty
  | .cons e r, sc, xs => (match xs with
    | .Starred y _ :: ys => chkE e sc y && chkStar r sc ys
    | _ => false)
def chkEO : EO → Scope → Option Expr → Bool
  | .no, sc, x => x.isNone
  | .yes e, sc, x => (match x with
    | some y => chkE e sc y
    | _ => false)
def chkC : EO → Scope → List Expr → Bool
  | .no, sc, xs => xs.isEmpty
  | .yes e, sc, xs => (match xs with
    | [y] => chkE e sc y
    | _ => false)
def chkSrc : Src → Scope → Expr → Expr → Bool
  | .seq e, sc, tg, x => chkE e sc x
  | .rng1 e, sc, tg, x => (match x with
    | .Call (.Name y _) [z] [] _ => decide (y = ("range" : Str)) && glo sc y && nst z && chkE e sc z
    | _ => false)
  | .rng2 a b, sc, tg, x => (match x with
    | .Call (.Name y _) [z, w] [] _ => decide (y = ("range" : Str)) && glo sc y && nst z && nst w && (chkE a sc z && chkE b sc w)
    | _ => false)
  | .enum e, sc, tg, x => (match x with
    | .Call (.Name y _) [z] [] _ => decide (y = ("enumerate" : Str)) && glo sc y && nst z && !ntup tg && chkE e sc z
    | _ => false)
end
end
section
variable {M : Md} {k : Nat} {N : List Str} {Φ : FnSem} (hΦ : MonoF Φ) (F : Facts M k Φ)
theorem ba3 {a b : Bool} (h : (a && b) = true) : a = true ∧ b = true := Bool.and_eq_true_iff.mp h
theorem glo_of {sc : Scope} {x : Str} (h : glo sc x = true) : sc.names.lookup x = some .globalImplicit := by
  unfold glo at h
  split at h
  · assumption
  · cases h
theorem loc_of {sc : Scope} {x : Str} (h : loc sc x = true) : L2.Loc sc x := by
  unfold loc at h
  split at h
  · exact .inl (by assumption)
  · exact .inr (by assumption)
  · cases h
theorem vis_of {sc : Scope} {x : Str} (h : vis sc x = true) : Vis sc x ∧ (x == ("__debug__" : Str)) = false ∧ (x == ("__classdict__" : Str)) = false := by
  unfold vis at h
  obtain ⟨h, h3⟩ := ba3 h
  obtain ⟨h1, h2⟩ := ba3 h
  refine ⟨?_, by simpa using h2, by simpa using h3⟩
  split at h1
  · exact .inl (by assumption)
  · exact .inr (.inl (by assumption))
  · exact .inr (.inr (by assumption))
  · cases h1
include hΦ
theorem wpEL_len : ∀ {es : EL} {ρ : Env} {st : Store} {R : List Val → Store → Prop}, wpEL Φ noX es ρ st R → wpEL Φ noX es ρ st fun vs s1 => vs.length = es.len ∧ R vs s1
  | .nil, ρ, st, R, h => ⟨rfl, h⟩
  | .cons e r, ρ, st, R, h => by
    simp only [wpEL] at h ⊢
    refine wpE_mono hΦ h fun v s1 h => wpEL_mono hΦ (wpEL_len h) fun vs s2 h => ⟨by rw [List.length_cons, h.1]; rfl, h.2⟩
omit hΦ in
theorem chkEL_nst {nm : Nm} {N : List Str} : ∀ {es : EL} {sc : Scope} {xs : List Expr}, chkEL nm N es sc xs = true → xs.all nst = true ∧ xs.length = es.len
  | .nil, sc, xs, h => by
    simp only [chkEL, List.isEmpty_iff] at h
    subst h
    exact ⟨rfl, rfl⟩
  | .cons e r, sc, xs, h => by
    simp only [chkEL] at h
    split at h
    · obtain ⟨h1, h2⟩ := ba3 h
      obtain ⟨h0, h1⟩ := ba3 h1
      obtain ⟨h3, h4⟩ := chkEL_nst h2
      exact ⟨by rw [List.all_cons, h0, h3]; rfl, by rw [List.length_cons, h4]; rfl⟩
    · cases h
omit hΦ in
theorem wpTgt_tup : ∀ {t : Tgt} {v : Val} {ρ : Env} {R : Env → Prop}, (∀ n, t ≠ .name n) → wpTgt t v ρ R → ∃ us, v = .tup us
  | .name n, v, ρ, R, h, _ => absurd rfl (h n)
  | .nil, v, ρ, R, _, h => by cases v <;> first | exact ⟨_, rfl⟩ | exact h.elim
  | .cons t r, v, ρ, R, _, h => by cases v <;> first | exact ⟨_, rfl⟩ | exact h.elim
omit hΦ in
theorem chkT_len : ∀ {t : Tgt} {us : List Val} {ρ : Env} {R : Env → Prop} {N : List Str} {so : Scope} {xs : List Expr} {kk : Nat} {p : Pos}, chkT N so t (.Tuple xs kk p) = true → wpTgt t (.tup us) ρ R → us.length = xs.length
  | .name n, us, ρ, R, N, so, xs, kk, p, h, _ => by simp [chkT] at h
  | .nil, us, ρ, R, N, so, xs, kk, p, h, q => by
    cases xs with
    | nil => exact congrArg List.length q.1
    | cons _ _ => simp [chkT] at h
  | .cons t r, us, ρ, R, N, so, xs, kk, p, h, q => by
    cases xs with
    | nil => simp [chkT] at h
    | cons y ys =>
      simp only [chkT] at h
      obtain ⟨_, h⟩ := ba3 h
      obtain ⟨_, h⟩ := ba3 h
      cases us with
      | nil => exact q.elim
      | cons u us =>
        have : ∃ ρ1, wpTgt r (.tup us) ρ1 R := by
          have aux : ∀ {t : Tgt} {v : Val} {ρ : Env} {K : Env → Prop}, wpTgt t v ρ K → ∃ ρ1, K ρ1 := by
            intro t
            induction t with
            | name n => intro v ρ K h; exact ⟨_, h.2⟩
            | nil => intro v ρ K h; cases v <;> first | exact ⟨_, h.2⟩ | exact h.elim
            | cons a b iha ihb =>
              intro v ρ K h
              cases v <;> try exact h.elim
              rename_i l
              cases l with
              | nil => exact h.elim
              | cons x xs =>
                obtain ⟨ρ1, h⟩ := iha h
                exact ihb h
          exact aux q
        obtain ⟨ρ1, q⟩ := this
        rw [List.length_cons, List.length_cons, chkT_len h q]
omit hΦ in
theorem chkT_ok {sc so : Scope} {X : Cx} (g : Gd M k N sc X) (as : Asg so sc X) : ∀ {t : Tgt} {x : Expr}, chkT N so t x = true → PG X x (rdG M t) ∧ ∀ xs kk p, x = .Tuple xs kk p → PGs X xs (rdGs M t) ∧ xs.all nst = true
  | .name n, x, h => by
    simp only [chkT] at h
    split at h
    · obtain ⟨h1, h2⟩ := ba3 h
      exact ⟨snd_tname g as (of_decide_eq_true h1) (loc_of h2), fun _ _ _ e => by cases e⟩
    · cases h
  | .nil, x, h => by
    have h0 := h
    simp only [chkT] at h
    split at h
    · refine ⟨snd_ttup g snd_tnil rfl (fun us ρ R q => by exact congrArg List.length q.1) (fun v ρ R q => wpTgt_tup (fun n e => by cases e) q), fun xs kk p e => ?_⟩
      cases e
      exact ⟨snd_tnil, rfl⟩
    · cases h
  | .cons t r, x, h => by
    have h0 := h
    simp only [chkT] at h
    split at h
    · obtain ⟨h1, h⟩ := ba3 h
      obtain ⟨h2, h3⟩ := ba3 h
      obtain ⟨i1, _⟩ := chkT_ok g as h2
      obtain ⟨_, i2⟩ := chkT_ok g as h3
      obtain ⟨i2, i3⟩ := i2 _ _ _ rfl
      have pg := snd_tcons i1 i2 h1
      refine ⟨snd_ttup g pg (by rw [List.all_cons, h1, i3]; rfl) (fun us ρ R q => chkT_len h0 q) (fun v ρ R q => wpTgt_tup (fun n e => by cases e) q), fun xs kk p e => ?_⟩
      cases e
      exact ⟨pg, by rw [List.all_cons, h1, i3]; rfl⟩
    · cases h
end
end VM

namespace VM
open PySem PySem.Spec PyProof.Rows L2
def rdStar (M : Md) (Φ : FnSem) (es : EL) : TA := fun σ H Q => ∃ ρ st i, Sim M i ρ st σ H ∧ wpStar Φ noX es ρ st (AftL M i st H Q)
def Good (M : Md) (Φ : FnSem) (X : Cx) (e : E) (x : Expr) : Prop := PE X x (rdE M Φ e) ∧ PT X x (rdT M Φ e) ∧ ((∃ op ys p, x = .BoolOp op ys p) → PW X x (rdT M Φ e))
section
variable {M : Md} {k : Nat} {N : List Str} {sc : Scope} {X : Cx} {Φ : FnSem} (hΦ : MonoF Φ) (F : Facts M k Φ) (g : Gd M k N sc X)
include hΦ
theorem tst_ite {c a b : E} {x y z : Expr} {pos : Pos} (hc : PT X x (rdT M Φ c)) (ha : PT X y (rdT M Φ a)) (hb : PT X z (rdT M Φ b)) : PT X (.IfExp x y z pos) (rdT M Φ (.ite c a b)) := by
  refine ⟨fun pins s σ H Q I h => ?_⟩
  obtain ⟨ρ, st, i, S, h⟩ := h
  rw [arm_isTrue_IfExp]
  have hh := hc.run pins s σ H (fun d H1 => if d = true then rdT M Φ a σ H1 Q else rdT M Φ b σ H1 Q) I (rdt hΦ S (R := fun d su => if d = true then wpE Φ noX a ρ su (fun v su => truth su v fun b => AftB M i st H Q b su) else wpE Φ noX b ρ su (fun v su => truth su v fun b => AftB M i st H Q b su)) h fun d su j G e1 S1 q => ?_)
  · refine wpAny_bind (wpAny_mono hh (fun d s₁ h₁ => ?_) fun _ _ x => x)
    obtain ⟨H1, I1, q1⟩ := h₁
    cases d with
    | true => exact ha.run pins s₁ σ H1 Q I1 q1
    | false => exact hb.run pins s₁ σ H1 Q I1 q1
  · cases d
    · exact ⟨ρ, su, j, S1, wpE_mono hΦ q fun v s q => truth_mono q fun b q => q.ext e1⟩
    · exact ⟨ρ, su, j, S1, wpE_mono hΦ q fun v s q => truth_mono q fun b q => q.ext e1⟩
omit hΦ in
theorem snd_snil : PA X [] (rdStar M Φ .nil) := by
  refine PAimp pa_nil ?_
  rintro σ H Q ⟨ρ, st, i, S, h⟩
  exact h i H [] (Ext.refl ..) S.str RepL.nil
theorem snd_scons {e : E} {r : EL} {x : Expr} {xs : List Expr} {p : Pos} (h1 : PE X x (rdE M Φ e)) (h2 : PA X xs (rdStar M Φ r)) : PA X (.Starred x p :: xs) (rdStar M Φ (.cons e r)) := by
  refine PAimp (StX.pa_star h1 h2) ?_
  rintro σ H Q ⟨ρ, st, i, S, h⟩
  refine rd1 hΦ S h fun v su j G a e1 S1 r1 q => ?_
  obtain ⟨vs, e2, q⟩ := onO_iff.mp q
  obtain ⟨p, xs, rfl, h3, l3⟩ := seq_rep S1.str r1 e2
  refine ⟨p, xs, rfl, ?_, ρ, su, j, S1, wpStar_mono hΦ q fun us s2 q j2 G2 ys e4 S2 r2 => q j2 G2 _ (e1.trans e4) S2 ((l3.ext e4).append r2)⟩
  rcases h3 with h3 | h3
  · exact .inr (SqL.of h3)
  · exact .inl (SqT.of h3.1)
theorem snd_lstar {es : EL} {xs : List Expr} {pos : Pos} (h : PA X xs (rdStar M Φ es)) : PE X (.List xs pos) (rdE M Φ (.lstar es)) := by
  refine PEimp (pe_lst h) ?_
  rintro σ H Q ⟨ρ, st, i, S, h⟩
  refine ⟨ρ, st, i, S, wpStar_mono hΦ h fun vs s2 q j2 G2 as e2 S2 r2 => ⟨?_, fun p hp => ((q.2).ext e2).nw S2 hp (rep_newL S2 hp r2)⟩⟩
  rw [← r2.length, sizeLine_eq]
  exact q.1
include F g
omit F in
/-- from the expression alone -/
theorem good_of {e : E} {x : Expr} (h : PE X x (rdE M Φ e)) (hb : ∀ op ys p, x ≠ .BoolOp op ys p) (he : ∀ whole, isTrue x X.env whole = (do let v ← whole; standAt x.pos; holding [v] (truthy v)) := by intro _; rfl) : Good M Φ X e x :=
  ⟨h, sndT hΦ g h he, fun ⟨op, ys, p, q⟩ => absurd q (hb op ys p)⟩
end
theorem isTy_int (v : Val) : isTy .tint v = (tyN v).map fun n => ("int" : String) == tyS n || (n == 1 && ("int" : String) == "int") := by
  cases v <;> first | rfl | decide
theorem isTy_bool (v : Val) : isTy .tbool v = (tyN v).map fun n => ("bool" : String) == tyS n || (n == 1 && ("bool" : String) == "int") := by
  cases v <;> first | rfl | decide
theorem isTy_str (v : Val) : isTy .tstr v = (tyN v).map fun n => ("str" : String) == tyS n || (n == 1 && ("str" : String) == "int") := by
  cases v <;> first | rfl | decide
theorem isTy_tup (v : Val) : isTy .ttup v = (tyN v).map fun n => ("tuple" : String) == tyS n || (n == 1 && ("tuple" : String) == "int") := by
  cases v <;> first | rfl | decide
theorem chk_has {M : Md} {k : Nat} {Φ : FnSem} (F : Facts M k Φ) {f : Nat} (h : M.nm.has f = true) {n : Nat} (e : n = M.nm.arity f) : n = (M.fps f).length := by rw [F.ar f h, e]
theorem len_le {Φ : FnSem} (hΦ : MonoF Φ) {es : EL} {n : Nat} (h : decide (es.len ≤ n) = true) (ρ : Env) (st : Store) (R : List Val → Store → Prop) (q : wpEL Φ noX es ρ st R) : wpEL Φ noX es ρ st fun vs s1 => vs.length ≤ n ∧ R vs s1 :=
  wpEL_mono hΦ (wpEL_len hΦ q) fun vs s q => ⟨by rw [q.1]; exact of_decide_eq_true h, q.2⟩
theorem len_eq {Φ : FnSem} (hΦ : MonoF Φ) {es : EL} {n : Nat} (h : es.len = n) (ρ : Env) (st : Store) (R : List Val → Store → Prop) (q : wpEL Φ noX es ρ st R) : wpEL Φ noX es ρ st fun vs s1 => vs.length = n ∧ R vs s1 :=
  wpEL_mono hΦ (wpEL_len hΦ q) fun vs s q => ⟨by rw [q.1]; exact h, q.2⟩
theorem len_eq1 {Φ : FnSem} (hΦ : MonoF Φ) {es : EL} {n : Nat} (h : es.len + 1 = n) (ρ : Env) (st : Store) (R : List Val → Store → Prop) (q : wpEL Φ noX es ρ st R) : wpEL Φ noX es ρ st fun vs s1 => vs.length + 1 = n ∧ R vs s1 :=
  wpEL_mono hΦ (wpEL_len hΦ q) fun vs s q => ⟨by rw [q.1]; exact h, q.2⟩
theorem few_of {pos : Pos} {xs : List Expr} {env : PySem.Env} (h : xs.all nst = true) (hl : xs.length < 25) : methodCallForm (xs.length + ([] : List Keyword).length) (backTo pos (starEach xs env)) (backToKw pos (keywordEach [] env)) = true := by
  have h1 : (backTo pos (starEach xs env)).all (fun x => !x.1) = true := by
    have := star_none (pos := pos) (env := env) h
    rw [List.any_eq_false] at this
    rw [List.all_eq_true]
    intro x hx
    have := this x hx
    simpa using this
  unfold methodCallForm
  rw [h1]
  show (true && true && decide (xs.length + 0 + 0 < 30)) = true
  simp only [Bool.and_true, Bool.true_and, decide_eq_true_eq]
  omega
theorem meth_ht {o : Expr} {m : Str} {apos pos : Pos} {xs : List Expr} {env : PySem.Env} (hb : nsup o = true) (h : xs.all nst = true) (hl : xs.length < 25) (hline : (apos.endLine == pos.line) = true) :
    eval (.Call (.Attribute o m apos) xs [] pos) env = (do
      let ov ← eval o env
      standAt apos.atName
      let (f, first) ← holding [ov] (getMethod ov m (plainOf o env))
      callWith pos f first (backTo pos (starEach xs env)) (backToKw pos (keywordEach [] env))) := by
  rw [arm_eval_Call, base_of hb]
  refine congrArg _ (funext fun ov => ?_)
  refine congrArg _ (funext fun _ => ?_)
  exact mcall_line (few_of h hl) hline
section
variable {M : Md} {k : Nat} {N : List Str} {Φ : FnSem} (hΦ : MonoF Φ) (F : Facts M k Φ)
include hΦ F
omit hΦ F in
theorem comp_parts (own : List Nat) (s : Src) (t : Tgt) (c : EO) (e : E) {sc : Scope} {x : Expr} {X : Cx} (g : Gd M k N sc X) (h : chkE M.nm N (.comp own s t c e) sc x = true)
    (qs : ∀ {sc : Scope} {tg x : Expr} {X : Cx}, Gd M k N sc X → chkSrc M.nm N s sc tg x = true → PI X tg x (rdI M Φ s)) (qc : ∀ {sc : Scope} {xs : List Expr} {X : Cx}, Gd M k N sc X → chkC M.nm N c sc xs = true → PTs X xs (rdC M Φ c))
    (qe : ∀ {sc : Scope} {x : Expr} {X : Cx}, Gd M k N sc X → chkE M.nm N e sc x = true → PE X x (rdE M Φ e)) : ∃ (elt tg iter : Expr) (ifs : List Expr) (scope : Scope) (pos : Pos), x = .ListComp elt [⟨tg, iter, ifs, 0⟩] scope pos ∧
    (∀ n ∈ tslots t, n ∈ (own.map fun n => (N.getD n "", n)).map (·.2)) ∧ PI X tg iter (rdI M Φ s) ∧ BlkOk N sc scope (own.map fun n => (N.getD n "", n)) ∧
    (∀ (s : Shared) (H : Hp) (C : Addr) (cl : List (Str × Addr)) (fp : List Addr), PG (X.blk s H scope (compEnvC scope cl C X.env) fp) tg (rdG M t)) ∧
    (∀ (s : Shared) (H : Hp) (C : Addr) (cl : List (Str × Addr)) (fp : List Addr), PTs (X.blk s H scope (compEnvC scope cl C X.env) fp) ifs (rdC M Φ c)) ∧
    (∀ (s : Shared) (H : Hp) (C : Addr) (cl : List (Str × Addr)) (fp : List Addr), PE (X.blk s H scope (compEnvC scope cl C X.env) fp) elt (rdE M Φ e)) ∧ (∀ y, foldedSetIterable iter X.env y = pure y) := by
    simp only [chkE] at h
    split at h
    · obtain ⟨h, h8⟩ := ba3 h
      obtain ⟨h, h7⟩ := ba3 h
      obtain ⟨h, h6⟩ := ba3 h
      obtain ⟨h, h5⟩ := ba3 h
      obtain ⟨h, h4⟩ := ba3 h
      obtain ⟨h, h3⟩ := ba3 h
      obtain ⟨h1, h2⟩ := ba3 h
      have ok := blkOk_by h1
      refine ⟨_, _, _, _, _, _, rfl, fun n hn => ?_, qs g h6, ok, fun s H C cl fp => ?_, fun s H C cl fp => ?_, fun s H C cl fp => ?_, fold_of h4⟩
      · have := List.all_eq_true.mp h2 n hn
        rw [List.map_map]
        simpa using this
      · exact (chkT_ok (g.blk s H C cl fp ok.kind) (Asg.blk g.hsc s H C cl fp) h5).1
      · exact qc (g.blk s H C cl fp ok.kind) h7
      · exact qe (g.blk s H C cl fp ok.kind) h8
    · cases h
set_option maxHeartbeats 4000000 in
mutual
theorem chkE_ok : ∀ (e : E) {sc : Scope} {x : Expr} {X : Cx}, Gd M k N sc X → chkE M.nm N e sc x = true → Good M Φ X e x
  | .var n, sc, x, X, g, h => by
    simp only [chkE] at h
    split at h
    · obtain ⟨h1, h2⟩ := ba3 h
      obtain ⟨h2, h3, h4⟩ := vis_of h2
      exact good_of hΦ g (snd_var hΦ g (of_decide_eq_true h1) h2 h3 h4) (fun _ _ _ e => by cases e)
    · cases h
  | .con v, sc, x, X, g, h => by
    simp only [chkE] at h
    split at h
    · unfold chkCon at h
      split at h
      · exact good_of hΦ g (snd_none hΦ g) (fun _ _ _ e => by cases e)
      · rw [eq_of_beq h]
        exact good_of hΦ g (snd_bool hΦ g) (fun _ _ _ e => by cases e)
      · rw [of_decide_eq_true h]
        exact good_of hΦ g (snd_int hΦ g) (fun _ _ _ e => by cases e)
      · rw [of_decide_eq_true h]
        exact good_of hΦ g (snd_str hΦ g) (fun _ _ _ e => by cases e)
      · cases h
    · cases h
  | .glb n v, sc, x, X, g, h => by
    simp only [chkE] at h
    split at h
    · obtain ⟨h1, h2⟩ := ba3 h
      obtain ⟨h1, h3⟩ := ba3 h1
      split at h2
      · obtain ⟨t, ht⟩ := F.glb n _ (of_decide_eq_true h2)
        rw [of_decide_eq_true h1] at h3 ⊢
        exact good_of hΦ g (snd_glb hΦ g (glo_of h3) ht (F.gdb n)) (fun _ _ _ e => by cases e)
      · cases h2
    · cases h
  | .tup es, sc, x, X, g, h => by
    simp only [chkE] at h
    split at h
    · obtain ⟨h1, h2⟩ := ba3 h
      exact good_of hΦ g (snd_tup hΦ g (chkEL_ok es g h2) (len_le hΦ h1)) (fun _ _ _ e => by cases e)
    · cases h
  | .lst es, sc, x, X, g, h => by
    simp only [chkE] at h
    split at h
    · obtain ⟨h1, h2⟩ := ba3 h
      exact good_of hΦ g (snd_lst hΦ g (chkEL_ok es g h2) (len_le hΦ h1)) (fun _ _ _ e => by cases e)
    · cases h
  | .nlst es, sc, x, X, g, h => by
    simp only [chkE] at h
    split at h
    · obtain ⟨h1, h2⟩ := ba3 h
      exact good_of hΦ g (snd_nlst hΦ g (chkEL_ok es g h2) (len_le hΦ h1)) (fun _ _ _ e => by cases e)
    · cases h
  | .lstar es, sc, x, X, g, h => by
    simp only [chkE] at h
    split at h
    · exact good_of hΦ g (snd_lstar hΦ (chkStar_ok es g h)) (fun _ _ _ e => by cases e)
    · cases h
  | .and a b, sc, x, X, g, h => by
    simp only [chkE] at h
    split at h
    · obtain ⟨h1, h2⟩ := ba3 h
      have ga := chkE_ok a g h1
      have gb := chkE_ok b g h2
      have w := tst_and2 hΦ g (pos := ‹Pos›) ga.2.1 gb.2.1
      exact ⟨snd_and2 hΦ g ga.1 gb.1, w.pt, fun _ => w⟩
    · obtain ⟨h1, h2⟩ := ba3 h
      have ga := chkE_ok a g h1
      have gb := chkE_ok b g h2
      have w := tst_andM hΦ g (pos := ‹Pos›) ga.2.1 (gb.2.2 ⟨_, _, _, rfl⟩)
      exact ⟨snd_andM hΦ g ga.1 gb.1, w.pt, fun _ => w⟩
    · cases h
  | .or a b, sc, x, X, g, h => by
    simp only [chkE] at h
    split at h
    · obtain ⟨h1, h2⟩ := ba3 h
      have ga := chkE_ok a g h1
      have gb := chkE_ok b g h2
      have w := tst_or2 hΦ g (pos := ‹Pos›) ga.2.1 gb.2.1
      exact ⟨snd_or2 hΦ g ga.1 gb.1, w.pt, fun _ => w⟩
    · obtain ⟨h1, h2⟩ := ba3 h
      have ga := chkE_ok a g h1
      have gb := chkE_ok b g h2
      have w := tst_orM hΦ g (pos := ‹Pos›) ga.2.1 (gb.2.2 ⟨_, _, _, rfl⟩)
      exact ⟨snd_orM hΦ g ga.1 gb.1, w.pt, fun _ => w⟩
    · cases h
  | .not a, sc, x, X, g, h => by
    simp only [chkE] at h
    split at h
    · have ga := chkE_ok a g h
      exact ⟨snd_not hΦ g ga.1, tst_not hΦ g ga.2.1, fun ⟨_, _, _, e⟩ => by cases e⟩
    · cases h
  | .neg a, sc, x, X, g, h => by
    simp only [chkE] at h
    split at h
    · exact good_of hΦ g (snd_neg hΦ g (chkE_ok a g h).1) (fun _ _ _ e => by cases e)
    · cases h
  | .bin op a b, sc, x, X, g, h => by
    simp only [chkE] at h
    split at h
    · obtain ⟨h0, h⟩ := ba3 h
      obtain ⟨h1, h2⟩ := ba3 h
      unfold opEq at h0
      rw [← of_decide_eq_true h0]
      exact good_of hΦ g (snd_bin hΦ g (chkE_ok a g h1).1 (chkE_ok b g h2).1) (fun _ _ _ e => by cases e)
    · cases h
  | .cmp op a b, sc, x, X, g, h => by
    simp only [chkE] at h
    split at h
    · obtain ⟨h0, h⟩ := ba3 h
      obtain ⟨h0, h3⟩ := ba3 h0
      obtain ⟨h1, h2⟩ := ba3 h
      unfold copEq at h0
      rw [← of_decide_eq_true h0]
      have ga := chkE_ok a g h1
      have gb := chkE_ok b g h2
      exact ⟨snd_cmp hΦ g ga.1 gb.1 (mark_of h3), tst_cmp hΦ g ga.1 gb.1 (mark_of h3), fun ⟨_, _, _, e⟩ => by cases e⟩
    · cases h
  | .chain p q a b c, sc, x, X, g, h => by
    simp only [chkE] at h
    split at h
    · obtain ⟨h0, h⟩ := ba3 h
      obtain ⟨h0, h3⟩ := ba3 h0
      obtain ⟨h0, h4⟩ := ba3 h0
      obtain ⟨h1, h2⟩ := ba3 h
      obtain ⟨h2, h5⟩ := ba3 h2
      unfold copEq at h0 h4
      rw [← of_decide_eq_true h0, ← of_decide_eq_true h4]
      have ga := chkE_ok a g h1
      have gb := chkE_ok b g h2
      have gc := chkE_ok c g h5
      exact ⟨snd_chain hΦ g ga.1 gb.1 gc.1 (mark_of h3), tst_chain hΦ g ga.1 gb.1 gc.1 (mark_of h3), fun ⟨_, _, _, e⟩ => by cases e⟩
    · cases h
  | .ite c a b, sc, x, X, g, h => by
    simp only [chkE] at h
    split at h
    · obtain ⟨h1, h2⟩ := ba3 h
      obtain ⟨h2, h3⟩ := ba3 h2
      have gc := chkE_ok c g h1
      have ga := chkE_ok a g h2
      have gb := chkE_ok b g h3
      exact ⟨snd_ite hΦ g gc.2.1 ga.1 gb.1, tst_ite hΦ gc.2.1 ga.2.1 gb.2.1, fun ⟨_, _, _, e⟩ => by cases e⟩
    · cases h
  | .sub a b, sc, x, X, g, h => by
    simp only [chkE] at h
    split at h
    · obtain ⟨h0, h⟩ := ba3 h
      obtain ⟨h1, h2⟩ := ba3 h
      exact good_of hΦ g (snd_sub hΦ g (chkE_ok a g h1).1 (chkE_ok b g h2).1 (ix_of h0)) (fun _ _ _ e => by cases e)
    · cases h
  | .slice a lo hi, sc, x, X, g, h => by
    simp only [chkE] at h
    split at h
    · obtain ⟨h1, h2⟩ := ba3 h
      obtain ⟨h2, h3⟩ := ba3 h2
      exact good_of hΦ g (snd_slice hΦ g (chkE_ok a g h1).1 (chkEO_ok lo g h2) (chkEO_ok hi g h3)) (fun _ _ _ e => by cases e)
    · cases h
  | .prop c f a, sc, x, X, g, h => by
    simp only [chkE] at h
    split at h
    · obtain ⟨h, h5⟩ := ba3 h
      obtain ⟨h, h4⟩ := ba3 h
      obtain ⟨h, h3⟩ := ba3 h
      obtain ⟨h1, h2⟩ := ba3 h
      rw [of_decide_eq_true h1]
      obtain ⟨_, _, hh, _⟩ := F.pr c f h2
      exact good_of hΦ g (snd_prop hΦ F g h2 (by rw [F.ar f hh]; exact of_decide_eq_true h3) (chkE_ok a g h5).1 (base_of h4 _)) (fun _ _ _ e => by cases e)
    · cases h
  | .fld c f a, sc, x, X, g, h => by
    simp only [chkE] at h
    split at h
    · obtain ⟨h, h4⟩ := ba3 h
      obtain ⟨h, h3⟩ := ba3 h
      obtain ⟨h1, h2⟩ := ba3 h
      rw [of_decide_eq_true h1]
      exact good_of hΦ g (snd_fld hΦ F g h2 (chkE_ok a g h4).1 (base_of h3 _)) (fun _ _ _ e => by cases e)
    · cases h
  | .call f es, sc, x, X, g, h => by
    simp only [chkE] at h
    split at h
    · rename_i xs _
      obtain ⟨h, h5⟩ := ba3 h
      obtain ⟨h, h4⟩ := ba3 h
      obtain ⟨h, h3⟩ := ba3 h
      obtain ⟨h1, h2⟩ := ba3 h
      rw [of_decide_eq_true h1] at h3 ⊢
      obtain ⟨_, hh, _⟩ := F.fn f h2
      have hn := of_decide_eq_true h4
      have ha := F.ar f hh
      obtain ⟨n1, n2⟩ := chkEL_nst h5
      have hes := chkEL_ok es g h5
      cases xs with
      | nil =>
        cases es with
        | nil => exact good_of hΦ g (snd_call0 hΦ F g h2 (glo_of h3) (by rw [ha, ← hn]; rfl)) (fun _ _ _ e => by cases e)
        | cons _ _ => simp [EL.len] at n2
      | cons y ys => exact good_of hΦ g (snd_call hΦ F g h2 hes (glo_of h3) n1 (len_eq hΦ (by rw [ha]; exact hn))) (fun _ _ _ e => by cases e)
    · cases h
  | .make c f es, sc, x, X, g, h => by
    simp only [chkE] at h
    split at h
    · rename_i xs _
      obtain ⟨h, h5⟩ := ba3 h
      obtain ⟨h, h4⟩ := ba3 h
      obtain ⟨h, h3⟩ := ba3 h
      obtain ⟨h1, h2⟩ := ba3 h
      rw [of_decide_eq_true h1] at h3 ⊢
      obtain ⟨_, _, hh, _⟩ := F.mkr c f h2
      have hn := of_decide_eq_true h4
      have ha := F.ar f hh
      obtain ⟨n1, n2⟩ := chkEL_nst h5
      have hes := chkEL_ok es g h5
      cases xs with
      | nil =>
        cases es with
        | nil => exact good_of hΦ g (snd_make0 hΦ F g h2 (glo_of h3) (by rw [ha, ← hn]; rfl)) (fun _ _ _ e => by cases e)
        | cons _ _ => simp [EL.len] at n2
      | cons y ys => exact good_of hΦ g (snd_make hΦ F g h2 hes (glo_of h3) n1 (len_eq1 hΦ (by rw [ha]; exact hn))) (fun _ _ _ e => by cases e)
    · cases h
  | .makeK c f es e, sc, x, X, g, h => by
    simp only [chkE] at h
    split at h
    · rename_i xs _ _ _ _
      obtain ⟨h, h7⟩ := ba3 h
      obtain ⟨h7, h8⟩ := ba3 h7
      obtain ⟨h, h6⟩ := ba3 h
      obtain ⟨h, h5⟩ := ba3 h
      obtain ⟨h, h4⟩ := ba3 h
      obtain ⟨h, h3⟩ := ba3 h
      obtain ⟨h1, h2⟩ := ba3 h
      rw [of_decide_eq_true h1] at h3 ⊢
      obtain ⟨_, _, hh, _⟩ := F.mkk c f h2
      have hn := of_decide_eq_true h4
      have ha := F.ar f hh
      obtain ⟨n1, n2⟩ := chkEL_nst h7
      have hes := chkEL_ok es g h7
      have he := chkE_ok e g h8
      cases xs with
      | nil =>
        have := of_decide_eq_true h6
        simp at n2
        omega
      | cons y ys => exact good_of hΦ g (snd_makeK hΦ F g (n := es.len) h2 hn.symm (by rw [ha]; exact hn) hes he.1 (of_decide_eq_true h5) (glo_of h3) n1 (len_eq hΦ rfl)) (fun _ _ _ e => by cases e)
    · cases h
  | .meth c f a es, sc, x, X, g, h => by
    simp only [chkE] at h
    split at h
    · rename_i xs _
      obtain ⟨h, h7⟩ := ba3 h
      obtain ⟨h7, h8⟩ := ba3 h7
      obtain ⟨h, h6⟩ := ba3 h
      obtain ⟨h, h5⟩ := ba3 h
      obtain ⟨h, h4⟩ := ba3 h
      obtain ⟨h, h3⟩ := ba3 h
      obtain ⟨h1, h2⟩ := ba3 h
      rw [of_decide_eq_true h1]
      obtain ⟨_, _, hh, _⟩ := F.mt c f h2
      have hn := of_decide_eq_true h3
      have ha := F.ar f hh
      have hz := of_decide_eq_true h6
      obtain ⟨n1, n2⟩ := chkEL_nst h8
      have hes := chkEL_ok es g h8
      have ho := chkE_ok a g h7
      cases xs with
      | nil =>
        cases es with
        | nil => exact good_of hΦ g (snd_meth0 hΦ F g h2 ho.1 (by rw [ha, ← hn]; rfl) (meth_ht h4 n1 (by rw [n2]; exact hz) h5)) (fun _ _ _ e => by cases e)
        | cons _ _ => simp [EL.len] at n2
      | cons y ys => exact good_of hΦ g (snd_meth hΦ F g h2 ho.1 hes n1 (len_eq1 hΦ (by rw [ha]; exact hn)) (meth_ht h4 n1 (by rw [n2]; exact hz) h5)) (fun _ _ _ e => by cases e)
    · cases h
  | .bi1 b a, sc, x, X, g, h => by
    simp only [chkE] at h
    split at h
    · obtain ⟨h, h5⟩ := ba3 h
      obtain ⟨h, h4⟩ := ba3 h
      obtain ⟨h, h3⟩ := ba3 h
      obtain ⟨h1, h2⟩ := ba3 h
      rw [of_decide_eq_true h1] at h3 ⊢
      exact good_of hΦ g (snd_b1 hΦ F g h2 (glo_of h3) (chkE_ok a g h5).1 h4) (fun _ _ _ e => by cases e)
    · cases h
  | .bi2 b a c, sc, x, X, g, h => by
    simp only [chkE] at h
    split at h
    · obtain ⟨h, h6⟩ := ba3 h
      obtain ⟨h6, h7⟩ := ba3 h6
      obtain ⟨h, h5⟩ := ba3 h
      obtain ⟨h, h4⟩ := ba3 h
      obtain ⟨h, h3⟩ := ba3 h
      obtain ⟨h1, h2⟩ := ba3 h
      rw [of_decide_eq_true h1] at h3 ⊢
      have ga := chkE_ok a g h6
      have gc := chkE_ok c g h7
      cases b with
      | max => exact good_of hΦ g (snd_b2m hΦ F g (glo_of h3) ga.1 gc.1 h4 h5) (fun _ _ _ e => by cases e)
      | min => exact good_of hΦ g (snd_b2n hΦ F g (glo_of h3) ga.1 gc.1 h4 h5) (fun _ _ _ e => by cases e)
      | gcd => cases h2
    · cases h
  | .isin t a, sc, x, X, g, h => by
    simp only [chkE] at h
    split at h
    · obtain ⟨h, h5⟩ := ba3 h
      obtain ⟨h, h4⟩ := ba3 h
      obtain ⟨h, h3⟩ := ba3 h
      obtain ⟨h1, h2⟩ := ba3 h
      rw [of_decide_eq_true h1] at h2 ⊢
      have ga := chkE_ok a g h5
      split at h4
      · obtain ⟨e1, e2⟩ := ba3 h4
        rw [of_decide_eq_true e1] at e2 ⊢
        exact good_of hΦ g (isin_one (Ts := "int") hΦ F g (by decide) isTy_int (glo_of h2) (glo_of e2) (by decide +kernel) PyProof.Rows.boot_int (by decide +kernel) (by decide +kernel) ga.1 h3) (fun _ _ _ e => by cases e)
      · obtain ⟨e1, e2⟩ := ba3 h4
        rw [of_decide_eq_true e1] at e2 ⊢
        exact good_of hΦ g (isin_one (Ts := "bool") hΦ F g (by decide) isTy_bool (glo_of h2) (glo_of e2) (by decide +kernel) PyProof.Rows.boot_bool (by decide +kernel) (by decide +kernel) ga.1 h3) (fun _ _ _ e => by cases e)
      · obtain ⟨e1, e2⟩ := ba3 h4
        rw [of_decide_eq_true e1] at e2 ⊢
        exact good_of hΦ g (isin_one (Ts := "str") hΦ F g (by decide) isTy_str (glo_of h2) (glo_of e2) (by decide +kernel) PyProof.Rows.boot_str (by decide +kernel) (by decide +kernel) ga.1 h3) (fun _ _ _ e => by cases e)
      · obtain ⟨e1, e2⟩ := ba3 h4
        rw [of_decide_eq_true e1] at e2 ⊢
        exact good_of hΦ g (isin_one (Ts := "tuple") hΦ F g (by decide) isTy_tup (glo_of h2) (glo_of e2) (by decide +kernel) PyProof.Rows.boot_tuple (by decide +kernel) (by decide +kernel) ga.1 h3) (fun _ _ _ e => by cases e)
      · obtain ⟨h4, e4⟩ := ba3 h4
        obtain ⟨h4, e3⟩ := ba3 h4
        obtain ⟨e1, e2⟩ := ba3 h4
        rw [of_decide_eq_true e1] at e3 ⊢
        rw [of_decide_eq_true e2] at e4 ⊢
        exact good_of hΦ g (isin_seq hΦ F g (glo_of h2) (glo_of e3) (glo_of e4) ga.1 h3) (fun _ _ _ e => by cases e)
      · cases h4
    · cases h
  | .comp own s t c e, sc, x, X, g, h => by
    obtain ⟨elt, tg, iter, ifs, scope, pos, rfl, hown, hi, ok, hg, ht, he, hs⟩ := comp_parts own s t c e g h (fun g h => chkSrc_ok s g h) (fun g h => chkC_ok c g h) (fun g h => (chkE_ok e g h).1)
    have := snd_comp hΦ g (pos := pos) hown hi ok hg ht he hs
    rw [show (own.map fun n => (N.getD n "", n)).map (·.2) = own by rw [List.map_map]; exact List.map_id _] at this
    exact good_of hΦ g this (fun _ _ _ e => by cases e)
  | .frz a, sc, x, X, g, h => by
    simp only [chkE] at h
    split at h
    · exact good_of hΦ g (snd_frz hΦ F g (chkE_ok a g h).1) (fun _ _ _ e => by cases e)
    · cases h
  | .pop a, sc, x, X, g, h => by
    simp only [chkE] at h
    split at h
    · obtain ⟨h, h4⟩ := ba3 h
      obtain ⟨h, h3⟩ := ba3 h
      obtain ⟨h1, h2⟩ := ba3 h
      rw [of_decide_eq_true h1]
      have ga := chkE_ok a g h4
      exact good_of hΦ g (snd_pop hΦ F g ga.1 (pe_bm0 PySem.F.plainAttrs_list PySem.F.slot_list_pop PySem.F.type_list_pop mt_pop ga.1 (base_of h2 _) h3)) (fun _ _ _ e => by cases e)
    · cases h
theorem chkEL_ok : ∀ (es : EL) {sc : Scope} {xs : List Expr} {X : Cx}, Gd M k N sc X → chkEL M.nm N es sc xs = true → PA X xs (rdL M Φ es)
  | .nil, sc, xs, X, g, h => by
    simp only [chkEL, List.isEmpty_iff] at h
    subst h
    exact snd_nil hΦ g
  | .cons e r, sc, xs, X, g, h => by
    simp only [chkEL] at h
    split at h
    · obtain ⟨h1, h2⟩ := ba3 h
      obtain ⟨h0, h1⟩ := ba3 h1
      exact snd_cons hΦ g (chkE_ok e g h1).1 (chkEL_ok r g h2) (star_cons h0)
    · cases h
theorem chkStar_ok : ∀ (es : EL) {sc : Scope} {xs : List Expr} {X : Cx}, Gd M k N sc X → chkStar M.nm N es sc xs = true → PA X xs (rdStar M Φ es)
  | .nil, sc, xs, X, g, h => by
    simp only [chkStar, List.isEmpty_iff] at h
    subst h
    exact snd_snil
  | .cons e r, sc, xs, X, g, h => by
    simp only [chkStar] at h
    split at h
    · obtain ⟨h1, h2⟩ := ba3 h
      exact snd_scons hΦ (chkE_ok e g h1).1 (chkStar_ok r g h2)
    · cases h
theorem chkEO_ok : ∀ (es : EO) {sc : Scope} {xs : Option Expr} {X : Cx}, Gd M k N sc X → chkEO M.nm N es sc xs = true → PO X xs (rdO M Φ es)
  | .no, sc, xs, X, g, h => by
    simp only [chkEO, Option.isNone_iff_eq_none] at h
    subst h
    exact snd_no hΦ g
  | .yes e, sc, xs, X, g, h => by
    simp only [chkEO] at h
    split at h
    · exact snd_yes hΦ g (chkE_ok e g h).1
    · cases h
theorem chkC_ok : ∀ (es : EO) {sc : Scope} {xs : List Expr} {X : Cx}, Gd M k N sc X → chkC M.nm N es sc xs = true → PTs X xs (rdC M Φ es)
  | .no, sc, xs, X, g, h => by
    simp only [chkC, List.isEmpty_iff] at h
    subst h
    exact snd_cno
  | .yes e, sc, xs, X, g, h => by
    simp only [chkC] at h
    split at h
    · exact snd_cyes (chkE_ok e g h).2.1
    · cases h
theorem chkSrc_ok : ∀ (s : Src) {sc : Scope} {tg x : Expr} {X : Cx}, Gd M k N sc X → chkSrc M.nm N s sc tg x = true → PI X tg x (rdI M Φ s)
  | .seq e, sc, tg, x, X, g, h => by
    simp only [chkSrc] at h
    exact src_seq hΦ g (chkE_ok e g h).1
  | .rng1 e, sc, tg, x, X, g, h => by
    simp only [chkSrc] at h
    split at h
    · obtain ⟨h, h4⟩ := ba3 h
      obtain ⟨h, h3⟩ := ba3 h
      obtain ⟨h1, h2⟩ := ba3 h
      rw [of_decide_eq_true h1] at h2 ⊢
      exact src_rng1 hΦ F g (glo_of h2) (chkE_ok e g h4).1 h3
    · cases h
  | .rng2 a b, sc, tg, x, X, g, h => by
    simp only [chkSrc] at h
    split at h
    · obtain ⟨h, h5⟩ := ba3 h
      obtain ⟨h5, h6⟩ := ba3 h5
      obtain ⟨h, h4⟩ := ba3 h
      obtain ⟨h, h3⟩ := ba3 h
      obtain ⟨h1, h2⟩ := ba3 h
      rw [of_decide_eq_true h1] at h2 ⊢
      exact src_rng2 hΦ F g (glo_of h2) (chkE_ok a g h5).1 (chkE_ok b g h6).1 h3 h4
    · cases h
  | .enum e, sc, tg, x, X, g, h => by
    simp only [chkSrc] at h
    split at h
    · obtain ⟨h, h5⟩ := ba3 h
      obtain ⟨h, h4⟩ := ba3 h
      obtain ⟨h, h3⟩ := ba3 h
      obtain ⟨h1, h2⟩ := ba3 h
      rw [of_decide_eq_true h1] at h2 ⊢
      cases tg <;> try (cases h4; done)
      exact src_enum hΦ F g (glo_of h2) (chkE_ok e g h5).1 h3
    · cases h
end
end
end VM

namespace VM
open PySem PySem.Spec PyProof.Rows L2
/-- the place where a comprehension's value is put down -/
def swOk (sc : Scope) (y : Str) (py : Pos) (x : Expr) : Option Bool := match x with
  | .ListComp _ _ scope p => match sc.names.lookup y with
    | some .cell => some false
    | some .local => if (py.line == p.line) && !(scope.names.any fun (n, k) => n == y && (k == .local || k == .cell)) then some true else none
    | _ => none
  | x => if ncmp x then some false else none
section
variable (nm : Nm) (N : List Str)
mutual
def chkS : S → Scope → Stmt → Bool
  | .set n e, sc, s => (match s with
    | .Assign [.Name y py] x _ => decide (N[n]? = some y) && loc sc y && (swOk sc y py x).isSome && chkE nm N e sc x
    | _ => false)
  | .asg t e, sc, s => (match s with
    | .Assign [tg] x _ => chkT N sc t tg && ncmp x && ntup x && nst tg && chkE nm N e sc x
    | _ => false)
  | .item o i e, sc, s => (match s with
    | .Assign [.Subscript x y _] w _ => ncmp w && nslc y && (chkE nm N o sc x && (chkE nm N i sc y && chkE nm N e sc w))
    | _ => false)
  | .fld i c f e, sc, s => (match s with
    | .Assign [.Attribute (.Name y _) m _] x _ => decide (N[i]? = some y) && vis sc y && decide (m = nm.fld f) && nm.nof c f && ncmp x && chkE nm N e sc x
    | _ => false)
  | .aug n e, sc, s => (match s with
    | .AugAssign (.Name y _) .Add x _ => decide (N[n]? = some y) && loc sc y && chkE nm N e sc x
    | _ => false)
  | .ifs c a b, sc, s => (match s with
    | .If x xs ys _ => chkE nm N c sc x && (chkSL a sc xs && chkSL b sc ys)
    | _ => false)
  | .for_ r t b, sc, s => (match s with
    | .For tg x xs [] _ => nset x && chkT N sc t tg && (chkSrc nm N r sc tg x && chkSL b sc xs)
    | _ => false)
  | .while_ c b, sc, s => (match s with
    | .While x xs [] _ => chkE nm N c sc x && chkSL b sc xs
    | _ => false)
  | .ret e, sc, s => (match s with
    | .Return (some x) _ => chkE nm N e sc x
    | _ => false)
  | .retN, sc, s => (match s with
    | .Return none _ => true
    | _ => false)
  | .brk, sc, s => (match s with
    | .Break _ => true
    | _ => false)
  | .cnt, sc, s => (match s with
    | .Continue _ => true
    | _ => false)
  | .pass, sc, s => (match s with
    | .Pass _ => true
    | .Expr (.Constant (.str _) _ _) _ => true
    | _ => false)
  | .ex e, sc, s => (match s with
    | .Expr x _ => ncmp x && chkE nm N e sc x
    | _ => false)
  | .append o e, sc, s => (match s with
    | .Expr (.Call (.Attribute x m ap) [y] [] cp) _ => decide (m = ("append" : Str)) && nsup x && nst y && (ap.endLine == cp.line) && (chkE nm N o sc x && chkE nm N e sc y)
    | _ => false)
  | .extend o e, sc, s => (match s with
    | .Expr (.Call (.Attribute x m ap) [y] [] cp) _ => decide (m = ("extend" : Str)) && nsup x && nst y && (ap.endLine == cp.line) && (chkE nm N o sc x && chkE nm N e sc y)
    | _ => false)
  | .raise _ _, _, _ => false
  | .die, _, _ => true
def chkSL : SL → Scope → List Stmt → Bool
  | .nil, sc, xs => xs.isEmpty
  | .cons s r, sc, xs => (match xs with
    | y :: ys => chkS s sc y && chkSL r sc ys
    | _ => false)
end
end
theorem sw_cell {x : Expr} {y : Str} {py : Pos} {l : Nat} {env : PySem.Env} (h : env.scope.names.lookup y = some .cell) : swapsWith x (some (.Name y py)) l env = pure false := by
  have ky : env.kindOf y = some .cell := h
  unfold swapsWith
  cases x <;> first | rfl | (simp only [ky]; cases env.blockKind <;> rfl)
section
variable {M : Md} {k : Nat} {N : List Str} {Φ : FnSem} (hΦ : MonoF Φ) (F : Facts M k Φ)
include hΦ F
theorem set_ok {n : Nat} {e : E} {sc : Scope} {y : Str} {py p : Pos} {x : Expr} {X : Cx} (g : Gd M k N sc X) (as : Asg sc sc X) (h1 : N[n]? = some y) (h2 : loc sc y = true) (h3 : (swOk sc y py x).isSome = true) (h4 : chkE M.nm N e sc x = true) : PS X (.Assign [.Name y py] x p) (rdS M Φ (.set n e)) := by
  have ge := chkE_ok hΦ F e g h4
  unfold swOk at h3
  split at h3
  · rename_i elt gs scope pos
    split at h3
    · rename_i hl
      exact st_set hΦ g as h1 (loc_of h2) ge.1 (sw_cell (by rw [g.hsc]; exact hl))
    · rename_i hl
      split at h3
      · rename_i hc
        obtain ⟨c1, c2⟩ := ba3 hc
        cases e with
        | comp own s t c e =>
          obtain ⟨elt, tg, iter, ifs, scope, pos, ex, hown, hi, ok, hg, ht, he, hs⟩ := comp_parts own s t c e g h4 (fun g h => chkSrc_ok hΦ F s g h) (fun g h => chkC_ok hΦ F c g h) (fun g h => (chkE_ok hΦ F e g h).1)
          cases ex
          have := snd_setComp hΦ g (pos := pos) (py := py) (spos := p) hown hi ok h1 hl (sw_true (by rw [g.hsc]; exact g.kind) (by rw [g.hsc]; exact hl) c1 (by simpa only [Bool.not_eq_true'] using c2)) hg ht he hs
          rw [show (own.map fun n => (N.getD n "", n)).map (·.2) = own by rw [List.map_map]; exact List.map_id _] at this
          exact st_setC hΦ this
        | _ => simp [chkE] at h4
      · cases h3
    · cases h3
  · split at h3
    · rename_i hc
      exact st_set hΦ g as h1 (loc_of h2) ge.1 (swap_of hc)
    · cases h3
set_option maxHeartbeats 4000000 in
mutual
theorem chkS_ok : ∀ (s : S) {sc : Scope} {x : Stmt} {X : Cx}, Gd M k N sc X → Asg sc sc X → chkS M.nm N s sc x = true → PS X x (rdS M Φ s)
  | .set n e, sc, x, X, g, as, h => by
    simp only [chkS] at h
    split at h
    · obtain ⟨h, h4⟩ := ba3 h
      obtain ⟨h, h3⟩ := ba3 h
      obtain ⟨h1, h2⟩ := ba3 h
      exact set_ok hΦ F g as (of_decide_eq_true h1) h2 h3 h4
    · cases h
  | .asg t e, sc, x, X, g, as, h => by
    simp only [chkS] at h
    split at h
    · obtain ⟨h, h5⟩ := ba3 h
      obtain ⟨h, h4⟩ := ba3 h
      obtain ⟨h, h3⟩ := ba3 h
      obtain ⟨h1, h2⟩ := ba3 h
      exact st_asg hΦ (chkE_ok hΦ F e g h5).1 (chkT_ok g as h1).1 h2 h3 h4
    · cases h
  | .item o i e, sc, x, X, g, as, h => by
    simp only [chkS] at h
    split at h
    · obtain ⟨h, h3⟩ := ba3 h
      obtain ⟨h3, h4⟩ := ba3 h3
      obtain ⟨h4, h5⟩ := ba3 h4
      obtain ⟨h1, h2⟩ := ba3 h
      exact st_item hΦ (chkE_ok hΦ F o g h3).1 (chkE_ok hΦ F i g h4).1 (chkE_ok hΦ F e g h5).1 h1 h2
    · cases h
  | .fld i c f e, sc, x, X, g, as, h => by
    simp only [chkS] at h
    split at h
    · obtain ⟨h, h6⟩ := ba3 h
      obtain ⟨h, h5⟩ := ba3 h
      obtain ⟨h, h4⟩ := ba3 h
      obtain ⟨h, h3⟩ := ba3 h
      obtain ⟨h1, h2⟩ := ba3 h
      obtain ⟨v1, v2, v3⟩ := vis_of h2
      rw [of_decide_eq_true h3]
      exact st_fld hΦ F g h4 (pe_var (i := i) (by rw [g.hN]; exact of_decide_eq_true h1) (by rw [g.hsc]; exact v1) v2 v3) (chkE_ok hΦ F e g h6).1 h5
    · cases h
  | .aug n e, sc, x, X, g, as, h => by
    simp only [chkS] at h
    split at h
    · obtain ⟨h, h3⟩ := ba3 h
      obtain ⟨h1, h2⟩ := ba3 h
      exact st_aug hΦ g as (of_decide_eq_true h1) (loc_of h2) (chkE_ok hΦ F e g h3).1
    · cases h
  | .ifs c a b, sc, x, X, g, as, h => by
    simp only [chkS] at h
    split at h
    · obtain ⟨h1, h2⟩ := ba3 h
      obtain ⟨h2, h3⟩ := ba3 h2
      exact st_if hΦ (chkE_ok hΦ F c g h1).2.1 (chkSL_ok a g as h2) (chkSL_ok b g as h3)
    · cases h
  | .for_ r t b, sc, x, X, g, as, h => by
    simp only [chkS] at h
    split at h
    · obtain ⟨h, h3⟩ := ba3 h
      obtain ⟨h3, h4⟩ := ba3 h3
      obtain ⟨h1, h2⟩ := ba3 h
      exact st_for hΦ g (chkSrc_ok hΦ F r g h3) (chkT_ok g as h2).1 (chkSL_ok b g as h4) h1
    · cases h
  | .while_ c b, sc, x, X, g, as, h => by
    simp only [chkS] at h
    split at h
    · obtain ⟨h1, h2⟩ := ba3 h
      exact st_while hΦ g (chkE_ok hΦ F c g h1).2.1 (chkSL_ok b g as h2)
    · cases h
  | .ret e, sc, x, X, g, as, h => by
    simp only [chkS] at h
    split at h
    · exact st_ret hΦ (chkE_ok hΦ F e g h).1
    · cases h
  | .retN, sc, x, X, g, as, h => by
    simp only [chkS] at h
    split at h
    · exact st_retN hΦ
    · cases h
  | .brk, sc, x, X, g, as, h => by
    simp only [chkS] at h
    split at h
    · exact st_brk hΦ
    · cases h
  | .cnt, sc, x, X, g, as, h => by
    simp only [chkS] at h
    split at h
    · exact st_cnt hΦ
    · cases h
  | .pass, sc, x, X, g, as, h => by
    simp only [chkS] at h
    split at h
    · exact st_pass hΦ
    · refine PSimp (st_ex hΦ (e := .con (.str _)) (snd_str hΦ g) rfl) ?_
      rintro D σ H ⟨ρ, st, i, S, h⟩
      exact ⟨ρ, st, i, S, h⟩
    · cases h
  | .ex e, sc, x, X, g, as, h => by
    simp only [chkS] at h
    split at h
    · obtain ⟨h1, h2⟩ := ba3 h
      exact st_ex hΦ (chkE_ok hΦ F e g h2).1 h1
    · cases h
  | .append o e, sc, x, X, g, as, h => by
    simp only [chkS] at h
    split at h
    · obtain ⟨h, h5⟩ := ba3 h
      obtain ⟨h5, h6⟩ := ba3 h5
      obtain ⟨h, h4⟩ := ba3 h
      obtain ⟨h, h3⟩ := ba3 h
      obtain ⟨h1, h2⟩ := ba3 h
      rw [of_decide_eq_true h1]
      exact st_append hΦ (chkE_ok hΦ F o g h5).1 (chkE_ok hΦ F e g h6).1 h2 h3 h4
    · cases h
  | .extend o e, sc, x, X, g, as, h => by
    simp only [chkS] at h
    split at h
    · obtain ⟨h, h5⟩ := ba3 h
      obtain ⟨h5, h6⟩ := ba3 h5
      obtain ⟨h, h4⟩ := ba3 h
      obtain ⟨h, h3⟩ := ba3 h
      obtain ⟨h1, h2⟩ := ba3 h
      rw [of_decide_eq_true h1]
      exact st_extend hΦ (chkE_ok hΦ F o g h5).1 (chkE_ok hΦ F e g h6).1 h2 h3 h4
    · cases h
  | .raise _ _, sc, x, X, g, as, h => by
    simp only [chkS] at h
    cases h
  | .die, sc, x, X, g, as, h => st_die hΦ
theorem chkSL_ok : ∀ (s : SL) {sc : Scope} {x : List Stmt} {X : Cx}, Gd M k N sc X → Asg sc sc X → chkSL M.nm N s sc x = true → PSs X x (rdB M Φ s)
  | .nil, sc, xs, X, g, as, h => by
    simp only [chkSL, List.isEmpty_iff] at h
    subst h
    exact st_nil hΦ
  | .cons e r, sc, xs, X, g, as, h => by
    simp only [chkSL] at h
    split at h
    · obtain ⟨h1, h2⟩ := ba3 h
      exact st_cons hΦ (chkS_ok e g as h1) (chkSL_ok r g as h2)
    · cases h
end
end
end VM

namespace VM
open PySem PySem.Spec PyProof.Rows L2
/-- what is known of the module, but its functions' promises -/
structure Stat (M : Md) : Prop where
  kp : ∀ f, M.nm.has f = true → PySem.W.keepIn M.K (.ref (M.fa f)) = true
  bd : ∀ f, M.nm.pos f = true → Binds M.K (M.fd f) (M.fps f) []
  fn : ∀ f, M.nm.glob f = true → M.mg (M.nm.fname f) = some (.ref (M.fa f)) ∧ M.nm.has f = true ∧ M.nm.pos f = true
  fdb : ∀ f, (M.nm.fname f == ("__debug__" : Str)) = false
  cdb : ∀ f, (M.nm.cname f == ("__debug__" : Str)) = false
  mt : ∀ c f, M.nm.met c f = true → Cls M.K (M.cls c) ∧ Meth M.K (M.cls c) (M.nm.fname f) (M.fa f) ∧ M.nm.has f = true ∧ M.nm.pos f = true ∧ ∀ g, M.nm.fld g ≠ M.nm.fname f
  pr : ∀ c f, M.nm.prp c f = true → Cls M.K (M.cls c) ∧ (∃ p, PropOf M.K (M.cls c) (M.nm.fname f) p (M.fa f)) ∧ M.nm.has f = true ∧ M.nm.pos f = true
  mkr : ∀ c f, M.nm.mak c f = true → Mk M.K (M.cls c) (M.fa f) ∧ M.mg (M.nm.cname c) = some (.ref (M.cls c)) ∧ M.nm.has f = true ∧ M.nm.pos f = true
  mkk : ∀ c f, M.nm.makK c f = true → Mk M.K (M.cls c) (M.fa f) ∧ M.mg (M.nm.cname c) = some (.ref (M.cls c)) ∧ M.nm.has f = true ∧
    KBn M.K (M.fd f) (M.fps f) (M.nm.arity f - 1) [M.nm.kwn f] (fun us ws => us ++ ws) (fun vs zs => vs ++ zs)
  ar : ∀ f, M.nm.has f = true → (M.fps f).length = M.nm.arity f
  no : ∀ c f, M.nm.nof c f = true → Cls M.K (M.cls c) ∧ NoAttr M.K (M.cls c) (M.nm.fld f)
  fi : ∀ f g, M.nm.fld f = M.nm.fld g → f = g
  cl : ∀ c, M.nm.cl c = true → TyInfo M c
  free : ∀ x, x ∈ frees → M.mg x = none
  glb : ∀ g b, M.nm.gval g = some b → ∃ t, M.mg (M.nm.gname g) = some (.int b t)
  gdb : ∀ g, (M.nm.gname g == ("__debug__" : Str)) = false
theorem Stat.facts {M : Md} (S : Stat M) {k : Nat} {Φ : FnSem} (ok : ∀ f, M.nm.has f = true → FnOk M.P M.w M.K M.mg M.base CX0 (2 * k) (M.fa f) (M.fd f) (M.fps f) (spF M Φ f)) : Facts M k Φ :=
  ⟨ok, S.kp, S.bd, S.fn, S.fdb, S.cdb, S.mt, S.pr, S.mkr, S.mkk, S.ar, S.no, S.fi, S.cl, S.free, S.glb, S.gdb⟩
/-- a function of the module: its text is the small machine's text -/
def FunAt (M : Md) (T : Nat → Option FD) (f : Nat) : Prop :=
  ∃ (fd : FD) (x qual : Str) (params : Arguments) (body : List Stmt) (scope : Scope) (dvs : List V) (kws : List (Str × V)) (N : List Str), T f = some fd ∧ FunD M.K x qual params body scope dvs kws (M.fa f) (M.fd f) ∧ FnScope N (M.fps f) scope ∧
    fd.slots = N.length ∧ chkSL M.nm N fd.body scope body = true
theorem env_start {M : Md} {i : Io} {st : Store} {H : Hp} {us : List Val} {vs : List V} (r : RepL M i st H us vs) (n : Nat) : EnvRel M i st H (us.map some ++ List.replicate (n - us.length) none) (vs.map some ++ List.replicate (n - vs.length) none) := by
  have hl := r.length
  refine ⟨by simp [hl], fun m v h => ?_⟩
  by_cases z : m < us.length
  · rw [List.getElem?_append_left (by simpa using z), List.getElem?_map] at h
    have : us[m]? = some v := by
      cases e : us[m]? with
      | none => rw [e] at h; cases h
      | some w => rw [e] at h; cases h; rfl
    obtain ⟨a, h1, h2⟩ := r.get this
    exact ⟨a, by rw [List.getElem?_append_left (by rw [List.length_map, ← hl]; exact z), List.getElem?_map, h1]; rfl, h2⟩
  · rw [List.getElem?_append_right (by simpa using z), List.getElem?_replicate] at h
    split at h <;> cases h
theorem fn_ok {M : Md} {T : Nat → Option FD} (S : Stat M) {f : Nat} (hf : M.nm.has f = true) (A : FunAt M T f) {k : Nat} (F : Facts M k (Fn T k)) : FnOk M.P M.w M.K M.mg M.base CX0 (2 * (k + 1)) (M.fa f) (M.fd f) (M.fps f) (spF M (Fn T (k + 1)) f) := by
  obtain ⟨fd, x, qual, params, body, scope, dvs, kws, N, hT, hD, hS, hn, hc⟩ := A
  refine hD.ok (k := 2 * k + 1) (N := N) hS (fun vs H Q E h => h.1) fun cdv A outer s H vs Q E hr hsp => ?_
  have g : Gd M k N scope (cxOf CX0 M.P M.w M.K M.mg M.base N qual scope (M.fa f) cdv A outer s H E) :=
    ⟨rfl, rfl, rfl, rfl, rfl, rfl, hS.nd, rfl, hS.kind, rfl, hr, PassesOwn.leaving⟩
  refine ⟨_, chkSL_ok (Fn_mono T k) F fd.body g (fun x hx => ⟨hx, .inl rfl⟩) hc, ?_⟩
  obtain ⟨hlen, us, st, i, r, R, h⟩ := hsp
  simp only [Fn, hT] at h
  obtain ⟨hl, h⟩ := h
  refine ⟨VM.start fd us, st, i, ⟨?_, R⟩, wpSL_mono (Fn_mono T k) h ⟨?_, ?_, ?_, ?_⟩⟩
  · unfold VM.start L2.start
    rw [hn]
    exact env_start r _
  · exact fun ρ s1 q j G σ e S1 => q j G _ e S1.str rep_non
  · exact fun v s1 q => q
  · exact fun ρ s1 q => q.elim
  · exact fun ρ s1 q => q.elim
theorem all_ok {M : Md} {T : Nat → Option FD} (S : Stat M) (A : ∀ f, M.nm.has f = true → FunAt M T f) : ∀ k, Facts M k (Fn T k)
  | 0 => S.facts fun f hf => ⟨fun vs H Q E h => h.1, fun _ _ _ _ _ _ _ _ _ _ _ _ _ h => by
      obtain ⟨_, us, st, i, _, _, h⟩ := h
      exact h.elim⟩
  | k + 1 => S.facts fun f hf => fn_ok S hf (A f hf) (all_ok S A k)
end VM

namespace VM
open PySem PySem.Spec PyProof.Rows L2
theorem look_zip {ps : List Str} {us : List Value} (hl : us.length = ps.length) : ∀ n ∈ ps, ((ps.zip us).lookup n).isNone = false := by
  induction ps generalizing us with
  | nil => intro n h; cases h
  | cons p ps ih =>
    cases us with
    | nil => cases hl
    | cons u us =>
      intro n h
      rw [List.zip_cons_cons, List.lookup_cons]
      cases e : (n == p) with
      | true => rfl
      | false => exact ih (Nat.succ.inj hl) n ((List.mem_cons.mp h).resolve_left (by simpa using e))
theorem zip_map {ps : List Str} {us : List Value} (hl : us.length = ps.length) (nd : ps.Nodup) : ps.filterMap (fun n => ((ps.zip us).lookup n).map (n, ·)) = ps.zip us := by
  induction ps generalizing us with
  | nil => rfl
  | cons p ps ih =>
    cases us with
    | nil => cases hl
    | cons u us =>
      have nd' := List.nodup_cons.mp nd
      rw [List.zip_cons_cons, List.filterMap_cons]
      have e : ((p, u) :: ps.zip us).lookup p = some u := by simp [List.lookup_cons]
      rw [e]
      show (p, u) :: _ = _
      congr 1
      refine Eq.trans ?_ (ih (Nat.succ.inj hl) nd'.2)
      have : ∀ (l : List Str), p ∉ l → l.filterMap (fun n => (((p, u) :: ps.zip us).lookup n).map (n, ·)) = l.filterMap (fun n => ((ps.zip us).lookup n).map (n, ·)) := by
        intro l
        induction l with
        | nil => intro _; rfl
        | cons a l ih =>
          intro h
          have e : (a == p) = false := by
            simp only [beq_eq_false_iff_ne, ne_eq]
            exact fun e => h (by rw [e]; exact List.mem_cons_self)
          rw [List.filterMap_cons, List.filterMap_cons, List.lookup_cons, e, ih fun q => h (List.mem_cons_of_mem _ q)]
      exact this ps nd'.1
theorem bind_plain {x qual : Str} {as : List Arg} {body : List Stmt} {scope : Scope} {kV doc pm : Value} {an : Option Addr} {cdv ct : Value} (nd : (as.map (·.arg)).Nodup) (us : List Value) (hl : us.length = (as.map (·.arg)).length) :
    bindArgs (PySem.W.fnOf x qual ⟨[], as, none, [], [], none, []⟩ body scope .none kV doc pm an cdv ct) ⟨us, []⟩ = pure ((as.map (·.arg)).zip us) := by
  have h1 := look_zip hl
  have h2 := zip_map hl nd
  have h3 : ((as.map (·.arg)).filter fun n => (((as.map (·.arg)).zip us).lookup n).isNone) = [] := by
    rw [List.filter_eq_nil_iff]
    intro a ha
    rw [h1 a ha]
    decide
  unfold bindArgs PySem.W.fnOf
  simp only [List.map_nil, List.nil_append, List.append_nil, seqItems?]
  have e1 : ∀ α (k : Option (Array Value) → Sem α), (notAStandIn Value.none >>= fun _ => (pure none : Sem (Option (Array Value)))) >>= k = k none := fun _ _ => rfl
  simp only [List.forIn_nil, pure_bind, e1, Option.getD, gt_iff_lt, hl, Nat.lt_irrefl, decide_false, Bool.false_and, Bool.false_eq_true, if_false, List.length_nil, Nat.zero_sub, List.drop_nil, Nat.sub_zero, List.take_length, h3, List.isEmpty_nil, Bool.not_true, List.drop_length, List.zip_nil_left, h2]
theorem look_out {ps : List Str} {us : List Value} {k : Str} (h : k ∉ ps) : (ps.zip us).lookup k = none := by
  induction ps generalizing us with
  | nil => rfl
  | cons p ps ih =>
    cases us with
    | nil => rfl
    | cons u us =>
      have e : (k == p) = false := by
        simp only [beq_eq_false_iff_ne, ne_eq]
        exact fun e => h (by rw [e]; exact List.mem_cons_self)
      rw [List.zip_cons_cons, List.lookup_cons, e]
      exact ih fun q => h (List.mem_cons_of_mem _ q)
/-- one keyword-only parameter, written -/
theorem bind_kw {x qual : Str} {as : List Arg} {kk : Arg} {kd : List (Option Expr)} {body : List Stmt} {scope : Scope} {kV doc pm : Value} {an : Option Addr} {cdv ct : Value} (nd : (as.map (·.arg) ++ [kk.arg]).Nodup) (us : List Value) (w : Value) (hl : us.length = (as.map (·.arg)).length) :
    bindArgs (PySem.W.fnOf x qual ⟨[], as, none, [kk], kd, none, []⟩ body scope .none kV doc pm an cdv ct) ⟨us, [(kk.arg, w)]⟩ = pure ((as.map (·.arg) ++ [kk.arg]).zip (us ++ [w])) := by
  have hz : (as.map (·.arg) ++ [kk.arg]).zip (us ++ [w]) = (as.map (·.arg)).zip us ++ [(kk.arg, w)] := by rw [List.zip_append hl.symm]; rfl
  have hl2 : (us ++ [w]).length = (as.map (·.arg) ++ [kk.arg]).length := by simp [hl]
  have h1 := look_zip hl2
  have h2 := zip_map hl2 nd
  rw [hz] at h1 h2 ⊢
  have hk : ((as.map (·.arg)).zip us).lookup kk.arg = none := look_out fun h => by
    exact (List.nodup_append.mp nd).2.2 _ h _ (List.mem_singleton.mpr rfl) rfl
  have h3 : ((as.map (·.arg)).filter fun n => (((as.map (·.arg)).zip us ++ [(kk.arg, w)]).lookup n).isNone) = [] := by
    rw [List.filter_eq_nil_iff]
    intro a ha
    rw [h1 a (List.mem_append_left _ ha)]
    decide
  have h4 : (((as.map (·.arg)).zip us ++ [(kk.arg, w)]).lookup kk.arg).isNone = false := h1 _ (by simp)
  unfold bindArgs PySem.W.fnOf
  simp only [List.map_nil, List.nil_append, List.append_nil, seqItems?]
  have e1 : ∀ α (k : Option (Array Value) → Sem α), (notAStandIn Value.none >>= fun _ => (pure none : Sem (Option (Array Value)))) >>= k = k none := fun _ _ => rfl
  have hc : ([kk.arg].contains kk.arg) = true := by simp
  simp only [List.map_cons, List.map_nil, List.forIn_cons, List.forIn_nil, pure_bind, e1, hc, Bool.or_true, if_true, hk, Option.isSome_none, Bool.false_eq_true, if_false, Option.getD, gt_iff_lt, hl, Nat.lt_irrefl, decide_false, Bool.false_and, List.length_nil, Nat.zero_sub, List.drop_nil, Nat.sub_zero, List.take_length, h3, List.isEmpty_nil, Bool.not_true, List.drop_length, List.zip_nil_left, h4, h2]
end VM

/-! The package as data; what the head tells of it. -/
namespace VM
open PySem PySem.Spec PyProof.Rows L2
inductive Kd where
  | glob | meth (c : Nat) | prop (c : Nat)
/-- a function of the text -/
structure PF where
  id : Nat
  kd : Kd
  name : Str
  st : Stmt
  qual : Str
  ps : List Str
  N : List Str
  fd : FD
  kw : List (Str × He.Dv) := []
/-- a class, its fields -/
structure PC where
  id : Nat
  name : Str
  fs : List Nat
structure PG0 where
  id : Nat
  name : Str
  val : Int
structure Pk where
  fs : List PF
  cs : List PC
  flds : List Str
  gs : List PG0
def Pk.find (p : Pk) (f : Nat) : Option PF := p.fs.find? fun x => x.id == f
/-- the module's statement of a name -/
def sDef (x : Str) : List Stmt → Stmt
  | [] => .Pass ⟨0, 0, 0, 0⟩
  | s :: r => match s with
    | .FunctionDef n _ _ _ _ _ _ _ _ _ => if n = x then s else sDef x r
    | _ => sDef x r
def sCls (c x : Str) : List Stmt → Stmt
  | [] => .Pass ⟨0, 0, 0, 0⟩
  | s :: r => match s with
    | .ClassDef n _ _ b _ _ _ _ _ _ _ => if n = c then sDef x b else sCls c x r
    | _ => sCls c x r
/-- only positional parameters, no defaults -/
def plainP (a : Arguments) (ps : List Str) : Bool := match a with
  | ⟨[], as, none, [], [], none, []⟩ => decide (as.map (·.arg) = ps)
  | _ => false
/-- .. and one keyword-only one -/
def kwP (a : Arguments) (ps : List Str) (k : Str) : Bool := match a with
  | ⟨[], as, none, [kk], _, none, []⟩ => decide (as.map (·.arg) ++ [kk.arg] = ps) && decide (kk.arg = k)
  | _ => false
def PF.plain (p : PF) : Bool := p.kw.isEmpty && plainP (defArgs p.st) p.ps
def Pk.cfind (p : Pk) (c : Nat) : Option PC := p.cs.find? fun x => x.id == c
def Pk.gfind (p : Pk) (c : Nat) : Option PG0 := p.gs.find? fun x => x.id == c
def Pk.cname (p : Pk) (c : Nat) : Str := match p.cfind c with
  | some x => x.name
  | none => "?"
def Pk.fld (p : Pk) (n : Nat) : Str := match p.flds[n]? with
  | some x => x
  | none => ⟨(List.replicate (n + 1) 0).toArray⟩
def initS : Str := "__init__"
def Pk.nm (p : Pk) : Nm where
  fname f := match p.find f with
    | some x => x.name
    | none => "?"
  cname := p.cname
  fld := p.fld
  gname g := match p.gfind g with
    | some x => x.name
    | none => "?"
  gval g := match p.gfind g with
    | some x => some x.val
    | none => none
  has f := (p.find f).isSome
  glob f := match p.find f with
    | some x => (match x.kd with
      | .glob => x.plain
      | _ => false)
    | none => false
  met c f := match p.find f with
    | some x => (match x.kd with
      | .meth d => d == c && x.plain && !decide (x.name = initS)
      | _ => false)
    | none => false
  prp c f := match p.find f with
    | some x => (match x.kd with
      | .prop d => d == c && x.plain
      | _ => false)
    | none => false
  mak c f := match p.find f with
    | some x => (match x.kd with
      | .meth d => d == c && x.plain && decide (x.name = initS)
      | _ => false)
    | none => false
  makK c f := match p.find f with
    | some x => (match x.kd with
      | .meth d => d == c && !x.kw.isEmpty && decide (x.name = initS)
      | _ => false)
    | none => false
  pos f := match p.find f with
    | some x => x.plain
    | none => false
  cl _ := false
  nof c f := match p.cfind c with
    | some x => x.fs.contains f
    | none => false
  arity f := match p.find f with
    | some x => x.ps.length
    | none => 0
  kwn f := match p.find f with
    | some x => (match x.kw with
      | [(k, _)] => k
      | _ => "?")
    | none => "?"
/-! ### where the objects stand -/
def pgA (K : PySem.W.Frag) (C : Addr) (m : Str) : Addr := match PySem.W.recIn K (He.ma K C m) "property" with
  | some (.ref g :: _) => g
  | _ => 0
def Pk.clsA (p : Pk) (K : PySem.W.Frag) (c : Nat) : Addr := He.ga K (p.cname c)
def PF.ad (p : Pk) (K : PySem.W.Frag) (x : PF) : Addr := match x.kd with
  | .glob => He.ga K x.name
  | .meth c => He.ma K (p.clsA K c) x.name
  | .prop c => pgA K (p.clsA K c) x.name
def Pk.fa (p : Pk) (K : PySem.W.Frag) (f : Nat) : Addr := match p.find f with
  | some x => x.ad p K
  | none => 0
def fnAt (K : PySem.W.Frag) (a : Addr) : He.FnW := match K.lookup a with
  | some ⟨_, _, .func fd, _⟩ => some (fd.name, fd.qualname, fd.params, fd.body, fd.scope, fd.globals, fd.closure, fd.builtins)
  | _ => none
def PF.val (x : PF) : He.FnW := some (x.name, x.qual, defArgs x.st, .stmts (defBody x.st), defScope x.st, mainGlobals, [], builtinsNs)
def PF.kws (K : PySem.W.Frag) (x : PF) : List (Str × V) := x.kw.map fun q => (q.1, q.2.v K)
def PF.okAt (p : Pk) (K : PySem.W.Frag) (x : PF) : Bool := PySem.W.keepIn K (.ref (x.ad p K)) && (match K.lookup (x.ad p K) with
  | some ⟨_, _, .func fd, _⟩ => PySem.W.codeIn K fd.code x.qual && (He.dflB K fd.defaults [] && He.kwdB K fd.kwdefaults (x.kws K))
  | _ => false)
theorem PF.funD {p : Pk} {K : PySem.W.Frag} {x : PF} (e : fnAt K (x.ad p K) = x.val) (c : x.okAt p K = true) : ∃ fd, FunD K x.name x.qual (defArgs x.st) (defBody x.st) (defScope x.st) [] (x.kws K) (x.ad p K) fd := by
  obtain ⟨kp, c2⟩ := He.ba c
  unfold fnAt at e
  cases q : K.lookup (x.ad p K) with
  | none =>
    rw [q] at c2
    cases c2
  | some o =>
    obtain ⟨oc, od, dt, osl⟩ := o
    rw [q] at c2 e
    cases dt with
    | func fd =>
      obtain ⟨n1, n2, n3, n4, n5, n6, n7, n8, n9, n10, n11, n12, n13, n14, n15⟩ := fd
      have e2 : (some (n1, n2, n3, n4, n5, n6, n7, n15) : He.FnW) = some (x.name, x.qual, defArgs x.st, .stmts (defBody x.st), defScope x.st, mainGlobals, [], builtinsNs) := e
      simp only [Option.some.injEq, Prod.mk.injEq] at e2
      obtain ⟨h1, h2, h3, h4, h5, h6, h7, h8⟩ := e2
      subst h1 h2 h3 h4 h5 h6 h7 h8
      have c3 : (PySem.W.codeIn K n13 x.qual && (He.dflB K n8 [] && He.kwdB K n9 (x.kws K))) = true := c2
      obtain ⟨k1, k2⟩ := He.ba c3
      obtain ⟨k3, k4⟩ := He.ba k2
      exact ⟨_, ⟨oc, od, n8, n9, n10, n11, n12, n13, n14, osl, rfl, q, k1, He.dflB_ok k3, He.kwdB_ok k4⟩, kp⟩
    | _ => cases c2
def propB (K : PySem.W.Frag) (C : Addr) (m : Str) : Bool :=
  He.eqO (PySem.W.findIn K (.ref C) m) (some (some (.ref (He.ma K C m)))) && (He.eqO (PySem.W.specialIn K (.ref (He.ma K C m)) "__get__") (some (some (.builtin "property.__get__"))) && (decide (PySem.W.takesIn K (.ref (He.ma K C m)) = some true) &&
    match PySem.W.recIn K (He.ma K C m) "property" with
    | some (.ref _ :: _) => true
    | _ => false))
theorem propB_ok {K : PySem.W.Frag} {C : Addr} {m : Str} (h : propB K C m = true) : PropOf K C m (He.ma K C m) (pgA K C m) := by
  obtain ⟨h1, h⟩ := He.ba h
  obtain ⟨h2, h⟩ := He.ba h
  obtain ⟨h3, h4⟩ := He.ba h
  refine ⟨He.eqO_ok h1, He.eqO_ok h2, of_decide_eq_true h3, ?_⟩
  unfold pgA
  split at h4
  · rename_i e
    rw [e]
    exact ⟨_, rfl⟩
  · cases h4
def PF.link (p : Pk) (K : PySem.W.Frag) (x : PF) : Bool := match x.kd with
  | .glob => (He.Fa.glo x.name).ok K
  | .meth c => if x.name = initS then (He.Fa.mkr (p.cname c)).ok K && (He.Fa.glo (p.cname c)).ok K else (He.Fa.cls (p.cname c)).ok K && (He.Fa.meth (p.cname c) x.name).ok K
  | .prop c => (He.Fa.cls (p.cname c)).ok K && propB K (p.clsA K c) x.name
/-- all that is asked of the heap -/
def Pk.okK (p : Pk) (K : PySem.W.Frag) : Bool := (p.fs.all fun x => x.okAt p K && x.link p K) && ((p.cs.all fun c => (He.Fa.cls c.name).ok K && c.fs.all fun f => (He.Fa.noat c.name (p.fld f)).ok K) && ((frees.all fun x => (He.Fa.free x).ok K) && p.gs.all fun g => (He.Fa.int g.name g.val).ok K))
abbrev AlP : Type := Bool × List He.FnW
def Pk.obs (p : Pk) (K : PySem.W.Frag) : AlP := (p.okK K, p.fs.map fun x => fnAt K (x.ad p K))
def Pk.valA (p : Pk) : AlP := (true, p.fs.map PF.val)
def Pk.Says (p : Pk) (K : PySem.W.Frag) : Prop := p.obs K = p.valA
def Pk.obsG (p : Pk) (n : Nat) (g : Addr → Option Obj) : AlP := p.obs (He.frT g (He.asD g n))
def Pk.hook (p : Pk) (n : Nat) : PySem.W.Hook where
  α := AlP
  obs := fun s => p.obsG n s.heap.get?
  val := fun _ => p.valA
  says := fun _ h => ∃ K : PySem.W.Frag, K.In h ∧ p.Says K
  of := fun _ _ e => ⟨_, He.frT_in, e⟩
  keeps := fun _ _ _ ⟨K, hK, c⟩ k => ⟨K, PySem.W.Frag.In.keeps hK k, c⟩
theorem Pk.obsG_eq {p : Pk} {n : Nat} {g : Addr → Option Obj} {s : Shared} (h : ∀ a, g a = s.heap.get? a) : p.obsG n g = (p.hook n).obs s := by
  have e : g = s.heap.get? := funext h
  rw [e] <;> rfl
/-! ### what the text itself must keep -/
def scopeB (N ps : List Str) (sc : Scope) : Bool := (match sc.kind with | .function => true | _ => false) && (!sc.isCoroutine && (!sc.isGenerator && (decide N.Nodup && (decide (N.take ps.length = ps) && ((ps.all fun x => loc sc x) && sc.names.all fun y => match y.2 with | .free => false | _ => true)))))
theorem scopeB_ok {N ps : List Str} {sc : Scope} (h : scopeB N ps sc = true) : FnScope N ps sc := by
  obtain ⟨h1, h⟩ := He.ba h
  obtain ⟨h2, h⟩ := He.ba h
  obtain ⟨h3, h⟩ := He.ba h
  obtain ⟨h4, h⟩ := He.ba h
  obtain ⟨h5, h⟩ := He.ba h
  obtain ⟨h6, h7⟩ := He.ba h
  refine ⟨?_, by simpa using h2, by simpa using h3, of_decide_eq_true h4, of_decide_eq_true h5, fun x hx => loc_of (List.all_eq_true.mp h6 x hx), fun y hy e => ?_⟩
  · split at h1
    · assumption
    · cases h1
  · have := List.all_eq_true.mp h7 y hy
    rw [e] at this
    cases this
def bareN (x : Str) : Bool := !(x == ("__debug__" : Str)) && match x.cps.toList with
  | [] => false
  | a :: _ => !(a == 0)
def PF.txt (p : Pk) (x : PF) : Bool := scopeB x.N x.ps (defScope x.st) && (decide (x.fd.slots = x.N.length) && (chkSL p.nm x.N x.fd.body (defScope x.st) (defBody x.st) && (bareN x.name && ((match x.kd with | .meth _ => !decide (x.name ∈ p.flds) | _ => true) && (decide x.ps.Nodup && (x.plain || match x.kw with | [(k, _)] => kwP (defArgs x.st) x.ps k | _ => false))))))
def Pk.txt (p : Pk) : Bool := (p.fs.all fun x => x.txt p) && (decide p.flds.Nodup && ((p.flds.all bareN) && ((p.cs.all fun c => bareN c.name) && (p.gs.all fun g => bareN g.name))))
end VM

namespace VM
open PySem PySem.Spec PyProof.Rows L2
def noFd : FuncData := PySem.W.fnOf "?" "?" ⟨[], [], none, [], [], none, []⟩ [] (defScope (.Pass ⟨0, 0, 0, 0⟩)) .none .none .none .none none .none .none
def fdAt (K : PySem.W.Frag) (a : Addr) : FuncData := match K.lookup a with
  | some ⟨_, _, .func fd, _⟩ => fd
  | _ => noFd
def Pk.fps (p : Pk) (f : Nat) : List Str := match p.find f with
  | some x => x.ps
  | none => []
def Pk.T (p : Pk) (f : Nat) : Option FD := (p.find f).map (·.fd)
def Pk.md (p : Pk) (P : Program) (w : World) (K : PySem.W.Frag) (mg : Str → Option Value) (base : Heap) : Md where
  P := P
  w := w
  K := K
  mg := mg
  base := base
  nm := p.nm
  cls := p.clsA K
  fa := p.fa K
  fd := fun f => fdAt K (p.fa K f)
  fps := p.fps
section
variable {p : Pk} {K : PySem.W.Frag} (c : p.Says K)
theorem find_mem {f : Nat} {x : PF} (h : p.find f = some x) : x ∈ p.fs := List.mem_of_find?_eq_some h
theorem map_at {α β : Type} {f g : α → β} : ∀ {l : List α}, l.map f = l.map g → ∀ x ∈ l, f x = g x
  | [], _, _, h => by cases h
  | a :: l, e, x, h => by
    rw [List.map_cons, List.map_cons, List.cons.injEq] at e
    rcases List.mem_cons.mp h with h | h
    · rw [h]; exact e.1
    · exact map_at e.2 x h
include c
theorem Pk.Says.k : p.okK K = true := congrArg (fun z : AlP => z.1) c
theorem Pk.Says.f {x : PF} (h : x ∈ p.fs) : fnAt K (x.ad p K) = x.val ∧ x.okAt p K = true ∧ x.link p K = true := by
  obtain ⟨h1, h2⟩ := He.ba c.k
  obtain ⟨h3, h4⟩ := He.ba (List.all_eq_true.mp h1 x h)
  exact ⟨map_at (show p.fs.map (fun x => fnAt K (x.ad p K)) = p.fs.map PF.val from congrArg (fun z : AlP => z.2) c) x h, h3, h4⟩
theorem Pk.Says.funD {x : PF} (h : x ∈ p.fs) : FunD K x.name x.qual (defArgs x.st) (defBody x.st) (defScope x.st) [] (x.kws K) (x.ad p K) (fdAt K (x.ad p K)) := by
  obtain ⟨h1, h2, _⟩ := c.f h
  obtain ⟨fd, F⟩ := PF.funD h1 h2
  obtain ⟨oc, od, dV, kV, doc, pm, an, cdv, ct, osl, _, lk, _⟩ := F.ex
  have e : fdAt K (x.ad p K) = fd := by unfold fdAt; rw [lk]
  rw [e]
  exact F
theorem Pk.Says.cls {n f : Nat} (h : p.nm.nof n f = true) : Cls K (p.clsA K n) ∧ NoAttr K (p.clsA K n) (p.fld f) := by
  obtain ⟨h1, h2⟩ := He.ba c.k
  obtain ⟨h3, h4⟩ := He.ba h2
  have h : (match p.cfind n with
    | some x => x.fs.contains f
    | none => false) = true := h
  unfold Pk.clsA Pk.cname
  cases e : p.cfind n with
  | none => rw [e] at h; cases h
  | some x =>
    rw [e] at h
    obtain ⟨h5, h6⟩ := He.ba (List.all_eq_true.mp h3 _ (List.mem_of_find?_eq_some e))
    exact ⟨He.cls_ok h5, He.noat_ok (List.all_eq_true.mp h6 f (by simpa using h))⟩
theorem Pk.Says.ends : (∀ x ∈ frees, (He.Fa.free x).ok K = true) ∧ ∀ g ∈ p.gs, (He.Fa.int g.name g.val).ok K = true := by
  obtain ⟨h1, h2⟩ := He.ba c.k
  obtain ⟨h3, h4⟩ := He.ba h2
  obtain ⟨h5, h6⟩ := He.ba h4
  exact ⟨List.all_eq_true.mp h5, List.all_eq_true.mp h6⟩
end
theorem bareN_dbg {x : Str} (h : bareN x = true) : (x == ("__debug__" : Str)) = false := by
  obtain ⟨h1, h2⟩ := He.ba h
  simpa using h1
theorem bareN_zero {x : Str} {n : Nat} (h : bareN x = true) : x ≠ ⟨(List.replicate (n + 1) 0).toArray⟩ := by
  intro e
  obtain ⟨h1, h2⟩ := He.ba h
  rw [e] at h2
  simp [List.replicate_succ] at h2
theorem fld_inj {p : Pk} (nd : p.flds.Nodup) (hb : ∀ x ∈ p.flds, bareN x = true) {f g : Nat} (h : p.fld f = p.fld g) : f = g := by
  unfold Pk.fld at h
  cases e1 : p.flds[f]? with
  | none =>
    cases e2 : p.flds[g]? with
    | none =>
      rw [e1, e2] at h
      have := congrArg (fun s : Str => s.cps.size) h
      simpa using this
    | some y =>
      rw [e1, e2] at h
      exact absurd h.symm (bareN_zero (hb y (List.mem_of_getElem? e2)))
  | some x =>
    cases e2 : p.flds[g]? with
    | none =>
      rw [e1, e2] at h
      exact absurd h (bareN_zero (hb x (List.mem_of_getElem? e1)))
    | some y =>
      rw [e1, e2] at h
      have h : x = y := h
      subst h
      obtain ⟨h1, h2⟩ := List.getElem?_eq_some_iff.mp e1
      obtain ⟨h3, h4⟩ := List.getElem?_eq_some_iff.mp e2
      have np := List.pairwise_iff_getElem.mp nd
      rcases Nat.lt_trichotomy f g with q | q | q
      · exact absurd (h2.trans h4.symm) (np f g h1 h3 q)
      · exact q
      · exact absurd (h4.trans h2.symm) (np g f h3 h1 q)
section
variable {p : Pk} {P : Program} {w : World} {K : PySem.W.Frag} {mg : Str → Option Value} {base h : Heap} (c : p.Says K) (t : p.txt = true)
include t
theorem txt_f {x : PF} (h : x ∈ p.fs) : FnScope x.N x.ps (defScope x.st) ∧ x.fd.slots = x.N.length ∧ chkSL p.nm x.N x.fd.body (defScope x.st) (defBody x.st) = true ∧ bareN x.name = true ∧ ((match x.kd with | .meth _ => !decide (x.name ∈ p.flds) | _ => true) = true) ∧ x.ps.Nodup ∧ (x.plain = true ∨ ∃ k v, x.kw = [(k, v)] ∧ kwP (defArgs x.st) x.ps k = true) := by
  obtain ⟨h1, h2⟩ := He.ba t
  have h3 := List.all_eq_true.mp h1 x h
  obtain ⟨a1, h3⟩ := He.ba h3
  obtain ⟨a2, h3⟩ := He.ba h3
  obtain ⟨a3, h3⟩ := He.ba h3
  obtain ⟨a4, h3⟩ := He.ba h3
  obtain ⟨a5, h3⟩ := He.ba h3
  obtain ⟨a6, h3⟩ := He.ba h3
  refine ⟨scopeB_ok a1, of_decide_eq_true a2, a3, a4, a5, of_decide_eq_true a6, ?_⟩
  rcases Bool.or_eq_true_iff.mp h3 with h4 | h4
  · exact .inl h4
  · refine .inr ?_
    split at h4
    · rename_i k v e
      exact ⟨k, v, e, h4⟩
    · cases h4
theorem txt_g : p.flds.Nodup ∧ (∀ x ∈ p.flds, bareN x = true) ∧ (∀ x ∈ p.cs, bareN x.name = true) ∧ ∀ g ∈ p.gs, bareN g.name = true := by
  obtain ⟨h1, h2⟩ := He.ba t
  obtain ⟨a1, h2⟩ := He.ba h2
  obtain ⟨a2, h2⟩ := He.ba h2
  obtain ⟨a3, h2⟩ := He.ba h2
  exact ⟨of_decide_eq_true a1, List.all_eq_true.mp a2, List.all_eq_true.mp a3, List.all_eq_true.mp h2⟩
include c
theorem plain_binds {x : PF} (h : x ∈ p.fs) (hp : x.plain = true) : Binds K (fdAt K (x.ad p K)) x.ps [] := by
  have F := c.funD h
  obtain ⟨_, _, _, _, _, nd, _⟩ := txt_f t h
  obtain ⟨h1, h2⟩ := He.ba hp
  have hk : x.kw = [] := List.isEmpty_iff.mp h1
  unfold plainP at h2
  split at h2
  · rename_i as e
    have e2 := of_decide_eq_true h2
    rw [e] at F
    refine F.bindsN fun kV doc pm an cdv ct us hl => ?_
    rw [← e2] at hl nd ⊢
    exact bind_plain nd us hl
  · cases h2
theorem kw_binds {x : PF} (h : x ∈ p.fs) {k : Str} {v : He.Dv} (hw : x.kw = [(k, v)]) (hp : kwP (defArgs x.st) x.ps k = true) : KBn K (fdAt K (x.ad p K)) x.ps (x.ps.length - 1) [k] (fun us ws => us ++ ws) (fun vs zs => vs ++ zs) := by
  have F := c.funD h
  obtain ⟨_, _, _, _, _, nd, _⟩ := txt_f t h
  unfold kwP at hp
  split at hp
  · rename_i as kk kd e
    obtain ⟨e2, e3⟩ := He.ba hp
    have e2 := of_decide_eq_true e2
    have e3 := of_decide_eq_true e3
    rw [e] at F
    subst e3
    have hkw : x.kws K ≠ [] := by
      unfold PF.kws
      rw [hw]
      exact List.cons_ne_nil _ _
    obtain ⟨mv, hB⟩ := FunD.kbinds0 (ps := x.ps) F (x.ps.length - 1) [kk.arg] [] (fun vs _ zs => vs ++ zs) hkw (fun q hq => by cases hq) (fun r1 _ r3 => r1.append r3) fun D doc pm an cdv ct us mv ws l1 l2 l3 => by
      obtain ⟨w, rfl⟩ : ∃ w, ws = [w] := by
        match ws, l3 with
        | [w], _ => exact ⟨w, rfl⟩
      rw [← e2] at nd l1 ⊢
      show bindArgs _ _ = _
      exact bind_kw nd us w (by rw [l1, List.length_append]; rfl)
    exact hB
  · cases hp
variable (X : K.In h) (G : h.Ns mainGlobals mg)
include X G
theorem Pk.stat : Stat (p.md P w K mg base) := by
  have look : ∀ f, (p.nm.has f = true → ∃ x, p.find f = some x ∧ x ∈ p.fs) := fun f hf => by
    cases e : p.find f with
    | none =>
      have : (p.find f).isSome = true := hf
      rw [e] at this
      cases this
    | some x => exact ⟨x, rfl, find_mem e⟩
  obtain ⟨g1, g2, g3, g4⟩ := txt_g t
  refine ⟨?kp, ?bd, ?fn, ?fdb, ?cdb, ?mt, ?pr, ?mkr, ?mkk, ?ar, ?no, ?fi, ?cl, ?free, ?glb, ?gdb⟩
  case kp =>
    intro f hf
    obtain ⟨x, e, hx⟩ := look f hf
    show PySem.W.keepIn K (.ref (p.fa K f)) = true
    unfold Pk.fa
    rw [e]
    exact (c.funD hx).kp
  case bd =>
    intro f hf
    have hf : (match p.find f with
      | some x => x.plain
      | none => false) = true := hf
    show Binds K (fdAt K (p.fa K f)) (p.fps f) []
    unfold Pk.fa Pk.fps
    cases e : p.find f with
    | none => rw [e] at hf; cases hf
    | some x =>
      rw [e] at hf
      exact plain_binds c t (find_mem e) hf
  case fn =>
    intro f hf
    have hf : (match p.find f with
      | some x => (match x.kd with
        | .glob => x.plain
        | _ => false)
      | none => false) = true := hf
    show mg (p.nm.fname f) = some (.ref (p.fa K f)) ∧ (p.find f).isSome = true ∧ p.nm.pos f = true
    unfold Pk.fa Pk.nm
    dsimp only
    cases e : p.find f with
    | none => rw [e] at hf; cases hf
    | some x =>
      rw [e] at hf
      dsimp only at hf ⊢
      have hl := (c.f (find_mem e)).2.2
      unfold PF.link at hl
      cases ek : x.kd with
      | glob =>
        rw [ek] at hf hl
        refine ⟨?_, rfl, hf⟩
        unfold PF.ad
        rw [ek]
        exact He.glo_ok X G hl
      | meth _ => rw [ek] at hf; cases hf
      | prop _ => rw [ek] at hf; cases hf
  case fdb =>
    intro f
    show (p.nm.fname f == ("__debug__" : Str)) = false
    unfold Pk.nm
    dsimp only
    cases e : p.find f with
    | none => decide +kernel
    | some x => exact bareN_dbg (txt_f t (find_mem e)).2.2.2.1
  case cdb =>
    intro n
    show (p.cname n == ("__debug__" : Str)) = false
    unfold Pk.cname
    cases e : p.cfind n with
    | none => decide +kernel
    | some x => exact bareN_dbg (g3 x (List.mem_of_find?_eq_some e))
  case mt =>
    intro n f hf
    have hf : (match p.find f with
      | some x => (match x.kd with
        | .meth d => d == n && x.plain && !decide (x.name = initS)
        | _ => false)
      | none => false) = true := hf
    show Cls K (p.clsA K n) ∧ Meth K (p.clsA K n) (p.nm.fname f) (p.fa K f) ∧ (p.find f).isSome = true ∧ p.nm.pos f = true ∧ ∀ g, p.fld g ≠ p.nm.fname f
    unfold Pk.fa Pk.nm
    dsimp only
    cases e : p.find f with
    | none => rw [e] at hf; cases hf
    | some x =>
      rw [e] at hf
      dsimp only at hf ⊢
      have hl := (c.f (find_mem e)).2.2
      unfold PF.link at hl
      cases ek : x.kd with
      | glob => rw [ek] at hf; cases hf
      | prop _ => rw [ek] at hf; cases hf
      | meth d =>
        rw [ek] at hf hl
        dsimp only at hf hl
        obtain ⟨hf, h3⟩ := He.ba hf
        obtain ⟨h1, h2⟩ := He.ba hf
        have ed := eq_of_beq h1
        subst ed
        have hn : x.name ≠ initS := by simpa using h3
        rw [if_neg hn] at hl
        obtain ⟨l1, l2⟩ := He.ba hl
        obtain ⟨_, _, _, b1, b2, _⟩ := txt_f t (find_mem e)
        refine ⟨He.cls_ok l1, ?_, rfl, h2, fun g => ?_⟩
        · unfold PF.ad
          rw [ek]
          exact He.meth_ok l2
        · unfold Pk.fld
          cases eg : p.flds[g]? with
          | none => exact fun q => bareN_zero b1 q.symm
          | some y =>
            rw [ek] at b2
            have b3 : x.name ∉ p.flds := by simpa using b2
            exact fun q => b3 (q ▸ List.mem_of_getElem? eg)
  case pr =>
    intro n f hf
    have hf : (match p.find f with
      | some x => (match x.kd with
        | .prop d => d == n && x.plain
        | _ => false)
      | none => false) = true := hf
    show Cls K (p.clsA K n) ∧ (∃ q, PropOf K (p.clsA K n) (p.nm.fname f) q (p.fa K f)) ∧ (p.find f).isSome = true ∧ p.nm.pos f = true
    unfold Pk.fa Pk.nm
    dsimp only
    cases e : p.find f with
    | none => rw [e] at hf; cases hf
    | some x =>
      rw [e] at hf
      dsimp only at hf ⊢
      have hl := (c.f (find_mem e)).2.2
      unfold PF.link at hl
      cases ek : x.kd with
      | glob => rw [ek] at hf; cases hf
      | meth _ => rw [ek] at hf; cases hf
      | prop d =>
        rw [ek] at hf hl
        dsimp only at hf hl
        obtain ⟨h1, h2⟩ := He.ba hf
        have ed := eq_of_beq h1
        subst ed
        obtain ⟨l1, l2⟩ := He.ba hl
        refine ⟨He.cls_ok l1, ?_, rfl, h2⟩
        unfold PF.ad
        rw [ek]
        exact ⟨_, propB_ok l2⟩
  case mkr =>
    intro n f hf
    have hf : (match p.find f with
      | some x => (match x.kd with
        | .meth d => d == n && x.plain && decide (x.name = initS)
        | _ => false)
      | none => false) = true := hf
    show Mk K (p.clsA K n) (p.fa K f) ∧ mg (p.cname n) = some (.ref (p.clsA K n)) ∧ (p.find f).isSome = true ∧ p.nm.pos f = true
    unfold Pk.fa Pk.nm
    dsimp only
    cases e : p.find f with
    | none => rw [e] at hf; cases hf
    | some x =>
      rw [e] at hf
      dsimp only at hf ⊢
      have hl := (c.f (find_mem e)).2.2
      unfold PF.link at hl
      cases ek : x.kd with
      | glob => rw [ek] at hf; cases hf
      | prop _ => rw [ek] at hf; cases hf
      | meth d =>
        rw [ek] at hf hl
        dsimp only at hf hl
        obtain ⟨hf, h3⟩ := He.ba hf
        obtain ⟨h1, h2⟩ := He.ba hf
        have ed := eq_of_beq h1
        subst ed
        have hn : x.name = initS := of_decide_eq_true h3
        rw [if_pos hn] at hl
        obtain ⟨l1, l2⟩ := He.ba hl
        refine ⟨?_, He.glo_ok X G l2, rfl, h2⟩
        unfold PF.ad
        rw [ek]
        dsimp only
        rw [hn]
        exact He.mkr_ok l1
  case mkk =>
    intro n f hf
    have hf : (match p.find f with
      | some x => (match x.kd with
        | .meth d => d == n && !x.kw.isEmpty && decide (x.name = initS)
        | _ => false)
      | none => false) = true := hf
    show Mk K (p.clsA K n) (p.fa K f) ∧ mg (p.cname n) = some (.ref (p.clsA K n)) ∧ (p.find f).isSome = true ∧ KBn K (fdAt K (p.fa K f)) (p.fps f) (p.nm.arity f - 1) [p.nm.kwn f] (fun us ws => us ++ ws) (fun vs zs => vs ++ zs)
    unfold Pk.fa Pk.nm Pk.fps
    dsimp only
    cases e : p.find f with
    | none => rw [e] at hf; cases hf
    | some x =>
      rw [e] at hf
      dsimp only at hf ⊢
      have hl := (c.f (find_mem e)).2.2
      unfold PF.link at hl
      cases ek : x.kd with
      | glob => rw [ek] at hf; cases hf
      | prop _ => rw [ek] at hf; cases hf
      | meth d =>
        rw [ek] at hf hl
        dsimp only at hf hl
        obtain ⟨hf, h3⟩ := He.ba hf
        obtain ⟨h1, h2⟩ := He.ba hf
        have ed := eq_of_beq h1
        subst ed
        have hn : x.name = initS := of_decide_eq_true h3
        rw [if_pos hn] at hl
        obtain ⟨l1, l2⟩ := He.ba hl
        have h2' : x.kw ≠ [] := by
          intro q
          rw [q] at h2
          cases h2
        refine ⟨?_, He.glo_ok X G l2, rfl, ?_⟩
        · unfold PF.ad
          rw [ek]
          dsimp only
          rw [hn]
          exact He.mkr_ok l1
        · rcases (txt_f t (find_mem e)).2.2.2.2.2.2 with q | ⟨k, v, q1, q2⟩
          · have := List.isEmpty_iff.mp (He.ba q).1
            exact absurd this h2'
          · rw [q1]
            exact kw_binds c t (find_mem e) q1 q2
  case ar =>
    intro f hf
    obtain ⟨x, e, hx⟩ := look f hf
    show (p.fps f).length = p.nm.arity f
    unfold Pk.fps Pk.nm
    dsimp only
    rw [e]
  case no => exact fun n f hf => c.cls hf
  case fi => exact fun f g q => fld_inj g1 g2 q
  case cl => exact fun _ q => by cases q
  case free => exact fun x hx => He.free_ok X G (c.ends.1 x hx)
  case glb =>
    intro g b hg
    have hg : (match p.gfind g with
      | some x => some x.val
      | none => none) = some b := hg
    show ∃ t, mg (match p.gfind g with
      | some x => x.name
      | none => "?") = some (.int b t)
    cases e : p.gfind g with
    | none => rw [e] at hg; cases hg
    | some x =>
      rw [e] at hg
      cases hg
      exact He.int_ok X G (c.ends.2 x (List.mem_of_find?_eq_some e))
  case gdb =>
    intro g
    show ((match p.gfind g with
      | some x => x.name
      | none => "?") == ("__debug__" : Str)) = false
    cases e : p.gfind g with
    | none => decide +kernel
    | some x => exact bareN_dbg (g4 x (List.mem_of_find?_eq_some e))
theorem Pk.all : ∀ k, Facts (p.md P w K mg base) k (Fn p.T k) := by
  refine all_ok (Pk.stat c t X G) fun f hf => ?_
  have hf : (p.find f).isSome = true := hf
  cases e : p.find f with
  | none => rw [e] at hf; cases hf
  | some x =>
    obtain ⟨b1, b2, b3, _⟩ := txt_f t (find_mem e)
    refine ⟨x.fd, x.name, x.qual, defArgs x.st, defBody x.st, defScope x.st, [], x.kws K, x.N, ?_, ?_, ?_, b2, b3⟩
    · show (p.find f).map _ = _
      rw [e]
      rfl
    · show FunD K _ _ _ _ _ _ _ (p.fa K f) (fdAt K (p.fa K f))
      unfold Pk.fa
      rw [e]
      exact c.funD (find_mem e)
    · show FnScope x.N (p.fps f) _
      unfold Pk.fps
      rw [e]
      exact b1
end
end VM

namespace VM
open PySem PySem.Spec PyProof.Rows L2
def st0 : Store := ⟨0, fun _ => none⟩
theorem law_F {p : Pk} {l : PySem.W.OpenLaw} {lawId kk : Nat} {x : PF} (t : p.txt = true) (hx : p.find lawId = some x) (hk : (match x.kd with | .glob => x.plain | _ => false) = true) (hps : x.ps = [("script" : Str)])
    (hlaw : ∀ ns : List Int, ns.length ≤ 63 → Fn p.T kk lawId [.scr ns] st0 (fun v _ => v = .bool true) noX) {w : World} {mg : Str → Option Value} {fa : Addr} {h : Heap} (Y : ∃ K : PySem.W.Frag, K.In h ∧ p.Says K) (G : h.Ns mainGlobals mg) (hmg : mg x.name = some (.ref fa)) :
    ∃ (K : PySem.W.Frag) (fd : FuncData) (sp : Sp), K.In h ∧ (∀ (s : Shared) (u : Value), BindsTo s fd ⟨[u], []⟩ [("script", u)]) ∧
        (∀ (H : Hp) (a : Addr) (ns : List Int), ns.length ≤ 63 → Only H → SqL K H a (ns.map V.int) → sp [.ref a] H (fun v _ => v = .bl true) fun _ _ _ => False) ∧
        ∀ base : Heap, K.In base → base.Ns mainGlobals mg → FnOk l.prog w K mg base CX0 (2 * kk) fa fd ["script"] sp := by
  obtain ⟨K, KX, c⟩ := Y
  have mem := find_mem hx
  have F := c.funD mem
  have all := fun base k => Pk.all (P := l.prog) (w := w) (base := base) c t KX G k
  have hglob : p.nm.glob lawId = true := by
    show (match p.find lawId with
      | some x => (match x.kd with
        | .glob => x.plain
        | _ => false)
      | none => false) = true
    rw [hx]
    exact hk
  have hpl : x.plain = true := by
    split at hk
    · exact hk
    · cases hk
  have hadr : p.fa K lawId = x.ad p K := by
    unfold Pk.fa
    rw [hx]
  have hfa : fa = p.fa K lawId := by
    have h1 := (all (h) 0).fn lawId hglob
    have h2 : mg (p.nm.fname lawId) = some (.ref (p.fa K lawId)) := h1.1
    have h3 : p.nm.fname lawId = x.name := by
      unfold Pk.nm
      dsimp only
      rw [hx]
    rw [h3, hmg] at h2
    cases h2
    rfl
  subst hfa
  refine ⟨K, fdAt K (p.fa K lawId), fun vs H Q E => ∀ b : Heap, spF (p.md l.prog w K mg b) (Fn p.T kk) lawId vs H Q E, KX, ?_, ?_, ?_⟩
  · obtain ⟨h1, h2⟩ := He.ba hpl
    have hkw : x.kw = [] := List.isEmpty_iff.mp h1
    have nd := (txt_f t mem).2.2.2.2.2.1
    rw [hadr]
    intro s u
    unfold plainP at h2
    split at h2
    · rename_i as e
      have e2 := of_decide_eq_true h2
      rw [e] at F
      have := F.bindsA (ps := x.ps) (fun kV doc pm an cdv ct us hl => by
        rw [← e2] at hl nd ⊢
        exact bind_plain nd us hl) s [u] (by rw [hps]; rfl)
      rw [hps] at this
      exact this
    · cases h2
  · intro H a ns hl ho hS b
    have hfps : (p.md l.prog w K mg b).fps lawId = [("script" : Str)] := by
      show p.fps lawId = _
      unfold Pk.fps
      rw [hx]
      exact hps
    refine ⟨by rw [hfps]; rfl, [.scr ns], st0, ⟨fun _ => 0, fun _ => False⟩, RepL.cons ?_ RepL.nil, ⟨?_, ?_, ?_, ?_, ?_⟩, Fn_mono p.T kk _ _ _ _ _ _ (hlaw ns hl) fun v s q => ?_⟩
    · simp only [Rep]
      refine ⟨a, rfl, ?_⟩
      have noc : Noc ⟨fun _ => 0, fun _ => False⟩ st0 a := ⟨fun n c q => (by cases q), fun q => q⟩
      rcases hS with (h1 | ⟨o, h1⟩) | h1
      · exact .inl ⟨_, h1, .inl rfl, noc⟩
      · exact .inl ⟨_, h1, .inr ⟨o, rfl⟩, noc⟩
      · exact .inr h1
    · exact fun n c q => by cases q
    · exact fun n m c d q => by cases q
    · exact fun n c q => by cases q
    · exact fun n c q => by cases q
    · exact fun q z => z.elim
    · intro j G y _ _ r
      rw [q] at r
      exact of_bool r
  · intro base KB GB
    have A := Pk.all (P := l.prog) (w := w) (base := base) c t KB GB kk
    have := A.ok lawId (by show (p.find lawId).isSome = true; rw [hx]; rfl)
    have hfps : (p.md l.prog w K mg base).fps lawId = [("script" : Str)] := by
      show p.fps lawId = _
      unfold Pk.fps
      rw [hx]
      exact hps
    rw [hfps] at this
    exact this.imp fun vs H Q E z => z base
end VM

namespace VM
/-! is_integer: value -/
def b_is_integer : FD := ⟨1, 1,
 (.cons (.ret (.and (.isin .tint (.var 0)) (.not (.isin .tbool (.var 0)))))
 .nil)⟩

/-! is_integer_in: value least most -/
def b_is_integer_in : FD := ⟨3, 3,
 (.cons (.ret (.and (.call 0 (.cons (.var 0) .nil)) (.chain .le .le (.var 1) (.var 0) (.var 2))))
 .nil)⟩

/-! is_sequence: value -/
def b_is_sequence : FD := ⟨1, 1,
 (.cons (.ret (.isin .tseq (.var 0)))
 .nil)⟩

/-! is_sequence_of: value size -/
def b_is_sequence_of : FD := ⟨2, 2,
 (.cons (.ret (.and (.call 2 (.cons (.var 0) .nil)) (.cmp .eq (.bi1 .len (.var 0)) (.var 1))))
 .nil)⟩

/-! frozen: value element -/
def b_frozen : FD := ⟨1, 2,
 (.cons (.ifs (.call 2 (.cons (.var 0) .nil)) (.cons (.ret (.bi1 .tuple (.comp [1] (.seq (.var 0)) (.name 1) .no (.call 4 (.cons (.var 1) .nil)))))
  .nil) .nil)
 (.cons (.ret (.var 0))
 .nil))⟩

/-! ascending: row at -/
def b_ascending : FD := ⟨1, 2,
 (.cons (.ret (.bi1 .all (.comp [1] (.rng1 (.bin .sub (.bi1 .len (.var 0)) (.con (.int 1)))) (.name 1) .no (.cmp .lt (.sub (.var 0) (.var 1)) (.sub (.var 0) (.bin .add (.var 1) (.con (.int 1))))))))
 .nil)⟩

/-! are_below: value many element -/
def b_are_below : FD := ⟨2, 3,
 (.cons (.ret (.and (.call 2 (.cons (.var 0) .nil)) (.bi1 .all (.comp [2] (.seq (.var 0)) (.name 2) .no (.call 1 (.cons (.var 2) (.cons (.con (.int 0)) (.cons (.bin .sub (.var 1) (.con (.int 1))) .nil))))))))
 .nil)⟩

/-! fits_order: line plan before after -/
def b_fits_order : FD := ⟨2, 4,
 (.cons (.ret (.bi1 .all (.comp [2, 3] (.seq (.prop 0 34 (.var 0))) (.cons (.name 2) (.cons (.name 3) .nil)) .no (.cmp .le (.sub (.var 1) (.var 2)) (.sub (.var 1) (.var 3))))))
 .nil)⟩

/-! is_plan_for: line stations value -/
def b_is_plan_for : FD := ⟨3, 3,
 (.cons (.ifs (.or (.not (.call 6 (.cons (.var 2) (.cons (.var 1) .nil)))) (.cmp .ne (.bi1 .len (.var 2)) (.bi1 .len (.prop 0 33 (.var 0))))) (.cons (.ret (.con (.bool false)))
  .nil) .nil)
 (.cons (.ret (.call 7 (.cons (.var 0) (.cons (.var 2) .nil))))
 .nil))⟩

/-! check_plan: line plan at -/
def b_check_plan : FD := ⟨3, 3,
 (.cons (.ifs (.not (.call 8 (.cons (.var 0) (.cons (.glb 0 (.int 24)) (.cons (.var 1) .nil))))) (.cons (.die)
  .nil) .nil)
 (.cons (.ret (.bi1 .tuple (.var 1)))
 .nil))⟩

/-! check_station: station at -/
def b_check_station : FD := ⟨2, 2,
 (.cons (.ifs (.not (.call 1 (.cons (.var 0) (.cons (.con (.int 0)) (.cons (.bin .sub (.glb 0 (.int 24)) (.con (.int 1))) .nil))))) (.cons (.die)
  .nil) .nil)
 .nil)⟩

/-! check_beat: beat at -/
def b_check_beat : FD := ⟨2, 2,
 (.cons (.ifs (.not (.call 1 (.cons (.var 0) (.cons (.con (.int 0)) (.cons (.glb 1 (.int 300000)) .nil))))) (.cons (.die)
  .nil) .nil)
 .nil)⟩

/-! tasks_at: plan station task place -/
def b_tasks_at : FD := ⟨2, 4,
 (.cons (.ret (.bi1 .tuple (.comp [2, 3] (.enum (.var 0)) (.cons (.name 2) (.cons (.name 3) .nil)) (.yes (.cmp .eq (.var 3) (.var 1))) (.var 2))))
 .nil)⟩

/-! is_piece: line state value model task -/
def b_is_piece : FD := ⟨3, 5,
 (.cons (.ifs (.or (.not (.call 3 (.cons (.var 2) (.cons (.con (.int 2)) .nil)))) (.not (.call 1 (.cons (.sub (.var 2) (.con (.int 0))) (.cons (.con (.int 0)) (.cons (.bin .sub (.bi1 .len (.sub (.prop 0 36 (.var 0)) (.var 1))) (.con (.int 1))) .nil)))))) (.cons (.ret (.con (.bool false)))
  .nil) .nil)
 (.cons (.set 3 (.sub (.sub (.sub (.prop 0 36 (.var 0)) (.var 1)) (.sub (.var 2) (.con (.int 0)))) (.con (.int 0))))
 (.cons (.ifs (.or (.not (.call 6 (.cons (.sub (.var 2) (.con (.int 1))) (.cons (.bi1 .len (.prop 0 33 (.var 0))) .nil)))) (.not (.call 5 (.cons (.sub (.var 2) (.con (.int 1))) .nil)))) (.cons (.ret (.con (.bool false)))
  .nil) .nil)
 (.cons (.ret (.bi1 .all (.comp [4] (.seq (.sub (.var 2) (.con (.int 1)))) (.name 4) .no (.cmp .mem (.var 4) (.sub (.prop 0 35 (.var 0)) (.var 3))))))
 .nil))))⟩

/-! is_allowed: line value state used piece -/
def l_is_allowed_1 : SL :=
 (.cons (.ifs (.not (.call 13 (.cons (.var 0) (.cons (.var 2) (.cons (.var 4) .nil))))) (.cons (.ret (.con (.bool false)))
  .nil) .nil)
 (.cons (.set 2 (.sub (.sub (.sub (.prop 0 36 (.var 0)) (.var 2)) (.sub (.var 4) (.con (.int 0)))) (.con (.int 1))))
 (.cons (.aug 3 (.bi1 .len (.sub (.var 4) (.con (.int 1)))))
 .nil)))
def b_is_allowed : FD := ⟨2, 5,
 (.cons (.ifs (.or (.not (.call 2 (.cons (.var 1) .nil))) (.cmp .eq (.bi1 .len (.var 1)) (.con (.int 0)))) (.cons (.ret (.con (.bool false)))
  .nil) .nil)
 (.cons (.set 2 (.prop 0 37 (.var 0)))
 (.cons (.set 3 (.con (.int 0)))
 (.cons (.for_ (.seq (.var 1)) (.name 4) l_is_allowed_1)
 (.cons (.ret (.or (.cmp .isN (.prop 0 38 (.var 0)) (.con .non)) (.cmp .le (.var 3) (.prop 0 38 (.var 0)))))
 .nil)))))⟩

/-! state_behind: line row state arc _ -/
def l_state_behind_1 : SL :=
 (.cons (.set 2 (.sub (.sub (.sub (.prop 0 36 (.var 0)) (.var 2)) (.var 3)) (.con (.int 1))))
 .nil)
def b_state_behind : FD := ⟨2, 5,
 (.cons (.set 2 (.prop 0 37 (.var 0)))
 (.cons (.for_ (.seq (.var 1)) (.cons (.name 3) (.cons (.name 4) .nil)) l_state_behind_1)
 (.cons (.ret (.var 2))
 .nil)))⟩

/-! times_of: line tasks row found state arc slipped needed model task -/
def l_times_of_1 : SL :=
 (.cons (.asg (.cons (.name 8) (.cons (.name 4) .nil)) (.sub (.sub (.prop 0 36 (.var 0)) (.var 4)) (.var 5)))
 (.cons (.set 7 (.comp [9] (.seq (.sub (.prop 0 35 (.var 0)) (.var 8))) (.name 9) (.yes (.cmp .mem (.var 9) (.var 1))) (.var 9)))
 (.cons (.append (.var 3) (.bi1 .sum (.comp [9] (.seq (.var 7)) (.name 9) .no (.sub (.sub (.prop 0 33 (.var 0)) (.var 9)) (.ite (.cmp .mem (.var 9) (.var 6)) (.con (.int 1)) (.con (.int 0)))))))
 .nil)))
def b_times_of : FD := ⟨3, 10,
 (.cons (.set 3 (.nlst .nil))
 (.cons (.set 4 (.prop 0 37 (.var 0)))
 (.cons (.for_ (.seq (.var 2)) (.cons (.name 5) (.cons (.name 6) .nil)) l_times_of_1)
 (.cons (.ret (.frz (.var 3)))
 .nil))))⟩

/-! latenesses: line tasks beat row found late time -/
def l_latenesses_1 : SL :=
 (.cons (.set 5 (.bi2 .max (.con (.int 0)) (.bin .sub (.bin .add (.var 5) (.var 6)) (.var 2))))
 (.cons (.append (.var 4) (.var 5))
 .nil))
def b_latenesses : FD := ⟨4, 7,
 (.cons (.set 4 (.nlst .nil))
 (.cons (.set 5 (.con (.int 0)))
 (.cons (.for_ (.seq (.call 16 (.cons (.var 0) (.cons (.var 1) (.cons (.var 3) .nil))))) (.name 6) l_latenesses_1)
 (.cons (.ret (.frz (.var 4)))
 .nil))))⟩

/-! overflows: line tasks window beat row times late ahead -/
def b_overflows : FD := ⟨5, 8,
 (.cons (.set 5 (.call 16 (.cons (.var 0) (.cons (.var 1) (.cons (.var 4) .nil)))))
 (.cons (.set 6 (.call 17 (.cons (.var 0) (.cons (.var 1) (.cons (.var 3) (.cons (.var 4) .nil))))))
 (.cons (.set 7 (.ite (.cmp .gt (.bi1 .len (.var 6)) (.con (.int 1))) (.sub (.var 6) (.neg (.con (.int 2)))) (.con (.int 0))))
 (.cons (.ret (.cmp .gt (.bin .add (.var 7) (.sub (.var 5) (.neg (.con (.int 1))))) (.bin .add (.var 3) (.var 2))))
 .nil))))⟩

/-! is_loop: line value head body part arc slipped -/
def b_is_loop : FD := ⟨2, 7,
 (.cons (.ifs (.or (.not (.call 3 (.cons (.var 1) (.cons (.con (.int 2)) .nil)))) (.or (.not (.bi1 .all (.comp [4] (.seq (.var 1)) (.name 4) .no (.call 2 (.cons (.var 4) .nil))))) (.cmp .eq (.bi1 .len (.sub (.var 1) (.con (.int 1)))) (.con (.int 0))))) (.cons (.ret (.con (.bool false)))
  .nil) .nil)
 (.cons (.asg (.cons (.name 2) (.cons (.name 3) .nil)) (.var 1))
 (.cons (.ifs (.not (.call 14 (.cons (.var 0) (.cons (.lstar (.cons (.var 2) (.cons (.var 3) .nil))) .nil)))) (.cons (.ret (.con (.bool false)))
  .nil) .nil)
 (.cons (.ifs (.and (.cmp .notN (.prop 0 38 (.var 0)) (.con .non)) (.bi1 .any (.comp [5, 6] (.seq (.var 3)) (.cons (.name 5) (.cons (.name 6) .nil)) .no (.cmp .gt (.bi1 .len (.var 6)) (.con (.int 0)))))) (.cons (.ret (.con (.bool false)))
  .nil) .nil)
 (.cons (.ret (.cmp .eq (.call 15 (.cons (.var 0) (.cons (.var 2) .nil))) (.call 15 (.cons (.var 0) (.cons (.lstar (.cons (.var 2) (.cons (.var 3) .nil))) .nil)))))
 .nil)))))⟩

/-! gains: line tasks beat loop times head body -/
def b_gains : FD := ⟨4, 7,
 (.cons (.asg (.cons (.name 5) (.cons (.name 6) .nil)) (.var 3))
 (.cons (.set 4 (.call 16 (.cons (.var 0) (.cons (.var 1) (.cons (.lstar (.cons (.var 5) (.cons (.var 6) .nil))) .nil)))))
 (.cons (.ret (.cmp .gt (.bi1 .sum (.slice (.var 4) (.yes (.bi1 .len (.var 5))) .no)) (.bin .mul (.var 2) (.bi1 .len (.var 6)))))
 .nil)))⟩

/-! checked_station: line plan station window beat kept -/
def b_checked_station : FD := ⟨5, 6,
 (.cons (.set 5 (.call 9 (.cons (.var 0) (.cons (.var 1) (.cons (.con (.int 2)) .nil)))))
 (.cons (.ex (.call 10 (.cons (.var 2) (.cons (.con (.int 3)) .nil))))
 (.cons (.ex (.call 11 (.cons (.var 3) (.cons (.con (.int 4)) .nil))))
 (.cons (.ex (.call 11 (.cons (.var 4) (.cons (.con (.int 5)) .nil))))
 (.cons (.ret (.call 12 (.cons (.var 5) (.cons (.var 2) .nil))))
 .nil)))))⟩

/-! row_overflows: line plan station window beat row tasks -/
def b_row_overflows : FD := ⟨6, 7,
 (.cons (.set 6 (.call 21 (.cons (.var 0) (.cons (.var 1) (.cons (.var 2) (.cons (.var 3) (.cons (.var 4) .nil)))))))
 (.cons (.ret (.and (.call 14 (.cons (.var 0) (.cons (.var 5) .nil))) (.call 18 (.cons (.var 0) (.cons (.var 6) (.cons (.var 3) (.cons (.var 4) (.cons (.var 5) .nil))))))))
 .nil))⟩

/-! loop_gains: line plan station beat value kept -/
def b_loop_gains : FD := ⟨5, 6,
 (.cons (.set 5 (.call 9 (.cons (.var 0) (.cons (.var 1) (.cons (.con (.int 2)) .nil)))))
 (.cons (.ex (.call 10 (.cons (.var 2) (.cons (.con (.int 3)) .nil))))
 (.cons (.ex (.call 11 (.cons (.var 3) (.cons (.con (.int 4)) .nil))))
 (.cons (.ret (.and (.call 19 (.cons (.var 0) (.cons (.var 4) .nil))) (.call 20 (.cons (.var 0) (.cons (.call 12 (.cons (.var 5) (.cons (.var 2) .nil))) (.cons (.var 3) (.cons (.var 4) .nil)))))))
 .nil))))⟩

/-! is_task: value -/
def b_is_task : FD := ⟨1, 1,
 (.cons (.ifs (.or (.not (.call 3 (.cons (.var 0) (.cons (.con (.int 2)) .nil)))) (.not (.call 1 (.cons (.sub (.var 0) (.con (.int 0))) (.cons (.con (.int 0)) (.cons (.glb 2 (.int 10000)) .nil)))))) (.cons (.ret (.con (.bool false)))
  .nil) .nil)
 (.cons (.ret (.call 1 (.cons (.sub (.var 0) (.con (.int 1))) (.cons (.sub (.var 0) (.con (.int 0))) (.cons (.glb 2 (.int 10000)) .nil)))))
 .nil))⟩

/-! is_model: value many -/
def b_is_model : FD := ⟨2, 2,
 (.cons (.ret (.and (.call 6 (.cons (.var 0) (.cons (.var 1) .nil))) (.call 5 (.cons (.var 0) .nil))))
 .nil)⟩

/-! is_state: value models states known arc -/
def l_is_state_1 : SL :=
 (.cons (.ifs (.or (.not (.call 3 (.cons (.var 4) (.cons (.con (.int 2)) .nil)))) (.not (.call 1 (.cons (.sub (.var 4) (.con (.int 0))) (.cons (.con (.int 0)) (.cons (.bin .sub (.var 1) (.con (.int 1))) .nil)))))) (.cons (.ret (.con (.bool false)))
  .nil) .nil)
 (.cons (.ifs (.or (.not (.call 1 (.cons (.sub (.var 4) (.con (.int 1))) (.cons (.con (.int 0)) (.cons (.bin .sub (.var 2) (.con (.int 1))) .nil))))) (.cmp .mem (.tup (.cons (.sub (.var 4) (.con (.int 0))) (.cons (.sub (.var 4) (.con (.int 1))) .nil))) (.var 3))) (.cons (.ret (.con (.bool false)))
  .nil) .nil)
 (.cons (.append (.var 3) (.tup (.cons (.sub (.var 4) (.con (.int 0))) (.cons (.sub (.var 4) (.con (.int 1))) .nil))))
 .nil)))
def b_is_state : FD := ⟨3, 5,
 (.cons (.ifs (.or (.not (.call 2 (.cons (.var 0) .nil))) (.not (.chain .le .le (.con (.int 1)) (.bi1 .len (.var 0)) (.glb 3 (.int 40))))) (.cons (.ret (.con (.bool false)))
  .nil) .nil)
 (.cons (.set 3 (.nlst .nil))
 (.cons (.for_ (.seq (.var 0)) (.name 4) l_is_state_1)
 (.cons (.ret (.con (.bool true)))
 .nil))))⟩

/-! is_slips: value -/
def b_is_slips : FD := ⟨1, 1,
 (.cons (.ret (.or (.cmp .isN (.var 0) (.con .non)) (.call 1 (.cons (.var 0) (.cons (.con (.int 0)) (.cons (.glb 4 (.int 8)) .nil))))))
 .nil)⟩

/-! leads_to: pairs task goal passed waiting now before after -/
def l_leads_to_1 : SL :=
 (.cons (.set 5 (.pop (.var 4)))
 (.cons (.ifs (.cmp .eq (.var 5) (.var 2)) (.cons (.ret (.con (.bool true)))
  .nil) .nil)
 (.cons (.ifs (.cmp .nmem (.var 5) (.var 3)) (.cons (.append (.var 3) (.var 5))
  (.cons (.extend (.var 4) (.comp [6, 7] (.seq (.var 0)) (.cons (.name 6) (.cons (.name 7) .nil)) (.yes (.cmp .eq (.var 6) (.var 5))) (.var 7)))
  .nil)) .nil)
 .nil)))
def b_leads_to : FD := ⟨3, 8,
 (.cons (.set 3 (.nlst .nil))
 (.cons (.set 4 (.nlst (.cons (.var 1) .nil)))
 (.cons (.while_ (.var 4) l_leads_to_1)
 (.cons (.ret (.con (.bool false)))
 .nil))))⟩

/-! tasks_with_tuples: value at task -/
def l_tasks_with_tuples_1 : SL :=
 (.cons (.ifs (.not (.call 24 (.cons (.var 2) .nil))) (.cons (.die)
  .nil) .nil)
 .nil)
def b_tasks_with_tuples : FD := ⟨1, 3,
 (.cons (.for_ (.enum (.var 0)) (.cons (.name 1) (.cons (.name 2) .nil)) l_tasks_with_tuples_1)
 (.cons (.ret (.call 4 (.cons (.var 0) .nil)))
 .nil))⟩

/-! order_with_tuples: value many pairs at pair fixed -/
def l_order_with_tuples_1 : SL :=
 (.cons (.ifs (.or (.not (.call 3 (.cons (.var 4) (.cons (.con (.int 2)) .nil)))) (.or (.not (.call 6 (.cons (.var 4) (.cons (.var 1) .nil)))) (.cmp .eq (.sub (.var 4) (.con (.int 0))) (.sub (.var 4) (.con (.int 1)))))) (.cons (.die)
  .nil) .nil)
 (.cons (.set 5 (.tup (.cons (.sub (.var 4) (.con (.int 0))) (.cons (.sub (.var 4) (.con (.int 1))) .nil))))
 (.cons (.ifs (.or (.cmp .mem (.var 5) (.var 2)) (.call 28 (.cons (.var 2) (.cons (.sub (.var 5) (.con (.int 1))) (.cons (.sub (.var 5) (.con (.int 0))) .nil))))) (.cons (.die)
  .nil) .nil)
 (.cons (.append (.var 2) (.var 5))
 .nil))))
def b_order_with_tuples : FD := ⟨2, 6,
 (.cons (.set 2 (.nlst .nil))
 (.cons (.for_ (.enum (.var 0)) (.cons (.name 3) (.cons (.name 4) .nil)) l_order_with_tuples_1)
 (.cons (.ret (.bi1 .tuple (.var 2)))
 .nil)))⟩

/-! is_filled: value -/
def b_is_filled : FD := ⟨1, 1,
 (.cons (.ret (.and (.call 2 (.cons (.var 0) .nil)) (.cmp .gt (.bi1 .len (.var 0)) (.con (.int 0)))))
 .nil)⟩

/-! Line.__init__: self tasks order models states start slips fixed_tasks fixed_order at model state -/
def l_Line_init_1 : SL :=
 (.cons (.ifs (.not (.call 25 (.cons (.var 10) (.cons (.bi1 .len (.var 1)) .nil)))) (.cons (.die)
  .nil) .nil)
 .nil)
def l_Line_init_2 : SL :=
 (.cons (.ifs (.not (.call 26 (.cons (.var 11) (.cons (.bi1 .len (.var 3)) (.cons (.bi1 .len (.var 4)) .nil))))) (.cons (.die)
  .nil) .nil)
 .nil)
def b_Line_init : FD := ⟨7, 12,
 (.cons (.ifs (.not (.call 31 (.cons (.var 1) .nil))) (.cons (.die)
  .nil) .nil)
 (.cons (.ifs (.cmp .gt (.bi1 .len (.var 1)) (.glb 5 (.int 24))) (.cons (.die)
  .nil) .nil)
 (.cons (.set 7 (.call 29 (.cons (.var 1) .nil)))
 (.cons (.ifs (.not (.call 2 (.cons (.var 2) .nil))) (.cons (.die)
  .nil) .nil)
 (.cons (.ifs (.cmp .gt (.bi1 .len (.var 2)) (.glb 6 (.int 200))) (.cons (.die)
  .nil) .nil)
 (.cons (.set 8 (.call 30 (.cons (.var 2) (.cons (.bi1 .len (.var 1)) .nil))))
 (.cons (.ifs (.not (.call 31 (.cons (.var 3) .nil))) (.cons (.die)
  .nil) .nil)
 (.cons (.ifs (.cmp .gt (.bi1 .len (.var 3)) (.glb 7 (.int 8))) (.cons (.die)
  .nil) .nil)
 (.cons (.for_ (.enum (.var 3)) (.cons (.name 9) (.cons (.name 10) .nil)) l_Line_init_1)
 (.cons (.ifs (.not (.call 31 (.cons (.var 4) .nil))) (.cons (.die)
  .nil) .nil)
 (.cons (.ifs (.cmp .gt (.bi1 .len (.var 4)) (.glb 8 (.int 60))) (.cons (.die)
  .nil) .nil)
 (.cons (.for_ (.enum (.var 4)) (.cons (.name 9) (.cons (.name 11) .nil)) l_Line_init_2)
 (.cons (.ifs (.not (.call 1 (.cons (.var 5) (.cons (.con (.int 0)) (.cons (.bin .sub (.bi1 .len (.var 4)) (.con (.int 1))) .nil))))) (.cons (.die)
  .nil) .nil)
 (.cons (.ifs (.not (.call 27 (.cons (.var 6) .nil))) (.cons (.die)
  .nil) .nil)
 (.cons (.fld 0 0 0 (.tup (.cons (.var 7) (.cons (.var 8) (.cons (.call 4 (.cons (.var 3) .nil)) (.cons (.call 4 (.cons (.var 4) .nil)) (.cons (.var 5) (.cons (.var 6) .nil))))))))
 .nil)))))))))))))))⟩

/-! Line.tasks: self -/
def b_Line_tasks : FD := ⟨1, 1,
 (.cons (.ret (.sub (.fld 0 0 (.var 0)) (.con (.int 0))))
 .nil)⟩

/-! Line.order: self -/
def b_Line_order : FD := ⟨1, 1,
 (.cons (.ret (.sub (.fld 0 0 (.var 0)) (.con (.int 1))))
 .nil)⟩

/-! Line.models: self -/
def b_Line_models : FD := ⟨1, 1,
 (.cons (.ret (.sub (.fld 0 0 (.var 0)) (.con (.int 2))))
 .nil)⟩

/-! Line.states: self -/
def b_Line_states : FD := ⟨1, 1,
 (.cons (.ret (.sub (.fld 0 0 (.var 0)) (.con (.int 3))))
 .nil)⟩

/-! Line.start: self -/
def b_Line_start : FD := ⟨1, 1,
 (.cons (.ret (.sub (.fld 0 0 (.var 0)) (.con (.int 4))))
 .nil)⟩

/-! Line.slips: self -/
def b_Line_slips : FD := ⟨1, 1,
 (.cons (.ret (.sub (.fld 0 0 (.var 0)) (.con (.int 5))))
 .nil)⟩

/-! is_row: line value -/
def b_is_row : FD := ⟨2, 2,
 (.cons (.ret (.call 14 (.cons (.var 0) (.cons (.var 1) .nil))))
 .nil)⟩

/-! lateness: line plan station beat row kept -/
def b_lateness : FD := ⟨5, 6,
 (.cons (.set 5 (.call 9 (.cons (.var 0) (.cons (.var 1) (.cons (.con (.int 2)) .nil)))))
 (.cons (.ex (.call 10 (.cons (.var 2) (.cons (.con (.int 3)) .nil))))
 (.cons (.ex (.call 11 (.cons (.var 3) (.cons (.con (.int 4)) .nil))))
 (.cons (.ifs (.not (.call 14 (.cons (.var 0) (.cons (.var 4) .nil)))) (.cons (.die)
  .nil) .nil)
 (.cons (.ret (.bi1 .tuple (.call 17 (.cons (.var 0) (.cons (.call 12 (.cons (.var 5) (.cons (.var 2) .nil))) (.cons (.var 3) (.cons (.call 4 (.cons (.var 4) .nil)) .nil)))))))
 .nil)))))⟩

/-! _law_so: found meant k -/
def l__law_so_1 : SL :=
 (.cons (.ifs (.not (.call 41 (.cons (.sub (.var 0) (.var 2)) (.cons (.sub (.var 1) (.var 2)) .nil)))) (.cons (.ret (.con (.bool false)))
  .nil) .nil)
 .nil)
def b__law_so : FD := ⟨2, 3,
 (.cons (.ifs (.cmp .isN (.var 1) (.con .non)) (.cons (.ret (.cmp .isN (.var 0) (.con .non)))
  .nil) .nil)
 (.cons (.ifs (.isin .ttup (.var 1)) (.cons (.ifs (.or (.not (.isin .ttup (.var 0))) (.cmp .ne (.bi1 .len (.var 0)) (.bi1 .len (.var 1)))) (.cons (.ret (.con (.bool false)))
   .nil) .nil)
  (.cons (.for_ (.rng1 (.bi1 .len (.var 1))) (.name 2) l__law_so_1)
  (.cons (.ret (.con (.bool true)))
  .nil))) .nil)
 (.cons (.ifs (.or (.isin .tbool (.var 1)) (.isin .tbool (.var 0))) (.cons (.ret (.and (.isin .tbool (.var 1)) (.and (.isin .tbool (.var 0)) (.cmp .eq (.var 0) (.var 1)))))
  .nil) .nil)
 (.cons (.ifs (.isin .tint (.var 1)) (.cons (.ret (.and (.isin .tint (.var 0)) (.cmp .eq (.var 0) (.var 1))))
  .nil) .nil)
 (.cons (.ret (.and (.isin .tstr (.var 1)) (.and (.isin .tstr (.var 0)) (.cmp .eq (.var 0) (.var 1)))))
 .nil)))))⟩

/-! _law_numbers: script row cell left k mixed -/
def l__law_numbers_1 : SL :=
 (.cons (.ifs (.cmp .eq (.var 3) (.con (.int 0))) (.cons (.brk)
  .nil) .nil)
 (.cons (.append (.var 1) (.bin .mod (.bi1 .int (.var 3)) (.con (.int 997))))
 (.cons (.set 3 (.bin .fdiv (.var 3) (.con (.int 997))))
 .nil)))
def l__law_numbers_2 : SL :=
 (.cons (.set 5 (.bin .mod (.bi1 .int (.bin .add (.bin .add (.bin .mul (.var 2) (.con (.int 48271))) (.bin .mul (.var 4) (.con (.int 69621)))) (.con (.int 11)))) (.con (.int 2147483647))))
 (.cons (.append (.var 1) (.bin .mod (.bi1 .int (.bin .add (.bin .mul (.var 5) (.con (.int 16807))) (.var 4))) (.con (.int 2147483629))))
 .nil))
def l__law_numbers_3 : SL :=
 (.cons (.ifs (.cmp .ge (.var 2) (.bin .pow (.con (.int 10)) (.con (.int 18)))) (.cons (.set 3 (.var 2))
  (.cons (.for_ (.rng1 (.con (.int 60))) (.name 4) l__law_numbers_1)
  .nil)) (.cons (.for_ (.rng1 (.con (.int 4))) (.name 4) l__law_numbers_2)
  .nil))
 .nil)
def b__law_numbers : FD := ⟨1, 6,
 (.cons (.set 1 (.nlst .nil))
 (.cons (.for_ (.seq (.slice (.var 0) .no (.yes (.con (.int 63))))) (.name 2) l__law_numbers_3)
 (.cons (.ifs (.cmp .eq (.bi1 .len (.var 1)) (.con (.int 0))) (.cons (.append (.var 1) (.con (.int 0)))
  .nil) .nil)
 (.cons (.ret (.frz (.var 1)))
 .nil))))⟩

/-! _law_draw: row at limit mixed -/
def b__law_draw : FD := ⟨3, 4,
 (.cons (.ifs (.cmp .lt (.var 1) (.bi1 .len (.var 0))) (.cons (.ret (.bin .mod (.bi1 .int (.sub (.var 0) (.var 1))) (.var 2)))
  .nil) .nil)
 (.cons (.set 3 (.bin .mod (.bi1 .int (.bin .add (.bin .add (.bin .mul (.sub (.var 0) (.bin .mod (.bi1 .int (.var 1)) (.bi1 .len (.var 0)))) (.con (.int 40692))) (.bin .mul (.var 1) (.con (.int 7919)))) (.con (.int 3)))) (.con (.int 2147483399))))
 (.cons (.ret (.bin .mod (.bi1 .int (.bin .mod (.bi1 .int (.bin .add (.bin .mul (.var 3) (.con (.int 48271))) (.var 1))) (.con (.int 2147483647)))) (.var 2)))
 .nil)))⟩

/-! _law_take: row spot limit -/
def b__law_take : FD := ⟨3, 3,
 (.cons (.item (.var 1) (.con (.int 0)) (.bin .add (.sub (.var 1) (.con (.int 0))) (.con (.int 1))))
 (.cons (.ret (.call 43 (.cons (.var 0) (.cons (.bin .sub (.sub (.var 1) (.con (.int 0))) (.con (.int 1))) (.cons (.var 2) .nil)))))
 .nil))⟩

/-! _law_loose: value turn made one -/
def b__law_loose : FD := ⟨2, 4,
 (.cons (.ifs (.isin .ttup (.var 0)) (.cons (.set 2 (.comp [3] (.seq (.var 0)) (.name 3) .no (.call 45 (.cons (.var 3) (.cons (.bin .add (.var 1) (.con (.int 1))) .nil)))))
  (.cons (.ret (.ite (.cmp .eq (.bin .mod (.bi1 .int (.var 1)) (.con (.int 2))) (.con (.int 0))) (.var 2) (.bi1 .tuple (.var 2))))
  .nil)) .nil)
 (.cons (.ret (.var 0))
 .nil))⟩

/-! _law_made: line turn jobs -/
def b__law_made : FD := ⟨2, 3,
 (.cons (.set 2 (.call 45 (.cons (.sub (.var 0) (.con (.int 0))) (.cons (.var 1) .nil))))
 (.cons (.ret (.makeK 0 32 (.cons (.var 2) (.cons (.call 45 (.cons (.sub (.var 0) (.con (.int 1))) (.cons (.bin .add (.var 1) (.con (.int 1))) .nil))) (.cons (.call 45 (.cons (.sub (.var 0) (.con (.int 2))) (.cons (.var 1) .nil))) (.cons (.call 45 (.cons (.sub (.var 0) (.con (.int 3))) (.cons (.var 1) .nil))) (.cons (.sub (.var 0) (.con (.int 4))) .nil))))) (.sub (.var 0) (.con (.int 5)))))
 .nil))⟩

/-! law: script row spot beat slips line made many at body head quick long value k -/
def l_law_1 : SL :=
 (.cons (.ifs (.not (.call 41 (.cons (.call 23 (.cons (.var 6) (.cons (.tup (.cons (.con (.int 0)) .nil)) (.cons (.con (.int 0)) (.cons (.var 3) (.cons (.tup (.cons (.var 10) (.cons (.var 9) .nil))) .nil)))))) (.cons (.cmp .isN (.var 4) (.con .non)) .nil)))) (.cons (.ret (.con (.bool false)))
  .nil) .nil)
 (.cons (.ifs (.not (.call 41 (.cons (.call 23 (.cons (.var 6) (.cons (.tup (.cons (.con (.int 0)) .nil)) (.cons (.con (.int 0)) (.cons (.var 3) (.cons (.tup (.cons (.var 10) (.cons (.bin .add (.slice (.var 9) .no (.yes (.var 8))) (.slice (.var 9) (.yes (.bin .add (.var 8) (.con (.int 1)))) .no)) .nil))) .nil)))))) (.cons (.con (.bool false)) .nil)))) (.cons (.ret (.con (.bool false)))
  .nil) .nil)
 .nil))
def b_law : FD := ⟨1, 15,
 (.cons (.set 1 (.call 42 (.cons (.var 0) .nil)))
 (.cons (.set 2 (.nlst (.cons (.con (.int 0)) .nil)))
 (.cons (.set 3 (.bin .add (.con (.int 5)) (.call 44 (.cons (.var 1) (.cons (.var 2) (.cons (.con (.int 20)) .nil))))))
 (.cons (.set 4 (.sub (.lst (.cons (.con .non) (.cons (.con (.int 0)) (.cons (.con (.int 1)) (.cons (.con (.int 2)) (.cons (.con (.int 8)) .nil)))))) (.call 44 (.cons (.var 1) (.cons (.var 2) (.cons (.con (.int 5)) .nil))))))
 (.cons (.set 5 (.tup (.cons (.tup (.cons (.tup (.cons (.var 3) (.cons (.bin .add (.bin .add (.var 3) (.con (.int 1))) (.call 44 (.cons (.var 1) (.cons (.var 2) (.cons (.con (.int 3)) .nil))))) .nil))) .nil)) (.cons (.tup .nil) (.cons (.tup (.cons (.tup (.cons (.con (.int 0)) .nil)) .nil)) (.cons (.tup (.cons (.tup (.cons (.tup (.cons (.con (.int 0)) (.cons (.con (.int 0)) .nil))) .nil)) .nil)) (.cons (.con (.int 0)) (.cons (.var 4) .nil))))))))
 (.cons (.set 6 (.call 46 (.cons (.var 5) (.cons (.con (.int 0)) .nil))))
 (.cons (.set 7 (.bin .add (.con (.int 1)) (.call 44 (.cons (.var 1) (.cons (.var 2) (.cons (.con (.int 200)) .nil))))))
 (.cons (.set 8 (.sub (.lst (.cons (.bin .sub (.var 7) (.con (.int 1))) (.cons (.con (.int 0)) (.cons (.call 44 (.cons (.var 1) (.cons (.var 2) (.cons (.var 7) .nil)))) .nil)))) (.call 44 (.cons (.var 1) (.cons (.var 2) (.cons (.con (.int 3)) .nil))))))
 (.cons (.set 9 (.bi1 .tuple (.comp [14] (.rng1 (.var 7)) (.name 14) .no (.ite (.cmp .eq (.var 14) (.var 8)) (.tup (.cons (.con (.int 0)) (.cons (.tup (.cons (.con (.int 0)) .nil)) .nil))) (.tup (.cons (.con (.int 0)) (.cons (.tup .nil) .nil)))))))
 (.cons (.for_ (.seq (.lst (.cons (.tup .nil) (.cons (.bin .mul (.tup (.cons (.tup (.cons (.con (.int 0)) (.cons (.tup .nil) .nil))) .nil)) (.bin .add (.con (.int 1)) (.call 44 (.cons (.var 1) (.cons (.var 2) (.cons (.con (.int 60)) .nil)))))) .nil)))) (.name 10) l_law_1)
 (.cons (.set 11 (.bin .sub (.var 3) (.con (.int 1))))
 (.cons (.ifs (.not (.call 41 (.cons (.call 23 (.cons (.var 6) (.cons (.tup (.cons (.con (.int 0)) .nil)) (.cons (.con (.int 0)) (.cons (.var 11) (.cons (.tup (.cons (.tup .nil) (.cons (.bin .mul (.tup (.cons (.tup (.cons (.con (.int 0)) (.cons (.tup .nil) .nil))) .nil)) (.var 7)) .nil))) .nil)))))) (.cons (.con (.bool true)) .nil)))) (.cons (.ret (.con (.bool false)))
  .nil) .nil)
 (.cons (.ifs (.and (.cmp .notN (.var 4) (.con .non)) (.not (.call 41 (.cons (.call 23 (.cons (.var 6) (.cons (.tup (.cons (.con (.int 0)) .nil)) (.cons (.con (.int 0)) (.cons (.var 11) (.cons (.tup (.cons (.tup .nil) (.cons (.var 9) .nil))) .nil)))))) (.cons (.con (.bool false)) .nil))))) (.cons (.ret (.con (.bool false)))
  .nil) .nil)
 (.cons (.set 12 (.bin .add (.con (.int 1000)) (.call 44 (.cons (.var 1) (.cons (.var 2) (.cons (.con (.int 5500)) .nil))))))
 (.cons (.set 13 (.bin .mul (.tup (.cons (.tup (.cons (.con (.int 0)) (.cons (.tup .nil) .nil))) .nil)) (.var 12)))
 (.cons (.ifs (.or (.not (.call 41 (.cons (.call 39 (.cons (.var 6) (.cons (.var 13) .nil))) (.cons (.con (.bool true)) .nil)))) (.not (.call 41 (.cons (.call 22 (.cons (.var 6) (.cons (.tup (.cons (.con (.int 0)) .nil)) (.cons (.con (.int 0)) (.cons (.bin .sub (.var 12) (.con (.int 1))) (.cons (.var 11) (.cons (.var 13) .nil))))))) (.cons (.con (.bool true)) .nil))))) (.cons (.ret (.con (.bool false)))
  .nil) .nil)
 (.cons (.ret (.and (.call 41 (.cons (.call 22 (.cons (.var 6) (.cons (.tup (.cons (.con (.int 0)) .nil)) (.cons (.con (.int 0)) (.cons (.var 12) (.cons (.var 11) (.cons (.var 13) .nil))))))) (.cons (.con (.bool false)) .nil))) (.cmp .eq (.sub (.call 40 (.cons (.var 6) (.cons (.tup (.cons (.con (.int 0)) .nil)) (.cons (.con (.int 0)) (.cons (.var 11) (.cons (.var 13) .nil)))))) (.neg (.con (.int 1)))) (.var 12))))
 .nil)))))))))))))))))⟩

/-- the functions by number -/
def tbl : List (Nat × FD) := [(0, b_is_integer), (1, b_is_integer_in), (2, b_is_sequence), (3, b_is_sequence_of), (4, b_frozen), (5, b_ascending), (6, b_are_below), (7, b_fits_order), (8, b_is_plan_for), (9, b_check_plan), (10, b_check_station), (11, b_check_beat), (12, b_tasks_at), (13, b_is_piece), (14, b_is_allowed), (15, b_state_behind), (16, b_times_of), (17, b_latenesses), (18, b_overflows), (19, b_is_loop), (20, b_gains), (21, b_checked_station), (22, b_row_overflows), (23, b_loop_gains), (24, b_is_task), (25, b_is_model), (26, b_is_state), (27, b_is_slips), (28, b_leads_to), (29, b_tasks_with_tuples), (30, b_order_with_tuples), (31, b_is_filled), (32, b_Line_init), (33, b_Line_tasks), (34, b_Line_order), (35, b_Line_models), (36, b_Line_states), (37, b_Line_start), (38, b_Line_slips), (39, b_is_row), (40, b_lateness), (41, b__law_so), (42, b__law_numbers), (43, b__law_draw), (44, b__law_take), (45, b__law_loose), (46, b__law_made), (47, b_law)]
def TB (f : Nat) : Option FD := (tbl.find? fun x => x.1 == f).map (·.2)
theorem f_is_integer {k : Nat} {vs : List Val} {st : Store} {Q : Post} {X : XPost} : Fn TB (k + 1) 0 vs st Q X = (vs.length = b_is_integer.arity ∧ wpSL (Fn TB k) X b_is_integer.body (start b_is_integer vs) st ⟨fun _ st1 => Q .non st1, Q, fun _ _ => False, fun _ _ => False⟩) := rfl
theorem f_is_integer_in {k : Nat} {vs : List Val} {st : Store} {Q : Post} {X : XPost} : Fn TB (k + 1) 1 vs st Q X = (vs.length = b_is_integer_in.arity ∧ wpSL (Fn TB k) X b_is_integer_in.body (start b_is_integer_in vs) st ⟨fun _ st1 => Q .non st1, Q, fun _ _ => False, fun _ _ => False⟩) := rfl
theorem f_is_sequence {k : Nat} {vs : List Val} {st : Store} {Q : Post} {X : XPost} : Fn TB (k + 1) 2 vs st Q X = (vs.length = b_is_sequence.arity ∧ wpSL (Fn TB k) X b_is_sequence.body (start b_is_sequence vs) st ⟨fun _ st1 => Q .non st1, Q, fun _ _ => False, fun _ _ => False⟩) := rfl
theorem f_is_sequence_of {k : Nat} {vs : List Val} {st : Store} {Q : Post} {X : XPost} : Fn TB (k + 1) 3 vs st Q X = (vs.length = b_is_sequence_of.arity ∧ wpSL (Fn TB k) X b_is_sequence_of.body (start b_is_sequence_of vs) st ⟨fun _ st1 => Q .non st1, Q, fun _ _ => False, fun _ _ => False⟩) := rfl
theorem f_frozen {k : Nat} {vs : List Val} {st : Store} {Q : Post} {X : XPost} : Fn TB (k + 1) 4 vs st Q X = (vs.length = b_frozen.arity ∧ wpSL (Fn TB k) X b_frozen.body (start b_frozen vs) st ⟨fun _ st1 => Q .non st1, Q, fun _ _ => False, fun _ _ => False⟩) := rfl
theorem f_ascending {k : Nat} {vs : List Val} {st : Store} {Q : Post} {X : XPost} : Fn TB (k + 1) 5 vs st Q X = (vs.length = b_ascending.arity ∧ wpSL (Fn TB k) X b_ascending.body (start b_ascending vs) st ⟨fun _ st1 => Q .non st1, Q, fun _ _ => False, fun _ _ => False⟩) := rfl
theorem f_are_below {k : Nat} {vs : List Val} {st : Store} {Q : Post} {X : XPost} : Fn TB (k + 1) 6 vs st Q X = (vs.length = b_are_below.arity ∧ wpSL (Fn TB k) X b_are_below.body (start b_are_below vs) st ⟨fun _ st1 => Q .non st1, Q, fun _ _ => False, fun _ _ => False⟩) := rfl
theorem f_fits_order {k : Nat} {vs : List Val} {st : Store} {Q : Post} {X : XPost} : Fn TB (k + 1) 7 vs st Q X = (vs.length = b_fits_order.arity ∧ wpSL (Fn TB k) X b_fits_order.body (start b_fits_order vs) st ⟨fun _ st1 => Q .non st1, Q, fun _ _ => False, fun _ _ => False⟩) := rfl
theorem f_is_plan_for {k : Nat} {vs : List Val} {st : Store} {Q : Post} {X : XPost} : Fn TB (k + 1) 8 vs st Q X = (vs.length = b_is_plan_for.arity ∧ wpSL (Fn TB k) X b_is_plan_for.body (start b_is_plan_for vs) st ⟨fun _ st1 => Q .non st1, Q, fun _ _ => False, fun _ _ => False⟩) := rfl
theorem f_check_plan {k : Nat} {vs : List Val} {st : Store} {Q : Post} {X : XPost} : Fn TB (k + 1) 9 vs st Q X = (vs.length = b_check_plan.arity ∧ wpSL (Fn TB k) X b_check_plan.body (start b_check_plan vs) st ⟨fun _ st1 => Q .non st1, Q, fun _ _ => False, fun _ _ => False⟩) := rfl
theorem f_check_station {k : Nat} {vs : List Val} {st : Store} {Q : Post} {X : XPost} : Fn TB (k + 1) 10 vs st Q X = (vs.length = b_check_station.arity ∧ wpSL (Fn TB k) X b_check_station.body (start b_check_station vs) st ⟨fun _ st1 => Q .non st1, Q, fun _ _ => False, fun _ _ => False⟩) := rfl
theorem f_check_beat {k : Nat} {vs : List Val} {st : Store} {Q : Post} {X : XPost} : Fn TB (k + 1) 11 vs st Q X = (vs.length = b_check_beat.arity ∧ wpSL (Fn TB k) X b_check_beat.body (start b_check_beat vs) st ⟨fun _ st1 => Q .non st1, Q, fun _ _ => False, fun _ _ => False⟩) := rfl
theorem f_tasks_at {k : Nat} {vs : List Val} {st : Store} {Q : Post} {X : XPost} : Fn TB (k + 1) 12 vs st Q X = (vs.length = b_tasks_at.arity ∧ wpSL (Fn TB k) X b_tasks_at.body (start b_tasks_at vs) st ⟨fun _ st1 => Q .non st1, Q, fun _ _ => False, fun _ _ => False⟩) := rfl
theorem f_is_piece {k : Nat} {vs : List Val} {st : Store} {Q : Post} {X : XPost} : Fn TB (k + 1) 13 vs st Q X = (vs.length = b_is_piece.arity ∧ wpSL (Fn TB k) X b_is_piece.body (start b_is_piece vs) st ⟨fun _ st1 => Q .non st1, Q, fun _ _ => False, fun _ _ => False⟩) := rfl
theorem f_is_allowed {k : Nat} {vs : List Val} {st : Store} {Q : Post} {X : XPost} : Fn TB (k + 1) 14 vs st Q X = (vs.length = b_is_allowed.arity ∧ wpSL (Fn TB k) X b_is_allowed.body (start b_is_allowed vs) st ⟨fun _ st1 => Q .non st1, Q, fun _ _ => False, fun _ _ => False⟩) := rfl
theorem f_state_behind {k : Nat} {vs : List Val} {st : Store} {Q : Post} {X : XPost} : Fn TB (k + 1) 15 vs st Q X = (vs.length = b_state_behind.arity ∧ wpSL (Fn TB k) X b_state_behind.body (start b_state_behind vs) st ⟨fun _ st1 => Q .non st1, Q, fun _ _ => False, fun _ _ => False⟩) := rfl
theorem f_times_of {k : Nat} {vs : List Val} {st : Store} {Q : Post} {X : XPost} : Fn TB (k + 1) 16 vs st Q X = (vs.length = b_times_of.arity ∧ wpSL (Fn TB k) X b_times_of.body (start b_times_of vs) st ⟨fun _ st1 => Q .non st1, Q, fun _ _ => False, fun _ _ => False⟩) := rfl
theorem f_latenesses {k : Nat} {vs : List Val} {st : Store} {Q : Post} {X : XPost} : Fn TB (k + 1) 17 vs st Q X = (vs.length = b_latenesses.arity ∧ wpSL (Fn TB k) X b_latenesses.body (start b_latenesses vs) st ⟨fun _ st1 => Q .non st1, Q, fun _ _ => False, fun _ _ => False⟩) := rfl
theorem f_overflows {k : Nat} {vs : List Val} {st : Store} {Q : Post} {X : XPost} : Fn TB (k + 1) 18 vs st Q X = (vs.length = b_overflows.arity ∧ wpSL (Fn TB k) X b_overflows.body (start b_overflows vs) st ⟨fun _ st1 => Q .non st1, Q, fun _ _ => False, fun _ _ => False⟩) := rfl
theorem f_is_loop {k : Nat} {vs : List Val} {st : Store} {Q : Post} {X : XPost} : Fn TB (k + 1) 19 vs st Q X = (vs.length = b_is_loop.arity ∧ wpSL (Fn TB k) X b_is_loop.body (start b_is_loop vs) st ⟨fun _ st1 => Q .non st1, Q, fun _ _ => False, fun _ _ => False⟩) := rfl
theorem f_gains {k : Nat} {vs : List Val} {st : Store} {Q : Post} {X : XPost} : Fn TB (k + 1) 20 vs st Q X = (vs.length = b_gains.arity ∧ wpSL (Fn TB k) X b_gains.body (start b_gains vs) st ⟨fun _ st1 => Q .non st1, Q, fun _ _ => False, fun _ _ => False⟩) := rfl
theorem f_checked_station {k : Nat} {vs : List Val} {st : Store} {Q : Post} {X : XPost} : Fn TB (k + 1) 21 vs st Q X = (vs.length = b_checked_station.arity ∧ wpSL (Fn TB k) X b_checked_station.body (start b_checked_station vs) st ⟨fun _ st1 => Q .non st1, Q, fun _ _ => False, fun _ _ => False⟩) := rfl
theorem f_row_overflows {k : Nat} {vs : List Val} {st : Store} {Q : Post} {X : XPost} : Fn TB (k + 1) 22 vs st Q X = (vs.length = b_row_overflows.arity ∧ wpSL (Fn TB k) X b_row_overflows.body (start b_row_overflows vs) st ⟨fun _ st1 => Q .non st1, Q, fun _ _ => False, fun _ _ => False⟩) := rfl
theorem f_loop_gains {k : Nat} {vs : List Val} {st : Store} {Q : Post} {X : XPost} : Fn TB (k + 1) 23 vs st Q X = (vs.length = b_loop_gains.arity ∧ wpSL (Fn TB k) X b_loop_gains.body (start b_loop_gains vs) st ⟨fun _ st1 => Q .non st1, Q, fun _ _ => False, fun _ _ => False⟩) := rfl
theorem f_is_task {k : Nat} {vs : List Val} {st : Store} {Q : Post} {X : XPost} : Fn TB (k + 1) 24 vs st Q X = (vs.length = b_is_task.arity ∧ wpSL (Fn TB k) X b_is_task.body (start b_is_task vs) st ⟨fun _ st1 => Q .non st1, Q, fun _ _ => False, fun _ _ => False⟩) := rfl
theorem f_is_model {k : Nat} {vs : List Val} {st : Store} {Q : Post} {X : XPost} : Fn TB (k + 1) 25 vs st Q X = (vs.length = b_is_model.arity ∧ wpSL (Fn TB k) X b_is_model.body (start b_is_model vs) st ⟨fun _ st1 => Q .non st1, Q, fun _ _ => False, fun _ _ => False⟩) := rfl
theorem f_is_state {k : Nat} {vs : List Val} {st : Store} {Q : Post} {X : XPost} : Fn TB (k + 1) 26 vs st Q X = (vs.length = b_is_state.arity ∧ wpSL (Fn TB k) X b_is_state.body (start b_is_state vs) st ⟨fun _ st1 => Q .non st1, Q, fun _ _ => False, fun _ _ => False⟩) := rfl
theorem f_is_slips {k : Nat} {vs : List Val} {st : Store} {Q : Post} {X : XPost} : Fn TB (k + 1) 27 vs st Q X = (vs.length = b_is_slips.arity ∧ wpSL (Fn TB k) X b_is_slips.body (start b_is_slips vs) st ⟨fun _ st1 => Q .non st1, Q, fun _ _ => False, fun _ _ => False⟩) := rfl
theorem f_leads_to {k : Nat} {vs : List Val} {st : Store} {Q : Post} {X : XPost} : Fn TB (k + 1) 28 vs st Q X = (vs.length = b_leads_to.arity ∧ wpSL (Fn TB k) X b_leads_to.body (start b_leads_to vs) st ⟨fun _ st1 => Q .non st1, Q, fun _ _ => False, fun _ _ => False⟩) := rfl
theorem f_tasks_with_tuples {k : Nat} {vs : List Val} {st : Store} {Q : Post} {X : XPost} : Fn TB (k + 1) 29 vs st Q X = (vs.length = b_tasks_with_tuples.arity ∧ wpSL (Fn TB k) X b_tasks_with_tuples.body (start b_tasks_with_tuples vs) st ⟨fun _ st1 => Q .non st1, Q, fun _ _ => False, fun _ _ => False⟩) := rfl
theorem f_order_with_tuples {k : Nat} {vs : List Val} {st : Store} {Q : Post} {X : XPost} : Fn TB (k + 1) 30 vs st Q X = (vs.length = b_order_with_tuples.arity ∧ wpSL (Fn TB k) X b_order_with_tuples.body (start b_order_with_tuples vs) st ⟨fun _ st1 => Q .non st1, Q, fun _ _ => False, fun _ _ => False⟩) := rfl
theorem f_is_filled {k : Nat} {vs : List Val} {st : Store} {Q : Post} {X : XPost} : Fn TB (k + 1) 31 vs st Q X = (vs.length = b_is_filled.arity ∧ wpSL (Fn TB k) X b_is_filled.body (start b_is_filled vs) st ⟨fun _ st1 => Q .non st1, Q, fun _ _ => False, fun _ _ => False⟩) := rfl
theorem f_Line_init {k : Nat} {vs : List Val} {st : Store} {Q : Post} {X : XPost} : Fn TB (k + 1) 32 vs st Q X = (vs.length = b_Line_init.arity ∧ wpSL (Fn TB k) X b_Line_init.body (start b_Line_init vs) st ⟨fun _ st1 => Q .non st1, Q, fun _ _ => False, fun _ _ => False⟩) := rfl
theorem f_Line_tasks {k : Nat} {vs : List Val} {st : Store} {Q : Post} {X : XPost} : Fn TB (k + 1) 33 vs st Q X = (vs.length = b_Line_tasks.arity ∧ wpSL (Fn TB k) X b_Line_tasks.body (start b_Line_tasks vs) st ⟨fun _ st1 => Q .non st1, Q, fun _ _ => False, fun _ _ => False⟩) := rfl
theorem f_Line_order {k : Nat} {vs : List Val} {st : Store} {Q : Post} {X : XPost} : Fn TB (k + 1) 34 vs st Q X = (vs.length = b_Line_order.arity ∧ wpSL (Fn TB k) X b_Line_order.body (start b_Line_order vs) st ⟨fun _ st1 => Q .non st1, Q, fun _ _ => False, fun _ _ => False⟩) := rfl
theorem f_Line_models {k : Nat} {vs : List Val} {st : Store} {Q : Post} {X : XPost} : Fn TB (k + 1) 35 vs st Q X = (vs.length = b_Line_models.arity ∧ wpSL (Fn TB k) X b_Line_models.body (start b_Line_models vs) st ⟨fun _ st1 => Q .non st1, Q, fun _ _ => False, fun _ _ => False⟩) := rfl
theorem f_Line_states {k : Nat} {vs : List Val} {st : Store} {Q : Post} {X : XPost} : Fn TB (k + 1) 36 vs st Q X = (vs.length = b_Line_states.arity ∧ wpSL (Fn TB k) X b_Line_states.body (start b_Line_states vs) st ⟨fun _ st1 => Q .non st1, Q, fun _ _ => False, fun _ _ => False⟩) := rfl
theorem f_Line_start {k : Nat} {vs : List Val} {st : Store} {Q : Post} {X : XPost} : Fn TB (k + 1) 37 vs st Q X = (vs.length = b_Line_start.arity ∧ wpSL (Fn TB k) X b_Line_start.body (start b_Line_start vs) st ⟨fun _ st1 => Q .non st1, Q, fun _ _ => False, fun _ _ => False⟩) := rfl
theorem f_Line_slips {k : Nat} {vs : List Val} {st : Store} {Q : Post} {X : XPost} : Fn TB (k + 1) 38 vs st Q X = (vs.length = b_Line_slips.arity ∧ wpSL (Fn TB k) X b_Line_slips.body (start b_Line_slips vs) st ⟨fun _ st1 => Q .non st1, Q, fun _ _ => False, fun _ _ => False⟩) := rfl
theorem f_is_row {k : Nat} {vs : List Val} {st : Store} {Q : Post} {X : XPost} : Fn TB (k + 1) 39 vs st Q X = (vs.length = b_is_row.arity ∧ wpSL (Fn TB k) X b_is_row.body (start b_is_row vs) st ⟨fun _ st1 => Q .non st1, Q, fun _ _ => False, fun _ _ => False⟩) := rfl
theorem f_lateness {k : Nat} {vs : List Val} {st : Store} {Q : Post} {X : XPost} : Fn TB (k + 1) 40 vs st Q X = (vs.length = b_lateness.arity ∧ wpSL (Fn TB k) X b_lateness.body (start b_lateness vs) st ⟨fun _ st1 => Q .non st1, Q, fun _ _ => False, fun _ _ => False⟩) := rfl
theorem f__law_so {k : Nat} {vs : List Val} {st : Store} {Q : Post} {X : XPost} : Fn TB (k + 1) 41 vs st Q X = (vs.length = b__law_so.arity ∧ wpSL (Fn TB k) X b__law_so.body (start b__law_so vs) st ⟨fun _ st1 => Q .non st1, Q, fun _ _ => False, fun _ _ => False⟩) := rfl
theorem f__law_numbers {k : Nat} {vs : List Val} {st : Store} {Q : Post} {X : XPost} : Fn TB (k + 1) 42 vs st Q X = (vs.length = b__law_numbers.arity ∧ wpSL (Fn TB k) X b__law_numbers.body (start b__law_numbers vs) st ⟨fun _ st1 => Q .non st1, Q, fun _ _ => False, fun _ _ => False⟩) := rfl
theorem f__law_draw {k : Nat} {vs : List Val} {st : Store} {Q : Post} {X : XPost} : Fn TB (k + 1) 43 vs st Q X = (vs.length = b__law_draw.arity ∧ wpSL (Fn TB k) X b__law_draw.body (start b__law_draw vs) st ⟨fun _ st1 => Q .non st1, Q, fun _ _ => False, fun _ _ => False⟩) := rfl
theorem f__law_take {k : Nat} {vs : List Val} {st : Store} {Q : Post} {X : XPost} : Fn TB (k + 1) 44 vs st Q X = (vs.length = b__law_take.arity ∧ wpSL (Fn TB k) X b__law_take.body (start b__law_take vs) st ⟨fun _ st1 => Q .non st1, Q, fun _ _ => False, fun _ _ => False⟩) := rfl
theorem f__law_loose {k : Nat} {vs : List Val} {st : Store} {Q : Post} {X : XPost} : Fn TB (k + 1) 45 vs st Q X = (vs.length = b__law_loose.arity ∧ wpSL (Fn TB k) X b__law_loose.body (start b__law_loose vs) st ⟨fun _ st1 => Q .non st1, Q, fun _ _ => False, fun _ _ => False⟩) := rfl
theorem f__law_made {k : Nat} {vs : List Val} {st : Store} {Q : Post} {X : XPost} : Fn TB (k + 1) 46 vs st Q X = (vs.length = b__law_made.arity ∧ wpSL (Fn TB k) X b__law_made.body (start b__law_made vs) st ⟨fun _ st1 => Q .non st1, Q, fun _ _ => False, fun _ _ => False⟩) := rfl
theorem f_law {k : Nat} {vs : List Val} {st : Store} {Q : Post} {X : XPost} : Fn TB (k + 1) 47 vs st Q X = (vs.length = b_law.arity ∧ wpSL (Fn TB k) X b_law.body (start b_law vs) st ⟨fun _ st1 => Q .non st1, Q, fun _ _ => False, fun _ _ => False⟩) := rfl

end VM

namespace VM
section
set_option autoImplicit true
variable {Φ : FnSem} {X : XPost}
@[simp] theorem wpE_var  : wpE Φ X (.var i) ρ st Q = getv ρ i fun v => Q v st := rfl
@[simp] theorem wpE_con  : wpE Φ X (.con v) ρ st Q = Q v st := rfl
@[simp] theorem wpE_glb  : wpE Φ X (.glb u1 v) ρ st Q = Q v st := rfl
@[simp] theorem wpE_tup  : wpE Φ X (.tup es) ρ st Q = wpEL Φ X es ρ st fun vs st1 => Q (.tup vs) st1 := rfl
@[simp] theorem wpE_lst  : wpE Φ X (.lst es) ρ st Q = wpEL Φ X es ρ st fun vs st1 => Q (.lst vs) st1 := rfl
@[simp] theorem wpE_nlst  : wpE Φ X (.nlst es) ρ st Q = wpEL Φ X es ρ st fun vs st1 => Q (.cell st1.next) (st1.new (.lst vs false)) := rfl
@[simp] theorem wpE_lstar  : wpE Φ X (.lstar es) ρ st Q = wpStar Φ X es ρ st fun vs st1 => vs.length ≤ big ∧ Q (.lst vs) st1 := rfl
@[simp] theorem wpE_and  : wpE Φ X (.and a b) ρ st Q = wpE Φ X a ρ st fun v st1 => isB v fun c => if c = true then wpE Φ X b ρ st1 Q else Q (.bool false) st1 := rfl
@[simp] theorem wpE_or  : wpE Φ X (.or a b) ρ st Q = wpE Φ X a ρ st fun v st1 => isB v fun c => if c = true then Q (.bool true) st1 else wpE Φ X b ρ st1 Q := rfl
@[simp] theorem wpE_not  : wpE Φ X (.not a) ρ st Q = wpE Φ X a ρ st fun v st1 => isB v fun c => Q (.bool (!c)) st1 := rfl
@[simp] theorem wpE_neg  : wpE Φ X (.neg a) ρ st Q = wpE Φ X a ρ st fun v st1 => isI v fun i => Q (.int (-i)) st1 := rfl
@[simp] theorem wpE_bin  : wpE Φ X (.bin op a b) ρ st Q = wpE Φ X a ρ st fun v st1 => wpE Φ X b ρ st1 fun u st2 => wpBin op v u st2 Q := rfl
@[simp] theorem wpE_cmp  : wpE Φ X (.cmp op a b) ρ st Q = wpE Φ X a ρ st fun v st1 => wpE Φ X b ρ st1 fun u st2 => wpCmp op v u st2 fun c => Q (.bool c) st2 := rfl
@[simp] theorem wpE_chain  : wpE Φ X (.chain p q a b c) ρ st Q = wpE Φ X a ρ st fun v st1 => wpE Φ X b ρ st1 fun u st2 => wpCmp p v u st2 fun d => if d = true then wpE Φ X c ρ st2 fun w st3 => wpCmp q u w st3 fun d => Q (.bool d) st3 else Q (.bool false) st2 := rfl
@[simp] theorem wpE_ite  : wpE Φ X (.ite c a b) ρ st Q = wpE Φ X c ρ st fun v st1 => truth st1 v fun d => if d = true then wpE Φ X a ρ st1 Q else wpE Φ X b ρ st1 Q := rfl
@[simp] theorem wpE_sub  : wpE Φ X (.sub a b) ρ st Q = wpE Φ X a ρ st fun v st1 => wpE Φ X b ρ st1 fun u st2 => wpSub v u st2 Q := rfl
@[simp] theorem wpE_slice  : wpE Φ X (.slice a lo hi) ρ st Q = wpE Φ X a ρ st fun v st1 => wpEO Φ X lo ρ st1 fun l st2 => wpEO Φ X hi ρ st2 fun h st3 => wpSlice v l h st3 Q := rfl
@[simp] theorem wpE_prop  : wpE Φ X (.prop c f a) ρ st Q = wpE Φ X a ρ st fun v st1 => (match v with
    | .obj d _ => d = c ∧ Φ f [v] st1 Q X
    | _ => False) := rfl
@[simp] theorem wpE_fld  : wpE Φ X (.fld c f a) ρ st Q = wpE Φ X a ρ st fun v st1 => onO (fldsOf st1 c v) fun fs => onO (lookF f fs) fun u => Q u st1 := rfl
@[simp] theorem wpE_call  : wpE Φ X (.call f es) ρ st Q = wpEL Φ X es ρ st fun vs st1 => Φ f vs st1 Q X := rfl
@[simp] theorem wpE_make  : wpE Φ X (.make c f es) ρ st Q = wpEL Φ X es ρ st fun vs st1 => Φ f (.cell st1.next :: vs) (st1.new (.ins c [])) (fun r st2 => match st2.get st1.next with
    | some (.ins d fs) => d = c ∧ r = .non ∧ Q (.obj c fs) (st2.del st1.next)
    | _ => False) X := rfl
@[simp] theorem wpE_makeK  : wpE Φ X (.makeK c f es e) ρ st Q = wpEL Φ X es ρ st fun vs st0 => wpE Φ X e ρ st0 fun u st1 => Φ f (.cell st1.next :: (vs ++ [u])) (st1.new (.ins c [])) (fun r st2 => match st2.get st1.next with
    | some (.ins d fs) => d = c ∧ r = .non ∧ Q (.obj c fs) (st2.del st1.next)
    | _ => False) X := rfl
@[simp] theorem wpE_meth  : wpE Φ X (.meth c f a es) ρ st Q = wpE Φ X a ρ st fun v st1 => (match v with
    | .obj d _ => d = c ∧ wpEL Φ X es ρ st1 fun vs st2 => Φ f (v :: vs) st2 Q X
    | _ => False) := rfl
@[simp] theorem wpE_bi1  : wpE Φ X (.bi1 b a) ρ st Q = wpE Φ X a ρ st fun v st1 => wpB1 b v st1 Q := rfl
@[simp] theorem wpE_bi2  : wpE Φ X (.bi2 b a c) ρ st Q = wpE Φ X a ρ st fun v st1 => wpE Φ X c ρ st1 fun u st2 => wpB2 b v u st2 Q := rfl
@[simp] theorem wpE_isin  : wpE Φ X (.isin t a) ρ st Q = wpE Φ X a ρ st fun v st1 => onO (isTy t v) fun b => Q (.bool b) st1 := rfl
@[simp] theorem wpE_frz  : wpE Φ X (.frz a) ρ st Q = wpE Φ X a ρ st fun v st1 => wpFrz v st1 Q := rfl
@[simp] theorem wpE_pop  : wpE Φ X (.pop a) ρ st Q = wpE Φ X a ρ st fun v st1 => wpPop v st1 Q := rfl
@[simp] theorem wpEL_nil  : wpEL Φ X (.nil) ρ st Q = Q [] st := rfl
@[simp] theorem wpEL_cons  : wpEL Φ X (.cons e r) ρ st Q = wpE Φ X e ρ st fun v st1 => wpEL Φ X r ρ st1 fun vs st2 => Q (v :: vs) st2 := rfl
@[simp] theorem wpStar_nil  : wpStar Φ X (.nil) ρ st Q = Q [] st := rfl
@[simp] theorem wpStar_cons  : wpStar Φ X (.cons e r) ρ st Q = wpE Φ X e ρ st fun v st1 => onO (seqOf st1 v) fun xs => wpStar Φ X r ρ st1 fun vs st2 => Q (xs ++ vs) st2 := rfl
@[simp] theorem wpEO_no  : wpEO Φ X (.no) ρ st Q = Q none st := rfl
@[simp] theorem wpEO_yes  : wpEO Φ X (.yes e) ρ st Q = wpE Φ X e ρ st fun v st1 => isI v fun i => Q (some i) st1 := rfl
@[simp] theorem wpC_no  : wpC Φ X (.no) ρ st Q = Q true st := rfl
@[simp] theorem wpC_yes  : wpC Φ X (.yes e) ρ st Q = wpE Φ X e ρ st fun v st1 => truth st1 v fun d => Q d st1 := rfl
@[simp] theorem wpSrc_rng1  : wpSrc Φ X (.rng1 e) ρ st Q = wpE Φ X e ρ st fun v st1 => isI v fun j => -(2 ^ 60) ≤ j ∧ j ≤ big ∧ Q (intsFrom 0 j.toNat) st1 := rfl
@[simp] theorem wpSrc_rng2  : wpSrc Φ X (.rng2 a b) ρ st Q = wpE Φ X a ρ st fun v st1 => wpE Φ X b ρ st1 fun u st2 => isI v fun i => isI u fun j => (-(2 ^ 60) ≤ i ∧ i < 2 ^ 60 ∧ -(2 ^ 60) ≤ j ∧ j < 2 ^ 60 ∧ j - i ≤ big) ∧ Q (intsFrom i (j - i).toNat) st2 := rfl
@[simp] theorem wpS_set  : wpS Φ X (.set i e) ρ st D = wpE Φ X e ρ st fun v st1 => i < ρ.length ∧ D.nx (ρ.set i (some v)) st1 := rfl
@[simp] theorem wpS_asg  : wpS Φ X (.asg t e) ρ st D = wpE Φ X e ρ st fun v st1 => wpTgt t v ρ fun ρ1 => D.nx ρ1 st1 := rfl
@[simp] theorem wpS_item  : wpS Φ X (.item o i e) ρ st D = wpE Φ X e ρ st fun v st1 => wpE Φ X o ρ st1 fun u st2 => wpE Φ X i ρ st2 fun z st3 => wpItem u z v st3 fun st4 => D.nx ρ st4 := rfl
@[simp] theorem wpS_fld  : wpS Φ X (.fld i c f e) ρ st D = wpE Φ X e ρ st fun v st1 => getv ρ i fun o => (match o with
    | .cell n => (match st1.get n with
      | some (.ins d fs) => d = c ∧ fs.length < 900 ∧ D.nx ρ (st1.set n (.ins c (putF f v fs)))
      | _ => False)
    | _ => False) := rfl
@[simp] theorem wpS_aug  : wpS Φ X (.aug i e) ρ st D = getv ρ i fun x => wpE Φ X e ρ st fun v st1 => isI x fun a => isI v fun b => D.nx (ρ.set i (some (.int (a + b)))) st1 := rfl
@[simp] theorem wpS_ifs  : wpS Φ X (.ifs c a b) ρ st D = wpE Φ X c ρ st fun v st1 => truth st1 v fun d => if d = true then wpSL Φ X a ρ st1 D else wpSL Φ X b ρ st1 D := rfl
@[simp] theorem wpS_ret  : wpS Φ X (.ret e) ρ st D = wpE Φ X e ρ st D.rt := rfl
@[simp] theorem wpS_retN  : wpS Φ X (.retN) ρ st D = D.rt .non st := rfl
@[simp] theorem wpS_brk  : wpS Φ X (.brk) ρ st D = D.bk ρ st := rfl
@[simp] theorem wpS_cnt  : wpS Φ X (.cnt) ρ st D = D.ct ρ st := rfl
@[simp] theorem wpS_pass  : wpS Φ X (.pass) ρ st D = D.nx ρ st := rfl
@[simp] theorem wpS_ex  : wpS Φ X (.ex e) ρ st D = wpE Φ X e ρ st fun _ st1 => D.nx ρ st1 := rfl
@[simp] theorem wpS_append  : wpS Φ X (.append o e) ρ st D = wpE Φ X o ρ st fun u st1 => onL st1 u fun _ _ => wpE Φ X e ρ st1 fun v st2 => onL st2 u fun n vs => vs.length < big ∧ D.nx ρ (st2.set n (.lst (vs ++ [v]) false)) := rfl
@[simp] theorem wpS_extend  : wpS Φ X (.extend o e) ρ st D = wpE Φ X o ρ st fun u st1 => onL st1 u fun _ _ => wpE Φ X e ρ st1 fun v st2 => onL st2 u fun n vs => (match v with
    | .lst ws => vs.length + ws.length ≤ big ∧ D.nx ρ (st2.set n (.lst (vs ++ ws) false))
    | _ => False) := rfl
@[simp] theorem wpS_raise  : wpS Φ X (.raise c e) ρ st D = wpE Φ X e ρ st fun v st1 => X c v st1 := rfl
@[simp] theorem wpS_die  : wpS Φ X (.die) ρ st D = False := rfl
@[simp] theorem wpSL_nil  : wpSL Φ X (.nil) ρ st D = D.nx ρ st := rfl
@[simp] theorem wpSL_cons  : wpSL Φ X (.cons s r) ρ st D = wpS Φ X s ρ st { D with nx := fun ρ1 st1 => wpSL Φ X r ρ1 st1 D } := rfl
end
@[simp] theorem isB_eq {v : Val} {k : Bool → Prop} : isB v k = (match v with
  | .bool b => k b
  | _ => False) := rfl
@[simp] theorem isI_eq {v : Val} {k : Int → Prop} : isI v k = (match v with
  | .int i => k i
  | _ => False) := rfl
@[simp] theorem isS_eq {v : Val} {k : Str → Prop} : isS v k = (match v with
  | .str i => k i
  | _ => False) := rfl
@[simp] theorem isT_eq {v : Val} {k : List Val → Prop} : isT v k = (match v with
  | .tup i => k i
  | _ => False) := rfl
@[simp] theorem seqOf_eq {st : Store} {v : Val} : seqOf st v = (match v with
  | .tup vs => some vs
  | .lst vs => some vs
  | .cell n => match st.get n with
    | some (.lst vs _) => some vs
    | _ => none
  | _ => none) := rfl
@[simp] theorem lstOf_eq {st : Store} {v : Val} : lstOf st v = (match v with
  | .lst vs => some vs
  | .cell n => match st.get n with
    | some (.lst vs _) => some vs
    | _ => none
  | _ => none) := rfl
@[simp] theorem onO_eq {α : Type} {o : Option α} {k : α → Prop} : onO o k = (match o with
  | some x => k x
  | none => False) := rfl
@[simp] theorem binI_eq {op : BOp} {i j : Int} {k : Int → Prop} : binI op i j k = (match op with
  | .add => k (i + j)
  | .sub => k (i - j)
  | .mul => CMul i j ∧ k (i * j)
  | .mod => 0 < j ∧ k (i % j)
  | .fdiv => 0 < j ∧ j < 1073741824 ∧ k (i / j)
  | .pow => 0 ≤ j ∧ j ≤ 1000 ∧ i.natAbs < 2 ^ 64 ∧ k (i ^ j.toNat)) := rfl
@[simp] theorem wpBin_eq {op : BOp} {a b : Val} {st : Store} {Q : Post} : wpBin op a b st Q = (match a, b with
  | .int i, .int j => binI op i j fun n => Q (.int n) st
  | .tup xs, .tup ys => match op with
    | .add => xs.length + ys.length ≤ big ∧ Q (.tup (xs ++ ys)) st
    | _ => False
  | .tup xs, .int n => match op with
    | .mul => xs ≠ [] ∧ 1 ≤ n ∧ n < 2 ^ 40 ∧ xs.length * n.toNat ≤ big ∧ Q (.tup (List.replicate n.toNat xs).flatten) st
    | _ => False
  | .lst xs, .lst ys => match op with
    | .add => xs.length + ys.length ≤ big ∧ Q (.lst (xs ++ ys)) st
    | _ => False
  | .lst xs, .int n => match op with
    | .mul => 0 ≤ n ∧ n < 2 ^ 40 ∧ xs.length * n.toNat ≤ big ∧ Q (.lst (List.replicate n.toNat xs).flatten) st
    | _ => False
  | .str xs, .str ys => match op with
    | .add => xs.length + ys.length ≤ big ∧ Q (.str (xs ++ ys)) st
    | _ => False
  | _, _ => False) := rfl
@[simp] theorem wpEq_eq {a b : Val} {k : Bool → Prop} : wpEq a b k = (match a, b with
  | .int i, .int j => k (decide (i = j))
  | .str i, .str j => k (decide (i = j))
  | a, b => data 60 a = true ∧ data 60 b = true ∧ k (veq a b)) := rfl
@[simp] theorem cmpI_eq {op : COp} {i j : Int} {k : Bool → Prop} : cmpI op i j k = (match op with
  | .lt => k (decide (i < j))
  | .le => k (decide (i ≤ j))
  | .gt => k (decide (j < i))
  | .ge => k (decide (j ≤ i))
  | _ => False) := rfl
@[simp] theorem wpCmp_eq {op : COp} {a b : Val} {st : Store} {k : Bool → Prop} : wpCmp op a b st k = (match op with
  | .eq => wpEq a b k
  | .ne => wpEq a b fun c => k (!c)
  | .isN => b = .non ∧ k (isNon a)
  | .notN => b = .non ∧ k (!isNon a)
  | .mem => wpMem a b st k
  | .nmem => wpMem a b st fun c => k (!c)
  | op => isI a fun i => isI b fun j => cmpI op i j k) := rfl
@[simp] theorem wpSub_eq {a b : Val} {st : Store} {Q : Post} : wpSub a b st Q = (onO (seqOf st a) fun vs => isI b fun i => onO (atI vs i) fun v => Q v st) := rfl
@[simp] theorem wpB2_eq {b : B2} {v u : Val} {st : Store} {Q : Post} : wpB2 b v u st Q = (isI v fun i => isI u fun j => match b with
  | .max => Q (.int (if i < j then j else i)) st
  | .min => Q (.int (if j < i then j else i)) st
  | .gcd => Q (.int (Int.gcd i j)) st) := rfl
@[simp] theorem isTy_eq {t : Ty} {v : Val} : isTy t v = (match t with
  | .tint => (tyN v).map fun n => n == 1 || n == 2
  | .tbool => (tyN v).map fun n => n == 1
  | .tstr => (tyN v).map fun n => n == 3
  | .tseq => (tyN v).map fun n => n == 4 || n == 5
  | .ttup => (tyN v).map fun n => n == 4
  | .tcls c => match v with
    | .obj d _ => if d = c then some true else none
    | _ => none) := rfl
@[simp] theorem truth_eq {st : Store} {v : Val} {k : Bool → Prop} : truth st v k = (match v with
  | .bool b => k b
  | v => onO (lstOf st v) fun vs => k (!vs.isEmpty)) := rfl
@[simp] theorem start_eq {fd : FD} {vs : List Val} : start fd vs = (vs.map some ++ List.replicate (fd.slots - vs.length) none) := rfl
@[simp] theorem onL_eq {st : Store} {v : Val} {k : Nat → List Val → Prop} : onL st v k = (match v with
  | .cell n => (match st.get n with
    | some (.lst vs false) => k n vs
    | _ => False)
  | _ => False) := rfl
@[simp] theorem wpItem_eq {o i v : Val} {st : Store} {k : Store → Prop} : wpItem o i v st k = (match o with
  | .cell n => (match st.get n with
    | some (.lst vs false) => isI i fun z => onO (ixN vs.length z) fun j => k (st.set n (.lst (vs.set j v) false))
    | _ => False)
  | _ => False) := rfl
@[simp] theorem fldsOf_eq {st : Store} {c : Nat} {v : Val} : fldsOf st c v = (match v with
  | .obj d fs => if d = c then some fs else none
  | .cell n => match st.get n with
    | some (.ins d fs) => if d = c then some fs else none
    | _ => none
  | _ => none) := rfl
@[simp] theorem tyN_non : tyN .non = some 0 := rfl
@[simp] theorem tyN_bool {b : Bool} : tyN (.bool b) = some 1 := rfl
@[simp] theorem tyN_int {b : Int} : tyN (.int b) = some 2 := rfl
@[simp] theorem tyN_str {b : Str} : tyN (.str b) = some 3 := rfl
@[simp] theorem tyN_tup {b : List Val} : tyN (.tup b) = some 4 := rfl
@[simp] theorem tyN_lst {b : List Val} : tyN (.lst b) = some 5 := rfl
@[simp] theorem tyN_cell {b : Nat} : tyN (.cell b) = none := rfl
@[simp] theorem tyN_obj {b : Nat} {c : List (Nat × Val)} : tyN (.obj b c) = none := rfl
@[simp] theorem getv_nil {n : Nat} {k : Val → Prop} : getv [] n k = False := by cases n <;> rfl
@[simp] theorem getv_z {v : Val} {r : Env} {k : Val → Prop} : getv (some v :: r) 0 k = k v := rfl
@[simp] theorem getv_zn {r : Env} {k : Val → Prop} : getv (none :: r) 0 k = False := rfl
@[simp] theorem getv_s {o : Option Val} {r : Env} {n : Nat} {k : Val → Prop} : getv (o :: r) (n + 1) k = getv r n k := by cases o <;> rfl
@[simp] theorem wpTgt_name {i : Nat} {v : Val} {ρ : Env} {k : Env → Prop} : wpTgt (.name i) v ρ k = (i < ρ.length ∧ k (ρ.set i (some v))) := rfl
@[simp] theorem wpTgt_nil {v : Val} {ρ : Env} {k : Env → Prop} : wpTgt .nil v ρ k = isT v fun vs => vs = [] ∧ k ρ := rfl
@[simp] theorem wpTgt_cons {t r : Tgt} {v : Val} {ρ : Env} {k : Env → Prop} : wpTgt (.cons t r) v ρ k = (match v with
    | .tup (x :: xs) => wpTgt t x ρ fun ρ1 => wpTgt r (.tup xs) ρ1 k
    | _ => False) := rfl
@[simp] theorem wipe_nil {ρ : Env} : wipe ρ [] = ρ := rfl
@[simp] theorem wipe_cons {ρ : Env} {i : Nat} {r : List Nat} : wipe ρ (i :: r) = (wipe ρ r).set i none := rfl
@[simp] theorem numb_nil {n : Nat} : numb n [] = [] := rfl
@[simp] theorem numb_cons {n : Nat} {v : Val} {r : List Val} : numb n (v :: r) = .tup [.int n, v] :: numb (n + 1) r := rfl
@[simp] theorem lookF_nil {f : Nat} : lookF f [] = none := rfl
@[simp] theorem lookF_cons {f g : Nat} {v : Val} {r : List (Nat × Val)} : lookF f ((g, v) :: r) = if g = f then some v else lookF f r := rfl
@[simp] theorem putF_nil {f : Nat} {v : Val} : putF f v [] = [(f, v)] := rfl
@[simp] theorem putF_cons {f g : Nat} {u v : Val} {r : List (Nat × Val)} : putF f v ((g, u) :: r) = if g = f then (f, v) :: r else (g, u) :: putF f v r := rfl
/-- a list or a tuple that is no cell -/
def asSeq : Val → Option (List Val)
  | .tup vs => some vs
  | .lst vs => some vs
  | _ => none
@[simp] theorem asSeq_tup {vs : List Val} : asSeq (.tup vs) = some vs := rfl
@[simp] theorem asSeq_lst {vs : List Val} : asSeq (.lst vs) = some vs := rfl
section
variable {Φ : FnSem} {X : XPost} {ρ : Env} {st : Store} {Q : Post} {vs : List Val} {v : Val}
@[simp] theorem wpSrc_seq {e : E} {R : List Val → Store → Prop} : wpSrc Φ X (.seq e) ρ st R = wpE Φ X e ρ st fun v st1 => onO (asSeq v) fun vs => R vs st1 := by
  rw [wpSrc]; congr 1; funext v st1; cases v <;> rfl
@[simp] theorem wpSrc_enum {e : E} {R : List Val → Store → Prop} : wpSrc Φ X (.enum e) ρ st R = wpE Φ X e ρ st fun v st1 => onO (asSeq v) fun vs => R (numb 0 vs) st1 := by
  rw [wpSrc]; congr 1; funext v st1; cases v <;> rfl
@[simp] theorem len_tup : wpB1 .len (.tup vs) st Q = Q (.int vs.length) st := rfl
@[simp] theorem len_lst : wpB1 .len (.lst vs) st Q = Q (.int vs.length) st := rfl
@[simp] theorem len_scr {ns : List Int} : wpB1 .len (.scr ns) st Q = Q (.int ns.length) st := rfl
theorem len_seq (h : asSeq v = some vs) : wpB1 .len v st Q = Q (.int vs.length) st := by
  cases v <;> cases h <;> rfl
theorem len_cell {n : Nat} {lk : Bool} (h : st.get n = some (.lst vs lk)) : wpB1 .len (.cell n) st Q = Q (.int vs.length) st := by
  simp only [wpB1, seqOf, h, onO]
@[simp] theorem b1_sum : wpB1 .sum v st Q = onO (lstOf st v) fun vs => onO (allI vs) fun ns => Q (.int ns.sum) st := rfl
@[simp] theorem b1_all : wpB1 .all v st Q = onO (lstOf st v) fun vs => onO (allB vs) fun bs => Q (.bool (bs.all id)) st := rfl
@[simp] theorem b1_any : wpB1 .any v st Q = onO (lstOf st v) fun vs => onO (allB vs) fun bs => Q (.bool (bs.any id)) st := rfl
@[simp] theorem b1_tuple : wpB1 .tuple v st Q = onO (seqOf st v) fun vs => Q (.tup vs) st := rfl
@[simp] theorem b1_list : wpB1 .list v st Q = onO (seqOf st v) fun vs => Q (.lst vs) st := rfl
@[simp] theorem b1_int : wpB1 .int v st Q = isI v fun i => Q (.int i) st := rfl
@[simp] theorem b1_max : wpB1 .max v st Q = onO (lstOf st v) fun vs => onO (allI vs) fun ns => ns ≠ [] ∧ Q (.int (maxL ns)) st := rfl
@[simp] theorem b1_min : wpB1 .min v st Q = onO (lstOf st v) fun vs => onO (allI vs) fun ns => ns ≠ [] ∧ Q (.int (minL ns)) st := rfl
end
@[simp] theorem isNon_non : isNon .non = true := rfl
@[simp] theorem isNon_int {i : Int} : isNon (.int i) = false := rfl
@[simp] theorem isNon_bool {i : Bool} : isNon (.bool i) = false := rfl
@[simp] theorem isNon_str {i : Str} : isNon (.str i) = false := rfl
@[simp] theorem isNon_tup {i : List Val} : isNon (.tup i) = false := rfl
@[simp] theorem isNon_lst {i : List Val} : isNon (.lst i) = false := rfl
@[simp] theorem isNon_obj {c : Nat} {i : List (Nat × Val)} : isNon (.obj c i) = false := rfl
@[simp] theorem isNon_cell {c : Nat} : isNon (.cell c) = false := rfl
/-! ### stores -/
def Grow (st su : Store) : Prop := st.next ≤ su.next ∧ ∀ m, m < st.next → su.get m = st.get m
theorem Grow.refl (st : Store) : Grow st st := ⟨Nat.le_refl _, fun _ _ => rfl⟩
theorem Grow.trans {a b c : Store} (h : Grow a b) (g : Grow b c) : Grow a c := ⟨Nat.le_trans h.1 g.1, fun m hm => (g.2 m (Nat.lt_of_lt_of_le hm h.1)).trans (h.2 m hm)⟩
theorem Grow.new (st : Store) (c : Cell) : Grow st (st.new c) := ⟨Nat.le_succ _, fun m hm => by simp [Store.new, Nat.ne_of_lt hm]⟩
theorem Grow.set {st su : Store} (h : Grow st su) {n : Nat} {c : Cell} (hn : st.next ≤ n) : Grow st (su.set n c) := ⟨h.1, fun m hm => by
  have : m ≠ n := by omega
  simp [Store.set, this, h.2 m hm]⟩
theorem Grow.del {st su : Store} (h : Grow st su) {n : Nat} (hn : st.next ≤ n) : Grow st (su.del n) := ⟨h.1, fun m hm => by
  have : m ≠ n := by omega
  simp [Store.del, this, h.2 m hm]⟩
@[simp] theorem new_next {st : Store} {c : Cell} : (st.new c).next = st.next + 1 := rfl
@[simp] theorem set_next {st : Store} {n : Nat} {c : Cell} : (st.set n c).next = st.next := rfl
@[simp] theorem del_next {st : Store} {n : Nat} : (st.del n).next = st.next := rfl
@[simp] theorem new_get {st : Store} {c : Cell} : (st.new c).get st.next = some c := by simp [Store.new]
@[simp] theorem set_get {st : Store} {n : Nat} {c : Cell} : (st.set n c).get n = some c := by simp [Store.set]
/-! ### reading by a whole number -/
def gi {α : Type} (d : α) (l : List α) (i : Int) : α := l.getD i.toNat d
theorem atI_in {α : Type} {l : List α} {i : Int} (d : α) (h : 0 ≤ i) (h2 : i < l.length) : atI l i = some (gi d l i) := by
  unfold atI ixN gi
  rw [if_pos h, if_pos h2]
  have : i.toNat < l.length := by omega
  simp [List.getD_eq_getElem?_getD, List.getElem?_eq_getElem this]
theorem atI_map {α β : Type} {l : List α} {f : α → β} {i : Int} : atI (l.map f) i = (atI l i).map f := by
  unfold atI
  rw [List.length_map]
  cases ixN l.length i <;> simp
theorem gi_mem {α : Type} {d : α} {l : List α} {i : Int} (h : 0 ≤ i) (h2 : i < l.length) : gi d l i ∈ l := by
  unfold gi
  have : i.toNat < l.length := by omega
  rw [List.getD_eq_getElem?_getD, List.getElem?_eq_getElem this]
  exact List.getElem_mem this
@[simp] theorem atI_0 {α : Type} {a : α} {l : List α} : atI (a :: l) 0 = some a := by
  unfold atI ixN
  rw [if_pos (by decide), if_pos (by simp <;> omega)]; rfl
@[simp] theorem atI_1 {α : Type} {a b : α} {l : List α} : atI (a :: b :: l) 1 = some b := by
  unfold atI ixN
  rw [if_pos (by decide), if_pos (by simp <;> omega)]; rfl
@[simp] theorem atI_2 {α : Type} {a b c : α} {l : List α} : atI (a :: b :: c :: l) 2 = some c := by
  unfold atI ixN
  rw [if_pos (by decide), if_pos (by simp <;> omega)]; rfl
@[simp] theorem atI_3 {α : Type} {a b c d : α} {l : List α} : atI (a :: b :: c :: d :: l) 3 = some d := by
  unfold atI ixN
  rw [if_pos (by decide), if_pos (by simp <;> omega)]; rfl
@[simp] theorem atI_4 {α : Type} {a b c d e : α} {l : List α} : atI (a :: b :: c :: d :: e :: l) 4 = some e := by
  unfold atI ixN
  rw [if_pos (by decide), if_pos (by simp <;> omega)]; rfl
@[simp] theorem atI_5 {α : Type} {a b c d e f : α} {l : List α} : atI (a :: b :: c :: d :: e :: f :: l) 5 = some f := by
  unfold atI ixN
  rw [if_pos (by decide), if_pos (by simp <;> omega)]; rfl
/-! ### comprehensions and loops -/
/-- a comprehension's turn -/
def wpStep (Φ : FnSem) (X : XPost) (ρ : Env) (own : List Nat) (t : Tgt) (c : EO) (e : E) (v : Val) (st2 : Store) (k : Option Val → Store → Prop) : Prop :=
  wpTgt t v (wipe ρ own) fun ρ1 => wpC Φ X c ρ1 st2 fun d st3 => if d = true then wpE Φ X e ρ1 st3 fun x st4 => k (some x) st4 else k none st3
def wpComp (Φ : FnSem) (X : XPost) (ρ : Env) (own : List Nat) (t : Tgt) (c : EO) (e : E) (vs : List Val) (st : Store) (K : List Val → Store → Prop) : Prop := wpTurns (wpStep Φ X ρ own t c e) vs [] st K
@[simp high] theorem wpE_comp {Φ : FnSem} {X : XPost} {own : List Nat} {s : Src} {t : Tgt} {c : EO} {e : E} {ρ : Env} {st : Store} {Q : Post} : wpE Φ X (.comp own s t c e) ρ st Q = wpSrc Φ X s ρ st fun vs st1 => wpComp Φ X ρ own t c e vs st1 fun out st2 => Q (.lst out) st2 := rfl
def wpLoop (Φ : FnSem) (X : XPost) (t : Tgt) (b : SL) (D : Ends) (vs : List Val) (ρ : Env) (st : Store) : Prop := wpFor t (fun ρ1 s2 D1 => wpSL Φ X b ρ1 s2 D1) D vs ρ st
@[simp high] theorem wpS_for {Φ : FnSem} {X : XPost} {s : Src} {t : Tgt} {b : SL} {ρ : Env} {st : Store} {D : Ends} : wpS Φ X (.for_ s t b) ρ st D = wpSrc Φ X s ρ st fun vs st1 => wpLoop Φ X t b D vs ρ st1 := rfl
@[simp] theorem wpLoop_nil {Φ : FnSem} {X : XPost} {t : Tgt} {b : SL} {D : Ends} {ρ : Env} {st : Store} : wpLoop Φ X t b D [] ρ st = D.nx ρ st := rfl
theorem wpLoop_cons {Φ : FnSem} {X : XPost} {t : Tgt} {b : SL} {D : Ends} {v : Val} {r : List Val} {ρ : Env} {st : Store} : wpLoop Φ X t b D (v :: r) ρ st = wpTgt t v ρ fun ρ1 => wpSL Φ X b ρ1 st ⟨fun ρ2 st2 => wpLoop Φ X t b D r ρ2 st2, D.rt, D.nx, fun ρ2 st2 => wpLoop Φ X t b D r ρ2 st2⟩ := rfl
def wpRepeat (Φ : FnSem) (X : XPost) (c : E) (b : SL) (D : Ends) (n : Nat) (ρ : Env) (st : Store) : Prop := wpWhile (fun ρ1 st1 k => wpE Φ X c ρ1 st1 fun v st2 => truth st2 v fun d => k d st2) (fun ρ1 st2 D1 => wpSL Φ X b ρ1 st2 D1) D n ρ st
@[simp high] theorem wpS_while {Φ : FnSem} {X : XPost} {c : E} {b : SL} {ρ : Env} {st : Store} {D : Ends} : wpS Φ X (.while_ c b) ρ st D = ∃ n, wpRepeat Φ X c b D n ρ st := rfl
theorem wpRepeat_succ {Φ : FnSem} {X : XPost} {c : E} {b : SL} {D : Ends} {n : Nat} {ρ : Env} {st : Store} : wpRepeat Φ X c b D (n + 1) ρ st = wpE Φ X c ρ st fun v st2 => truth st2 v fun d => if d = true then wpSL Φ X b ρ st2 ⟨fun ρ2 st2 => wpRepeat Φ X c b D n ρ2 st2, D.rt, D.nx, fun ρ2 st2 => wpRepeat Φ X c b D n ρ2 st2⟩ else D.nx ρ st2 := rfl
section
variable {Φ : FnSem} {X : XPost} {ρ : Env} {own : List Nat} {t : Tgt} {c : EO} {ee : E} {st : Store}
theorem wpTurns_map {α : Type} {e : α → Val} {f : α → Val} {step : Val → Store → (Option Val → Store → Prop) → Prop} : ∀ {xs : List α} {acc : List Val} {K : List Val → Store → Prop}, (∀ x ∈ xs, ∀ k, step (e x) st k = k (some (f x)) st) → wpTurns step (xs.map e) acc st K = K (acc ++ xs.map f) st
  | [], acc, K, _ => by simp [wpTurns]
  | v :: r, acc, K, h => by
    rw [List.map_cons, wpTurns, h v List.mem_cons_self]
    dsimp only
    rw [wpTurns_map fun u hu => h u (List.mem_cons_of_mem _ hu), List.append_assoc]
    rfl
theorem wpTurns_filter {α : Type} {e : α → Val} {f : α → Val} (p : α → Bool) {step : Val → Store → (Option Val → Store → Prop) → Prop} : ∀ {xs : List α} {acc : List Val} {K : List Val → Store → Prop}, (∀ x ∈ xs, ∀ k, step (e x) st k = k (if p x = true then some (f x) else none) st) → wpTurns step (xs.map e) acc st K = K (acc ++ (xs.filter p).map f) st
  | [], acc, K, _ => by simp [wpTurns]
  | v :: r, acc, K, h => by
    rw [List.map_cons, wpTurns, h v List.mem_cons_self]
    cases q : p v with
    | true =>
      simp only [if_true, List.filter_cons, q]
      rw [wpTurns_filter p fun u hu => h u (List.mem_cons_of_mem _ hu), List.map_cons, List.append_assoc]
      rfl
    | false =>
      simp only [Bool.false_eq_true, if_false, List.filter_cons, q]
      exact wpTurns_filter p fun u hu => h u (List.mem_cons_of_mem _ hu)
/-- each element as data: vs = xs.map e -/
theorem wpComp_map {α : Type} {e : α → Val} (f : α → Val) {xs : List α} {K : List Val → Store → Prop} (h : ∀ x ∈ xs, ∀ k, wpStep Φ X ρ own t c ee (e x) st k = k (some (f x)) st) : wpComp Φ X ρ own t c ee (xs.map e) st K = K (xs.map f) st := by
  unfold wpComp; rw [wpTurns_map h]; rfl
theorem wpComp_filter {α : Type} {e : α → Val} (f : α → Val) (p : α → Bool) {xs : List α} {K : List Val → Store → Prop} (h : ∀ x ∈ xs, ∀ k, wpStep Φ X ρ own t c ee (e x) st k = k (if p x = true then some (f x) else none) st) : wpComp Φ X ρ own t c ee (xs.map e) st K = K ((xs.filter p).map f) st := by
  unfold wpComp; rw [wpTurns_filter p h]; rfl
end
@[simp] theorem allB_map {α : Type} {p : α → Bool} : ∀ {xs : List α}, allB (xs.map fun x => Val.bool (p x)) = some (xs.map p)
  | [] => rfl
  | x :: r => by simp [allB, allB_map]
@[simp] theorem allI_map {α : Type} {p : α → Int} : ∀ {xs : List α}, allI (xs.map fun x => Val.int (p x)) = some (xs.map p)
  | [] => rfl
  | x :: r => by simp [allI, allI_map]
theorem allI_ints : ∀ {xs : List Int}, allI (xs.map Val.int) = some xs
  | [] => rfl
  | x :: r => by simp [allI, allI_ints]
theorem wpFor_ind {Φ : FnSem} {X : XPost} (hΦ : MonoF Φ) {t : Tgt} {b : SL} {D : Ends} (I : List Val → Env → Store → Prop) (h0 : ∀ ρ st, I [] ρ st → D.nx ρ st)
    (hs : ∀ v r ρ st, I (v :: r) ρ st → wpTgt t v ρ fun ρ1 => wpSL Φ X b ρ1 st ⟨I r, D.rt, D.nx, I r⟩) : ∀ vs ρ st, I vs ρ st → wpLoop Φ X t b D vs ρ st
  | [], ρ, st, h => h0 ρ st h
  | v :: r, ρ, st, h => by
    rw [wpLoop_cons]
    refine wpTgt_mono (hs v r ρ st h) fun ρ1 h => wpSL_mono hΦ h ⟨?_, fun _ _ h => h, fun _ _ h => h, ?_⟩
    · exact fun ρ2 s2 h => wpFor_ind hΦ I h0 hs r ρ2 s2 h
    · exact fun ρ2 s2 h => wpFor_ind hΦ I h0 hs r ρ2 s2 h
theorem intsFrom_eq (lo : Int) : ∀ n : Nat, intsFrom lo n = (List.range n).map fun i : Nat => Val.int (lo + (i : Int))
  | 0 => rfl
  | n + 1 => by
    rw [intsFrom, intsFrom_eq (lo + 1) n, List.range_succ_eq_map, List.map_cons, List.map_map]
    congr 1
    · simp
    · refine List.map_congr_left fun i _ => ?_
      simp only [Function.comp]
      congr 1
      push_cast
      omega
end VM

namespace VM
theorem x_is_allowed_1 {Φ : FnSem} {X : XPost} {t : Tgt} {D : Ends} {v : Val} {r : List Val} {ρ : Env} {st : Store} : wpLoop Φ X t l_is_allowed_1 D (v :: r) ρ st = wpTgt t v ρ fun ρ1 => wpSL Φ X
 (.cons (.ifs (.not (.call 13 (.cons (.var 0) (.cons (.var 2) (.cons (.var 4) .nil))))) (.cons (.ret (.con (.bool false)))
  .nil) .nil)
 (.cons (.set 2 (.sub (.sub (.sub (.prop 0 36 (.var 0)) (.var 2)) (.sub (.var 4) (.con (.int 0)))) (.con (.int 1))))
 (.cons (.aug 3 (.bi1 .len (.sub (.var 4) (.con (.int 1)))))
 .nil)))
 ρ1 st ⟨fun ρ2 st2 => wpLoop Φ X t l_is_allowed_1 D r ρ2 st2, D.rt, D.nx, fun ρ2 st2 => wpLoop Φ X t l_is_allowed_1 D r ρ2 st2⟩ := rfl
theorem x_state_behind_1 {Φ : FnSem} {X : XPost} {t : Tgt} {D : Ends} {v : Val} {r : List Val} {ρ : Env} {st : Store} : wpLoop Φ X t l_state_behind_1 D (v :: r) ρ st = wpTgt t v ρ fun ρ1 => wpSL Φ X
 (.cons (.set 2 (.sub (.sub (.sub (.prop 0 36 (.var 0)) (.var 2)) (.var 3)) (.con (.int 1))))
 .nil)
 ρ1 st ⟨fun ρ2 st2 => wpLoop Φ X t l_state_behind_1 D r ρ2 st2, D.rt, D.nx, fun ρ2 st2 => wpLoop Φ X t l_state_behind_1 D r ρ2 st2⟩ := rfl
theorem x_times_of_1 {Φ : FnSem} {X : XPost} {t : Tgt} {D : Ends} {v : Val} {r : List Val} {ρ : Env} {st : Store} : wpLoop Φ X t l_times_of_1 D (v :: r) ρ st = wpTgt t v ρ fun ρ1 => wpSL Φ X
 (.cons (.asg (.cons (.name 8) (.cons (.name 4) .nil)) (.sub (.sub (.prop 0 36 (.var 0)) (.var 4)) (.var 5)))
 (.cons (.set 7 (.comp [9] (.seq (.sub (.prop 0 35 (.var 0)) (.var 8))) (.name 9) (.yes (.cmp .mem (.var 9) (.var 1))) (.var 9)))
 (.cons (.append (.var 3) (.bi1 .sum (.comp [9] (.seq (.var 7)) (.name 9) .no (.sub (.sub (.prop 0 33 (.var 0)) (.var 9)) (.ite (.cmp .mem (.var 9) (.var 6)) (.con (.int 1)) (.con (.int 0)))))))
 .nil)))
 ρ1 st ⟨fun ρ2 st2 => wpLoop Φ X t l_times_of_1 D r ρ2 st2, D.rt, D.nx, fun ρ2 st2 => wpLoop Φ X t l_times_of_1 D r ρ2 st2⟩ := rfl
theorem x_latenesses_1 {Φ : FnSem} {X : XPost} {t : Tgt} {D : Ends} {v : Val} {r : List Val} {ρ : Env} {st : Store} : wpLoop Φ X t l_latenesses_1 D (v :: r) ρ st = wpTgt t v ρ fun ρ1 => wpSL Φ X
 (.cons (.set 5 (.bi2 .max (.con (.int 0)) (.bin .sub (.bin .add (.var 5) (.var 6)) (.var 2))))
 (.cons (.append (.var 4) (.var 5))
 .nil))
 ρ1 st ⟨fun ρ2 st2 => wpLoop Φ X t l_latenesses_1 D r ρ2 st2, D.rt, D.nx, fun ρ2 st2 => wpLoop Φ X t l_latenesses_1 D r ρ2 st2⟩ := rfl
theorem x_is_state_1 {Φ : FnSem} {X : XPost} {t : Tgt} {D : Ends} {v : Val} {r : List Val} {ρ : Env} {st : Store} : wpLoop Φ X t l_is_state_1 D (v :: r) ρ st = wpTgt t v ρ fun ρ1 => wpSL Φ X
 (.cons (.ifs (.or (.not (.call 3 (.cons (.var 4) (.cons (.con (.int 2)) .nil)))) (.not (.call 1 (.cons (.sub (.var 4) (.con (.int 0))) (.cons (.con (.int 0)) (.cons (.bin .sub (.var 1) (.con (.int 1))) .nil)))))) (.cons (.ret (.con (.bool false)))
  .nil) .nil)
 (.cons (.ifs (.or (.not (.call 1 (.cons (.sub (.var 4) (.con (.int 1))) (.cons (.con (.int 0)) (.cons (.bin .sub (.var 2) (.con (.int 1))) .nil))))) (.cmp .mem (.tup (.cons (.sub (.var 4) (.con (.int 0))) (.cons (.sub (.var 4) (.con (.int 1))) .nil))) (.var 3))) (.cons (.ret (.con (.bool false)))
  .nil) .nil)
 (.cons (.append (.var 3) (.tup (.cons (.sub (.var 4) (.con (.int 0))) (.cons (.sub (.var 4) (.con (.int 1))) .nil))))
 .nil)))
 ρ1 st ⟨fun ρ2 st2 => wpLoop Φ X t l_is_state_1 D r ρ2 st2, D.rt, D.nx, fun ρ2 st2 => wpLoop Φ X t l_is_state_1 D r ρ2 st2⟩ := rfl
theorem x_leads_to_1 {Φ : FnSem} {X : XPost} {c : E} {D : Ends} {n : Nat} {ρ : Env} {st : Store} : wpRepeat Φ X c l_leads_to_1 D (n + 1) ρ st = wpE Φ X c ρ st fun v st2 => truth st2 v fun d => if d = true then wpSL Φ X
 (.cons (.set 5 (.pop (.var 4)))
 (.cons (.ifs (.cmp .eq (.var 5) (.var 2)) (.cons (.ret (.con (.bool true)))
  .nil) .nil)
 (.cons (.ifs (.cmp .nmem (.var 5) (.var 3)) (.cons (.append (.var 3) (.var 5))
  (.cons (.extend (.var 4) (.comp [6, 7] (.seq (.var 0)) (.cons (.name 6) (.cons (.name 7) .nil)) (.yes (.cmp .eq (.var 6) (.var 5))) (.var 7)))
  .nil)) .nil)
 .nil)))
 ρ st2 ⟨fun ρ2 st2 => wpRepeat Φ X c l_leads_to_1 D n ρ2 st2, D.rt, D.nx, fun ρ2 st2 => wpRepeat Φ X c l_leads_to_1 D n ρ2 st2⟩ else D.nx ρ st2 := rfl
theorem x_tasks_with_tuples_1 {Φ : FnSem} {X : XPost} {t : Tgt} {D : Ends} {v : Val} {r : List Val} {ρ : Env} {st : Store} : wpLoop Φ X t l_tasks_with_tuples_1 D (v :: r) ρ st = wpTgt t v ρ fun ρ1 => wpSL Φ X
 (.cons (.ifs (.not (.call 24 (.cons (.var 2) .nil))) (.cons (.die)
  .nil) .nil)
 .nil)
 ρ1 st ⟨fun ρ2 st2 => wpLoop Φ X t l_tasks_with_tuples_1 D r ρ2 st2, D.rt, D.nx, fun ρ2 st2 => wpLoop Φ X t l_tasks_with_tuples_1 D r ρ2 st2⟩ := rfl
theorem x_order_with_tuples_1 {Φ : FnSem} {X : XPost} {t : Tgt} {D : Ends} {v : Val} {r : List Val} {ρ : Env} {st : Store} : wpLoop Φ X t l_order_with_tuples_1 D (v :: r) ρ st = wpTgt t v ρ fun ρ1 => wpSL Φ X
 (.cons (.ifs (.or (.not (.call 3 (.cons (.var 4) (.cons (.con (.int 2)) .nil)))) (.or (.not (.call 6 (.cons (.var 4) (.cons (.var 1) .nil)))) (.cmp .eq (.sub (.var 4) (.con (.int 0))) (.sub (.var 4) (.con (.int 1)))))) (.cons (.die)
  .nil) .nil)
 (.cons (.set 5 (.tup (.cons (.sub (.var 4) (.con (.int 0))) (.cons (.sub (.var 4) (.con (.int 1))) .nil))))
 (.cons (.ifs (.or (.cmp .mem (.var 5) (.var 2)) (.call 28 (.cons (.var 2) (.cons (.sub (.var 5) (.con (.int 1))) (.cons (.sub (.var 5) (.con (.int 0))) .nil))))) (.cons (.die)
  .nil) .nil)
 (.cons (.append (.var 2) (.var 5))
 .nil))))
 ρ1 st ⟨fun ρ2 st2 => wpLoop Φ X t l_order_with_tuples_1 D r ρ2 st2, D.rt, D.nx, fun ρ2 st2 => wpLoop Φ X t l_order_with_tuples_1 D r ρ2 st2⟩ := rfl
theorem x_Line_init_1 {Φ : FnSem} {X : XPost} {t : Tgt} {D : Ends} {v : Val} {r : List Val} {ρ : Env} {st : Store} : wpLoop Φ X t l_Line_init_1 D (v :: r) ρ st = wpTgt t v ρ fun ρ1 => wpSL Φ X
 (.cons (.ifs (.not (.call 25 (.cons (.var 10) (.cons (.bi1 .len (.var 1)) .nil)))) (.cons (.die)
  .nil) .nil)
 .nil)
 ρ1 st ⟨fun ρ2 st2 => wpLoop Φ X t l_Line_init_1 D r ρ2 st2, D.rt, D.nx, fun ρ2 st2 => wpLoop Φ X t l_Line_init_1 D r ρ2 st2⟩ := rfl
theorem x_Line_init_2 {Φ : FnSem} {X : XPost} {t : Tgt} {D : Ends} {v : Val} {r : List Val} {ρ : Env} {st : Store} : wpLoop Φ X t l_Line_init_2 D (v :: r) ρ st = wpTgt t v ρ fun ρ1 => wpSL Φ X
 (.cons (.ifs (.not (.call 26 (.cons (.var 11) (.cons (.bi1 .len (.var 3)) (.cons (.bi1 .len (.var 4)) .nil))))) (.cons (.die)
  .nil) .nil)
 .nil)
 ρ1 st ⟨fun ρ2 st2 => wpLoop Φ X t l_Line_init_2 D r ρ2 st2, D.rt, D.nx, fun ρ2 st2 => wpLoop Φ X t l_Line_init_2 D r ρ2 st2⟩ := rfl
theorem x__law_so_1 {Φ : FnSem} {X : XPost} {t : Tgt} {D : Ends} {v : Val} {r : List Val} {ρ : Env} {st : Store} : wpLoop Φ X t l__law_so_1 D (v :: r) ρ st = wpTgt t v ρ fun ρ1 => wpSL Φ X
 (.cons (.ifs (.not (.call 41 (.cons (.sub (.var 0) (.var 2)) (.cons (.sub (.var 1) (.var 2)) .nil)))) (.cons (.ret (.con (.bool false)))
  .nil) .nil)
 .nil)
 ρ1 st ⟨fun ρ2 st2 => wpLoop Φ X t l__law_so_1 D r ρ2 st2, D.rt, D.nx, fun ρ2 st2 => wpLoop Φ X t l__law_so_1 D r ρ2 st2⟩ := rfl
theorem x__law_numbers_1 {Φ : FnSem} {X : XPost} {t : Tgt} {D : Ends} {v : Val} {r : List Val} {ρ : Env} {st : Store} : wpLoop Φ X t l__law_numbers_1 D (v :: r) ρ st = wpTgt t v ρ fun ρ1 => wpSL Φ X
 (.cons (.ifs (.cmp .eq (.var 3) (.con (.int 0))) (.cons (.brk)
  .nil) .nil)
 (.cons (.append (.var 1) (.bin .mod (.bi1 .int (.var 3)) (.con (.int 997))))
 (.cons (.set 3 (.bin .fdiv (.var 3) (.con (.int 997))))
 .nil)))
 ρ1 st ⟨fun ρ2 st2 => wpLoop Φ X t l__law_numbers_1 D r ρ2 st2, D.rt, D.nx, fun ρ2 st2 => wpLoop Φ X t l__law_numbers_1 D r ρ2 st2⟩ := rfl
theorem x__law_numbers_2 {Φ : FnSem} {X : XPost} {t : Tgt} {D : Ends} {v : Val} {r : List Val} {ρ : Env} {st : Store} : wpLoop Φ X t l__law_numbers_2 D (v :: r) ρ st = wpTgt t v ρ fun ρ1 => wpSL Φ X
 (.cons (.set 5 (.bin .mod (.bi1 .int (.bin .add (.bin .add (.bin .mul (.var 2) (.con (.int 48271))) (.bin .mul (.var 4) (.con (.int 69621)))) (.con (.int 11)))) (.con (.int 2147483647))))
 (.cons (.append (.var 1) (.bin .mod (.bi1 .int (.bin .add (.bin .mul (.var 5) (.con (.int 16807))) (.var 4))) (.con (.int 2147483629))))
 .nil))
 ρ1 st ⟨fun ρ2 st2 => wpLoop Φ X t l__law_numbers_2 D r ρ2 st2, D.rt, D.nx, fun ρ2 st2 => wpLoop Φ X t l__law_numbers_2 D r ρ2 st2⟩ := rfl
theorem x__law_numbers_3 {Φ : FnSem} {X : XPost} {t : Tgt} {D : Ends} {v : Val} {r : List Val} {ρ : Env} {st : Store} : wpLoop Φ X t l__law_numbers_3 D (v :: r) ρ st = wpTgt t v ρ fun ρ1 => wpSL Φ X
 (.cons (.ifs (.cmp .ge (.var 2) (.bin .pow (.con (.int 10)) (.con (.int 18)))) (.cons (.set 3 (.var 2))
  (.cons (.for_ (.rng1 (.con (.int 60))) (.name 4) l__law_numbers_1)
  .nil)) (.cons (.for_ (.rng1 (.con (.int 4))) (.name 4) l__law_numbers_2)
  .nil))
 .nil)
 ρ1 st ⟨fun ρ2 st2 => wpLoop Φ X t l__law_numbers_3 D r ρ2 st2, D.rt, D.nx, fun ρ2 st2 => wpLoop Φ X t l__law_numbers_3 D r ρ2 st2⟩ := rfl
theorem x_law_1 {Φ : FnSem} {X : XPost} {t : Tgt} {D : Ends} {v : Val} {r : List Val} {ρ : Env} {st : Store} : wpLoop Φ X t l_law_1 D (v :: r) ρ st = wpTgt t v ρ fun ρ1 => wpSL Φ X
 (.cons (.ifs (.not (.call 41 (.cons (.call 23 (.cons (.var 6) (.cons (.tup (.cons (.con (.int 0)) .nil)) (.cons (.con (.int 0)) (.cons (.var 3) (.cons (.tup (.cons (.var 10) (.cons (.var 9) .nil))) .nil)))))) (.cons (.cmp .isN (.var 4) (.con .non)) .nil)))) (.cons (.ret (.con (.bool false)))
  .nil) .nil)
 (.cons (.ifs (.not (.call 41 (.cons (.call 23 (.cons (.var 6) (.cons (.tup (.cons (.con (.int 0)) .nil)) (.cons (.con (.int 0)) (.cons (.var 3) (.cons (.tup (.cons (.var 10) (.cons (.bin .add (.slice (.var 9) .no (.yes (.var 8))) (.slice (.var 9) (.yes (.bin .add (.var 8) (.con (.int 1)))) .no)) .nil))) .nil)))))) (.cons (.con (.bool false)) .nil)))) (.cons (.ret (.con (.bool false)))
  .nil) .nil)
 .nil))
 ρ1 st ⟨fun ρ2 st2 => wpLoop Φ X t l_law_1 D r ρ2 st2, D.rt, D.nx, fun ρ2 st2 => wpLoop Φ X t l_law_1 D r ρ2 st2⟩ := rfl

end VM

namespace VM
abbrev F (k : Nat) : FnSem := Fn TB k
section
variable {k : Nat} {st : Store} {Q : Post} {X : XPost}
theorem asSeq_seqOf {v : Val} {vs : List Val} (h : asSeq v = some vs) : seqOf st v = some vs := by
  cases v <;> first | exact h | cases h
theorem asSeq_tyN {v : Val} {vs : List Val} (h : asSeq v = some vs) : isTy .tseq v = some true := by
  cases v <;> first | rfl | cases h
@[simp] theorem is_integer_int {i : Int} : Fn TB (k + 1) 0 [.int i] st Q X = Q (.bool true) st := by
  simp [f_is_integer, b_is_integer]
@[simp] theorem is_integer_non : Fn TB (k + 1) 0 [.non] st Q X = Q (.bool false) st := by
  simp [f_is_integer, b_is_integer]
@[simp] theorem is_integer_in_int {i a b : Int} : Fn TB (k + 2) 1 [.int i, .int a, .int b] st Q X = Q (.bool (decide (a ≤ i ∧ i ≤ b))) st := by
  by_cases h : a ≤ i <;> simp [f_is_integer_in, b_is_integer_in, h]
@[simp] theorem is_sequence_tup {vs : List Val} : Fn TB (k + 1) 2 [.tup vs] st Q X = Q (.bool true) st := by
  simp [f_is_sequence, b_is_sequence]
@[simp] theorem is_sequence_lst {vs : List Val} : Fn TB (k + 1) 2 [.lst vs] st Q X = Q (.bool true) st := by
  simp [f_is_sequence, b_is_sequence]
@[simp] theorem is_sequence_int {i : Int} : Fn TB (k + 1) 2 [.int i] st Q X = Q (.bool false) st := by
  simp [f_is_sequence, b_is_sequence]
theorem is_sequence_seq {v : Val} {vs : List Val} (h : asSeq v = some vs) : Fn TB (k + 1) 2 [v] st Q X = Q (.bool true) st := by
  cases v <;> cases h <;> simp
theorem is_sequence_of_seq {v : Val} {vs : List Val} {n : Int} (h : asSeq v = some vs) : Fn TB (k + 2) 3 [v, .int n] st Q X = Q (.bool (decide ((vs.length : Int) = n))) st := by
  cases v <;> cases h <;> simp [f_is_sequence_of, b_is_sequence_of]
/-! ### are_below, ascending, frozen -/
@[simp] theorem is_sequence_non : Fn TB (k + 1) 2 [.non] st Q X = Q (.bool false) st := by
  simp [f_is_sequence, b_is_sequence]
def below (n : Int) (xs : List Int) : Bool := xs.all fun x => decide (0 ≤ x ∧ x ≤ n - 1)
theorem below_iff {n : Int} {xs : List Int} : below n xs = true ↔ ∀ x ∈ xs, 0 ≤ x ∧ x < n := by
  unfold below
  rw [List.all_eq_true]
  exact ⟨fun h x hx => by have := h x hx; simp at this; omega, fun h x hx => by have := h x hx; simp; omega⟩
theorem are_below_ints {v : Val} {xs : List Int} {n : Int} (h : asSeq v = some (xs.map Val.int)) : Fn TB (k + 3) 6 [v, .int n] st Q X = Q (.bool (below n xs)) st := by
  cases v <;> cases h
  all_goals
    simp [f_are_below, b_are_below]
    rw [wpComp_map (fun x => .bool (decide (0 ≤ x ∧ x ≤ n - 1)))]
    · simp [below]
    · intro x _ k; simp [wpStep]
@[simp] theorem are_below_tup {xs : List Int} {n : Int} : Fn TB (k + 3) 6 [.tup (xs.map Val.int), .int n] st Q X = Q (.bool (below n xs)) st := are_below_ints rfl
@[simp] theorem are_below_lst {xs : List Int} {n : Int} : Fn TB (k + 3) 6 [.lst (xs.map Val.int), .int n] st Q X = Q (.bool (below n xs)) st := are_below_ints rfl
def asc : List Int → Bool
  | a :: b :: r => decide (a < b) && asc (b :: r)
  | _ => true
theorem asc_iff : ∀ {xs : List Int}, (((List.range (xs.length - 1)).map fun i : Nat => decide (gi 0 xs i < gi 0 xs (i + 1))).all id) = asc xs
  | [] => rfl
  | [_] => rfl
  | a :: b :: r => by
    have := asc_iff (xs := b :: r)
    simp only [List.length_cons, Nat.add_sub_cancel] at this ⊢
    rw [List.range_succ_eq_map, List.map_cons, List.map_map, List.all_cons, asc, ← this]
    congr 1
theorem ascending_ints {v : Val} {xs : List Int} (h : asSeq v = some (xs.map Val.int)) (hl : xs.length ≤ big) : Fn TB (k + 1) 5 [v] st Q X = Q (.bool (asc xs)) st := by
  cases v <;> cases h
  all_goals
    simp [f_ascending, b_ascending]
    have e1 : (-1152921504606846976 : Int) ≤ (xs.length : Int) - 1 := by omega
    have e2 : (xs.length : Int) - 1 ≤ (big : Int) := by omega
    rw [intsFrom_eq]; simp only [Int.zero_add]; rw [wpComp_map (fun i : Nat => .bool (decide (gi 0 xs i < gi 0 xs (i + 1))))]
    · simp [← asc_iff, e1, e2]
    · intro i hi k
      have hi := List.mem_range.mp hi
      have h1 : atI xs (i : Int) = some (gi 0 xs i) := atI_in 0 (by omega) (by omega)
      have h2 : atI xs ((i : Int) + 1) = some (gi 0 xs (i + 1)) := atI_in 0 (by omega) (by omega)
      simp [wpStep, atI_map, h1, h2]
@[simp] theorem ascending_tup {xs : List Int} (hl : xs.length ≤ big) : Fn TB (k + 1) 5 [.tup (xs.map Val.int)] st Q X = Q (.bool (asc xs)) st := ascending_ints rfl hl
@[simp] theorem ascending_lst {xs : List Int} (hl : xs.length ≤ big) : Fn TB (k + 1) 5 [.lst (xs.map Val.int)] st Q X = Q (.bool (asc xs)) st := ascending_ints rfl hl
end
end VM

namespace VM
/-! ### a line, as data -/
structure LD where
  tasks : List (Int × Int)
  order : List (Int × Int)
  models : List (List Int)
  states : List (List (Int × Int))
  start : Int
  slips : Option Int
@[simp] def vP (p : Int × Int) : Val := .tup [.int p.1, .int p.2]
@[simp] def vIs (l : List Int) : Val := .tup (l.map .int)
@[simp] def vPs (l : List (Int × Int)) : Val := .tup (l.map vP)
def slipV : Option Int → Val
  | none => .non
  | some i => .int i
@[simp] theorem slipV_none : slipV none = .non := rfl
@[simp] theorem slipV_some {i : Int} : slipV (some i) = .int i := rfl
def partsV (L : LD) : Val := .tup [vPs L.tasks, vPs L.order, .tup (L.models.map vIs), .tup (L.states.map vPs), .int L.start, slipV L.slips]
abbrev lineV (L : LD) : Val := .obj 0 [(0, partsV L)]
structure LD.Ok (L : LD) : Prop where
  t1 : 1 ≤ L.tasks.length
  t2 : L.tasks.length ≤ 24
  tv : ∀ t ∈ L.tasks, 0 ≤ t.1 ∧ t.1 ≤ t.2 ∧ t.2 ≤ 10000
  o2 : L.order.length ≤ 200
  ov : ∀ p ∈ L.order, (0 ≤ p.1 ∧ p.1 < L.tasks.length) ∧ 0 ≤ p.2 ∧ p.2 < L.tasks.length
  m1 : 1 ≤ L.models.length
  m2 : L.models.length ≤ 8
  mv : ∀ m ∈ L.models, asc m = true ∧ ∀ t ∈ m, 0 ≤ t ∧ t < L.tasks.length
  s1 : 1 ≤ L.states.length
  s2 : L.states.length ≤ 60
  sv : ∀ s ∈ L.states, 1 ≤ s.length ∧ s.length ≤ 40 ∧ ∀ a ∈ s, (0 ≤ a.1 ∧ a.1 < L.models.length) ∧ 0 ≤ a.2 ∧ a.2 < L.states.length
  st1 : 0 ≤ L.start
  st2 : L.start < L.states.length
  sl : ∀ i, L.slips = some i → 0 ≤ i ∧ i ≤ 8
section
variable {k : Nat} {st : Store} {Q : Post} {X : XPost} {L : LD}
@[simp] theorem p_tasks : Fn TB (k + 1) 33 [lineV L] st Q X = Q (vPs L.tasks) st := by simp [f_Line_tasks, b_Line_tasks, lineV, partsV]
@[simp] theorem p_order : Fn TB (k + 1) 34 [lineV L] st Q X = Q (vPs L.order) st := by simp [f_Line_order, b_Line_order, lineV, partsV]
@[simp] theorem p_models : Fn TB (k + 1) 35 [lineV L] st Q X = Q (.tup (L.models.map vIs)) st := by simp [f_Line_models, b_Line_models, lineV, partsV]
@[simp] theorem p_states : Fn TB (k + 1) 36 [lineV L] st Q X = Q (.tup (L.states.map vPs)) st := by simp [f_Line_states, b_Line_states, lineV, partsV]
@[simp] theorem p_start : Fn TB (k + 1) 37 [lineV L] st Q X = Q (.int L.start) st := by simp [f_Line_start, b_Line_start, lineV, partsV]
@[simp] theorem p_slips : Fn TB (k + 1) 38 [lineV L] st Q X = Q (slipV L.slips) st := by simp [f_Line_slips, b_Line_slips, lineV, partsV]
/-! ### plans -/
def fits (L : LD) (plan : List Int) : Bool := L.order.all fun p => decide (gi 0 plan p.1 ≤ gi 0 plan p.2)
@[simp] theorem fits_order_tup {plan : List Int} (ok : L.Ok) (hl : plan.length = L.tasks.length) : Fn TB (k + 2) 7 [lineV L, .tup (plan.map .int)] st Q X = Q (.bool (fits L plan)) st := by
  simp [f_fits_order, b_fits_order]
  rw [wpComp_map (fun p => .bool (decide (gi 0 plan p.1 ≤ gi 0 plan p.2)))]
  · simp [fits, Function.comp_def]
  · intro p hp k
    obtain ⟨⟨a1, a2⟩, a3, a4⟩ := ok.ov p hp
    simp [wpStep, atI_map, atI_in 0 a1 (by omega : p.1 < plan.length), atI_in 0 a3 (by omega : p.2 < plan.length)]
@[simp] theorem fits_order_lst {plan : List Int} (ok : L.Ok) (hl : plan.length = L.tasks.length) : Fn TB (k + 2) 7 [lineV L, .lst (plan.map .int)] st Q X = Q (.bool (fits L plan)) st := by
  simp [f_fits_order, b_fits_order]
  rw [wpComp_map (fun p => .bool (decide (gi 0 plan p.1 ≤ gi 0 plan p.2)))]
  · simp [fits, Function.comp_def]
  · intro p hp k
    obtain ⟨⟨a1, a2⟩, a3, a4⟩ := ok.ov p hp
    simp [wpStep, atI_map, atI_in 0 a1 (by omega : p.1 < plan.length), atI_in 0 a3 (by omega : p.2 < plan.length)]
/-- a lawful plan -/
structure PlanOk (L : LD) (plan : List Int) : Prop where
  len : plan.length = L.tasks.length
  rng : ∀ p ∈ plan, 0 ≤ p ∧ p ≤ 23
  fit : fits L plan = true
theorem PlanOk.below {plan : List Int} (p : PlanOk L plan) : below 24 plan = true := below_iff.mpr fun x hx => by have := p.rng x hx; omega
theorem is_plan_for_ok {plan : List Int} {v : Val} (ok : L.Ok) (h : asSeq v = some (plan.map Val.int)) (p : PlanOk L plan) : Fn TB (k + 4) 8 [lineV L, .int 24, v] st Q X = Q (.bool true) st := by
  cases v <;> cases h <;> simp [f_is_plan_for, b_is_plan_for, p.below, p.len, p.fit, ok]
theorem check_plan_ok {plan : List Int} {v : Val} {at_ : Val} (ok : L.Ok) (h : asSeq v = some (plan.map Val.int)) (p : PlanOk L plan) : Fn TB (k + 6) 9 [lineV L, v, at_] st Q X = Q (vIs plan) st := by
  simp [f_check_plan, b_check_plan, is_plan_for_ok ok h p]
  cases v <;> cases h <;> simp
@[simp] theorem check_station_ok {s : Int} {at_ : Val} (h : 0 ≤ s ∧ s ≤ 23) : Fn TB (k + 3) 10 [.int s, at_] st Q X = Q .non st := by
  simp [f_check_station, b_check_station, h.1, h.2]
@[simp] theorem check_beat_ok {s : Int} {at_ : Val} (h : 0 ≤ s ∧ s ≤ 300000) : Fn TB (k + 3) 11 [.int s, at_] st Q X = Q .non st := by
  simp [f_check_beat, b_check_beat, h.1, h.2]
def enumI : Nat → List Int → List (Int × Int)
  | _, [] => []
  | n, x :: r => (n, x) :: enumI (n + 1) r
theorem numb_ints : ∀ {n : Nat} {xs : List Int}, numb n (xs.map Val.int) = (enumI n xs).map vP
  | _, [] => rfl
  | n, x :: r => by simp [numb, enumI, numb_ints]
def tasksAt (plan : List Int) (s : Int) : List Int := ((enumI 0 plan).filter fun p => decide (p.2 = s)).map (·.1)
theorem tasks_at_ok {plan : List Int} {s : Int} : Fn TB (k + 1) 12 [vIs plan, .int s] st Q X = Q (vIs (tasksAt plan s)) st := by
  simp [f_tasks_at, b_tasks_at, numb_ints, -numb_cons]
  rw [wpComp_filter (fun p => .int p.1) (fun p => decide (p.2 = s))]
  · simp [tasksAt, Function.comp_def]
  · intro p _ k
    by_cases e : p.2 = s <;> simp [wpStep, e]
end
end VM

namespace VM
abbrev Piece := Int × List Int
@[simp] def vPc (p : Piece) : Val := .tup [.int p.1, vIs p.2]
@[simp] def vRow (r : List Piece) : Val := .tup (r.map vPc)
/-- a value that stands for a piece -/
def PcR (v : Val) (p : Piece) : Prop := ∃ b, asSeq v = some [.int p.1, b] ∧ asSeq b = some (p.2.map .int) ∧ p.2.length ≤ big
def AllR {α : Type} (R : Val → α → Prop) : List Val → List α → Prop
  | [], [] => True
  | v :: vs, x :: xs => R v x ∧ AllR R vs xs
  | _, _ => False
theorem AllR.map {α : Type} {R : Val → α → Prop} {f : α → Val} : ∀ {xs : List α}, (∀ x ∈ xs, R (f x) x) → AllR R (xs.map f) xs
  | [], _ => trivial
  | x :: r, h => ⟨h x List.mem_cons_self, AllR.map fun y hy => h y (List.mem_cons_of_mem _ hy)⟩
theorem AllR.length {α : Type} {R : Val → α → Prop} : ∀ {vs : List Val} {xs : List α}, AllR R vs xs → vs.length = xs.length
  | [], [], _ => rfl
  | _ :: _, _ :: _, h => by simp [AllR.length h.2]
  | [], _ :: _, h => h.elim
  | _ :: _, [], h => h.elim
theorem AllR.append {α : Type} {R : Val → α → Prop} : ∀ {vs us : List Val} {xs ys : List α}, AllR R vs xs → AllR R us ys → AllR R (vs ++ us) (xs ++ ys)
  | [], _, [], _, _, h => h
  | _ :: _, _, _ :: _, _, h, g => ⟨h.1, AllR.append h.2 g⟩
  | [], _, _ :: _, _, h, _ => h.elim
  | _ :: _, _, [], _, h, _ => h.elim
/-! ### what a row does -/
def LD.arcs (L : LD) (s : Int) : List (Int × Int) := gi [] L.states s
def LD.arc (L : LD) (s a : Int) : Int × Int := gi (0, 0) (L.arcs s) a
def LD.model (L : LD) (m : Int) : List Int := gi [] L.models m
def LD.next (L : LD) (s a : Int) : Int := (L.arc s a).2
def pieceOk (L : LD) (s : Int) (p : Piece) : Bool := decide (0 ≤ p.1 ∧ p.1 < (L.arcs s).length) && (below L.tasks.length p.2 && (asc p.2 && p.2.all fun t => decide (t ∈ L.model (L.arc s p.1).1)))
def walkOk (L : LD) : Int → List Piece → Bool
  | _, [] => true
  | s, p :: r => pieceOk L s p && walkOk L (L.next s p.1) r
def used : List Piece → Int
  | [] => 0
  | p :: r => p.2.length + used r
def slipsOk (L : LD) (u : Int) : Bool := match L.slips with
  | none => true
  | some m => decide (u ≤ m)
def allowed (L : LD) (r : List Piece) : Bool := !r.isEmpty && (walkOk L L.start r && slipsOk L (used r))
def behind (L : LD) : Int → List Piece → Int
  | s, [] => s
  | s, p :: r => behind L (L.next s p.1) r
section
variable {k : Nat} {st : Store} {Q : Post} {X : XPost} {L : LD}
/-- a state's number -/
def StOk (L : LD) (s : Int) : Prop := 0 ≤ s ∧ s < L.states.length
theorem LD.Ok.next (ok : L.Ok) {s a : Int} (h : StOk L s) (h2 : 0 ≤ a) (h3 : a < (L.arcs s).length) : StOk L (L.next s a) := by
  have hs := ok.sv _ (gi_mem (d := []) h.1 h.2)
  have := hs.2.2 _ (gi_mem (d := (0, 0)) h2 h3)
  exact this.2
theorem LD.Ok.model (ok : L.Ok) {s a : Int} (h : StOk L s) (h2 : 0 ≤ a) (h3 : a < (L.arcs s).length) : 0 ≤ (L.arc s a).1 ∧ (L.arc s a).1 < L.models.length := by
  have hs := ok.sv _ (gi_mem (d := []) h.1 h.2)
  have := hs.2.2 _ (gi_mem (d := (0, 0)) h2 h3)
  exact this.1
theorem at_states {s : Int} (h : StOk L s) : atI L.states s = some (L.arcs s) := atI_in [] h.1 h.2
theorem at_arcs {s a : Int} (h2 : 0 ≤ a) (h3 : a < (L.arcs s).length) : atI (L.arcs s) a = some (L.arc s a) := atI_in (0, 0) h2 h3
theorem at_models {m : Int} (h2 : 0 ≤ m) (h3 : m < L.models.length) : atI L.models m = some (L.model m) := atI_in [] h2 h3
@[simp] theorem flat_ints {xs : List Int} : (xs.map Val.int).all flat = true := by simp [flat]
@[simp] theorem any_ints {xs : List Int} {t : Int} : ((xs.map Val.int).any fun z => veq z (.int t)) = decide (t ∈ xs) := by
  induction xs with
  | nil => rfl
  | cons a r ih =>
    rw [List.map_cons, List.any_cons, ih]
    simp only [veq, List.mem_cons]
    by_cases h : a = t
    · subst h; simp
    · have h2 : ¬ t = a := fun e => h e.symm
      simp [h, h2]
@[simp] theorem mem_ints {xs : List Int} {t : Int} {R : Bool → Prop} : wpMem (.int t) (.tup (xs.map Val.int)) st R = R (decide (t ∈ xs)) := by
  unfold wpMem
  simp only [any_ints]
  simp [flat]
theorem is_piece_ok {s : Int} {v : Val} {p : Piece} (ok : L.Ok) (hs : StOk L s) (h : PcR v p) : Fn TB (k + 4) 13 [lineV L, .int s, v] st Q X = Q (.bool (pieceOk L s p)) st := by
  obtain ⟨a, sl⟩ := p
  obtain ⟨b, h1, h2, h3⟩ := h
  have e1 := at_states hs
  by_cases ha : 0 ≤ a ∧ a < (L.arcs s).length
  · have e2 := at_arcs ha.1 ha.2
    obtain ⟨m1, m2⟩ := ok.model hs ha.1 ha.2
    have e3 := at_models m1 m2
    have ha2 : a ≤ ((L.arcs s).length : Int) - 1 := by omega
    cases hb : below L.tasks.length sl with
    | false => cases v <;> cases h1 <;> cases b <;> cases h2 <;> simp [f_is_piece, b_is_piece, is_sequence_of_seq, asSeq, atI_map, e1, e2, ha.1, ha.2, ha2, pieceOk, hb]
    | true =>
      cases hc : asc sl with
      | false => cases v <;> cases h1 <;> cases b <;> cases h2 <;> simp [f_is_piece, b_is_piece, is_sequence_of_seq, asSeq, atI_map, e1, e2, ha.1, ha.2, ha2, pieceOk, hb, hc, h3]
      | true =>
        cases v <;> cases h1 <;> cases b <;> cases h2
        all_goals
          simp [f_is_piece, b_is_piece, is_sequence_of_seq, asSeq, atI_map, e1, e2, ha.1, ha.2, ha2, pieceOk, hb, hc, h3]
          rw [wpComp_map (fun t => .bool (decide (t ∈ L.model (L.arc s a).1)))]
          · simp [Function.comp_def]
          · intro t _ k
            simp [wpStep, atI_map, e3]
  · have ha2 : ¬ (0 ≤ a ∧ a ≤ ((L.arcs s).length : Int) - 1) := by omega
    cases v <;> cases h1 <;> simp [f_is_piece, b_is_piece, is_sequence_of_seq, asSeq, atI_map, e1, ha, ha2, pieceOk]
theorem used_nonneg : ∀ r : List Piece, 0 ≤ used r
  | [] => Int.le_refl _
  | p :: r => by have := used_nonneg r; simp only [used]; omega
theorem is_allowed_loop {D : Ends} {v : Val} (ok : L.Ok) (fin : Bool → Prop) (h1 : ∀ b, fin b → D.rt (.bool b) st) (h2 : ∀ s u ρ4, fin (slipsOk L u) → D.nx [some (lineV L), some v, some (.int s), some (.int u), ρ4] st) : ∀ {vs : List Val} {row : List Piece} {s u : Int} {ρ4 : Option Val}, AllR PcR vs row → StOk L s → fin (walkOk L s row && slipsOk L (u + used row)) →
    wpLoop (Fn TB (k + 4)) X (.name 4) l_is_allowed_1 D vs [some (lineV L), some v, some (.int s), some (.int u), ρ4] st
  | [], [], s, u, ρ4, hr, hs, hf => h2 _ _ _ (by simpa [walkOk, used] using hf)
  | [], _ :: _, _, _, _, hr, _, _ => hr.elim
  | _ :: _, [], _, _, _, hr, _, _ => hr.elim
  | w :: vs, p :: row, s, u, ρ4, hr, hs, hf => by
    obtain ⟨hp, hr⟩ := hr
    rw [x_is_allowed_1]
    cases hpo : pieceOk L s p with
    | false =>
      simp [is_piece_ok ok hs hp, hpo]
      exact h1 false (by simpa [walkOk, hpo] using hf)
    | true =>
      have ha : 0 ≤ p.1 ∧ p.1 < (L.arcs s).length := by
        unfold pieceOk at hpo
        simp only [Bool.and_eq_true, decide_eq_true_eq] at hpo
        exact hpo.1
      have e1 := at_states hs
      have e2 := at_arcs ha.1 ha.2
      have := is_allowed_loop ok fin h1 h2 (s := L.next s p.1) (u := u + p.2.length) (ρ4 := some w) hr (ok.next hs ha.1 ha.2) (by
        simp only [walkOk, hpo, Bool.true_and, used] at hf
        rw [Int.add_assoc]
        exact hf)
      simp [is_piece_ok ok hs hp, hpo]
      obtain ⟨b, g1, g2, g3⟩ := hp
      cases w <;> cases g1 <;> cases b <;> cases g2 <;> simpa [atI_map, e1, e2, LD.next] using this
theorem is_allowed_ok {v : Val} {vs : List Val} {row : List Piece} (ok : L.Ok) (h : asSeq v = some vs) (hr : AllR PcR vs row) (q : Q (.bool (allowed L row)) st) : Fn TB (k + 5) 14 [lineV L, v] st Q X := by
  have hl := hr.length
  cases hz : row with
  | nil =>
    subst hz
    have hv : vs = [] := List.eq_nil_of_length_eq_zero hl
    subst hv
    cases v <;> cases h <;> simpa [f_is_allowed, b_is_allowed, allowed] using q
  | cons p r =>
    have hv : ¬ ((vs.length : Int) = 0) := by rw [hl, hz]; simp; omega
    have hv2 : vs ≠ [] := fun e => by rw [e, hz] at hl; cases hl
    have q2 : Q (.bool (walkOk L L.start row && slipsOk L (0 + used row))) st := by
      rw [Int.zero_add]
      unfold allowed at q
      rw [hz] at q ⊢
      exact q
    cases v <;> cases h
    all_goals
      simp [f_is_allowed, b_is_allowed, hv2]
      refine is_allowed_loop ok (fun b => Q (.bool b) st) (fun b hb => hb) (fun s u ρ4 hq => ?_) hr ⟨ok.st1, ok.st2⟩ q2
      unfold slipsOk at hq
      cases hs : L.slips with
      | none => rw [hs] at hq; simpa [hs] using hq
      | some m => rw [hs] at hq; simpa [hs] using hq
end
end VM

namespace VM
theorem Store.ext' {a b : Store} (h : a.next = b.next) (g : ∀ m, a.get m = b.get m) : a = b := by
  cases a; cases b
  simp only at h g
  subst h
  congr
  exact funext g
@[simp] theorem set_set {st : Store} {n : Nat} {c d : Cell} : (st.set n c).set n d = st.set n d := Store.ext' rfl fun m => by
  simp only [Store.set]; split <;> rfl
@[simp] theorem new_set {st : Store} {c d : Cell} : (st.new c).set st.next d = st.new d := Store.ext' rfl fun m => by
  simp only [Store.set, Store.new]; split <;> rfl
theorem get_new_lt {st : Store} {c : Cell} {m : Nat} (h : m < st.next) : (st.new c).get m = st.get m := by simp [Store.new, Nat.ne_of_lt h]
theorem get_set_ne {st : Store} {c : Cell} {n m : Nat} (h : m ≠ n) : (st.set n c).get m = st.get m := by simp [Store.set, h]
def LD.task (L : LD) (t : Int) : Int × Int := gi (0, 0) L.tasks t
/-- what a piece takes at a station -/
def takes (L : LD) (ts : List Int) (s : Int) (p : Piece) : Int := (((L.model (L.arc s p.1).1).filter fun t => decide (t ∈ ts)).map fun t => if t ∈ p.2 then (L.task t).2 else (L.task t).1).sum
def timesOf (L : LD) (ts : List Int) : Int → List Piece → List Int
  | _, [] => []
  | s, p :: r => takes L ts s p :: timesOf L ts (L.next s p.1) r
theorem timesOf_length {L : LD} {ts : List Int} : ∀ {row : List Piece} {s : Int}, (timesOf L ts s row).length = row.length
  | [], _ => rfl
  | _ :: r, _ => by simp [timesOf, timesOf_length]
section
variable {k : Nat} {st : Store} {Q : Post} {X : XPost} {L : LD}
theorem pieceOk_arc {s : Int} {p : Piece} (h : pieceOk L s p = true) : 0 ≤ p.1 ∧ p.1 < (L.arcs s).length := by
  unfold pieceOk at h
  simp only [Bool.and_eq_true, decide_eq_true_eq] at h
  exact h.1
theorem state_behind_loop {D : Ends} {v : Val} (ok : L.Ok) : ∀ {row : List Piece} {s : Int} {o3 o4 : Option Val}, StOk L s → walkOk L s row = true → (∀ o3 o4, D.nx [some (lineV L), some v, some (.int (behind L s row)), o3, o4] st) →
    wpLoop (Fn TB (k + 4)) X (.cons (.name 3) (.cons (.name 4) .nil)) l_state_behind_1 D (row.map vPc) [some (lineV L), some v, some (.int s), o3, o4] st
  | [], s, o3, o4, hs, hw, h => h o3 o4
  | p :: row, s, o3, o4, hs, hw, h => by
    simp only [walkOk, Bool.and_eq_true] at hw
    have ha := pieceOk_arc hw.1
    have e1 := at_states hs
    have e2 := at_arcs ha.1 ha.2
    have := state_behind_loop (D := D) (v := v) ok (row := row) (o3 := some (.int p.1)) (o4 := some (vIs p.2)) (ok.next hs ha.1 ha.2) hw.2 h
    rw [List.map_cons, x_state_behind_1]
    simpa [atI_map, e1, e2, LD.next] using this
theorem state_behind_tup {row : List Piece} (ok : L.Ok) (hw : walkOk L L.start row = true) (q : Q (.int (behind L L.start row)) st) : Fn TB (k + 5) 15 [lineV L, .tup (row.map vPc)] st Q X := by
  simp [f_state_behind, b_state_behind]
  refine state_behind_loop ok ⟨ok.st1, ok.st2⟩ hw fun o3 o4 => ?_
  simpa using q
theorem state_behind_lst {row : List Piece} (ok : L.Ok) (hw : walkOk L L.start row = true) (q : Q (.int (behind L L.start row)) st) : Fn TB (k + 5) 15 [lineV L, .lst (row.map vPc)] st Q X := by
  simp [f_state_behind, b_state_behind]
  refine state_behind_loop ok ⟨ok.st1, ok.st2⟩ hw fun o3 o4 => ?_
  simpa using q
theorem at_tasks {t : Int} (h2 : 0 ≤ t) (h3 : t < L.tasks.length) : atI L.tasks t = some (L.task t) := atI_in (0, 0) h2 h3
theorem times_loop {D : Ends} {v : Val} {ts : List Int} {n : Nat} (ok : L.Ok) : ∀ {row : List Piece} {s : Int} {acc : List Int} {su : Store} {o5 o6 o7 o8 : Option Val}, StOk L s → walkOk L s row = true → su.get n = some (.lst (acc.map .int) false) → acc.length + row.length ≤ big →
    (∀ s' o5 o6 o7 o8, D.nx [some (lineV L), some (vIs ts), some v, some (.cell n), some (.int s'), o5, o6, o7, o8, none] (su.set n (.lst ((acc ++ timesOf L ts s row).map .int) false))) →
    wpLoop (Fn TB (k + 4)) X (.cons (.name 5) (.cons (.name 6) .nil)) l_times_of_1 D (row.map vPc) [some (lineV L), some (vIs ts), some v, some (.cell n), some (.int s), o5, o6, o7, o8, none] su
  | [], s, acc, su, o5, o6, o7, o8, hs, hw, hg, hl, h => by
    have := h s o5 o6 o7 o8
    have e : su.set n (.lst ((acc ++ timesOf L ts s []).map .int) false) = su := Store.ext' rfl fun m => by
      simp only [Store.set, timesOf, List.append_nil]
      split
      · rename_i e; rw [e, hg]
      · rfl
    rw [e] at this
    exact this
  | p :: row, s, acc, su, o5, o6, o7, o8, hs, hw, hg, hl, h => by
    simp only [walkOk, Bool.and_eq_true] at hw
    have ha := pieceOk_arc hw.1
    have e1 := at_states hs
    have e2 := at_arcs ha.1 ha.2
    obtain ⟨m1, m2⟩ := ok.model hs ha.1 ha.2
    have e3 := at_models m1 m2
    have hm := (ok.mv _ (gi_mem (d := []) m1 m2)).2
    have := times_loop (D := D) (v := v) (ts := ts) (n := n) ok (row := row) (acc := acc ++ [takes L ts s p]) (su := su.set n (.lst ((acc ++ [takes L ts s p]).map .int) false)) (o5 := some (.int p.1)) (o6 := some (vIs p.2)) (o7 := some (.lst (((L.model (L.arc s p.1).1).filter fun t => decide (t ∈ ts)).map .int))) (o8 := some (.int (L.arc s p.1).1)) (ok.next hs ha.1 ha.2) hw.2 set_get (by simp at hl ⊢; omega) fun s' o5 o6 o7 o8 => by
      rw [set_set]
      have := h s' o5 o6 o7 o8
      simpa only [timesOf, List.append_assoc, List.singleton_append] using this
    rw [List.map_cons, x_times_of_1]
    simp [atI_map, e1, e2, e3]
    rw [wpComp_filter (fun t => .int t) (fun t => decide (t ∈ ts))]
    · simp [hg]
      rw [wpComp_map (fun t => .int (if t ∈ p.2 then (L.task t).2 else (L.task t).1))]
      · simp at hl
        have hl2 : acc.length < big := by omega
        simpa [hg, hl2, takes, LD.next] using this
      · intro t ht k
        have ht := hm t (List.mem_filter.mp ht).1
        have e4 := at_tasks ht.1 ht.2
        by_cases hq : t ∈ p.2 <;> simp [wpStep, atI_map, e4, hq]
    · intro t ht k
      by_cases hq : t ∈ ts <;> simp [wpStep, hq]
def Store.skip (st : Store) : Store := ⟨st.next + 1, fun m => if m = st.next then none else st.get m⟩
theorem new_del {st : Store} {c : Cell} : (st.new c).del st.next = st.skip := Store.ext' rfl fun m => by
  simp only [Store.del, Store.new, Store.skip]; split <;> rfl
theorem Grow.skip (st : Store) : Grow st st.skip := ⟨Nat.le_succ _, fun m hm => by simp [Store.skip, Nat.ne_of_lt hm]⟩
theorem times_of_ok {row : List Piece} {v : Val} {ts : List Int} (ok : L.Ok) (hv : asSeq v = some (row.map vPc)) (hw : walkOk L L.start row = true) (hl : row.length ≤ big) (q : Q (.lst ((timesOf L ts L.start row).map .int)) st.skip) : Fn TB (k + 5) 16 [lineV L, vIs ts, v] st Q X := by
  cases v <;> cases hv
  all_goals
    simp [f_times_of, b_times_of]
    refine times_loop (acc := []) ok ⟨ok.st1, ok.st2⟩ hw new_get (by simpa using hl) fun s' o5 o6 o7 o8 => ?_
    rw [new_set]
    simpa [wpFrz, new_del] using q
end
end VM

namespace VM
def lateOf (beat : Int) : Int → List Int → List Int
  | _, [] => []
  | l, t :: r => (if 0 < l + t - beat then l + t - beat else 0) :: lateOf beat (if 0 < l + t - beat then l + t - beat else 0) r
theorem lateOf_length {beat : Int} : ∀ {ts : List Int} {l : Int}, (lateOf beat l ts).length = ts.length
  | [], _ => rfl
  | _ :: r, _ => by simp [lateOf, lateOf_length]
section
variable {k : Nat} {st : Store} {Q : Post} {X : XPost} {L : LD}
theorem set_self {su : Store} {n : Nat} {c : Cell} (h : su.get n = some c) : su.set n c = su := Store.ext' rfl fun m => by
  simp only [Store.set]
  split
  · rename_i e; rw [e, h]
  · rfl
theorem late_loop {Φ : FnSem} {D : Ends} {a b v : Option Val} {beat : Int} {n : Nat} : ∀ {ts : List Int} {l : Int} {acc : List Int} {su : Store} {o6 : Option Val}, su.get n = some (.lst (acc.map .int) false) → acc.length + ts.length ≤ big →
    (∀ l' o6, D.nx [a, b, some (.int beat), v, some (.cell n), some (.int l'), o6] (su.set n (.lst ((acc ++ lateOf beat l ts).map .int) false))) →
    wpLoop Φ X (.name 6) l_latenesses_1 D (ts.map .int) [a, b, some (.int beat), v, some (.cell n), some (.int l), o6] su
  | [], l, acc, su, o6, hg, hl, h => by
    have := h l o6
    simp only [lateOf, List.append_nil, set_self hg] at this
    exact this
  | t :: ts, l, acc, su, o6, hg, hl, h => by
    have := late_loop (Φ := Φ) (D := D) (a := a) (b := b) (v := v) (beat := beat) (n := n) (ts := ts) (l := if 0 < l + t - beat then l + t - beat else 0) (acc := acc ++ [if 0 < l + t - beat then l + t - beat else 0]) (su := su.set n (.lst ((acc ++ [if 0 < l + t - beat then l + t - beat else 0]).map .int) false)) (o6 := some (.int t)) set_get (by simp at hl ⊢; omega) fun l' o6 => by
      rw [set_set]
      simpa only [lateOf, List.append_assoc, List.singleton_append] using h l' o6
    rw [List.map_cons, x_latenesses_1]
    simp at hl
    have hl2 : acc.length < big := by omega
    simpa [hg, hl2] using this
theorem latenesses_ok {row : List Piece} {v : Val} {ts : List Int} {beat : Int} (ok : L.Ok) (hv : asSeq v = some (row.map vPc)) (hw : walkOk L L.start row = true) (hl : row.length ≤ big) (q : ∀ st', Grow st st' → Q (.lst ((lateOf beat 0 (timesOf L ts L.start row)).map .int)) st') : Fn TB (k + 6) 17 [lineV L, vIs ts, .int beat, v] st Q X := by
  simp [f_latenesses, b_latenesses]
  refine times_of_ok ok hv hw hl ?_
  simp
  have hg : ((st.new (.lst [] false)).skip).get st.next = some (.lst (([] : List Int).map .int) false) := by
    simp [Store.skip, Store.new]
  refine late_loop (acc := []) hg (by simpa [timesOf_length] using hl) fun l' o6 => ?_
  simp [wpFrz]
  exact q _ (Grow.del (Grow.set (Grow.trans (Grow.new st _) (Grow.skip _)) (Nat.le_refl _)) (Nat.le_refl _))
/-! ### overflows -/
def lastI (l : List Int) : Int := l.getLastD 0
def aheadOf (late : List Int) : Int := if 1 < late.length then gi 0 late (late.length - 2) else 0
def overB (L : LD) (ts : List Int) (window beat : Int) (row : List Piece) : Bool := decide (beat + window < aheadOf (lateOf beat 0 (timesOf L ts L.start row)) + gi 0 (timesOf L ts L.start row) (row.length - 1))
theorem atI_neg {α : Type} {l : List α} {i : Int} (d : α) (h : i < 0) (h2 : -(l.length : Int) ≤ i) : atI l i = some (gi d l (l.length + i)) := by
  unfold atI ixN gi
  rw [if_neg (by omega), if_pos h2]
  have : ((l.length : Int) + i).toNat < l.length := by omega
  have e : (i + (l.length : Int)).toNat = ((l.length : Int) + i).toNat := by rw [Int.add_comm]
  simp [e, List.getD_eq_getElem?_getD, List.getElem?_eq_getElem this]
theorem overflows_ok {row : List Piece} {v : Val} {ts : List Int} {window beat : Int} (ok : L.Ok) (hv : asSeq v = some (row.map vPc)) (hw : walkOk L L.start row = true) (hl : row.length ≤ big) (hne : row ≠ []) (q : ∀ st', Grow st st' → Q (.bool (overB L ts window beat row)) st') : Fn TB (k + 7) 18 [lineV L, vIs ts, .int window, .int beat, v] st Q X := by
  simp [f_overflows, b_overflows]
  refine times_of_ok ok hv hw hl ?_
  simp
  refine latenesses_ok ok hv hw hl fun st' g => ?_
  have hlen := timesOf_length (L := L) (ts := ts) (row := row) (s := L.start)
  have hlen2 := lateOf_length (beat := beat) (ts := timesOf L ts L.start row) (l := 0)
  have hpos : 0 < row.length := List.length_pos_iff.mpr hne
  have e1 := atI_neg (l := timesOf L ts L.start row) (i := -1) 0 (by omega) (by omega)
  have hq := q st' ((Grow.skip st).trans g)
  unfold overB aheadOf at hq
  rw [hlen2, hlen] at hq
  by_cases h1 : 1 < row.length
  · have e2 := atI_neg (l := lateOf beat 0 (timesOf L ts L.start row)) (i := -2) 0 (by omega) (by omega)
    have h1' : (1 : Int) < row.length := by omega
    simpa [hlen, hlen2, h1, h1', atI_map, e1, e2, Int.sub_eq_add_neg] using hq
  · have h1' : ¬ (1 : Int) < row.length := by omega
    simpa [hlen, hlen2, h1, h1', atI_map, e1, Int.sub_eq_add_neg] using hq
end
end VM

namespace VM
section
variable {k : Nat} {st : Store} {Q : Post} {X : XPost} {L : LD}
/-- pieces of lawful length -/
def RowS (row : List Piece) : Prop := ∀ p ∈ row, p.2.length ≤ big
theorem pcR_vPc {p : Piece} (h : p.2.length ≤ big) : PcR (vPc p) p := ⟨vIs p.2, rfl, rfl, h⟩
theorem allR_row {row : List Piece} (h : RowS row) : AllR PcR (row.map vPc) row := AllR.map fun p hp => pcR_vPc (h p hp)
theorem checked_station_ok {plan : List Int} {v : Val} {s w b : Int} (ok : L.Ok) (h : asSeq v = some (plan.map Val.int)) (p : PlanOk L plan) (hs : 0 ≤ s ∧ s ≤ 23) (hw : 0 ≤ w ∧ w ≤ 300000) (hb : 0 ≤ b ∧ b ≤ 300000) (q : Q (vIs (tasksAt plan s)) st) : Fn TB (k + 7) 21 [lineV L, v, .int s, .int w, .int b] st Q X := by
  simp [f_checked_station, b_checked_station, check_plan_ok ok h p, hs, hw, hb]
  have := tasks_at_ok (k := k + 5) (st := st) (Q := Q) (X := X) (plan := plan) (s := s)
  simp at this
  rw [this]
  exact q
theorem row_overflows_ok {plan : List Int} {v : Val} {s w b : Int} {row : List Piece} (ok : L.Ok) (h : asSeq v = some (plan.map Val.int)) (p : PlanOk L plan) (hs : 0 ≤ s ∧ s ≤ 23) (hw : 0 ≤ w ∧ w ≤ 300000) (hb : 0 ≤ b ∧ b ≤ 300000) (hr : RowS row) (hl : row.length ≤ big)
    (q : ∀ st', Grow st st' → Q (.bool (allowed L row && overB L (tasksAt plan s) w b row)) st') : Fn TB (k + 8) 22 [lineV L, v, .int s, .int w, .int b, vRow row] st Q X := by
  simp [f_row_overflows, b_row_overflows]
  refine checked_station_ok ok h p hs hw hb ?_
  simp
  refine is_allowed_ok ok (vs := row.map vPc) rfl (allR_row hr) ?_
  cases ha : allowed L row with
  | false =>
    simp
    have := q st (Grow.refl st)
    rw [ha] at this
    exact this
  | true =>
    simp
    have ha2 := ha
    unfold allowed at ha2
    simp only [Bool.and_eq_true, Bool.not_eq_true'] at ha2
    have hne : row ≠ [] := by
      intro e
      rw [e] at ha2
      simp at ha2
    refine overflows_ok ok rfl ha2.2.1 hl hne fun st' g => ?_
    have := q st' g
    rw [ha] at this
    exact this
/-! ### loops -/
def slipFree (row : List Piece) : Bool := !(row.any fun p => decide (0 < p.2.length))
def isLoopB (L : LD) (head body : List Piece) : Bool := !body.isEmpty && (allowed L (head ++ body) && ((L.slips.isNone || slipFree body) && decide (behind L L.start head = behind L L.start (head ++ body))))
def gainsB (L : LD) (ts : List Int) (beat : Int) (head body : List Piece) : Bool := decide (beat * body.length < ((timesOf L ts L.start (head ++ body)).drop head.length).sum)
theorem any_flat {α : Type} {xs : List α} {p : α → Bool} : (xs.map p).any id = xs.any p := by simp [Function.comp_def]
theorem walk_app : ∀ {a b : List Piece} {s : Int}, walkOk L s (a ++ b) = true → walkOk L s a = true
  | [], _, _, _ => rfl
  | p :: a, b, s, h => by
    simp only [List.cons_append, walkOk, Bool.and_eq_true] at h ⊢
    exact ⟨h.1, walk_app h.2⟩
theorem is_loop_ok {head body : List Piece} (ok : L.Ok) (hr : RowS (head ++ body)) (hl : (head ++ body).length ≤ big) (q : Q (.bool (isLoopB L head body)) st) : Fn TB (k + 6) 19 [lineV L, .tup [vRow head, vRow body]] st Q X := by
  cases hz : body with
  | nil =>
    subst hz
    simp [f_is_loop, b_is_loop, is_sequence_of_seq, asSeq]
    rw [show ([Val.tup (head.map vPc), Val.tup []] : List Val) = [head, []].map vRow by rfl, wpComp_map (fun _ => .bool true)]
    · simpa [isLoopB, allB] using q
    · intro r _ k; simp [wpStep]
  | cons p r =>
    rw [← hz]
    have hne : body ≠ [] := by rw [hz]; exact List.cons_ne_nil _ _
    have hne2 : body.isEmpty = false := by rw [hz]; rfl
    have hmem : (true ∈ body.map fun x => decide (0 < x.2.length)) = (slipFree body = false) := by
      unfold slipFree
      simp
    have hl2 : head.length + body.length ≤ big := by simpa using hl
    simp [f_is_loop, b_is_loop, is_sequence_of_seq, asSeq]
    rw [show ([Val.tup (head.map vPc), Val.tup (body.map vPc)] : List Val) = [head, body].map vRow by rfl, wpComp_map (fun _ => .bool true)]
    · simp [hne, allB]
      refine ⟨hl2, is_allowed_ok ok (vs := head.map vPc ++ body.map vPc) rfl (by rw [← List.map_append]; exact allR_row hr) ?_⟩
      cases ha : allowed L (head ++ body) with
      | false => simpa [isLoopB, ha] using q
      | true =>
        have ha2 := ha
        unfold allowed at ha2
        simp only [Bool.and_eq_true, Bool.not_eq_true'] at ha2
        have fin : ∀ (q : Q (.bool (decide (behind L L.start head = behind L L.start (head ++ body)))) st), Fn TB (k + 5) 15 [lineV L, .tup (head.map vPc)] st (fun v st1 => head.length + body.length ≤ big ∧ Fn TB (k + 5) 15 [lineV L, .lst (head.map vPc ++ body.map vPc)] st1 (fun u st2 => wpEq v u fun c => Q (.bool c) st2) X) X := by
          intro q
          refine state_behind_tup ok (walk_app ha2.2.1) ⟨hl2, ?_⟩
          rw [← List.map_append]
          refine state_behind_lst ok ha2.2.1 ?_
          simpa using q
        cases hs : L.slips with
        | none =>
          have q2 : Q (.bool (decide (behind L L.start head = behind L L.start (head ++ body)))) st := by simpa [isLoopB, ha, hs, hne2] using q
          have := fin q2
          simpa [hs] using this
        | some m =>
          simp [hs]
          rw [wpComp_map (fun p => .bool (decide (0 < p.2.length)))]
          · cases hf : slipFree body with
            | false =>
              have q2 : Q (.bool false) st := by simpa [isLoopB, ha, hs, hf] using q
              simp only [allB_map, hmem, hf, if_true]
              exact q2
            | true =>
              have q2 : Q (.bool (decide (behind L L.start head = behind L L.start (head ++ body)))) st := by simpa [isLoopB, ha, hs, hne2, hf] using q
              have := fin q2
              simp only [allB_map, hmem, hf, Bool.true_eq_false, if_false]
              simpa using this
          · intro p _ k; simp [wpStep]
    · intro r _ k; simp [wpStep]
theorem sum_ints {xs : List Int} : allI (xs.map Val.int) = some xs := allI_ints
theorem cutL_drop {α : Type} {l : List α} {n : Nat} (h : n ≤ l.length) : cutL l (some (n : Int)) none = l.drop n := by
  unfold cutL sIx
  simp only [show ¬ ((n : Int) < 0) by omega, if_false, Int.toNat_natCast]
  rw [show Nat.min n l.length = n from Nat.min_eq_left h]
  rw [List.take_of_length_le (by simp)]
theorem gains_ok {head body : List Piece} {ts : List Int} {beat : Int} (ok : L.Ok) (hw : walkOk L L.start (head ++ body) = true) (hl : (head ++ body).length ≤ big) (hb : 0 ≤ beat ∧ beat ≤ 300000) (q : ∀ st', Grow st st' → Q (.bool (gainsB L ts beat head body)) st') : Fn TB (k + 6) 20 [lineV L, vIs ts, .int beat, .tup [vRow head, vRow body]] st Q X := by
  have hl2 : head.length + body.length ≤ big := by simpa using hl
  simp [f_gains, b_gains]
  refine ⟨hl2, ?_⟩
  rw [← List.map_append]
  refine times_of_ok ok rfl hw hl ?_
  have e := cutL_drop (l := (timesOf L ts L.start (head ++ body)).map Val.int) (n := head.length) (by simp [timesOf_length])
  simp [wpSlice, e]
  rw [← List.map_drop, allI_ints]
  have hq := q _ (Grow.skip st)
  unfold gainsB at hq
  simp only [CMul]
  exact ⟨.inl (by omega), hq⟩
theorem loop_gains_ok {plan : List Int} {v : Val} {s b : Int} {head body : List Piece} (ok : L.Ok) (h : asSeq v = some (plan.map Val.int)) (p : PlanOk L plan) (hs : 0 ≤ s ∧ s ≤ 23) (hb : 0 ≤ b ∧ b ≤ 300000) (hr : RowS (head ++ body)) (hl : (head ++ body).length ≤ big)
    (q : ∀ st', Grow st st' → Q (.bool (isLoopB L head body && gainsB L (tasksAt plan s) b head body)) st') : Fn TB (k + 7) 23 [lineV L, v, .int s, .int b, .tup [vRow head, vRow body]] st Q X := by
  simp [f_loop_gains, b_loop_gains, check_plan_ok ok h p, hs, hb]
  have := is_loop_ok (k := k) (st := st) (X := X) (Q := fun v st1 => isB v fun c => if c = true then Fn TB (k + 6) 12 [vIs plan, .int s] st1 (fun v_1 st1 => Fn TB (k + 6) 20 [lineV L, v_1, .int b, .tup [vRow head, vRow body]] st1 Q X) X else Q (.bool false) st1) ok hr hl ?_
  · simpa using this
  · cases hi : isLoopB L head body with
    | false =>
      have := q st (Grow.refl st)
      rw [hi] at this
      simpa using this
    | true =>
      have hw : walkOk L L.start (head ++ body) = true := by
        unfold isLoopB allowed at hi
        simp only [Bool.and_eq_true] at hi
        exact hi.2.1.2.1
      simp only [isB, if_true]
      rw [tasks_at_ok]
      refine gains_ok ok hw hl hb fun st' g => ?_
      have := q st' g
      rw [hi] at this
      exact this
end
end VM

namespace VM
section
variable {Φ : FnSem} {X : XPost} {ρ : Env} {own : List Nat} {t : Tgt} {c : EO} {ee : E} {st : Store}
theorem wpComp_id (f : Val → Val) {vs : List Val} {K : List Val → Store → Prop} (h : ∀ x ∈ vs, ∀ k, wpStep Φ X ρ own t c ee x st k = k (some (f x)) st) : wpComp Φ X ρ own t c ee vs st K = K (vs.map f) st := by
  have := wpComp_map (Φ := Φ) (X := X) (ρ := ρ) (own := own) (t := t) (c := c) (ee := ee) (st := st) (e := id) f (xs := vs) (K := K) h
  simpa using this
end
/-- every list a tuple, d deep -/
def frzD : Nat → Val → Val
  | d + 1, .tup vs => .tup (vs.map (frzD d))
  | d + 1, .lst vs => .tup (vs.map (frzD d))
  | _, v => v
theorem frz_int {d : Nat} {v : Val} {i : Int} (h : frzD d v = .int i) : v = .int i := by
  cases d <;> cases v <;> simp [frzD] at h <;> simp [h]
theorem frz_tup {d : Nat} {v : Val} {us : List Val} (h : frzD (d + 1) v = .tup us) : ∃ vs, asSeq v = some vs ∧ vs.map (frzD d) = us := by
  cases v <;> simp [frzD] at h <;> exact ⟨_, rfl, h⟩
theorem data_seq {d : Nat} {v : Val} {vs : List Val} (h : data (d + 1) v = true) (hs : asSeq v = some vs) : ∀ w ∈ vs, data d w = true := by
  cases v <;> cases hs <;> simp only [data] at h <;> exact List.all_eq_true.mp h
theorem frz_ints {d : Nat} {v : Val} {xs : List Int} (h : frzD (d + 1) v = vIs xs) : asSeq v = some (xs.map .int) := by
  obtain ⟨vs, h1, h2⟩ := frz_tup h
  rw [h1]
  congr 1
  clear h h1
  induction vs generalizing xs with
  | nil => cases xs with
    | nil => rfl
    | cons _ _ => cases h2
  | cons w vs ih =>
    cases xs with
    | nil => cases h2
    | cons x xs =>
      simp only [List.map_cons, List.cons.injEq] at h2 ⊢
      exact ⟨frz_int h2.1, ih h2.2⟩
theorem frz_pair {d : Nat} {v : Val} {p : Int × Int} (h : frzD (d + 1) v = vP p) : asSeq v = some [.int p.1, .int p.2] := by
  have := frz_ints (v := v) (xs := [p.1, p.2]) h
  simpa using this
theorem frz_list {α : Type} {d : Nat} {v : Val} {xs : List α} {f : α → Val} (h : frzD (d + 1) v = .tup (xs.map f)) : ∃ vs, asSeq v = some vs ∧ AllR (fun w x => frzD d w = f x) vs xs := by
  obtain ⟨vs, h1, h2⟩ := frz_tup h
  refine ⟨vs, h1, ?_⟩
  clear h h1
  induction vs generalizing xs with
  | nil => cases xs with
    | nil => trivial
    | cons _ _ => cases h2
  | cons w vs ih =>
    cases xs with
    | nil => cases h2
    | cons x xs =>
      simp only [List.map_cons, List.cons.injEq] at h2
      exact ⟨h2.1, ih h2.2⟩
section
variable {k : Nat} {st : Store} {Q : Post} {X : XPost} {L : LD}
theorem frozen_ok : ∀ {d k : Nat} {v : Val} {st : Store} {Q : Post}, data d v = true → Fn TB (k + d + 2) 4 [v] st Q X = Q (frzD d v) st
  | 0, k, v, st, Q, h => by
    cases v <;> simp [data] at h <;> simp [f_frozen, b_frozen, frzD, f_is_sequence, b_is_sequence]
  | d + 1, k, v, st, Q, h => by
    cases v <;> first | (simp [data] at h; done) | skip
    case non => simp [f_frozen, b_frozen, frzD, f_is_sequence, b_is_sequence]
    case bool => simp [f_frozen, b_frozen, frzD, f_is_sequence, b_is_sequence]
    case int => simp [f_frozen, b_frozen, frzD, f_is_sequence, b_is_sequence]
    case str => simp [f_frozen, b_frozen, frzD, f_is_sequence, b_is_sequence]
    case tup vs =>
      have hd := data_seq h (vs := vs) rfl
      have ih := fun w hw st Q => frozen_ok (d := d) (k := k) (v := w) (st := st) (Q := Q) (hd w hw)
      rw [show k + (d + 1) + 2 = (k + d + 2) + 1 by omega, f_frozen]
      simp [b_frozen, frzD]
      rw [wpComp_id (frzD d)]
      intro w hw kk
      simp [wpStep, ih w hw]
    case lst vs =>
      have hd := data_seq h (vs := vs) rfl
      have ih := fun w hw st Q => frozen_ok (d := d) (k := k) (v := w) (st := st) (Q := Q) (hd w hw)
      rw [show k + (d + 1) + 2 = (k + d + 2) + 1 by omega, f_frozen]
      simp [b_frozen, frzD]
      rw [wpComp_id (frzD d)]
      intro w hw kk
      simp [wpStep, ih w hw]
theorem is_task_ok {v : Val} {t : Int × Int} (h : asSeq v = some [.int t.1, .int t.2]) : Fn TB (k + 3) 24 [v] st Q X = Q (.bool (decide (0 ≤ t.1 ∧ t.1 ≤ t.2 ∧ t.2 ≤ 10000))) st := by
  by_cases h1 : 0 ≤ t.1 ∧ t.1 ≤ 10000
  · cases v <;> cases h <;> simp [f_is_task, b_is_task, is_sequence_of_seq, asSeq, h1]
  · have h2 : ¬ (0 ≤ t.1 ∧ t.1 ≤ t.2 ∧ t.2 ≤ 10000) := by omega
    cases v <;> cases h <;> simp [f_is_task, b_is_task, is_sequence_of_seq, asSeq, h1, h2]
theorem is_model_ok {v : Val} {m : List Int} {n : Int} (h : asSeq v = some (m.map .int)) (hl : m.length ≤ big) : Fn TB (k + 4) 25 [v, .int n] st Q X = Q (.bool (below n m && asc m)) st := by
  cases hb : below n m <;> cases v <;> cases h <;> simp [f_is_model, b_is_model, hb, hl]
theorem is_slips_ok {o : Option Int} (h : ∀ i, o = some i → 0 ≤ i ∧ i ≤ 8) : Fn TB (k + 3) 27 [slipV o] st Q X = Q (.bool true) st := by
  cases o with
  | none => simp [f_is_slips, b_is_slips]
  | some i => simp [f_is_slips, b_is_slips, h i rfl]
theorem is_filled_ok {v : Val} {vs : List Val} (h : asSeq v = some vs) : Fn TB (k + 2) 31 [v] st Q X = Q (.bool (decide (0 < vs.length))) st := by
  cases v <;> cases h <;> simp [f_is_filled, b_is_filled]
/-! ### states -/
theorem any_pairs {acc : List (Int × Int)} {a : Int × Int} : ((acc.map vP).any fun z => veq z (vP a)) = decide (a ∈ acc) := by
  induction acc with
  | nil => rfl
  | cons b r ih =>
    rw [List.map_cons, List.any_cons, ih]
    obtain ⟨a1, a2⟩ := a
    obtain ⟨b1, b2⟩ := b
    simp only [vP, veq, veqL, List.mem_cons, Prod.mk.injEq, Bool.and_true]
    by_cases h1 : b1 = a1 <;> by_cases h2 : b2 = a2
    · subst h1 h2; simp
    · have : ¬ a2 = b2 := fun e => h2 e.symm
      simp [h1, h2, this]
    · have : ¬ a1 = b1 := fun e => h1 e.symm
      simp [h1, this]
    · have : ¬ a1 = b1 := fun e => h1 e.symm
      simp [h1, this]
theorem data_pairs {acc : List (Int × Int)} {n : Nat} : (acc.map vP).all (data (n + 1)) = true := by
  rw [List.all_eq_true]
  intro v hv
  obtain ⟨a, _, rfl⟩ := List.mem_map.mp hv
  simp [data]
theorem mem_pairs {acc : List (Int × Int)} {a : Int × Int} {su : Store} {n : Nat} {lk : Bool} {R : Bool → Prop} (hg : su.get n = some (.lst (acc.map vP) lk)) : wpMem (.tup [.int a.1, .int a.2]) (.cell n) su R = R (decide (a ∈ acc)) := by
  have h1 := data_pairs (acc := acc) (n := 58)
  have h2 := any_pairs (acc := acc) (a := a)
  simp only [vP] at h2
  simp only [wpMem, lstOf, hg, onO, h1, h2, true_and]
  simp [data]
theorem is_state_loop {D : Ends} {v : Val} {m n : Int} {c : Nat} : ∀ {vs : List Val} {arcs acc : List (Int × Int)} {su : Store} {o4 : Option Val}, AllR (fun w a => asSeq w = some [.int a.1, .int a.2]) vs arcs → (∀ a ∈ arcs, (0 ≤ a.1 ∧ a.1 < m) ∧ 0 ≤ a.2 ∧ a.2 < n) → (acc ++ arcs).Nodup → su.get c = some (.lst (acc.map vP) false) → acc.length + arcs.length ≤ big →
    (∀ o4, D.nx [some v, some (.int m), some (.int n), some (.cell c), o4] (su.set c (.lst ((acc ++ arcs).map vP) false))) →
    wpLoop (Fn TB (k + 3)) X (.name 4) l_is_state_1 D vs [some v, some (.int m), some (.int n), some (.cell c), o4] su
  | [], [], acc, su, o4, _, _, _, hg, _, h => by
    have := h o4
    rw [List.append_nil, set_self hg] at this
    exact this
  | [], _ :: _, _, _, _, hr, _, _, _, _, _ => hr.elim
  | _ :: _, [], _, _, _, hr, _, _, _, _, _ => hr.elim
  | w :: vs, a :: arcs, acc, su, o4, hr, ha, hn, hg, hl, h => by
    obtain ⟨hw, hr⟩ := hr
    obtain ⟨⟨a1, a2⟩, a3, a4⟩ := ha a List.mem_cons_self
    have hna : a ∉ acc := fun q => by
      have := (List.nodup_append.mp hn).2.2 _ q _ List.mem_cons_self
      exact this rfl
    have := is_state_loop (D := D) (v := v) (m := m) (n := n) (c := c) (vs := vs) (arcs := arcs) (acc := acc ++ [a]) (su := su.set c (.lst ((acc ++ [a]).map vP) false)) (o4 := some w) hr (fun b hb => ha b (List.mem_cons_of_mem _ hb)) (by simpa using hn) set_get (by simp at hl ⊢; omega) fun o4 => by
      rw [set_set]
      simpa using h o4
    rw [x_is_state_1]
    have hm := fun R => mem_pairs (a := a) (R := R) hg
    have b1 : a.1 ≤ m - 1 := by omega
    have b2 : a.2 ≤ n - 1 := by omega
    simp at hl
    have hl2 : acc.length < big := by omega
    cases w <;> cases hw
    all_goals
      simp [is_sequence_of_seq, asSeq, a1, a3, b1, b2, hm, hna, hg, hl2]
      simpa using this
theorem is_state_ok {v : Val} {vs : List Val} {m n : Int} {arcs : List (Int × Int)} (hv : asSeq v = some vs) (hr : AllR (fun w a => asSeq w = some [.int a.1, .int a.2]) vs arcs) (h1 : 1 ≤ arcs.length) (h2 : arcs.length ≤ 40) (ha : ∀ a ∈ arcs, (0 ≤ a.1 ∧ a.1 < m) ∧ 0 ≤ a.2 ∧ a.2 < n) (hn : arcs.Nodup)
    (q : ∀ st', Grow st st' → Q (.bool true) st') : Fn TB (k + 4) 26 [v, .int m, .int n] st Q X := by
  have hl := hr.length
  have e1 : (1 : Int) ≤ vs.length := by omega
  have e2 : (vs.length : Int) ≤ 40 := by omega
  cases v <;> cases hv
  all_goals
    simp [f_is_state, b_is_state, e1, e2]
    refine is_state_loop (acc := []) hr ha (by simpa using hn) new_get (by simp [big]; omega) fun o4 => ?_
    rw [new_set]
    simpa using q _ (Grow.new st _)
end
end VM

namespace VM
section
variable {k : Nat} {st : Store} {Q : Post} {X : XPost} {L : LD}
theorem tasks_loop {D : Ends} {v : Option Val} : ∀ {vs : List Val} {ts : List (Int × Int)} {i : Nat} {o1 o2 : Option Val}, AllR (fun w t => asSeq w = some [.int t.1, .int t.2]) vs ts → (∀ t ∈ ts, 0 ≤ t.1 ∧ t.1 ≤ t.2 ∧ t.2 ≤ 10000) → (∀ o1 o2, D.nx [v, o1, o2] st) →
    wpLoop (Fn TB (k + 3)) X (.cons (.name 1) (.cons (.name 2) .nil)) l_tasks_with_tuples_1 D (numb i vs) [v, o1, o2] st
  | [], [], _, o1, o2, _, _, h => h o1 o2
  | [], _ :: _, _, _, _, hr, _, _ => hr.elim
  | _ :: _, [], _, _, _, hr, _, _ => hr.elim
  | w :: vs, t :: ts, i, o1, o2, hr, ht, h => by
    obtain ⟨hw, hr⟩ := hr
    have := tasks_loop (D := D) (v := v) (vs := vs) (ts := ts) (i := i + 1) (o1 := some (.int i)) (o2 := some w) hr (fun b hb => ht b (List.mem_cons_of_mem _ hb)) h
    rw [numb, x_tasks_with_tuples_1]
    simp [is_task_ok hw, ht t List.mem_cons_self]
    simpa using this
theorem tasks_with_tuples_ok {v : Val} {vs : List Val} {ts : List (Int × Int)} {d : Nat} (hv : asSeq v = some vs) (hr : AllR (fun w t => asSeq w = some [.int t.1, .int t.2]) vs ts) (ht : ∀ t ∈ ts, 0 ≤ t.1 ∧ t.1 ≤ t.2 ∧ t.2 ≤ 10000) (hd : data d v = true) (q : Q (frzD d v) st) : Fn TB (k + d + 4) 29 [v] st Q X := by
  have e := frozen_ok (k := k + 1) (st := st) (Q := Q) (X := X) hd
  rw [show k + 1 + d + 2 = k + d + 3 by omega] at e
  cases v <;> cases hv
  all_goals
    rw [f_tasks_with_tuples]
    simp [b_tasks_with_tuples, -numb_cons]
    refine tasks_loop (k := k + d) hr ht fun o1 o2 => ?_
    simp
    rw [e]
    exact q
theorem models_loop {D : Ends} {a0 a2 v3 a4 a5 a6 a7 a8 o11 : Option Val} {v1 : Val} {us : List Val} (h1 : asSeq v1 = some us) : ∀ {vs : List Val} {ms : List (List Int)} {i : Nat} {o9 o10 : Option Val}, AllR (fun w m => asSeq w = some (m.map Val.int)) vs ms → (∀ m ∈ ms, m.length ≤ big ∧ asc m = true ∧ below us.length m = true) → (∀ o9 o10, D.nx [a0, some v1, a2, v3, a4, a5, a6, a7, a8, o9, o10, o11] st) →
    wpLoop (Fn TB (k + 4)) X (.cons (.name 9) (.cons (.name 10) .nil)) l_Line_init_1 D (numb i vs) [a0, some v1, a2, v3, a4, a5, a6, a7, a8, o9, o10, o11] st
  | [], [], _, o9, o10, _, _, h => h o9 o10
  | [], _ :: _, _, _, _, hr, _, _ => hr.elim
  | _ :: _, [], _, _, _, hr, _, _ => hr.elim
  | w :: vs, m :: ms, i, o9, o10, hr, ht, h => by
    obtain ⟨hw, hr⟩ := hr
    obtain ⟨b1, b2, b3⟩ := ht m List.mem_cons_self
    have := models_loop (D := D) (a0 := a0) (a2 := a2) (v3 := v3) (a4 := a4) (a5 := a5) (a6 := a6) (a7 := a7) (a8 := a8) (o11 := o11) h1 (vs := vs) (ms := ms) (i := i + 1) (o9 := some (.int i)) (o10 := some w) hr (fun b hb => ht b (List.mem_cons_of_mem _ hb)) h
    rw [numb, x_Line_init_1]
    cases v1 <;> cases h1
    all_goals
      simp [is_model_ok hw b1, b2, b3]
      simpa using this
theorem states_loop {D : Ends} {a0 a1 a2 a5 a6 a7 a8 o10 : Option Val} {v3 v4 : Val} {us ws : List Val} (h3 : asSeq v3 = some us) (h4 : asSeq v4 = some ws) : ∀ {vs : List Val} {ss : List (List (Int × Int))} {i : Nat} {o9 o11 : Option Val} {st : Store}, AllR (fun w s => ∃ xs, asSeq w = some xs ∧ AllR (fun w a => asSeq w = some [.int a.1, .int a.2]) xs s) vs ss →
    (∀ s ∈ ss, 1 ≤ s.length ∧ s.length ≤ 40 ∧ s.Nodup ∧ ∀ a ∈ s, (0 ≤ a.1 ∧ a.1 < us.length) ∧ 0 ≤ a.2 ∧ a.2 < ws.length) → (∀ o9 o11 st', Grow st st' → D.nx [a0, a1, a2, some v3, some v4, a5, a6, a7, a8, o9, o10, o11] st') →
    wpLoop (Fn TB (k + 4)) X (.cons (.name 9) (.cons (.name 11) .nil)) l_Line_init_2 D (numb i vs) [a0, a1, a2, some v3, some v4, a5, a6, a7, a8, o9, o10, o11] st
  | [], [], _, o9, o11, st, _, _, h => h o9 o11 st (Grow.refl st)
  | [], _ :: _, _, _, _, _, hr, _, _ => hr.elim
  | _ :: _, [], _, _, _, _, hr, _, _ => hr.elim
  | w :: vs, s :: ss, i, o9, o11, st, hr, ht, h => by
    obtain ⟨⟨xs, hw, hx⟩, hr⟩ := hr
    obtain ⟨b1, b2, b3, b4⟩ := ht s List.mem_cons_self
    have ih := fun st' (g : Grow st st') => states_loop (D := D) (a0 := a0) (a1 := a1) (a2 := a2) (a5 := a5) (a6 := a6) (a7 := a7) (a8 := a8) (o10 := o10) h3 h4 (vs := vs) (ss := ss) (i := i + 1) (o9 := some (.int i)) (o11 := some w) (st := st') hr (fun b hb => ht b (List.mem_cons_of_mem _ hb)) fun o9 o11 st2 g2 => h o9 o11 st2 (g.trans g2)
    rw [numb, x_Line_init_2]
    cases v3 <;> cases h3 <;> cases v4 <;> cases h4
    all_goals
      simp
      refine is_state_ok hw hx b1 b2 b4 b3 fun st' g => ?_
      simpa using ih st' g
theorem order_none {v : Val} {n : Int} (h : asSeq v = some []) (q : Q (.tup []) (st.new (.lst [] false))) : Fn TB (k + 4) 30 [v, .int n] st Q X := by
  cases v <;> cases h <;> simpa [f_order_with_tuples, b_order_with_tuples, numb] using q
end
/-- the arguments, as they may be written -/
structure ArgsOk (L : LD) (v1 v2 v3 v4 : Val) : Prop where
  ok : L.Ok
  nd : ∀ s ∈ L.states, s.Nodup
  d1 : data 6 v1 = true
  d2 : data 6 v2 = true
  d3 : data 6 v3 = true
  d4 : data 6 v4 = true
  f1 : frzD 6 v1 = vPs L.tasks
  f2 : frzD 6 v2 = vPs L.order
  f3 : frzD 6 v3 = .tup (L.models.map vIs)
  f4 : frzD 6 v4 = .tup (L.states.map vPs)
theorem AllR.imp {α : Type} {R S : Val → α → Prop} : ∀ {vs : List Val} {xs : List α}, AllR R vs xs → (∀ v x, R v x → S v x) → AllR S vs xs
  | [], [], _, _ => trivial
  | _ :: _, _ :: _, h, m => ⟨m _ _ h.1, AllR.imp h.2 m⟩
  | [], _ :: _, h, _ => h.elim
  | _ :: _, [], h, _ => h.elim
theorem asc_len {n : Nat} : ∀ {m : List Int}, asc m = true → (∀ t ∈ m, 0 ≤ t ∧ t < n) → m.length ≤ n := by
  have aux : ∀ {m : List Int} {lo : Int}, asc m = true → (∀ t ∈ m, lo ≤ t ∧ t < n) → lo ≤ n → (m.length : Int) ≤ n - lo := by
    intro m
    induction m with
    | nil => intro lo _ _ h; simp; omega
    | cons a r ih =>
      intro lo ha hb hlo
      have h1 := hb a List.mem_cons_self
      cases r with
      | nil => simp; omega
      | cons b r =>
        simp only [asc, Bool.and_eq_true, decide_eq_true_eq] at ha
        have asc_ge : ∀ {r : List Int} {b : Int}, asc (b :: r) = true → ∀ t ∈ b :: r, b ≤ t := by
          intro r
          induction r with
          | nil => intro b _ t ht; simp at ht; omega
          | cons c r ih2 =>
            intro b hb t ht
            simp only [asc, Bool.and_eq_true, decide_eq_true_eq] at hb
            rcases List.mem_cons.mp ht with h | h
            · omega
            · have := ih2 hb.2 t h; omega
        have h2 := ih (lo := a + 1) ha.2 (fun t ht => by
          have h3 := hb t (List.mem_cons_of_mem _ ht)
          have h4 := asc_ge ha.2 t ht
          omega) (by omega)
        simp only [List.length_cons] at h2 ⊢
        push_cast at h2 ⊢
        omega
  intro m h1 h2
  have := aux h1 h2 (by omega)
  omega
section
variable {k : Nat} {st : Store} {Q : Post} {X : XPost} {L : LD}
theorem init_ok {v1 v2 v3 v4 : Val} {n : Nat} (A : ArgsOk L v1 v2 v3 v4) (ho : L.order = []) (hn : st.get n = some (.ins 0 [])) (hlt : n < st.next)
    (q : ∀ st', st.next ≤ st'.next → (∀ m, m < st.next → m ≠ n → st'.get m = st.get m) → st'.get n = some (.ins 0 [(0, partsV L)]) → Q .non st') :
    Fn TB (k + 11) 32 [.cell n, v1, v2, v3, v4, .int L.start, slipV L.slips] st Q X := by
  obtain ⟨ok, nd, d1, d2, d3, d4, f1, f2, f3, f4⟩ := A
  obtain ⟨vs1, s1, r1⟩ := frz_list f1
  obtain ⟨vs2, s2, r2⟩ := frz_list f2
  obtain ⟨vs3, s3, r3⟩ := frz_list f3
  obtain ⟨vs4, s4, r4⟩ := frz_list f4
  have l1 := r1.length
  have l2 := r2.length
  have l3 := r3.length
  have l4 := r4.length
  rw [ho] at l2
  have e2 : vs2 = [] := List.eq_nil_of_length_eq_zero l2
  subst e2
  have g1 : AllR (fun w t => asSeq w = some [.int t.1, .int t.2]) vs1 L.tasks := r1.imp fun w t h => frz_pair h
  have g3 : AllR (fun w m => asSeq w = some (m.map Val.int)) vs3 L.models := r3.imp fun w t h => frz_ints h
  have g4 : AllR (fun w s => ∃ xs, asSeq w = some xs ∧ AllR (fun w a => asSeq w = some [.int a.1, .int a.2]) xs s) vs4 L.states := r4.imp fun w t h => by
    obtain ⟨xs, a1, a2⟩ := frz_list h
    exact ⟨xs, a1, a2.imp fun w t h => frz_pair h⟩
  have n1 : (0 : Int) < vs1.length := by have := ok.t1; omega
  have n1' : (vs1.length : Int) ≤ 24 := by have := ok.t2; omega
  have n3 : (0 : Int) < vs3.length := by have := ok.m1; omega
  have n3' : (vs3.length : Int) ≤ 8 := by have := ok.m2; omega
  have n4 : (0 : Int) < vs4.length := by have := ok.s1; omega
  have n4' : (vs4.length : Int) ≤ 60 := by have := ok.s2; omega
  have p1 : 0 < vs1.length := by omega
  have p3 : 0 < vs3.length := by omega
  have p4 : 0 < vs4.length := by omega
  have hstart : 0 ≤ L.start ∧ L.start ≤ (vs4.length : Int) - 1 := by have := ok.st1; have := ok.st2; omega
  have hmod : ∀ m ∈ L.models, m.length ≤ big ∧ asc m = true ∧ below vs1.length m = true := fun m hm => by
    obtain ⟨a1, a2⟩ := ok.mv m hm
    have := asc_len a1 a2
    have := ok.t2
    refine ⟨by simp [big]; omega, a1, below_iff.mpr fun x hx => ?_⟩
    have := a2 x hx
    omega
  have hst : ∀ s ∈ L.states, 1 ≤ s.length ∧ s.length ≤ 40 ∧ s.Nodup ∧ ∀ a ∈ s, (0 ≤ a.1 ∧ a.1 < vs3.length) ∧ 0 ≤ a.2 ∧ a.2 < vs4.length := fun s hs => by
    obtain ⟨a1, a2, a3⟩ := ok.sv s hs
    refine ⟨a1, a2, nd s hs, fun a ha => ?_⟩
    have := a3 a ha
    omega
  have fr3 := fun st Q => frozen_ok (k := k + 2) (st := st) (Q := Q) (X := X) d3
  have fr4 := fun st Q => frozen_ok (k := k + 2) (st := st) (Q := Q) (X := X) d4
  simp [f_Line_init, b_Line_init, is_filled_ok s1, is_filled_ok s3, is_filled_ok s4, len_seq s1, len_seq s2, len_seq s3, len_seq s4, is_sequence_seq s2, p1, p3, p4, n1', n3', n4', s3, s4]
  refine tasks_with_tuples_ok (k := k) s1 g1 ok.tv d1 ?_
  try simp [is_sequence_seq s2, len_seq s2, len_seq s1]
  refine order_none s2 ?_
  try simp [is_filled_ok s3, len_seq s3, p3, n3', s3]
  refine models_loop (k := k + 6) s1 g3 hmod fun o9 o10 => ?_
  simp [is_filled_ok s4, len_seq s4, p4, n4', s4]
  refine states_loop (k := k + 6) s3 s4 g4 hst fun o9 o11 st' g => ?_
  have hg : st'.get n = some (.ins 0 []) := by
    rw [g.2 n (by simp; omega), get_new_lt hlt, hn]
  simp [len_seq s4, hstart.1, hstart.2, is_slips_ok ok.sl, fr3, fr4, hg]
  rw [f1, f3, f4]
  refine q _ ?_ ?_ ?_
  · have := g.1
    simp at this
    simp
    omega
  · intro m hm hne
    rw [get_set_ne hne, g.2 m (by simp; omega), get_new_lt hm]
  · simp [partsV, ho]
theorem line_made {v1 v2 v3 v4 : Val} (A : ArgsOk L v1 v2 v3 v4) (ho : L.order = []) (q : ∀ st', Grow st st' → Q (lineV L) st') :
    Fn TB (k + 11) 32 [.cell st.next, v1, v2, v3, v4, .int L.start, slipV L.slips] (st.new (.ins 0 [])) (fun r st2 => match st2.get st.next with
      | some (.ins d fs) => d = 0 ∧ r = .non ∧ Q (.obj 0 fs) (st2.del st.next)
      | _ => False) X := by
  refine init_ok A ho new_get (Nat.lt_succ_self _) fun st' h1 h2 h3 => ?_
  rw [h3]
  refine ⟨rfl, rfl, q _ ⟨?_, fun m hm => ?_⟩⟩
  · simp at h1 ⊢; omega
  · have : m ≠ st.next := Nat.ne_of_lt hm
    have e := h2 m (by simp; omega) this
    simp [Store.del, this, e, get_new_lt hm]
end
end VM

namespace VM
@[simp] theorem CMul_eq {i j : Int} : CMul i j = ((-(2 ^ 64) < i ∧ i < 2 ^ 64) ∨ (-(2 ^ 64) < j ∧ j < 2 ^ 64)) := rfl
theorem cutL_all {α : Type} {l : List α} {n : Nat} (h : l.length ≤ n) : cutL l none (some (n : Int)) = l := by
  unfold cutL sIx
  simp only [show ¬ ((n : Int) < 0) by omega, if_false, Int.toNat_natCast, List.drop_zero, Nat.sub_zero]
  rw [show Nat.min n l.length = l.length from Nat.min_eq_right h, List.take_length]
section
variable {k : Nat} {st : Store} {Q : Post} {X : XPost} {L : LD}
theorem num_loop1 {Φ : FnSem} {D : Ends} {a0 a2 o5 : Option Val} {st0 : Store} {n : Nat} (hn : st0.next ≤ n) : ∀ {vs : List Val} {acc : List Int} {su : Store} {left : Int} {o4 : Option Val}, su.get n = some (.lst (acc.map .int) false) → Grow st0 su → acc.length + vs.length ≤ big →
    (∀ (acc' : List Int) (su' : Store) (l' : Int) (o4 : Option Val), acc'.length ≤ acc.length + vs.length → su'.get n = some (.lst (acc'.map .int) false) → Grow st0 su' → D.nx [a0, some (.cell n), a2, some (.int l'), o4, o5] su') →
    wpLoop Φ X (.name 4) l__law_numbers_1 D vs [a0, some (.cell n), a2, some (.int left), o4, o5] su
  | [], acc, su, left, o4, hg, gr, hl, h => h acc su left o4 (by simp) hg gr
  | v :: vs, acc, su, left, o4, hg, gr, hl, h => by
    have ih := num_loop1 (Φ := Φ) (D := D) (a0 := a0) (a2 := a2) (o5 := o5) (st0 := st0) hn (vs := vs) (acc := acc ++ [left % 997]) (su := su.set n (.lst ((acc ++ [left % 997]).map .int) false)) (left := left / 997) (o4 := some v) set_get (gr.set hn) (by simp at hl ⊢; omega) fun acc' su' l' o4 h1 h2 h3 => h acc' su' l' o4 (by simp at h1 ⊢; omega) h2 h3
    rw [x__law_numbers_1]
    simp at hl
    have hl2 : acc.length < big := by omega
    by_cases hz : left = 0
    · simp [hz]
      exact h acc su 0 (some v) (by omega) hg gr
    · simp [hz, hg, hl2]
      simpa using ih
theorem num_loop2 {Φ : FnSem} {D : Ends} {a0 o3 : Option Val} {c : Int} {st0 : Store} {n : Nat} (hn : st0.next ≤ n) : ∀ {xs : List Int} {acc : List Int} {su : Store} {o4 o5 : Option Val}, su.get n = some (.lst (acc.map .int) false) → Grow st0 su → acc.length + xs.length ≤ big →
    (∀ (acc' : List Int) (su' : Store) (o4 o5 : Option Val), acc'.length ≤ acc.length + xs.length → su'.get n = some (.lst (acc'.map .int) false) → Grow st0 su' → D.nx [a0, some (.cell n), some (.int c), o3, o4, o5] su') →
    wpLoop Φ X (.name 4) l__law_numbers_2 D (xs.map .int) [a0, some (.cell n), some (.int c), o3, o4, o5] su
  | [], acc, su, o4, o5, hg, gr, hl, h => h acc su o4 o5 (by simp) hg gr
  | x :: xs, acc, su, o4, o5, hg, gr, hl, h => by
    have ih := fun y o5 => num_loop2 (Φ := Φ) (D := D) (a0 := a0) (o3 := o3) (c := c) (st0 := st0) hn (xs := xs) (acc := acc ++ [y]) (su := su.set n (.lst ((acc ++ [y]).map .int) false)) (o4 := some (.int x)) (o5 := o5) set_get (gr.set hn) (by simp at hl ⊢; omega) fun acc' su' o4 o5 h1 h2 h3 => h acc' su' o4 o5 (by simp at h1 ⊢; omega) h2 h3
    rw [List.map_cons, x__law_numbers_2]
    simp at hl
    have hl2 : acc.length < big := by omega
    simp [hg, hl2]
    simpa using ih _ _
theorem num_loop3 {Φ : FnSem} {D : Ends} {a0 : Option Val} {st0 : Store} {n : Nat} (hn : st0.next ≤ n) : ∀ {cs : List Int} {acc : List Int} {su : Store} {o2 o3 o4 o5 : Option Val}, su.get n = some (.lst (acc.map .int) false) → Grow st0 su → acc.length + 60 * cs.length ≤ big →
    (∀ (acc' : List Int) (su' : Store) (o2 o3 o4 o5 : Option Val), acc'.length ≤ acc.length + 60 * cs.length → su'.get n = some (.lst (acc'.map .int) false) → Grow st0 su' → D.nx [a0, some (.cell n), o2, o3, o4, o5] su') →
    wpLoop Φ X (.name 2) l__law_numbers_3 D (cs.map .int) [a0, some (.cell n), o2, o3, o4, o5] su
  | [], acc, su, o2, o3, o4, o5, hg, gr, hl, h => h acc su o2 o3 o4 o5 (by simp) hg gr
  | c :: cs, acc, su, o2, o3, o4, o5, hg, gr, hl, h => by
    simp only [List.length_cons] at hl
    have ih := fun (acc' : List Int) (su' : Store) (o2 o3 o4 o5 : Option Val) (h1 : acc'.length ≤ acc.length + 60) h2 h3 => num_loop3 (Φ := Φ) (D := D) (a0 := a0) (st0 := st0) hn (cs := cs) (acc := acc') (su := su') (o2 := o2) (o3 := o3) (o4 := o4) (o5 := o5) h2 h3 (by omega) fun acc2 su2 o2 o3 o4 o5 g1 g2 g3 => h acc2 su2 o2 o3 o4 o5 (by simp only [List.length_cons]; omega) g2 g3
    rw [List.map_cons, x__law_numbers_3]
    by_cases hc : (1000000000000000000 : Int) ≤ c
    · simp [hc, big]
      refine num_loop1 hn hg gr ?_ fun acc' su' l' o4 h1 h2 h3 => ?_
      · rw [ints_len]; omega
      · rw [ints_len] at h1
        exact ih acc' su' _ _ _ _ h1 h2 h3
    · simp [hc, big]
      rw [show intsFrom 0 4 = [(0 : Int), 1, 2, 3].map Val.int by rfl]
      refine num_loop2 hn hg gr (by simp; omega) fun acc' su' o4 o5 h1 h2 h3 => ?_
      exact ih acc' su' _ _ _ _ (by simp at h1; omega) h2 h3
where
  ints_len {lo : Int} : ∀ {n : Nat}, (intsFrom lo n).length = n := by
    intro n
    induction n generalizing lo with
    | zero => rfl
    | succ n ih => simp [intsFrom, ih]
theorem numbers_ok {ns : List Int} (hl : ns.length ≤ 63) (q : ∀ (r : List Int) st', r ≠ [] → r.length ≤ big → Grow st st' → Q (.lst (r.map .int)) st') : Fn TB (k + 1) 42 [.scr ns] st Q X := by
  simp [f__law_numbers, b__law_numbers, wpSlice]
  rw [show (63 : Int) = ((63 : Nat) : Int) by rfl, cutL_all (by simpa using hl)]
  refine num_loop3 (st0 := st) (n := st.next) (acc := []) (Nat.le_refl _) new_get (Grow.new st _) (by simp [big]; omega) fun acc' su' o2 o3 o4 o5 h1 h2 h3 => ?_
  simp at h1
  have hz : acc'.length ≤ big := by simp [big]; omega
  have hz2 : 0 < big := by simp [big]
  cases acc' with
  | nil =>
    simp at h2
    simp [len_cell h2, h2, wpFrz, hz2]
    exact q [0] _ (by simp) (by simp [big]) ((h3.set (Nat.le_refl _)).del (Nat.le_refl _))
  | cons a r =>
    have hne : ¬ ((r.length : Int) + 1 = 0) := by omega
    simp at h2
    simp [len_cell h2, h2, wpFrz, hne]
    exact q (a :: r) _ (by simp) hz (h3.del (Nat.le_refl _))
theorem draw_ok {r : List Int} {at_ limit : Int} (hr : r ≠ []) (ha : 0 ≤ at_) (hl : 0 < limit) (q : ∀ v, 0 ≤ v → v < limit → Q (.int v) st) : Fn TB (k + 1) 43 [.lst (r.map .int), .int at_, .int limit] st Q X := by
  have hpos : 0 < r.length := List.length_pos_iff.mpr hr
  have hm := fun x : Int => q (x % limit) (Int.emod_nonneg _ (by omega)) (Int.emod_lt_of_pos _ hl)
  by_cases h : at_ < r.length
  · have e := atI_in (l := r) 0 ha h
    simp [f__law_draw, b__law_draw, h, atI_map, e, hl, hm]
    try (intro h2; omega)
  · have e := atI_in (l := r) (i := at_ % r.length) 0 (Int.emod_nonneg _ (by omega)) (Int.emod_lt_of_pos _ (by omega))
    simp [f__law_draw, b__law_draw, h, atI_map, e, hl, hm, hpos]
/-- the counter of draws -/
def Sp (n : Nat) (st : Store) : Prop := n < st.next ∧ ∃ c : Int, 0 ≤ c ∧ st.get n = some (.lst [.int c] false)
theorem Sp.grow {n : Nat} {su : Store} (h : Sp n st) (g : Grow st su) : Sp n su := by
  obtain ⟨h1, c, h2, h3⟩ := h
  exact ⟨Nat.lt_of_lt_of_le h1 g.1, c, h2, by rw [g.2 n h1, h3]⟩
theorem Sp.new : Sp st.next (st.new (.lst [.int 0] false)) := ⟨Nat.lt_succ_self _, 0, Int.le_refl _, new_get⟩
theorem take_ok {r : List Int} {n : Nat} {limit : Int} (hr : r ≠ []) (hs : Sp n st) (hl : 0 < limit) (q : ∀ v st', 0 ≤ v → v < limit → Sp n st' → Q (.int v) st') : Fn TB (k + 2) 44 [.lst (r.map .int), .cell n, .int limit] st Q X := by
  obtain ⟨h1, c, h2, h3⟩ := hs
  simp [f__law_take, b__law_take, h3, ixN]
  refine draw_ok hr (by omega) hl fun v v1 v2 => q v _ v1 v2 ⟨h1, c + 1, by omega, set_get⟩
/-! ### loosened -/
def looD : Nat → Int → Val → Val
  | d + 1, t, .tup vs => if t % 2 = 0 then .lst (vs.map (looD d (t + 1))) else .tup (vs.map (looD d (t + 1)))
  | _, _, v => v
theorem loose_ok : ∀ {d k : Nat} {v : Val} {t : Int} {st : Store} {Q : Post}, data d v = true → Fn TB (k + d + 1) 45 [v, .int t] st Q X = Q (looD d t v) st
  | 0, k, v, t, st, Q, h => by
    cases v <;> simp [data] at h <;> simp [f__law_loose, b__law_loose, looD]
  | d + 1, k, v, t, st, Q, h => by
    cases v <;> first | (simp [data] at h; done) | skip
    case non => simp [f__law_loose, b__law_loose, looD]
    case bool => simp [f__law_loose, b__law_loose, looD]
    case int => simp [f__law_loose, b__law_loose, looD]
    case str => simp [f__law_loose, b__law_loose, looD]
    case lst => simp [f__law_loose, b__law_loose, looD]
    case tup vs =>
      have hd := data_seq h (vs := vs) rfl
      have ih := fun w hw st Q => loose_ok (d := d) (k := k) (v := w) (t := t + 1) (st := st) (Q := Q) (hd w hw)
      rw [show k + (d + 1) + 1 = (k + d + 1) + 1 by omega, f__law_loose]
      simp [b__law_loose, looD]
      rw [wpComp_id (looD d (t + 1))]
      · by_cases hp : t % 2 = 0 <;> simp [hp]
      · intro w hw kk
        simp [wpStep, ih w hw]
theorem frz_loo : ∀ {d : Nat} {t : Int} {v : Val}, frzD d (looD d t v) = frzD d v
  | 0, t, v => by cases v <;> rfl
  | d + 1, t, v => by
    cases v <;> try rfl
    rename_i vs
    unfold looD
    split <;> simp only [frzD, List.map_map, Val.tup.injEq] <;> exact List.map_congr_left fun w _ => frz_loo
theorem data_loo : ∀ {d : Nat} {t : Int} {v : Val}, data d v = true → data d (looD d t v) = true
  | 0, t, v, h => by cases v <;> exact h
  | d + 1, t, v, h => by
    cases v <;> try exact h
    rename_i vs
    have hd := data_seq h (vs := vs) rfl
    unfold looD
    split <;> simp only [data, List.all_map] <;> exact List.all_eq_true.mpr fun w hw => data_loo (hd w hw)
theorem frz_vIs {d : Nat} {xs : List Int} : frzD (d + 1) (vIs xs) = vIs xs := by
  simp only [vIs, frzD, List.map_map, Val.tup.injEq]
  exact List.map_congr_left fun x _ => by cases d <;> rfl
theorem frz_vPs {d : Nat} {xs : List (Int × Int)} : frzD (d + 2) (vPs xs) = vPs xs := by
  simp only [vPs, frzD, List.map_map, Val.tup.injEq]
  exact List.map_congr_left fun x _ => by
    have := frz_vIs (d := d) (xs := [x.1, x.2])
    simpa using this
theorem data_vIs {d : Nat} {xs : List Int} : data (d + 1) (vIs xs) = true := by
  simp [vIs, data]
theorem data_vPs {d : Nat} {xs : List (Int × Int)} : data (d + 2) (vPs xs) = true := by
  simp [vPs, data]
theorem args_loo {t1 t2 t3 t4 : Int} (ok : L.Ok) (nd : ∀ s ∈ L.states, s.Nodup) : ArgsOk L (looD 6 t1 (vPs L.tasks)) (looD 6 t2 (vPs L.order)) (looD 6 t3 (.tup (L.models.map vIs))) (looD 6 t4 (.tup (L.states.map vPs))) := by
  have m1 : data 6 (.tup (L.models.map vIs)) = true := by
    simp only [data, List.all_map]
    exact List.all_eq_true.mpr fun m _ => data_vIs
  have m2 : data 6 (.tup (L.states.map vPs)) = true := by
    simp only [data, List.all_map]
    exact List.all_eq_true.mpr fun m _ => data_vPs
  have m3 : frzD 6 (.tup (L.models.map vIs)) = .tup (L.models.map vIs) := by
    simp only [frzD, List.map_map, Val.tup.injEq]
    exact List.map_congr_left fun m _ => frz_vIs
  have m4 : frzD 6 (.tup (L.states.map vPs)) = .tup (L.states.map vPs) := by
    simp only [frzD, List.map_map, Val.tup.injEq]
    exact List.map_congr_left fun m _ => frz_vPs
  exact ⟨ok, nd, data_loo data_vPs, data_loo data_vPs, data_loo m1, data_loo m2, frz_loo.trans frz_vPs, frz_loo.trans frz_vPs, frz_loo.trans m3, frz_loo.trans m4⟩
theorem made_ok {t : Int} (ok : L.Ok) (nd : ∀ s ∈ L.states, s.Nodup) (ho : L.order = []) (q : ∀ st', Grow st st' → Q (lineV L) st') : Fn TB (k + 12) 46 [partsV L, .int t] st Q X := by
  have A := args_loo (t1 := t) (t2 := t + 1) (t3 := t) (t4 := t) ok nd
  have m1 : data 6 (.tup (L.models.map vIs)) = true := by
    simp only [data, List.all_map]
    exact List.all_eq_true.mpr fun m _ => data_vIs
  have m2 : data 6 (.tup (L.states.map vPs)) = true := by
    simp only [data, List.all_map]
    exact List.all_eq_true.mpr fun m _ => data_vPs
  have l1 := fun st Q => loose_ok (k := k + 4) (X := X) (t := t) (st := st) (Q := Q) (data_vPs (d := 4) (xs := L.tasks))
  have l2 := fun st Q => loose_ok (k := k + 4) (X := X) (t := t + 1) (st := st) (Q := Q) (data_vPs (d := 4) (xs := L.order))
  have l3 := fun st Q => loose_ok (k := k + 4) (X := X) (t := t) (st := st) (Q := Q) m1
  have l4 := fun st Q => loose_ok (k := k + 4) (X := X) (t := t) (st := st) (Q := Q) m2
  simp only [vPs] at l1 l2
  simp [f__law_made, b__law_made, partsV, l1, l2, l3, l4]
  have := line_made (k := k) (st := st) (Q := Q) (X := X) A ho q
  simp at this
  exact this
theorem so_bool {a b : Bool} : Fn TB (k + 1) 41 [.bool a, .bool b] st Q X = Q (.bool (decide (a = b))) st := by
  cases a <;> cases b <;> simp [f__law_so, b__law_so, data, veq]
end
end VM

namespace VM
theorem wpSL_seq {Φ : FnSem} {X : XPost} {s : S} {r : SL} {ρ : Env} {st : Store} {D : Ends} (h : ∀ K : Env → Store → Prop, (∀ ρ1 st1, wpSL Φ X r ρ1 st1 D → K ρ1 st1) → wpS Φ X s ρ st ⟨K, D.rt, D.bk, D.ct⟩) : wpSL Φ X (.cons s r) ρ st D := h _ fun _ _ z => z
section
variable {k : Nat} {st : Store} {Q : Post} {X : XPost} {L : LD}
theorem is_row_ok {row : List Piece} (ok : L.Ok) (hr : RowS row) (q : Q (.bool (allowed L row)) st) : Fn TB (k + 6) 39 [lineV L, vRow row] st Q X := by
  simp [f_is_row, b_is_row]
  exact is_allowed_ok ok (vs := row.map vPc) rfl (allR_row hr) q
theorem data_vRow {d : Nat} {row : List Piece} : data (d + 3) (vRow row) = true := by
  simp [vRow, data]
theorem frz_vRow {d : Nat} {row : List Piece} : frzD (d + 3) (vRow row) = vRow row := by
  simp only [vRow, frzD, List.map_map, Val.tup.injEq]
  refine List.map_congr_left fun p _ => ?_
  have := frz_vIs (d := d) (xs := p.2)
  simp only [vIs, frzD, Val.tup.injEq] at this
  simp [frzD]
theorem lateness_ok {plan : List Int} {v : Val} {s b : Int} {row : List Piece} (ok : L.Ok) (h : asSeq v = some (plan.map Val.int)) (p : PlanOk L plan) (hs : 0 ≤ s ∧ s ≤ 23) (hb : 0 ≤ b ∧ b ≤ 300000) (hr : RowS row) (hl : row.length ≤ big) (ha : allowed L row = true)
    (q : ∀ st', Grow st st' → Q (vIs (lateOf b 0 (timesOf L (tasksAt plan s) L.start row))) st') : Fn TB (k + 7) 40 [lineV L, v, .int s, .int b, vRow row] st Q X := by
  have hw : walkOk L L.start row = true := by
    unfold allowed at ha
    simp only [Bool.and_eq_true] at ha
    exact ha.2.1
  simp [f_lateness, b_lateness, check_plan_ok ok h p, hs, hb]
  refine is_allowed_ok ok (vs := row.map vPc) rfl (allR_row hr) ?_
  have t := fun Q => tasks_at_ok (k := k + 5) (st := st) (Q := Q) (X := X) (plan := plan) (s := s)
  have f := fun st Q => frozen_ok (k := k + 1) (d := 3) (st := st) (Q := Q) (X := X) (data_vRow (d := 0) (row := row))
  simp only [vIs, vRow] at t f
  simp [ha, t, f]
  have e := frz_vRow (d := 0) (row := row)
  simp only [vRow, Nat.zero_add] at e
  rw [e]
  refine latenesses_ok ok rfl hw hl fun st' g => ?_
  simpa using q st' g
end
/-! ### k81's line -/
def L81 (b d : Int) (sl : Option Int) : LD := ⟨[(b, b + 1 + d)], [], [[0]], [[(0, 0)]], 0, sl⟩
def pz : Piece := (0, [])
def po : Piece := (0, [0])
def Row81 (row : List Piece) : Prop := ∀ p ∈ row, p = pz ∨ p = po
def tm81 (b d : Int) (p : Piece) : Int := if (0 : Int) ∈ p.2 then b + 1 + d else b
section
variable {b d : Int} {sl : Option Int}
theorem ok81 (hb : 5 ≤ b ∧ b < 25) (hd : 0 ≤ d ∧ d < 3) (hs : ∀ i, sl = some i → 0 ≤ i ∧ i ≤ 8) : (L81 b d sl).Ok := by
  refine ⟨by simp [L81], by simp [L81], ?_, by simp [L81], ?_, by simp [L81], by simp [L81], ?_, by simp [L81], by simp [L81], ?_, by simp [L81], by simp [L81], hs⟩
  · intro t ht
    simp [L81] at ht
    subst ht
    simp; omega
  · intro p hp
    simp [L81] at hp
  · intro m hm
    simp [L81] at hm
    subst hm
    simp [asc, L81]
  · intro s hs
    simp [L81] at hs
    subst hs
    simp [L81]
theorem nd81 : ∀ s ∈ (L81 b d sl).states, s.Nodup := by
  intro s hs
  simp [L81] at hs
  subst hs
  simp
theorem plan81 : PlanOk (L81 b d sl) [0] := ⟨rfl, by simp, rfl⟩
theorem tasksAt81 : tasksAt [0] 0 = [0] := by decide
theorem piece81 {p : Piece} (h : p = pz ∨ p = po) : pieceOk (L81 b d sl) 0 p = true := by
  rcases h with h | h <;> subst h <;> simp [pieceOk, L81, pz, po, LD.arcs, LD.arc, LD.model, gi, below, asc]
theorem next81 {p : Piece} (h : p = pz ∨ p = po) : (L81 b d sl).next 0 p.1 = 0 := by
  rcases h with h | h <;> subst h <;> simp [L81, pz, po, LD.next, LD.arcs, LD.arc, gi]
theorem takes81 {p : Piece} (h : p = pz ∨ p = po) : takes (L81 b d sl) [0] 0 p = tm81 b d p := by
  rcases h with h | h <;> subst h <;> simp [takes, tm81, L81, pz, po, LD.arcs, LD.arc, LD.model, LD.task, gi]
theorem walk81 {b d : Int} {sl : Option Int} : ∀ {row : List Piece}, Row81 row → walkOk (L81 b d sl) 0 row = true ∧ behind (L81 b d sl) 0 row = 0 ∧ timesOf (L81 b d sl) [0] 0 row = row.map (tm81 b d)
  | [], _ => ⟨rfl, rfl, rfl⟩
  | p :: row, h => by
    have hp := h p List.mem_cons_self
    obtain ⟨h1, h2, h3⟩ := walk81 (b := b) (d := d) (sl := sl) (row := row) fun q hq => h q (List.mem_cons_of_mem _ hq)
    simp [walkOk, behind, timesOf, piece81 hp, next81 hp, takes81 hp, h1, h2, h3]
theorem goodS {row : List Piece} (h : Row81 row) : RowS row := fun p hp => by
  rcases h p hp with e | e <;> subst e <;> simp [pz, po, big]
theorem good_app {a c : List Piece} (h : Row81 a) (g : Row81 c) : Row81 (a ++ c) := fun p hp => (List.mem_append.mp hp).elim (h p) (g p)
theorem good_rep {n : Nat} : Row81 (List.replicate n pz) := fun p hp => .inl (List.eq_of_mem_replicate hp)
def body81 (at_ r : Nat) : List Piece := List.replicate at_ pz ++ po :: List.replicate r pz
theorem good_body {a r : Nat} : Row81 (body81 a r) := good_app good_rep fun p hp => (List.mem_cons.mp hp).elim .inr (good_rep p)
theorem used_app : ∀ {a c : List Piece}, used (a ++ c) = used a + used c
  | [], c => by simp [used]
  | p :: a, c => by simp [used, used_app, Int.add_assoc]
theorem used_rep : ∀ {n : Nat}, used (List.replicate n pz) = 0
  | 0 => rfl
  | n + 1 => by rw [List.replicate_succ, used, used_rep]; rfl
theorem used_body {a r : Nat} : used (body81 a r) = 1 := by
  simp [body81, used_app, used_rep, used, po]
theorem free_rep {n : Nat} : slipFree (List.replicate n pz) = true := by
  unfold slipFree
  simp [pz]
theorem free_body {a r : Nat} : slipFree (body81 a r) = false := by
  unfold slipFree
  simp [body81, po]
theorem sum_rep {n : Nat} {x : Int} : (List.replicate n x).sum = n * x := by
  induction n with
  | zero => simp
  | succ n ih => rw [List.replicate_succ, List.sum_cons, ih]; push_cast; rw [Int.add_mul]; omega
theorem tm_rep {n : Nat} : (List.replicate n pz).map (tm81 b d) = List.replicate n b := by simp [tm81, pz]
theorem allowed81 {row : List Piece} (h : Row81 row) (hne : row ≠ []) : allowed (L81 b d sl) row = slipsOk (L81 b d sl) (used row) := by
  unfold allowed
  have : row.isEmpty = false := by cases row <;> simp at hne ⊢
  rw [this, show (L81 b d sl).start = 0 from rfl, (walk81 h).1]
  simp
/-- the loop's answer -/
theorem gain81 {beat : Int} {head body : List Piece} (hh : Row81 head) (hb : Row81 body) : (isLoopB (L81 b d sl) head body && gainsB (L81 b d sl) [0] beat head body) = (!body.isEmpty && (slipsOk (L81 b d sl) (used head + used body) && ((sl.isNone || slipFree body) && decide (beat * body.length < (body.map (tm81 b d)).sum)))) := by
  cases hz : body with
  | nil => simp [isLoopB]
  | cons p r =>
    rw [← hz]
    have hne : head ++ body ≠ [] := by rw [hz]; simp
    have hg := good_app hh hb
    unfold isLoopB gainsB
    rw [allowed81 hg hne, used_app, show (L81 b d sl).start = 0 from rfl, (walk81 hg).2.1, (walk81 hh).2.1, (walk81 hg).2.2, List.map_append, List.drop_left' (by simp), show (L81 b d sl).slips = sl from rfl]
    simp [Bool.and_assoc]
theorem late81 : ∀ {n : Nat} {l : Int}, 0 ≤ l → lateOf (b - 1) l (List.replicate n b) = (List.range n).map fun i : Nat => l + i + 1
  | 0, l, _ => rfl
  | n + 1, l, h => by
    have e : (if 0 < l + b - (b - 1) then l + b - (b - 1) else 0) = l + 1 := by rw [if_pos (by omega)]; omega
    rw [List.replicate_succ, lateOf, e, late81 (by omega), List.range_succ_eq_map, List.map_cons, List.map_map]
    congr 1
    · simp
    · exact List.map_congr_left fun i _ => by simp; omega
end
end VM

namespace VM
theorem slips_pick {v : Int} (h1 : 0 ≤ v) (h2 : v < 5) : ∃ sl : Option Int, (∀ i, sl = some i → 0 ≤ i ∧ i ≤ 8) ∧ atI [Val.non, .int 0, .int 1, .int 2, .int 8] v = some (slipV sl) := by
  have : v = 0 ∨ v = 1 ∨ v = 2 ∨ v = 3 ∨ v = 4 := by omega
  rcases this with e | e | e | e | e <;> subst e
  · exact ⟨none, (fun i h => by cases h), rfl⟩
  · exact ⟨some 0, (fun i h => by cases h; decide), rfl⟩
  · exact ⟨some 1, (fun i h => by cases h; decide), rfl⟩
  · exact ⟨some 2, (fun i h => by cases h; decide), rfl⟩
  · exact ⟨some 8, (fun i h => by cases h; decide), rfl⟩
theorem at_pick {v a b c m : Int} (h1 : 0 ≤ v) (h2 : v < 3) (ha : 0 ≤ a ∧ a < m) (hb : 0 ≤ b ∧ b < m) (hc : 0 ≤ c ∧ c < m) : ∃ i : Int, 0 ≤ i ∧ i < m ∧ atI [Val.int a, .int b, .int c] v = some (.int i) := by
  have : v = 0 ∨ v = 1 ∨ v = 2 := by omega
  rcases this with e | e | e <;> subst e
  · exact ⟨a, ha.1, ha.2, by simp⟩
  · exact ⟨b, hb.1, hb.2, by simp⟩
  · exact ⟨c, hc.1, hc.2, by simp⟩
theorem body_eq {a r : Nat} : ((List.range (a + 1 + r)).map fun i : Nat => if (i : Int) = (a : Int) then vPc po else vPc pz) = (body81 a r).map vPc := by
  refine List.ext_getElem (by simp [body81]; omega) fun i h1 h2 => ?_
  simp only [List.getElem_map, List.getElem_range, body81]
  rcases Nat.lt_trichotomy i a with h | h | h
  · rw [if_neg (by omega), List.getElem_append_left (by simpa using h)]
    simp
  · subst h
    simp
  · rw [if_neg (by omega), List.getElem_append_right (by simp; omega)]
    simp only [List.length_replicate]
    obtain ⟨j, hj⟩ : ∃ j, i - a = j + 1 := ⟨i - a - 1, by omega⟩
    simp [hj]
theorem rep_flat {α : Type} {n : Nat} {x : α} : (List.replicate n [x]).flatten = List.replicate n x := by
  induction n with
  | zero => rfl
  | succ n ih => simp [List.replicate_succ, ih]
theorem rep_row {n : Nat} : List.replicate n (vPc pz) = (List.replicate n pz).map vPc := by simp
theorem L81_parts {b d : Int} {sl : Option Int} : partsV (L81 b d sl) = .tup [.tup [.tup [.int b, .int (b + 1 + d)]], .tup [], .tup [.tup [.int 0]], .tup [.tup [.tup [.int 0, .int 0]]], .int 0, slipV sl] := by
  simp [partsV, L81]
@[simp] theorem isNon_slip {sl : Option Int} : isNon (slipV sl) = sl.isNone := by cases sl <;> rfl
section
variable {b d : Int} {sl : Option Int}
theorem sum_body {a R : Nat} : ((body81 a R).map (tm81 b d)).sum = a * b + (b + 1 + d) + R * b := by
  unfold body81
  rw [List.map_append, List.map_cons, tm_rep, tm_rep, List.sum_append, List.sum_cons, sum_rep, sum_rep]
  simp [tm81, po]
  omega
theorem len_body {a R : Nat} : (body81 a R).length = a + 1 + R := by simp [body81]; omega
theorem ne_body {a R : Nat} : (body81 a R).isEmpty = false := by
  cases h : body81 a R with
  | nil => have := congrArg List.length h; rw [len_body] at this; simp at this
  | cons _ _ => rfl
theorem A1 {h a R : Nat} (hd : 0 ≤ d) : (isLoopB (L81 b d sl) (List.replicate h pz) (body81 a R) && gainsB (L81 b d sl) (tasksAt [0] 0) b (List.replicate h pz) (body81 a R)) = sl.isNone := by
  rw [tasksAt81, gain81 good_rep good_body, ne_body, used_rep, used_body, free_body, sum_body, len_body]
  cases sl with
  | none =>
    have : b * ((a + 1 + R : Nat) : Int) < a * b + (b + 1 + d) + R * b := by
      push_cast
      have h1 : b * (a : Int) = a * b := Int.mul_comm _ _
      have h2 : b * (R : Int) = R * b := Int.mul_comm _ _
      rw [Int.mul_add, Int.mul_add, h1, h2]
      omega
    simp only [decide_eq_true this]
    rfl
  | some m => simp
theorem A2 {h m : Nat} : (isLoopB (L81 b d sl) (List.replicate h pz) (List.replicate m pz) && gainsB (L81 b d sl) (tasksAt [0] 0) b (List.replicate h pz) (List.replicate m pz)) = false := by
  rw [tasksAt81, gain81 good_rep good_rep, tm_rep, sum_rep, List.length_replicate]
  have : ¬ (b * (m : Int) < m * b) := by rw [Int.mul_comm]; omega
  simp [this]
theorem A3 {m : Nat} (hm : 0 < m) (hsl : ∀ i, sl = some i → 0 ≤ i ∧ i ≤ 8) : (isLoopB (L81 b d sl) (List.replicate 0 pz) (List.replicate m pz) && gainsB (L81 b d sl) (tasksAt [0] 0) (b - 1) (List.replicate 0 pz) (List.replicate m pz)) = true := by
  rw [tasksAt81, gain81 good_rep good_rep, tm_rep, sum_rep, List.length_replicate, used_rep, used_rep, free_rep]
  have h1 : (b - 1) * (m : Int) < m * b := by
    rw [Int.sub_mul, Int.mul_comm b]
    omega
  have h2 : (List.replicate m pz).isEmpty = false := by cases m <;> simp at hm ⊢
  have h3 : slipsOk (L81 b d sl) 0 = true := by
    unfold slipsOk
    rw [show (L81 b d sl).slips = sl from rfl]
    cases sl with
    | none => rfl
    | some i => simpa using (hsl i rfl).1
  rw [Int.add_zero]
  simp [h1, h2, h3]
theorem A4 {a R : Nat} {beat m : Int} : (isLoopB (L81 b d (some m)) (List.replicate 0 pz) (body81 a R) && gainsB (L81 b d (some m)) (tasksAt [0] 0) beat (List.replicate 0 pz) (body81 a R)) = false := by
  rw [tasksAt81, gain81 good_rep good_body, free_body]
  simp
theorem A5 {n : Nat} (hn : 0 < n) (hsl : ∀ i, sl = some i → 0 ≤ i ∧ i ≤ 8) : allowed (L81 b d sl) (List.replicate n pz) = true := by
  rw [allowed81 good_rep (by cases n <;> simp at hn ⊢), used_rep]
  unfold slipsOk
  rw [show (L81 b d sl).slips = sl from rfl]
  cases sl with
  | none => rfl
  | some i => simpa using (hsl i rfl).1
theorem times_rep {n : Nat} : timesOf (L81 b d sl) (tasksAt [0] 0) (L81 b d sl).start (List.replicate n pz) = List.replicate n b := by
  rw [tasksAt81, show (L81 b d sl).start = 0 from rfl, (walk81 good_rep).2.2, tm_rep]
theorem A6 {n : Nat} {w : Int} (hn : 2 ≤ n) : overB (L81 b d sl) (tasksAt [0] 0) w (b - 1) (List.replicate n pz) = decide (w < n) := by
  unfold overB aheadOf
  rw [times_rep, late81 (Int.le_refl 0)]
  have e1 : ((List.range n).map fun i : Nat => (0 : Int) + i + 1).length = n := by simp
  have e2 : gi 0 ((List.range n).map fun i : Nat => (0 : Int) + i + 1) ((n : Int) - 2) = n - 1 := by
    have h : ((n : Int) - 2).toNat = n - 2 := by omega
    unfold gi
    rw [h, List.getD_eq_getElem?_getD, List.getElem?_map, List.getElem?_range (by omega)]
    simp
    omega
  have e3 : gi 0 (List.replicate n b) ((n : Int) - 1) = b := by
    have h : ((n : Int) - 1).toNat = n - 1 := by omega
    unfold gi
    rw [h, List.getD_eq_getElem?_getD, List.getElem?_replicate, if_pos (by omega)]
    rfl
  rw [e1, if_pos (by omega), e2, List.length_replicate, e3]
  refine decide_eq_decide.mpr ?_
  omega
theorem A7 {n : Nat} (hn : 1 ≤ n) : atI (lateOf (b - 1) 0 (timesOf (L81 b d sl) (tasksAt [0] 0) (L81 b d sl).start (List.replicate n pz))) (-1) = some (n : Int) := by
  rw [times_rep, late81 (Int.le_refl 0), atI_neg 0 (by omega) (by simp; omega)]
  unfold gi
  simp only [List.length_map, List.length_range]
  have h : ((n : Int) + -1).toNat = n - 1 := by omega
  rw [h, List.getD_eq_getElem?_getD, List.getElem?_map, List.getElem?_range (by omega)]
  simp
  omega
theorem cut_lo {a R : Nat} : cutL ((body81 a R).map vPc) none (some (a : Int)) = (List.replicate a pz).map vPc := by
  unfold cutL sIx
  simp only [show ¬ ((a : Int) < 0) by omega, if_false, Int.toNat_natCast, List.length_map, List.drop_zero, Nat.sub_zero]
  rw [show Nat.min a (body81 a R).length = a from Nat.min_eq_left (by rw [len_body]; omega), ← List.map_take]
  unfold body81
  rw [List.take_left' (by simp)]
theorem cut_hi {a R : Nat} : cutL ((body81 a R).map vPc) (some ((a : Int) + 1)) none = (List.replicate R pz).map vPc := by
  rw [show ((a : Int) + 1) = ((a + 1 : Nat) : Int) by push_cast; rfl, cutL_drop (by rw [List.length_map, len_body]; omega), ← List.map_drop]
  unfold body81
  congr 1
  rw [show (a + 1) = (List.replicate a pz).length + 1 by simp, List.drop_append]
  simp
end
end VM

namespace VM
theorem law_loop {X : XPost} {D : Ends} {ok0 o1 o2 o5 o11 o12 o13 : Option Val} {n a R : Nat} {b d : Int} {sl : Option Int} (ok : (L81 b d sl).Ok) (hb : 5 ≤ b ∧ b < 25) (hd : 0 ≤ d) (hR : a + 1 + R ≤ 200) : ∀ {hs : List Nat} {st : Store} {o10 : Option Val}, (∀ h ∈ hs, h ≤ 100) → Sp n st → (∀ st' o10, Sp n st' → D.nx [ok0, o1, o2, some (.int b), some (slipV sl), o5, some (lineV (L81 b d sl)), o11, some (.int a), some (vRow (body81 a R)), o10, o12, o13, none, none] st') →
    wpLoop (Fn TB 39) X (.name 10) l_law_1 D (hs.map fun h => vRow (List.replicate h pz)) [ok0, o1, o2, some (.int b), some (slipV sl), o5, some (lineV (L81 b d sl)), o11, some (.int a), some (vRow (body81 a R)), o10, o12, o13, none, none] st
  | [], st, o10, _, hs, h => h st o10 hs
  | h :: hs, st, o10, hh, hsp, hk => by
    have hz := hh h List.mem_cons_self
    have ih := fun st' hs' => law_loop (X := X) (D := D) (ok0 := ok0) (o1 := o1) (o2 := o2) (o5 := o5) (o11 := o11) (o12 := o12) (o13 := o13) (n := n) (a := a) (R := R) (b := b) (d := d) (sl := sl) ok hb hd hR (hs := hs) (st := st') (o10 := some (vRow (List.replicate h pz))) (fun x hx => hh x (List.mem_cons_of_mem _ hx)) hs' hk
    rw [List.map_cons, x_law_1]
    have c1 : ¬ sIx (body81 a R).length (body81 a R).length (some (a : Int)) = (body81 a R).length := by
      unfold sIx
      simp only [show ¬ ((a : Int) < 0) by omega, if_false, Int.toNat_natCast]
      rw [show Nat.min a (body81 a R).length = a from Nat.min_eq_left (by rw [len_body]; omega), len_body]
      omega
    have c2 : ¬ sIx (body81 a R).length 0 (some ((a : Int) + 1)) = 0 := by
      unfold sIx
      simp only [show ¬ ((a : Int) + 1 < 0) by omega, if_false]
      rw [show ((a : Int) + 1).toNat = a + 1 by omega, show Nat.min (a + 1) (body81 a R).length = a + 1 from Nat.min_eq_left (by rw [len_body]; omega)]
      omega
    have c3 : a + R ≤ big := by simp [big]; omega
    simp [wpSlice, cut_lo, cut_hi, -List.map_replicate]
    refine loop_gains_ok (plan := [0]) (head := List.replicate h pz) (body := body81 a R) ok rfl plan81 (by omega) (by omega) (goodS (good_app good_rep good_body)) (by rw [List.length_append, len_body]; simp [big]; omega) fun st1 g1 => ?_
    rw [A1 hd, so_bool]
    simp [-List.map_replicate, c1, c2, c3]
    rw [← List.map_append, List.replicate_append_replicate]
    refine loop_gains_ok (plan := [0]) (head := List.replicate h pz) (body := List.replicate (a + R) pz) ok rfl plan81 (by omega) (by omega) (goodS (good_app good_rep good_rep)) (by rw [List.length_append]; simp [big]; omega) fun st2 g2 => ?_
    rw [A2, so_bool]
    simp [-List.map_replicate]
    simpa [-List.map_replicate] using ih st2 ((hsp.grow g1).grow g2)
end VM

namespace VM
theorem law81 {X : XPost} (ns : List Int) (hl : ns.length ≤ 63) : Fn TB 40 47 [.scr ns] ⟨0, fun _ => none⟩ (fun v _ => v = .bool true) X := by
  rw [f_law]
  refine ⟨rfl, ?_⟩
  simp only [b_law, start, List.map_cons, List.map_nil, List.length_cons, List.length_nil, List.replicate, List.cons_append, List.nil_append, Nat.reduceAdd, Nat.reduceSub]
  refine wpSL_seq fun K hK => ?_
  simp
  refine numbers_ok hl fun r st1 hr hbig g1 => hK _ _ ?_
  clear hK K
  refine wpSL_seq fun K hK => ?_
  simp
  refine hK _ _ ?_
  clear hK K
  have hs := Sp.new (st := st1)
  generalize st1.new (.lst [.int 0] false) = s2 at hs
  generalize st1.next = n at hs
  clear g1
  refine wpSL_seq fun K hK => ?_
  simp
  refine take_ok hr hs (by decide) fun v1 s3 a1 a2 hs => ?_
  simp
  refine hK _ _ ?_
  clear hK K
  obtain ⟨b, hb⟩ : ∃ b, b = 5 + v1 := ⟨_, rfl⟩
  rw [← hb]
  refine wpSL_seq fun K hK => ?_
  simp
  refine take_ok hr hs (by decide) fun v2 s4 b1 b2 hs => ?_
  obtain ⟨sl, hsl, e1⟩ := slips_pick b1 b2
  simp [e1]
  refine hK _ _ ?_
  clear hK K
  refine wpSL_seq fun K hK => ?_
  simp
  refine take_ok hr hs (by decide) fun d s5 d1 d2 hs => ?_
  simp
  rw [← L81_parts]
  have ok := ok81 (b := b) (d := d) (sl := sl) (by omega) ⟨d1, d2⟩ hsl
  refine hK _ _ ?_
  clear hK K
  refine wpSL_seq fun K hK => ?_
  simp
  refine made_ok ok nd81 rfl fun s6 g => hK _ _ ?_
  clear hK K
  have hs := hs.grow g
  clear g
  refine wpSL_seq fun K hK => ?_
  simp
  refine take_ok hr hs (by decide) fun v3 s7 c1 c2 hs => ?_
  simp
  refine hK _ _ ?_
  clear hK K
  refine wpSL_seq fun K hK => ?_
  simp only [wpS_set, wpE_sub, wpE_lst, wpEL_cons, wpEL_nil, wpE_bin, wpE_var, wpE_con, wpE_call]
  simp only [getv_z, getv_s, wpBin_eq, binI_eq]
  simp
  refine take_ok hr hs (by omega) fun v4 s8 e1 e2 hs => ?_
  refine take_ok hr hs (by decide) fun v5 s9 f1 f2 hs => ?_
  obtain ⟨at_, g1, g2, g3⟩ := at_pick (a := 1 + v3 - 1) (b := 0) (c := v4) (m := 1 + v3) f1 f2 (by omega) (by omega) ⟨e1, e2⟩
  simp only [g3]
  refine hK _ _ ?_
  clear hK K
  obtain ⟨m, hm⟩ : ∃ m, m = 1 + v3 := ⟨_, rfl⟩
  rw [← hm]
  obtain ⟨a, R, ha, hR⟩ : ∃ a R : Nat, at_ = a ∧ m.toNat = a + 1 + R := ⟨at_.toNat, (v3 - at_).toNat, by omega, by omega⟩
  subst ha
  have hmm : m = a + 1 + R := by omega
  have hR2 : a + 1 + R ≤ 200 := by omega
  refine wpSL_seq fun K hK => ?_
  simp [-List.map_replicate]
  refine ⟨by omega, by simp [big]; omega, ?_⟩
  rw [intsFrom_eq, hR, wpComp_map (fun i : Nat => if (i : Int) = (a : Int) then vPc po else vPc pz)]
  rotate_left
  · intro i _ k
    by_cases hi : (i : Int) = (a : Int) <;> simp [wpStep, hi, po, pz]
  rw [body_eq]
  refine hK _ _ ?_
  clear hK K
  refine wpSL_seq fun K hK => ?_
  simp [-List.map_replicate]
  refine take_ok hr hs (by decide) fun v6 s10 i1 i2 hs => ?_
  refine ⟨by omega, by omega, by simp [big]; omega, ?_⟩
  have e2 : [Val.tup [], Val.tup (List.replicate (1 + v6).toNat (Val.tup [Val.int 0, Val.tup []]))] = [0, (1 + v6).toNat].map fun h => vRow (List.replicate h pz) := by simp [pz]
  rw [e2]
  refine law_loop ok ⟨by omega, by omega⟩ d1 hR2 (fun h hh => ?_) hs fun s11 o10 hs => hK _ _ ?_
  · rcases List.mem_cons.mp hh with e | hh
    · omega
    · rcases List.mem_cons.mp hh with e | hh
      · omega
      · cases hh
  clear hK K e2
  refine wpSL_seq fun K hK => ?_
  simp [-List.map_replicate]
  refine hK _ _ ?_
  clear hK K
  have rz : ∀ x : Nat, List.replicate x (Val.tup [Val.int 0, Val.tup []]) = (List.replicate x pz).map vPc := fun x => by simp [pz]
  have hb1 : 5 ≤ b ∧ b < 25 := ⟨by omega, by omega⟩
  refine wpSL_seq fun K hK => ?_
  simp [-List.map_replicate]
  refine ⟨by omega, by omega, by simp [big]; omega, ?_⟩
  rw [rz]
  refine loop_gains_ok (plan := [0]) (head := List.replicate 0 pz) (body := List.replicate m.toNat pz) ok rfl plan81 (by omega) (by omega) (goodS (good_app good_rep good_rep)) (by rw [List.length_append]; simp [big]; omega) fun s12 g => ?_
  rw [A3 (by omega) hsl, so_bool]
  simp [-List.map_replicate]
  refine hK _ _ ?_
  clear hK K
  have hs := hs.grow g
  clear g
  refine wpSL_seq fun K hK => ?_
  have key : ∀ s, Sp n s → K [some (Val.scr ns), some (Val.lst (List.map Val.int r)), some (Val.cell n), some (Val.int b), some (slipV sl), some (partsV (L81 b d sl)), some (lineV (L81 b d sl)), some (Val.int m), some (Val.int a), some (Val.tup (List.map vPc (body81 a R))), o10, some (Val.int (b - 1)), none, none, none] s := by
    intro s hs
    refine hK _ _ ?_
    clear hK K
    refine wpSL_seq fun K hK => ?_
    simp [-List.map_replicate]
    refine take_ok hr hs (by decide) fun v7 s13 j1 j2 hs => ?_
    simp [-List.map_replicate]
    refine hK _ _ ?_
    clear hK K
    obtain ⟨w, hw⟩ : ∃ w : Nat, (1000 : Int) + v7 = w := ⟨(1000 + v7).toNat, by omega⟩
    rw [hw]
    have w1 : 1000 ≤ w := by omega
    have w2 : w < 6500 := by omega
    refine wpSL_seq fun K hK => ?_
    simp [-List.map_replicate]
    refine ⟨by omega, by omega, by simp [big]; omega, ?_⟩
    rw [rz]
    refine hK _ _ ?_
    clear hK K
    refine wpSL_seq fun K hK => ?_
    simp [-List.map_replicate]
    refine is_row_ok (row := List.replicate w pz) ok (goodS good_rep) ?_
    rw [A5 (by omega) hsl, so_bool]
    simp [-List.map_replicate]
    refine row_overflows_ok (plan := [0]) (row := List.replicate w pz) ok rfl plan81 (by omega) (by omega) (by omega) (goodS good_rep) (by simp [big]; omega) fun s14 g => ?_
    rw [A5 (by omega) hsl, A6 (by omega), decide_eq_true (by omega : (w : Int) - 1 < w), so_bool]
    simp [-List.map_replicate]
    refine hK _ _ ?_
    clear hK K
    simp [-List.map_replicate]
    refine row_overflows_ok (plan := [0]) (row := List.replicate w pz) ok rfl plan81 (by omega) (by omega) (by omega) (goodS good_rep) (by simp [big]; omega) fun s15 g2 => ?_
    rw [A5 (by omega) hsl, A6 (by omega), decide_eq_false (by omega : ¬ (w : Int) < w), so_bool]
    simp [-List.map_replicate]
    refine lateness_ok (plan := [0]) (row := List.replicate w pz) ok rfl plan81 (by omega) (by omega) (goodS good_rep) (by simp [big]; omega) (A5 (by omega) hsl) fun s16 g3 => ?_
    simp [atI_map, A7 (b := b) (d := d) (sl := sl) (n := w) (by omega)]
  cases hsl2 : sl with
  | none =>
    rw [hsl2] at key
    simp [-List.map_replicate]
    simpa [-List.map_replicate] using key _ hs
  | some j =>
    rw [hsl2] at key ok
    simp [-List.map_replicate]
    refine loop_gains_ok (plan := [0]) (head := List.replicate 0 pz) (body := body81 a R) ok rfl plan81 (by omega) (by omega) (goodS (good_app good_rep good_body)) (by rw [List.length_append, len_body]; simp [big]; omega) fun s12 g => ?_
    rw [A4, so_bool]
    simp [-List.map_replicate]
    simpa [-List.map_replicate] using key _ (hs.grow g)
end VM

namespace VM
open PySem PySem.Spec PyProof.Rows L2
abbrev P0 : Program := PySem.Challenge.pw_anyrowline_k81_slips_in_long_loops
def pk : Pk where
 fs := [
  ⟨0, .glob, "is_integer", sDef "is_integer" P0.main.body, "is_integer", ["value"], ["value"], b_is_integer, []⟩,
  ⟨1, .glob, "is_integer_in", sDef "is_integer_in" P0.main.body, "is_integer_in", ["value", "least", "most"], ["value", "least", "most"], b_is_integer_in, []⟩,
  ⟨2, .glob, "is_sequence", sDef "is_sequence" P0.main.body, "is_sequence", ["value"], ["value"], b_is_sequence, []⟩,
  ⟨3, .glob, "is_sequence_of", sDef "is_sequence_of" P0.main.body, "is_sequence_of", ["value", "size"], ["value", "size"], b_is_sequence_of, []⟩,
  ⟨4, .glob, "frozen", sDef "frozen" P0.main.body, "frozen", ["value"], ["value", "element"], b_frozen, []⟩,
  ⟨5, .glob, "ascending", sDef "ascending" P0.main.body, "ascending", ["row"], ["row", "at"], b_ascending, []⟩,
  ⟨6, .glob, "are_below", sDef "are_below" P0.main.body, "are_below", ["value", "many"], ["value", "many", "element"], b_are_below, []⟩,
  ⟨7, .glob, "fits_order", sDef "fits_order" P0.main.body, "fits_order", ["line", "plan"], ["line", "plan", "before", "after"], b_fits_order, []⟩,
  ⟨8, .glob, "is_plan_for", sDef "is_plan_for" P0.main.body, "is_plan_for", ["line", "stations", "value"], ["line", "stations", "value"], b_is_plan_for, []⟩,
  ⟨9, .glob, "check_plan", sDef "check_plan" P0.main.body, "check_plan", ["line", "plan", "at"], ["line", "plan", "at"], b_check_plan, []⟩,
  ⟨10, .glob, "check_station", sDef "check_station" P0.main.body, "check_station", ["station", "at"], ["station", "at"], b_check_station, []⟩,
  ⟨11, .glob, "check_beat", sDef "check_beat" P0.main.body, "check_beat", ["beat", "at"], ["beat", "at"], b_check_beat, []⟩,
  ⟨12, .glob, "tasks_at", sDef "tasks_at" P0.main.body, "tasks_at", ["plan", "station"], ["plan", "station", "task", "place"], b_tasks_at, []⟩,
  ⟨13, .glob, "is_piece", sDef "is_piece" P0.main.body, "is_piece", ["line", "state", "value"], ["line", "state", "value", "model", "task"], b_is_piece, []⟩,
  ⟨14, .glob, "is_allowed", sDef "is_allowed" P0.main.body, "is_allowed", ["line", "value"], ["line", "value", "state", "used", "piece"], b_is_allowed, []⟩,
  ⟨15, .glob, "state_behind", sDef "state_behind" P0.main.body, "state_behind", ["line", "row"], ["line", "row", "state", "arc", "_"], b_state_behind, []⟩,
  ⟨16, .glob, "times_of", sDef "times_of" P0.main.body, "times_of", ["line", "tasks", "row"], ["line", "tasks", "row", "found", "state", "arc", "slipped", "needed", "model", "task"], b_times_of, []⟩,
  ⟨17, .glob, "latenesses", sDef "latenesses" P0.main.body, "latenesses", ["line", "tasks", "beat", "row"], ["line", "tasks", "beat", "row", "found", "late", "time"], b_latenesses, []⟩,
  ⟨18, .glob, "overflows", sDef "overflows" P0.main.body, "overflows", ["line", "tasks", "window", "beat", "row"], ["line", "tasks", "window", "beat", "row", "times", "late", "ahead"], b_overflows, []⟩,
  ⟨19, .glob, "is_loop", sDef "is_loop" P0.main.body, "is_loop", ["line", "value"], ["line", "value", "head", "body", "part", "arc", "slipped"], b_is_loop, []⟩,
  ⟨20, .glob, "gains", sDef "gains" P0.main.body, "gains", ["line", "tasks", "beat", "loop"], ["line", "tasks", "beat", "loop", "times", "head", "body"], b_gains, []⟩,
  ⟨21, .glob, "checked_station", sDef "checked_station" P0.main.body, "checked_station", ["line", "plan", "station", "window", "beat"], ["line", "plan", "station", "window", "beat", "kept"], b_checked_station, []⟩,
  ⟨22, .glob, "row_overflows", sDef "row_overflows" P0.main.body, "row_overflows", ["line", "plan", "station", "window", "beat", "row"], ["line", "plan", "station", "window", "beat", "row", "tasks"], b_row_overflows, []⟩,
  ⟨23, .glob, "loop_gains", sDef "loop_gains" P0.main.body, "loop_gains", ["line", "plan", "station", "beat", "value"], ["line", "plan", "station", "beat", "value", "kept"], b_loop_gains, []⟩,
  ⟨24, .glob, "is_task", sDef "is_task" P0.main.body, "is_task", ["value"], ["value"], b_is_task, []⟩,
  ⟨25, .glob, "is_model", sDef "is_model" P0.main.body, "is_model", ["value", "many"], ["value", "many"], b_is_model, []⟩,
  ⟨26, .glob, "is_state", sDef "is_state" P0.main.body, "is_state", ["value", "models", "states"], ["value", "models", "states", "known", "arc"], b_is_state, []⟩,
  ⟨27, .glob, "is_slips", sDef "is_slips" P0.main.body, "is_slips", ["value"], ["value"], b_is_slips, []⟩,
  ⟨28, .glob, "leads_to", sDef "leads_to" P0.main.body, "leads_to", ["pairs", "task", "goal"], ["pairs", "task", "goal", "passed", "waiting", "now", "before", "after"], b_leads_to, []⟩,
  ⟨29, .glob, "tasks_with_tuples", sDef "tasks_with_tuples" P0.main.body, "tasks_with_tuples", ["value"], ["value", "at", "task"], b_tasks_with_tuples, []⟩,
  ⟨30, .glob, "order_with_tuples", sDef "order_with_tuples" P0.main.body, "order_with_tuples", ["value", "many"], ["value", "many", "pairs", "at", "pair", "fixed"], b_order_with_tuples, []⟩,
  ⟨31, .glob, "is_filled", sDef "is_filled" P0.main.body, "is_filled", ["value"], ["value"], b_is_filled, []⟩,
  ⟨32, .meth 0, "__init__", sCls "Line" "__init__" P0.main.body, "Line.__init__", ["self", "tasks", "order", "models", "states", "start", "slips"], ["self", "tasks", "order", "models", "states", "start", "slips", "fixed_tasks", "fixed_order", "at", "model", "state"], b_Line_init, [("slips", .int 0)]⟩,
  ⟨33, .prop 0, "tasks", sCls "Line" "tasks" P0.main.body, "Line.tasks", ["self"], ["self"], b_Line_tasks, []⟩,
  ⟨34, .prop 0, "order", sCls "Line" "order" P0.main.body, "Line.order", ["self"], ["self"], b_Line_order, []⟩,
  ⟨35, .prop 0, "models", sCls "Line" "models" P0.main.body, "Line.models", ["self"], ["self"], b_Line_models, []⟩,
  ⟨36, .prop 0, "states", sCls "Line" "states" P0.main.body, "Line.states", ["self"], ["self"], b_Line_states, []⟩,
  ⟨37, .prop 0, "start", sCls "Line" "start" P0.main.body, "Line.start", ["self"], ["self"], b_Line_start, []⟩,
  ⟨38, .prop 0, "slips", sCls "Line" "slips" P0.main.body, "Line.slips", ["self"], ["self"], b_Line_slips, []⟩,
  ⟨39, .glob, "is_row", sDef "is_row" P0.main.body, "is_row", ["line", "value"], ["line", "value"], b_is_row, []⟩,
  ⟨40, .glob, "lateness", sDef "lateness" P0.main.body, "lateness", ["line", "plan", "station", "beat", "row"], ["line", "plan", "station", "beat", "row", "kept"], b_lateness, []⟩,
  ⟨41, .glob, "_law_so", sDef "_law_so" P0.main.body, "_law_so", ["found", "meant"], ["found", "meant", "k"], b__law_so, []⟩,
  ⟨42, .glob, "_law_numbers", sDef "_law_numbers" P0.main.body, "_law_numbers", ["script"], ["script", "row", "cell", "left", "k", "mixed"], b__law_numbers, []⟩,
  ⟨43, .glob, "_law_draw", sDef "_law_draw" P0.main.body, "_law_draw", ["row", "at", "limit"], ["row", "at", "limit", "mixed"], b__law_draw, []⟩,
  ⟨44, .glob, "_law_take", sDef "_law_take" P0.main.body, "_law_take", ["row", "spot", "limit"], ["row", "spot", "limit"], b__law_take, []⟩,
  ⟨45, .glob, "_law_loose", sDef "_law_loose" P0.main.body, "_law_loose", ["value", "turn"], ["value", "turn", "made", "one"], b__law_loose, []⟩,
  ⟨46, .glob, "_law_made", sDef "_law_made" P0.main.body, "_law_made", ["line", "turn"], ["line", "turn", "jobs"], b__law_made, []⟩,
  ⟨47, .glob, "law", sDef "law" P0.main.body, "law", ["script"], ["script", "row", "spot", "beat", "slips", "line", "made", "many", "at", "body", "head", "quick", "long", "value", "k"], b_law, []⟩]
 cs := [⟨0, "Line", [0]⟩]
 flds := ["_parts"]
 gs := [⟨0, "MOST_STATIONS", 24⟩, ⟨1, "MOST_BEAT", 300000⟩, ⟨5, "MOST_TASKS", 24⟩, ⟨6, "MOST_PAIRS", 200⟩, ⟨7, "MOST_MODELS", 8⟩, ⟨8, "MOST_STATES", 60⟩, ⟨3, "MOST_ARCS", 40⟩, ⟨2, "MOST_TIME", 10000⟩, ⟨4, "MOST_SLIPS", 8⟩]

end VM

namespace VM
open PySem PySem.Spec PyProof.Rows L2
theorem txt : pk.txt = true := by kernel_rfl
end VM

namespace VM
open PySem PySem.Spec PyProof.Rows L2
def namesOf : List Stmt → List Str
  | [] => []
  | .FunctionDef n _ _ _ _ _ _ _ _ _ :: r => n :: namesOf r
  | .ClassDef n _ _ _ _ _ _ _ _ _ _ :: r => n :: namesOf r
  | .Assign [.Name n _] _ _ :: r => if n = "__name__" then namesOf r else n :: namesOf r
  | _ :: r => namesOf r
def loose : List Str := (namesOf P0.main.body).filter (fun n => !decide (n = "law"))
abbrev R : PySem.W.OpenRow := PySem.W.OpenLaw.row PySem.Challenge.rw_anyrowline_k81_slips_in_long_loops
abbrev hk : PySem.W.Hook := pk.hook 6
def ob (s : PySem.W.SharedT) : AlP := pk.obsG 6 (HandSHeadRun.getT s)
theorem ob_eq (s : PySem.W.SharedT) : ob s = hk.obs s.abs := Pk.obsG_eq (HandSHeadRun.getT_eq s)
abbrev lawIx : Nat := (P0.main.body.length - 1)
theorem run (w : World) : HandSHeadRun.RunEq R (PySem.W.view R.prog [lawIx]) hk ob 4000 loose w := by
  intro os
  kernel_rfl
end VM

namespace VM
open PySem PySem.Spec PyProof.Rows L2
def lawId : Nat := 47
theorem T_eq : pk.T = TB := by
  funext f
  show (pk.fs.find? fun x => x.id == f).map (·.fd) = (tbl.find? fun x => x.1 == f).map (·.2)
  rw [show tbl = pk.fs.map (fun x => (x.id, x.fd)) from rfl, List.find?_map, Option.map_map]
  rfl
theorem plain_law (ns : List Int) (h : ns.length ≤ 63) : Fn pk.T 40 lawId [.scr ns] st0 (fun v _ => v = .bool true) noX := by
  rw [T_eq]
  exact law81 ns h
end VM
open PySem PySem.W PySem.Calls PyProof.Rows
theorem PySem.Challenge.cw_anyrowline_k81_slips_in_long_loops_holds : PySem.Challenge.rw_anyrowline_k81_slips_in_long_loops.Holds := by
  w_on; o_law
  refine HandSHeadRun.head_any (r := OpenLaw.row PySem.Challenge.rw_anyrowline_k81_slips_in_long_loops) (q := view (OpenLaw.row PySem.Challenge.rw_anyrowline_k81_slips_in_long_loops).prog [VM.lawIx]) (H := VM.hk) (ob := VM.ob) (M := 4000) (loose := VM.loose) (d := HandSHeadRun.topDef (OpenLaw.row PySem.Challenge.rw_anyrowline_k81_slips_in_long_loops).prog VM.lawIx) (kwd := []) VM.ob_eq
    (by kernel_rfl) (fun s => by kernel_rfl) VM.run (by kernel_rfl) (by kernel_rfl) (by kernel_rfl) (by rfl) (by first | assumption | decide +kernel) (by decide +kernel) ⟨rfl, rfl, rfl, rfl, rfl, by decide +kernel⟩ ?hw ?hc
  case hw => w_witness2
  case hc =>
    refine L2.walk_ofE (l := PySem.Challenge.rw_anyrowline_k81_slips_in_long_loops) (n := 63) (k := 2 * 40) (x := "script") (CX := L2.CX0) rfl (by decide) (by kernel_rfl) ⟨rfl, by decide, by decide⟩ ?F (fun _ _ _ _ z => z)
    intro w mg fa h Y G hmg0
    have hx : VM.pk.find VM.lawId = some (VM.pk.fs.getD 47 ⟨0, .glob, "?", .Pass ⟨0, 0, 0, 0⟩, "?", [], [], ⟨0, 0, .nil⟩, []⟩) := by kernel_rfl
    refine VM.law_F (l := PySem.Challenge.rw_anyrowline_k81_slips_in_long_loops) VM.txt hx (by kernel_rfl) (by kernel_rfl) VM.plain_law Y G ?_
    have e : (HandSHeadRun.topDef (OpenLaw.row PySem.Challenge.rw_anyrowline_k81_slips_in_long_loops).prog VM.lawIx).name = (VM.pk.fs.getD 47 ⟨0, .glob, "?", .Pass ⟨0, 0, 0, 0⟩, "?", [], [], ⟨0, 0, .nil⟩, []⟩).name := by kernel_rfl
    rw [← e]
    exact hmg0
