import PyProof.Rows.All
import Wide.All
import OpenK.AllK
import Wide.FinOn
import Lean
import PySem.Challenge.RW_sj0062_01
set_option Elab.async false
set_option maxRecDepth 100000
set_option linter.all false
set_option genSizeOf false
set_option genInjectivity false
set_option bootstrap.genMatcherCode false
open PySem PySem.W PyProof.Rows
section
namespace Mine
theorem nope {α : Type} {r : α} {C : Prop} (h : none = some r) : C:=nomatch h
theorem nof {C : Prop} (h : false = true) : C:=nomatch h
set_option genInjectivity true in
inductive D where
  | none
  | bool (b : Bool)
  | int (i : Int)
  | str (s : List Nat)
  | tup (xs : List D)
  | lst (xs : List D)
  | dict (ks : List (List Nat)) (xs : List D)
  | inst (c : Nat) (ns : List Nat) (xs : List D)
  | clo (k : Nat) (xs : List D)
  | junk
inductive V where
  | d (x : D)
  | c (n : Nat)
inductive Ct where
  | lst (xs : List V)
  | inst (c : Nat) (ns : List Nat) (xs : List V)
  | tab
  | bag
noncomputable abbrev Hp:=List (Option Ct)
structure St where
  loc : List (Nat × Option V)
  cel : List (Nat × Option V)
  gl : List Nat
  hp : Hp
  own : Bool:=true
inductive Fl where
  | nxt
  | ret (v : V)
noncomputable def look {α : Type} : List (Nat × Option α) → Nat → Option α
  | [],_=>none
  | (m,v) :: r,n=>match Nat.beq m n with
    | true=>v
    | false=>look r n
noncomputable def has {α : Type} : List (Nat × α) → Nat → Bool
  | [],_=>false
  | (m,_) :: r,n=>match Nat.beq m n with
    | true=>true
    | false=>has r n
noncomputable def put {α : Type} : List (Nat × Option α) → Nat → α → List (Nat × Option α)
  | [],_,_=>[]
  | (m,v) :: r,n,x=>match Nat.beq m n with
    | true=>(m,some x) :: r
    | false=>(m,v) :: put r n x
noncomputable def mem : List Nat → Nat → Bool
  | [],_=>false
  | m :: r,n=>match Nat.beq m n with
    | true=>true
    | false=>mem r n
noncomputable def fget {α : Type} : List Nat → List α → Nat → Option α
  | m :: r,x :: xs,n=>match Nat.beq m n with
    | true=>some x
    | false=>fget r xs n
  | _,_,_=>none
noncomputable def fput {α : Type} : List Nat → List α → Nat → α → List Nat × List α
  | m :: r,x :: xs,n,y=>match Nat.beq m n with
    | true=>(m :: r,y :: xs)
    | false=>match fput r xs n y with
      | (r',xs')=>(m :: r',x :: xs')
  | _,_,n,y=>([n],[y])
noncomputable def hget : Hp → Nat → Option Ct
  | [],_=>none
  | x :: _,0=>x
  | _ :: r,n + 1=>hget r n
noncomputable def hset : Hp → Nat → Option Ct → Hp
  | [],_,_=>[]
  | _ :: r,0,y=>y :: r
  | x :: r,n + 1,y=>x :: hset r n y
noncomputable def allD : List V → Option (List D)
  | []=>some []
  | .d x :: r=>match allD r with
    | some xs=>some (x :: xs)
    | none=>none
  | .c _ :: _=>none
noncomputable def frz : Nat → Hp → V → Option (D × Hp)
  | _,hp,.d x=>some (x,hp)
  | 0,_,.c _=>none
  | n + 1,hp,.c a=>match hget hp a with
    | some (.lst vs)=>match go (frz n) (hset hp a none) vs with
      | some (ds,hp')=>some (.lst ds,hp')
      | none=>none
    | some (.inst c ns vs)=>match go (frz n) (hset hp a none) vs with
      | some (ds,hp')=>some (.inst c ns ds,hp')
      | none=>none
    | _=>none
where
  go (f : Hp → V → Option (D × Hp)) (hp : Hp) : List V → Option (List D × Hp)
    | []=>some ([],hp)
    | v :: r=>match f hp v with
      | some (d,hp')=>match go f hp' r with
        | some (ds,hp'')=>some (d :: ds,hp'')
        | none=>none
      | none=>none
mutual
noncomputable def D.beq : D → D → Bool
  | .none,y=>match y with
    | .none=>true
    | _=>false
  | .bool a,y=>match y with
    | .bool b=>a == b
    | _=>false
  | .int a,y=>match y with
    | .int b=>a == b
    | _=>false
  | .str a,y=>match y with
    | .str b=>a == b
    | _=>false
  | .tup a,y=>match y with
    | .tup b=>D.beqL a b
    | _=>false
  | .lst a,y=>match y with
    | .lst b=>D.beqL a b
    | _=>false
  | .dict k a,y=>match y with
    | .dict l b=>k == l && D.beqL a b
    | _=>false
  | .inst c n a,y=>match y with
    | .inst d m b=>Nat.beq c d && n == m && D.beqL a b
    | _=>false
  | .clo k a,y=>match y with
    | .clo l b=>Nat.beq k l && D.beqL a b
    | _=>false
  | .junk,y=>match y with
    | .junk=>true
    | _=>false
noncomputable def D.beqL : List D → List D → Bool
  | [],ys=>match ys with
    | []=>true
    | _=>false
  | x :: xs,ys=>match ys with
    | y :: ys=>D.beq x y && D.beqL xs ys
    | _=>false
end
noncomputable def D.isPl : Nat → D → Bool
  | _,.none=>true
  | _,.int _=>true
  | _,.str s=>s.all (· < 0x110000)
  | n + 1,.tup xs=>xs.all (D.isPl n)
  | n + 1,.lst xs=>xs.all (D.isPl n)
  | _,_=>false
noncomputable def bif' {R : Type} (b : Bool) (x y : R) : R:=match b with
  | true=>x
  | false=>y
noncomputable def binI (op : Operator) (a b : Int) : Option D:=match op with
  | .Add=>some (.int (a + b))
  | .Sub=>some (.int (a - b))
  | .Mult=>bif' (decide (a.natAbs < 2 ^ 60) || decide (b.natAbs < 2 ^ 60)) (some (.int (a * b))) none
  | .FloorDiv=>bif' (decide (b ≠ 0) && decide (b.natAbs < 1073741824)) (some (.int (a.fdiv b))) none
  | .Mod=>bif' (decide (b ≠ 0)) (some (.int (a.fmod b))) none
  | .LShift=>bif' (decide (0 ≤ b) && decide (b ≤ 1000) && decide (a.natAbs < 2 ^ 64)) (some (.int (a * 2 ^ b.toNat))) none
  | .RShift=>bif' (decide (0 ≤ b)) (some (.int (a.fdiv (2 ^ b.toNat)))) none
  | .BitAnd=>some (.int (Builtin.bitAnd a b))
  | .BitOr=>some (.int (Builtin.bitOr a b))
  | .BitXor=>some (.int (Builtin.bitXor a b))
  | _=>none
noncomputable def addLD (op : Operator) (a b : List D) : Option D:=match op with
  | .Add=>bif' (decide (a.length + b.length ≤ 1000)) (some (.lst (a ++ b))) none
  | _=>none
noncomputable def binD (op : Operator) (a b : D) : Option D:=match a with
  | .int a=>match b with
    | .int b=>binI op a b
    | _=>none
  | .lst a=>match b with
    | .lst b=>addLD op a b
    | _=>none
  | _=>none
noncomputable def isNone : D → Option Bool
  | .none=>some true
  | .junk=>none
  | .clo _ _=>none
  | _=>some false
noncomputable def ltI (f : Int → Int → Bool) (a b : D) : Option Bool:=match a with
  | .int a=>match b with
    | .int b=>some (f a b)
    | _=>none
  | _=>none
noncomputable def memD (a : D) (xs : List D) : Option Bool:=bif' (D.isPl 8 a && xs.all (D.isPl 8)) (some (xs.any fun y=>D.beq y a)) none
noncomputable def nmemD (a : D) (xs : List D) : Option Bool:=bif' (D.isPl 8 a && xs.all (D.isPl 8)) (some (!xs.any fun y=>D.beq y a)) none
noncomputable def cmpD (op : CmpOp) (a b : D) : Option Bool:=match op with
  | .Eq=>bif' (D.isPl 8 a && D.isPl 8 b) (some (D.beq a b)) none
  | .NotEq=>bif' (D.isPl 8 a && D.isPl 8 b) (some (!D.beq a b)) none
  | .Lt=>ltI (fun a b=>decide (a < b)) a b
  | .LtE=>ltI (fun a b=>decide (a ≤ b)) a b
  | .Gt=>ltI (fun a b=>decide (b < a)) a b
  | .GtE=>ltI (fun a b=>decide (b ≤ a)) a b
  | .Is=>match b with
    | .none=>isNone a
    | _=>none
  | .IsNot=>match b with
    | .none=>(isNone a).map not
    | _=>none
  | .In=>match b with
    | .lst xs=>memD a xs
    | .tup xs=>memD a xs
    | _=>none
  | .NotIn=>match b with
    | .lst xs=>nmemD a xs
    | .tup xs=>nmemD a xs
    | _=>none
noncomputable def truD : D → Option Bool
  | .none=>some false
  | .bool b=>some b
  | .int i=>some (i != 0)
  | _=>none
noncomputable def truV : V → Option Bool
  | .d x=>truD x
  | .c _=>none
inductive BI where
  | len | int | list | tuple | min1 | max1 | min2 | max2 | sum | abs
noncomputable def intsOf : List D → Option (List Int)
  | []=>some []
  | .int i :: r=>match intsOf r with
    | some l=>some (i :: l)
    | none=>none
  | _ :: _=>none
noncomputable def minL : Int → List Int → Int
  | m,[]=>m
  | m,x :: r=>minL (if x < m then x else m) r
noncomputable def maxL : Int → List Int → Int
  | m,[]=>m
  | m,x :: r=>maxL (if m < x then x else m) r
noncomputable def un (b : BI) (x : D) : Option D:=match b with
  | .len=>match x with
    | .lst xs=>bif' (decide (xs.length < 1000)) (some (.int xs.length)) none
    | .tup xs=>bif' (decide (xs.length < 1000)) (some (.int xs.length)) none
    | _=>none
  | .int=>match x with
    | .int i=>some (.int i)
    | .bool b=>some (.int (match b with | true=>1 | false=>0))
    | _=>none
  | .list=>match x with
    | .lst xs=>bif' (decide (xs.length < 1000)) (some (.lst xs)) none
    | _=>none
  | .tuple=>match x with
    | .lst xs=>bif' (decide (xs.length < 1000)) (some (.tup xs)) none
    | _=>none
  | .min1=>match x with
    | .lst xs=>match intsOf xs with
      | some (i :: l)=>some (.int (minL i l))
      | _=>none
    | _=>none
  | .max1=>match x with
    | .lst xs=>match intsOf xs with
      | some (i :: l)=>some (.int (maxL i l))
      | _=>none
    | _=>none
  | .sum=>match x with
    | .lst xs=>match intsOf xs with
      | some l=>some (.int l.sum)
      | none=>none
    | _=>none
  | .abs=>match x with
    | .int a=>some (.int (if a < 0 then -a else a))
    | _=>none
  | .min2=>none
  | .max2=>none
noncomputable def minmax (b : BI) (x y : Int) : Option D:=match b with
  | .min2=>some (.int (if y < x then y else x))
  | .max2=>some (.int (if x < y then y else x))
  | _=>none
noncomputable def duo (b : BI) (x y : D) : Option D:=match x with
  | .int x=>match y with
    | .int y=>minmax b x y
    | _=>none
  | _=>none
noncomputable def lenC (b : BI) (n : Nat) (hp : Hp) : Option D:=match b with
  | .len=>match hget hp n with
    | some (.lst xs)=>bif' (decide (xs.length < 1000)) (some (.int xs.length)) none
    | _=>none
  | _=>none
noncomputable def callB (b : BI) (vs : List V) (hp : Hp) : Option D:=match vs with
  | []=>none
  | v :: r=>match r with
    | []=>match v with
      | .d x=>un b x
      | .c n=>lenC b n hp
    | u :: r=>match r with
      | []=>match v with
        | .d x=>match u with
          | .d y=>duo b x y
          | .c _=>none
        | .c _=>none
      | _ :: _=>none
noncomputable def nth {α : Type} : List α → Nat → Option α
  | [],_=>none
  | x :: _,0=>some x
  | _ :: r,n + 1=>nth r n
noncomputable def kfind : List (List Nat) → List D → List Nat → Option D
  | k :: ks,x :: xs,s=>match k == s with
    | true=>some x
    | false=>kfind ks xs s
  | _,_,_=>none
noncomputable def ixI (i : Int) : Option Nat:=bif' (decide (0 ≤ i) && decide (i < 1000)) (some i.toNat) none
noncomputable def subD (x : D) (n : Nat) : Option D:=match x with
  | .tup xs=>nth xs n
  | .lst xs=>nth xs n
  | .str s=>(nth s n).map fun c=>.str [c]
  | _=>none
noncomputable def subI (a : V) (n : Nat) (hp : Hp) : Option V:=match a with
  | .d x=>(subD x n).map .d
  | .c a=>match hget hp a with
    | some (.lst vs)=>nth vs n
    | _=>none
noncomputable def subK (a : V) (s : List Nat) : Option V:=match a with
  | .d x=>match x with
    | .dict ks xs=>(kfind ks xs s).map .d
    | _=>none
  | .c _=>none
noncomputable def subV (a : V) (i : D) (hp : Hp) : Option V:=match i with
  | .int i=>match ixI i with
    | some n=>subI a n hp
    | none=>none
  | .str s=>subK a s
  | _=>none
noncomputable def slcTo (xs : List D) (b : Nat) : Option D:=bif' (decide (xs.length ≤ 1000)) (some (.lst (xs.take b))) none
noncomputable def slcIn (xs : List D) (a b : Nat) : Option D:=bif' (decide (xs.length ≤ 1000) && decide (a ≤ b) && decide (b ≤ xs.length)) (some (.lst ((xs.drop a).take (b - a)))) none
noncomputable def slcFrom (xs : List D) (a : Nat) : Option D:=bif' (decide (xs.length ≤ 1000) && decide (1 ≤ a) && decide (a ≤ xs.length)) (some (.tup (xs.drop a))) none
noncomputable def ixD (d : D) : Option Nat:=match d with
  | .int i=>ixI i
  | _=>none
noncomputable def slcD (x : D) (lo hi : Option D) : Option D:=match x with
  | .lst xs=>match hi with
    | some h=>match ixD h with
      | some b=>match lo with
        | none=>slcTo xs b
        | some l=>match ixD l with
          | some a=>slcIn xs a b
          | none=>none
      | none=>none
    | none=>none
  | .tup xs=>match hi with
    | none=>match lo with
      | some l=>match ixD l with
        | some a=>slcFrom xs a
        | none=>none
      | none=>none
    | some _=>none
  | _=>none
noncomputable def fldL : List Nat:=[1,90,97,98,110,121,127,128,130,133,134,135,136,137,138,139,140,141,143,144,145,146,147,148,149,150,151,152,153,169]
noncomputable def attV : V → Nat → Hp → Option V
  | .d (.inst _ ns xs),n,_=>bif' (mem fldL n) ((fget ns xs n).map .d) none
  | .c a,n,hp=>match hget hp a with
    | some (.inst _ ns vs)=>bif' (mem fldL n) (fget ns vs n) none
    | _=>none
  | _,_,_=>none
noncomputable def itemsV : D → Option (List D)
  | .lst xs=>some xs
  | .tup xs=>some xs
  | _=>none
noncomputable def rngD : D → Option (List D)
  | .int n=>bif' (decide (-1000 ≤ n) && decide (n ≤ 1000)) (some ((List.range n.toNat).map fun (i : Nat)=>D.int i)) none
  | _=>none
noncomputable def rep (xs : List D) : Nat → List V
  | 0=>[]
  | n + 1=>xs.map .d ++ rep xs n
end Mine
end
section
namespace Mine
mutual
inductive X where
  | cnone (p : Pos)
  | cbool (b : Bool) (p : Pos)
  | cint (i : Int) (p : Pos)
  | cstr (s : List Nat) (p : Pos)
  | loc (n : Nat) (p : Pos)
  | cel (n : Nat) (p : Pos)
  | glo (n : Nat) (p : Pos)
  | frL (n : Nat) (p : Pos)
  | frC (n : Nat) (p : Pos)
  | frz (x : X)
  | bin (op : Operator) (a b : X) (p : Pos)
  | rep (a b : X) (p : Pos)
  | cmp (op : CmpOp) (a b : X) (p : Pos)
  | bop (op : BoolOp) (xs : XL) (p : Pos)
  | not (a : X) (p : Pos)
  | neg (a : X) (p : Pos)
  | ite (t a b : X) (p : Pos)
  | tup (xs : XL) (p : Pos)
  | lst (m : Bool) (xs : XL) (p : Pos)
  | dic (ks : List (List Nat × Pos)) (xs : XL) (p : Pos)
  | sub (a i : X) (p : Pos)
  | slc (a : X) (lo hi : XO) (q p : Pos)
  | att (a : X) (n : Nat) (p : Pos)
  | callU (f : Nat) (fp : Pos) (xs : XL) (p : Pos)
  | callB (b : BI) (f : Nat) (fp : Pos) (xs : XL) (p : Pos)
  | callM (o : X) (n : Nat) (op : Pos) (xs : XL) (p : Pos)
  | app (a v : X) (op p : Pos)
  | pop (a i : X) (op p : Pos)
  | get (a k e : X) (op p : Pos)
  | comp (m : Bool) (elt : X) (t : Nat) (tp : Pos) (r : Bool) (fp : Pos) (it : X) (ip : Pos) (ci : Nat) (p : Pos)
  | comp2 (elt : X) (t : Nat) (tp : Pos) (it : X) (u : Nat) (up : Pos) (iu : X) (ci : Nat) (p : Pos)
inductive XO where
  | no
  | yes (x : X)
inductive XL where
  | nil
  | cons (x : X) (r : XL)
end
inductive Tg where
  | loc (n : Nat) (p : Pos)
  | cel (n : Nat) (p : Pos)
  | tup (ts : List (Bool × Nat × Pos)) (p : Pos)
  | att (o : X) (n : Nat) (p : Pos)
  | sub (o i : X) (p : Pos)
mutual
inductive S where
  | asg (t : Tg) (e : X) (p : Pos)
  | aug (cell : Bool) (n : Nat) (np : Pos) (op : Operator) (e : X) (p : Pos)
  | exp (e : X) (p : Pos)
  | iff (t : X) (a b : SL) (p : Pos)
  | for (t : Tg) (r : Bool) (fp : Pos) (it : X) (ip : Pos) (b : SL) (p : Pos)
  | ret (e : X) (p : Pos)
  | raw (s : Stmt)
inductive SL where
  | nil
  | cons (s : S) (r : SL)
end
structure CI where
  kinds : List (Nat × NameKind)
  tgs : List Nat
  frs : List Nat
  gls : List Nat
end Mine
end
section
namespace Mine
noncomputable def nmL : List Str:=[.ofString "mask",.ofString "code",.ofString "from_codes",.ofString "slice_vec",.ofString "z_to_x",.ofString "truth",.ofString "bit_and",.ofString "bit_or",.ofString "bit_xor",.ofString "choose",.ofString "arithmetic",.ofString "comparison",.ofString "bitwise",.ofString "binary",.ofString "conditional",.ofString "evaluate",.ofString "drive_bit",.ofString "drive",.ofString "stronger",.ofString "join",.ofString "rest_drive",.ofString "held_code",.ofString "resolve_bits",.ofString "pair_code",.ofString "pairs_vec",.ofString "opposite",.ofString "and_codes",.ofString "or_codes",.ofString "xor_codes",.ofString "logic_gate",.ofString "is_three_state",.ofString "opening_code",.ofString "passed_code",.ofString "three_state",.ofString "gate_pair",.ofString "level_codes",.ofString "is_edge",.ofString "out_code",.ofString "plain",.ofString "levels_match",.ofString "next_level",.ofString "primitive_code",.ofString "element_pairs",.ofString "_law_bag",.ofString "_law_pull",.ofString "_law_signal",.ofString "_law_term",.ofString "_law_input",.ofString "_law_thing",.ofString "_law_element",.ofString "_law_row",.ofString "_law_either",.ofString "_law_gate",.ofString "_law_table",.ofString "_law_levels",.ofString "_law_rest",.ofString "_law_net",.ofString "law",.ofString "_law_context",.ofString "__init__",.ofString "_law_get",.ofString "Element",.ofString "Thread",.ofString "w",.ofString "v",.ofString "i",.ofString "row",.ofString "len",.ofString "a",.ofString "b",.ofString "outside",.ofString "first",.ofString "inner",.ofString "shift",.ofString "lo",.ofString "last",.ofString "min",.ofString "max",.ofString "both",.ofString "d",.ofString "c",.ofString "u",.ofString "either",.ofString "sure",.ofString "t",.ofString "same",.ofString "unknown",.ofString "f",.ofString "found",.ofString "op",.ofString "value",.ofString "signed",.ofString "condition",.ofString "e",.ofString "ctx",.ofString "known",.ofString "tag",.ofString "store",.ofString "get",.ofString "s0",.ofString "s1",.ofString "HIGH_Z",.ofString "ONE",.ofString "ZERO",.ofString "p",.ofString "q",.ofString "tie_low",.ofString "abs",.ofString "low_tie",.ofString "high_tie",.ofString "kind",.ofString "held",.ofString "CAPACITANCE",.ofString "SUPPLY",.ofString "PULL",.ofString "place",.ofString "UNKNOWN",.ofString "result",.ofString "width",.ofString "pair",.ofString "drivers",.ofString "pairs",.ofString "codes",.ofString "data",.ofString "control",.ofString "symbol",.ofString "out",.ofString "state",.ofString "ins",.ofString "skip",.ofString "rows",.ofString "now",.ofString "self",.ofString "inputs",.ofString "due",.ofString "stamp",.ofString "pending",.ofString "strength",.ofString "definition",.ofString "number",.ofString "primitive",.ofString "sequential",.ofString "element",.ofString "again",.ofString "looking",.ofString "wait",.ofString "done",.ofString "children",.ofString "parent",.ofString "scopes",.ofString "calls",.ofString "path",.ofString "frame",.ofString "pc",.ofString "bag",.ofString "script",.ofString "list",.ofString "cell",.ofString "int",.ofString "got",.ofString "many",.ofString "sign",.ofString "pick",.ofString "thing",.ofString "turn",.ofString "tuple",.ofString "which",.ofString "names",.ofString "wide",.ofString "spot",.ofString "seen",.ofString "second",.ofString "sigs",.ofString "one",.ofString "ways",.ofString "way",.ofString "bit",.ofString "sum",.ofString "signs",.ofString "meant",.ofString "strong",.ofString "weak",.ofString "up",.ofString "low",.ofString "high",.ofString "choices",.ofString "levels",.ofString "following",.ofString "level",.ofString "key",.ofString "driving",.ofString "drives",.ofString "fixed",.ofString "range",.ofString "all_x",.ofString "add",.ofString "sub",.ofString "mul",.ofString "div",.ofString "mod",.ofString "shift_left",.ofString "shift_right",.ofString "shift_arith",.ofString "less",.ofString "less_equal",.ofString "greater",.ofString "greater_equal",.ofString "equal",.ofString "not_equal",.ofString "case_equal",.ofString "case_not_equal",.ofString "bit_xnor",.ofString "logic_and",.ofString "logic_or",.ofString "DesignError",.ofString "unary",.ofString "extend",.ofString "picked",.ofString "memory_word",.ofString "concat",.ofString "power",.ofString "system_value",.ofString "part",.ofString "next_state",.ofString ".0"]
noncomputable def nmAt : List Str → Nat → Nat → Str
  | [],n,_=>⟨#[n + 2000000]⟩
  | s :: _,_,0=>s
  | _ :: r,n,k + 1=>nmAt r n k
noncomputable def nm (n : Nat) : Str:=nmAt nmL n n
structure FI where
  name : Nat
  pars : List Nat
  apos : List Pos
  kinds : List (Nat × NameKind)
  locs : List Nat
  cels : List Nat:=[]
  gls : List Nat:=[]
  fast : List Nat:=[]
  body : SL
namespace PP
noncomputable abbrev p (a b c : Nat) : Pos:=⟨a,b,a,c⟩
noncomputable abbrev l (n : Nat) : Nat × NameKind:=(n,.local)
noncomputable abbrev g (n : Nat) : Nat × NameKind:=(n,.globalImplicit)
end PP
end Mine
end
section
namespace Mine
open PP
noncomputable section
noncomputable def subS : Stmt → Nat → List Stmt
  | .If _ a _ _,0=>a
  | .If _ _ b _,_=>b
  | .For _ _ b _ _,_=>b
  | .FunctionDef _ _ b _ _ _ _ _ _ _,_=>b
  | _,_=>[]
noncomputable def pick : List Stmt → List Nat → Stmt
  | l,[i]=>(nth l i).getD (.Pass ⟨0,0,0,0⟩)
  | l,i :: b :: r=>match nth l i with
    | some s=>pick (subS s b) r
    | none=>.Pass ⟨0,0,0,0⟩
  | _,[]=>.Pass ⟨0,0,0,0⟩
noncomputable def r_0 : Stmt:=pick PySem.Challenge.pw_sj0062_01.main.body [13,0,2,0,0]
noncomputable def r_1 : Stmt:=pick PySem.Challenge.pw_sj0062_01.main.body [59,0,7,0,0]
noncomputable def r_2 : Stmt:=pick PySem.Challenge.pw_sj0062_01.main.body [59,0,6,0,0]
noncomputable def r_3 : Stmt:=pick PySem.Challenge.pw_sj0062_01.main.body [59,0,5,0,0]
noncomputable def r_4 : Stmt:=pick PySem.Challenge.pw_sj0062_01.main.body [59,0,4,0,0]
noncomputable def r_5 : Stmt:=pick PySem.Challenge.pw_sj0062_01.main.body [59,0,3,0,0]
noncomputable def r_6 : Stmt:=pick PySem.Challenge.pw_sj0062_01.main.body [59,0,2,0,0]
noncomputable def r_7 : Stmt:=pick PySem.Challenge.pw_sj0062_01.main.body [59,0,1,0,0]
noncomputable def r_8 : Stmt:=pick PySem.Challenge.pw_sj0062_01.main.body [59,0,0,0,0]
noncomputable def r_9 : Stmt:=pick PySem.Challenge.pw_sj0062_01.main.body [60,0,7,0,0]
noncomputable def r_10 : Stmt:=pick PySem.Challenge.pw_sj0062_01.main.body [60,0,6,0,0]
noncomputable def r_11 : Stmt:=pick PySem.Challenge.pw_sj0062_01.main.body [60,0,5,0,0]
noncomputable def r_12 : Stmt:=pick PySem.Challenge.pw_sj0062_01.main.body [60,0,4,0,0]
noncomputable def r_13 : Stmt:=pick PySem.Challenge.pw_sj0062_01.main.body [60,0,3,0,0]
noncomputable def r_14 : Stmt:=pick PySem.Challenge.pw_sj0062_01.main.body [60,0,2,0,0]
noncomputable def r_15 : Stmt:=pick PySem.Challenge.pw_sj0062_01.main.body [60,0,1,0,0]
noncomputable def r_16 : Stmt:=pick PySem.Challenge.pw_sj0062_01.main.body [60,0,0,0,0]
noncomputable def r_17 : Stmt:=pick PySem.Challenge.pw_sj0062_01.main.body [61,0,5,0,0]
noncomputable def r_18 : Stmt:=pick PySem.Challenge.pw_sj0062_01.main.body [61,0,4,0,0]
noncomputable def r_19 : Stmt:=pick PySem.Challenge.pw_sj0062_01.main.body [61,0,3,0,0]
noncomputable def r_20 : Stmt:=pick PySem.Challenge.pw_sj0062_01.main.body [62,0,3,0,0]
noncomputable def r_21 : Stmt:=pick PySem.Challenge.pw_sj0062_01.main.body [69,0,15]
noncomputable def r_22 : Stmt:=pick PySem.Challenge.pw_sj0062_01.main.body [69,0,14,0,0]
noncomputable def r_23 : Stmt:=pick PySem.Challenge.pw_sj0062_01.main.body [69,0,13,0,0]
noncomputable def r_24 : Stmt:=pick PySem.Challenge.pw_sj0062_01.main.body [69,0,12,0,0]
noncomputable def r_25 : Stmt:=pick PySem.Challenge.pw_sj0062_01.main.body [69,0,11,0,0]
noncomputable def r_26 : Stmt:=pick PySem.Challenge.pw_sj0062_01.main.body [69,0,9,0,0]
noncomputable def r_27 : Stmt:=pick PySem.Challenge.pw_sj0062_01.main.body [69,0,8,0,0]
noncomputable def r_28 : Stmt:=pick PySem.Challenge.pw_sj0062_01.main.body [69,0,6,0,0]
noncomputable def r_29 : Stmt:=pick PySem.Challenge.pw_sj0062_01.main.body [69,0,5,0,0]
noncomputable def r_30 : Stmt:=pick PySem.Challenge.pw_sj0062_01.main.body [69,0,3,0,0]
noncomputable def r_31 : Stmt:=pick PySem.Challenge.pw_sj0062_01.main.body [92,0,8]
noncomputable def r_32 : Stmt:=pick PySem.Challenge.pw_sj0062_01.main.body [104,0,0,0,0,0,0]
noncomputable def r_33 : Stmt:=pick PySem.Challenge.pw_sj0062_01.main.body [110,0,4]
noncomputable def r_34 : Stmt:=pick PySem.Challenge.pw_sj0062_01.main.body [110,0,3]
noncomputable def r_35 : Stmt:=pick PySem.Challenge.pw_sj0062_01.main.body [110,0,2]
noncomputable def b_mask : SL:=(.cons (.ret (.bin .Sub (.bin .LShift (.cint 1 (p 12 12 13)) (.loc 63 (p 12 17 18)) (p 12 12 18)) (.cint 1 (p 12 22 23)) (p 12 11 23)) (p 12 4 23))
 .nil)
noncomputable def f_mask : FI where
  name:=0
  pars:=[63]
  apos:=[(p 11 9 10)]
  kinds:=[l 63]
  locs:=[63]
  body:=b_mask
noncomputable def b_code : SL:=(.cons (.ret (.bin .Add (.bin .BitAnd (.bin .RShift (.sub (.loc 64 (p 33 12 13)) (.cint 1 (p 33 14 15)) (p 33 12 16)) (.loc 65 (p 33 20 21)) (p 33 12 21)) (.cint 1 (p 33 24 25)) (p 33 12 25)) (.bin .Mult (.cint 2 (p 33 29 30)) (.bin .BitAnd (.bin .RShift (.sub (.loc 64 (p 33 34 35)) (.cint 2 (p 33 36 37)) (p 33 34 38)) (.loc 65 (p 33 42 43)) (p 33 34 43)) (.cint 1 (p 33 46 47)) (p 33 34 47)) (p 33 29 48)) (p 33 11 48)) (p 33 4 48))
 .nil)
noncomputable def f_code : FI where
  name:=1
  pars:=[64,65]
  apos:=[(p 32 9 10),(p 32 12 13)]
  kinds:=[l 64,l 65]
  locs:=[64,65]
  body:=b_code
noncomputable def b_from_codes : SL:=(.cons (.asg (.loc 68 (p 35 4 5)) (.cint 0 (p 35 8 9)) (p 35 4 9))
 (.cons (.asg (.loc 69 (p 36 4 5)) (.cint 0 (p 36 8 9)) (p 36 4 9))
 (.cons (.for (.loc 65 (p 37 8 9)) true (p 37 13 18) (.callB .len 67 (p 37 19 22) (.cons (.loc 66 (p 37 23 26)) .nil) (p 37 19 27)) (p 37 13 28) (.cons (.aug false 68 (p 38 8 9) .BitOr (.bin .LShift (.bin .BitAnd (.sub (.loc 66 (p 38 14 17)) (.loc 65 (p 38 18 19)) (p 38 14 20)) (.cint 1 (p 38 23 24)) (p 38 14 24)) (.loc 65 (p 38 29 30)) (p 38 13 30)) (p 38 8 30))
 (.cons (.aug false 69 (p 39 8 9) .BitOr (.bin .LShift (.bin .RShift (.sub (.loc 66 (p 39 13 16)) (.loc 65 (p 39 17 18)) (p 39 13 19)) (.cint 1 (p 39 23 24)) (p 39 13 24)) (.loc 65 (p 39 28 29)) (p 39 13 29)) (p 39 8 29))
 .nil)) ⟨37,4,39,29⟩)
 (.cons (.ret (.tup (.cons (.callB .len 67 (p 40 12 15) (.cons (.loc 66 (p 40 16 19)) .nil) (p 40 12 20)) (.cons (.loc 68 (p 40 22 23)) (.cons (.loc 69 (p 40 25 26)) .nil))) (p 40 11 27)) (p 40 4 27))
 .nil))))
noncomputable def f_from_codes : FI where
  name:=2
  pars:=[66]
  apos:=[(p 34 15 18)]
  kinds:=[l 66,l 68,l 69,l 65,g 193,g 67]
  locs:=[66,68,69,65]
  gls:=[193,67]
  body:=b_from_codes
noncomputable def b_slice_vec : SL:=(.cons (.asg (.loc 71 (p 42 4 9)) (.callB .max2 77 (p 42 12 15) (.cons (.loc 74 (p 42 16 18)) (.cons (.cint 0 (p 42 20 21)) .nil)) (p 42 12 22)) (p 42 4 22))
 (.cons (.asg (.loc 75 (p 43 4 8)) (.callB .min2 76 (p 43 11 14) (.cons (.bin .Add (.loc 74 (p 43 15 17)) (.loc 63 (p 43 20 21)) (p 43 15 21)) (.cons (.sub (.loc 64 (p 43 23 24)) (.cint 0 (p 43 25 26)) (p 43 23 27)) .nil)) (p 43 11 28)) (p 43 4 28))
 (.cons (.iff (.cmp .LtE (.loc 75 (p 44 7 11)) (.loc 71 (p 44 15 20)) (p 44 7 20)) (.cons (.raw r_0)
 .nil) .nil ⟨44,4,45,23⟩)
 (.cons (.asg (.loc 72 (p 46 4 9)) (.callU 0 (p 46 12 16) (.cons (.bin .Sub (.loc 75 (p 46 17 21)) (.loc 71 (p 46 24 29)) (p 46 17 29)) .nil) (p 46 12 30)) (p 46 4 30))
 (.cons (.asg (.loc 73 (p 47 4 9)) (.bin .Sub (.loc 71 (p 47 12 17)) (.loc 74 (p 47 20 22)) (p 47 12 22)) (p 47 4 22))
 (.cons (.asg (.loc 70 (p 48 4 11)) (.bin .BitXor (.callU 0 (p 48 14 18) (.cons (.loc 63 (p 48 19 20)) .nil) (p 48 14 21)) (.bin .LShift (.loc 72 (p 48 24 29)) (.loc 73 (p 48 33 38)) (p 48 24 38)) (p 48 14 38)) (p 48 4 38))
 (.cons (.asg (.loc 68 (p 49 4 5)) (.bin .LShift (.bin .BitAnd (.bin .RShift (.sub (.loc 64 (p 49 9 10)) (.cint 1 (p 49 11 12)) (p 49 9 13)) (.loc 71 (p 49 17 22)) (p 49 9 22)) (.loc 72 (p 49 25 30)) (p 49 9 30)) (.loc 73 (p 49 35 40)) (p 49 8 40)) (p 49 4 40))
 (.cons (.asg (.loc 69 (p 50 4 5)) (.bin .LShift (.bin .BitAnd (.bin .RShift (.sub (.loc 64 (p 50 9 10)) (.cint 2 (p 50 11 12)) (p 50 9 13)) (.loc 71 (p 50 17 22)) (p 50 9 22)) (.loc 72 (p 50 25 30)) (p 50 9 30)) (.loc 73 (p 50 35 40)) (p 50 8 40)) (p 50 4 40))
 (.cons (.ret (.tup (.cons (.loc 63 (p 51 12 13)) (.cons (.bin .BitOr (.loc 68 (p 51 15 16)) (.loc 70 (p 51 19 26)) (p 51 15 26)) (.cons (.bin .BitOr (.loc 69 (p 51 28 29)) (.loc 70 (p 51 32 39)) (p 51 28 39)) .nil))) (p 51 11 40)) (p 51 4 40))
 .nil)))))))))
noncomputable def f_slice_vec : FI where
  name:=3
  pars:=[64,74,63]
  apos:=[(p 41 14 15),(p 41 17 19),(p 41 21 22)]
  kinds:=[l 64,l 74,l 63,l 71,l 75,l 72,l 73,l 70,l 68,l 69,g 77,g 76,g 194,g 0]
  locs:=[64,74,63,71,75,72,73,70,68,69]
  gls:=[77,76,194,0]
  body:=b_slice_vec
noncomputable def b_z_to_x : SL:=(.cons (.ret (.tup (.cons (.sub (.loc 64 (p 72 12 13)) (.cint 0 (p 72 14 15)) (p 72 12 16)) (.cons (.bin .BitOr (.sub (.loc 64 (p 72 18 19)) (.cint 1 (p 72 20 21)) (p 72 18 22)) (.sub (.loc 64 (p 72 25 26)) (.cint 2 (p 72 27 28)) (p 72 25 29)) (p 72 18 29)) (.cons (.sub (.loc 64 (p 72 31 32)) (.cint 2 (p 72 33 34)) (p 72 31 35)) .nil))) (p 72 11 36)) (p 72 4 36))
 .nil)
noncomputable def f_z_to_x : FI where
  name:=4
  pars:=[64]
  apos:=[(p 71 11 12)]
  kinds:=[l 64]
  locs:=[64]
  body:=b_z_to_x
noncomputable def b_truth : SL:=(.cons (.iff (.cmp .NotEq (.bin .BitAnd (.sub (.loc 64 (p 74 7 8)) (.cint 1 (p 74 9 10)) (p 74 7 11)) (.bin .BitXor (.sub (.loc 64 (p 74 15 16)) (.cint 2 (p 74 17 18)) (p 74 15 19)) (.callU 0 (p 74 22 26) (.cons (.sub (.loc 64 (p 74 27 28)) (.cint 0 (p 74 29 30)) (p 74 27 31)) .nil) (p 74 22 32)) (p 74 15 32)) (p 74 7 33)) (.cint 0 (p 74 37 38)) (p 74 7 38)) (.cons (.ret (.cint 1 (p 75 15 16)) (p 75 8 16))
 .nil) .nil ⟨74,4,75,16⟩)
 (.cons (.iff (.bop .And (.cons (.cmp .Eq (.sub (.loc 64 (p 76 7 8)) (.cint 1 (p 76 9 10)) (p 76 7 11)) (.cint 0 (p 76 15 16)) (p 76 7 16)) (.cons (.cmp .Eq (.sub (.loc 64 (p 76 21 22)) (.cint 2 (p 76 23 24)) (p 76 21 25)) (.cint 0 (p 76 29 30)) (p 76 21 30)) .nil)) (p 76 7 30)) (.cons (.ret (.cint 0 (p 77 15 16)) (p 77 8 16))
 .nil) .nil ⟨76,4,77,16⟩)
 (.cons (.ret (.cint 3 (p 78 11 12)) (p 78 4 12))
 .nil)))
noncomputable def f_truth : FI where
  name:=5
  pars:=[64]
  apos:=[(p 73 10 11)]
  kinds:=[l 64,g 0]
  locs:=[64]
  gls:=[0]
  body:=b_truth
noncomputable def b_bit_and : SL:=(.cons (.asg (.tup [(false,63,(p 193 4 5)),(false,68,(p 193 7 8)),(false,69,(p 193 10 11))] (p 193 4 11)) (.callU 4 (p 193 14 20) (.cons (.loc 81 (p 193 21 22)) .nil) (p 193 14 23)) (p 193 4 23))
 (.cons (.asg (.tup [(false,80,(p 194 4 5)),(false,79,(p 194 7 8))] (p 194 4 8)) (.slc (.callU 4 (p 194 11 17) (.cons (.loc 64 (p 194 18 19)) .nil) (p 194 11 20)) (.yes (.cint 1 (p 194 21 22))) .no (p 194 21 23) (p 194 11 24)) (p 194 4 24))
 (.cons (.asg (.loc 78 (p 195 4 8)) (.bin .BitAnd (.loc 68 (p 195 11 12)) (.loc 80 (p 195 15 16)) (p 195 11 16)) (p 195 4 16))
 (.cons (.ret (.tup (.cons (.loc 63 (p 196 12 13)) (.cons (.loc 78 (p 196 15 19)) (.cons (.bin .BitAnd (.loc 78 (p 196 21 25)) (.bin .BitOr (.loc 69 (p 196 29 30)) (.loc 79 (p 196 33 34)) (p 196 29 34)) (p 196 21 35)) .nil))) (p 196 11 36)) (p 196 4 36))
 .nil))))
noncomputable def f_bit_and : FI where
  name:=6
  pars:=[81,64]
  apos:=[(p 192 12 13),(p 192 15 16)]
  kinds:=[l 81,l 64,l 63,l 68,l 69,l 80,l 79,l 78,g 4]
  locs:=[81,64,63,68,69,80,79,78]
  gls:=[4]
  body:=b_bit_and
noncomputable def b_bit_or : SL:=(.cons (.asg (.tup [(false,63,(p 198 4 5)),(false,68,(p 198 7 8)),(false,69,(p 198 10 11))] (p 198 4 11)) (.callU 4 (p 198 14 20) (.cons (.loc 81 (p 198 21 22)) .nil) (p 198 14 23)) (p 198 4 23))
 (.cons (.asg (.tup [(false,80,(p 199 4 5)),(false,79,(p 199 7 8))] (p 199 4 8)) (.slc (.callU 4 (p 199 11 17) (.cons (.loc 64 (p 199 18 19)) .nil) (p 199 11 20)) (.yes (.cint 1 (p 199 21 22))) .no (p 199 21 23) (p 199 11 24)) (p 199 4 24))
 (.cons (.asg (.loc 82 (p 200 4 10)) (.bin .BitOr (.loc 68 (p 200 13 14)) (.loc 80 (p 200 17 18)) (p 200 13 18)) (p 200 4 18))
 (.cons (.asg (.loc 83 (p 201 4 8)) (.bin .BitOr (.bin .BitAnd (.loc 68 (p 201 11 12)) (.bin .BitXor (.loc 69 (p 201 16 17)) (.callU 0 (p 201 20 24) (.cons (.loc 63 (p 201 25 26)) .nil) (p 201 20 27)) (p 201 16 27)) (p 201 11 28)) (.bin .BitAnd (.loc 80 (p 201 31 32)) (.bin .BitXor (.loc 79 (p 201 36 37)) (.callU 0 (p 201 40 44) (.cons (.loc 63 (p 201 45 46)) .nil) (p 201 40 47)) (p 201 36 47)) (p 201 31 48)) (p 201 11 48)) (p 201 4 48))
 (.cons (.ret (.tup (.cons (.loc 63 (p 202 12 13)) (.cons (.loc 82 (p 202 15 21)) (.cons (.bin .BitXor (.loc 82 (p 202 23 29)) (.loc 83 (p 202 32 36)) (p 202 23 36)) .nil))) (p 202 11 37)) (p 202 4 37))
 .nil)))))
noncomputable def f_bit_or : FI where
  name:=7
  pars:=[81,64]
  apos:=[(p 197 11 12),(p 197 14 15)]
  kinds:=[l 81,l 64,l 63,l 68,l 69,l 80,l 79,l 82,l 83,g 4,g 0]
  locs:=[81,64,63,68,69,80,79,82,83]
  gls:=[4,0]
  body:=b_bit_or
noncomputable def b_bit_xor : SL:=(.cons (.asg (.loc 69 (p 204 4 5)) (.bin .BitOr (.sub (.loc 81 (p 204 8 9)) (.cint 2 (p 204 10 11)) (p 204 8 12)) (.sub (.loc 64 (p 204 15 16)) (.cint 2 (p 204 17 18)) (p 204 15 19)) (p 204 8 19)) (p 204 4 19))
 (.cons (.ret (.tup (.cons (.sub (.loc 81 (p 205 12 13)) (.cint 0 (p 205 14 15)) (p 205 12 16)) (.cons (.bin .BitOr (.bin .BitXor (.sub (.loc 81 (p 205 18 19)) (.cint 1 (p 205 20 21)) (p 205 18 22)) (.sub (.loc 64 (p 205 25 26)) (.cint 1 (p 205 27 28)) (p 205 25 29)) (p 205 18 29)) (.loc 69 (p 205 32 33)) (p 205 18 33)) (.cons (.loc 69 (p 205 35 36)) .nil))) (p 205 11 37)) (p 205 4 37))
 .nil))
noncomputable def f_bit_xor : FI where
  name:=8
  pars:=[81,64]
  apos:=[(p 203 12 13),(p 203 15 16)]
  kinds:=[l 81,l 64,l 69]
  locs:=[81,64,69]
  body:=b_bit_xor
noncomputable def b_choose : SL:=(.cons (.asg (.loc 88 (p 248 4 9)) (.callU 5 (p 248 12 17) (.cons (.loc 80 (p 248 18 19)) .nil) (p 248 12 20)) (p 248 4 20))
 (.cons (.iff (.cmp .Eq (.loc 88 (p 249 7 12)) (.cint 1 (p 249 16 17)) (p 249 7 17)) (.cons (.ret (.loc 84 (p 250 15 16)) (p 250 8 16))
 .nil) .nil ⟨249,4,250,16⟩)
 (.cons (.iff (.cmp .Eq (.loc 88 (p 251 7 12)) (.cint 0 (p 251 16 17)) (p 251 7 17)) (.cons (.ret (.loc 87 (p 252 15 16)) (p 252 8 16))
 .nil) .nil ⟨251,4,252,16⟩)
 (.cons (.asg (.loc 63 (p 253 4 5)) (.sub (.loc 84 (p 253 8 9)) (.cint 0 (p 253 10 11)) (p 253 8 12)) (p 253 4 12))
 (.cons (.asg (.loc 85 (p 254 4 8)) (.bin .BitXor (.callU 0 (p 254 11 15) (.cons (.loc 63 (p 254 16 17)) .nil) (p 254 11 18)) (.bin .BitOr (.bin .BitOr (.bin .BitXor (.sub (.loc 84 (p 254 22 23)) (.cint 1 (p 254 24 25)) (p 254 22 26)) (.sub (.loc 87 (p 254 29 30)) (.cint 1 (p 254 31 32)) (p 254 29 33)) (p 254 22 33)) (.sub (.loc 84 (p 254 36 37)) (.cint 2 (p 254 38 39)) (p 254 36 40)) (p 254 22 40)) (.sub (.loc 87 (p 254 43 44)) (.cint 2 (p 254 45 46)) (p 254 43 47)) (p 254 22 47)) (p 254 11 48)) (p 254 4 48))
 (.cons (.asg (.loc 86 (p 255 4 11)) (.bin .BitXor (.callU 0 (p 255 14 18) (.cons (.loc 63 (p 255 19 20)) .nil) (p 255 14 21)) (.loc 85 (p 255 24 28)) (p 255 14 28)) (p 255 4 28))
 (.cons (.ret (.tup (.cons (.loc 63 (p 256 12 13)) (.cons (.bin .BitOr (.bin .BitAnd (.sub (.loc 84 (p 256 15 16)) (.cint 1 (p 256 17 18)) (p 256 15 19)) (.loc 85 (p 256 22 26)) (p 256 15 26)) (.loc 86 (p 256 29 36)) (p 256 15 36)) (.cons (.loc 86 (p 256 38 45)) .nil))) (p 256 11 46)) (p 256 4 46))
 .nil)))))))
noncomputable def f_choose : FI where
  name:=9
  pars:=[80,84,87]
  apos:=[(p 247 11 12),(p 247 14 15),(p 247 17 18)]
  kinds:=[l 80,l 84,l 87,l 88,l 63,l 85,l 86,g 5,g 0]
  locs:=[80,84,87,88,63,85,86]
  gls:=[5,0]
  body:=b_choose
noncomputable def b_arithmetic : SL:=(.cons (.iff (.cmp .Eq (.loc 89 (p 279 7 9)) (.cstr [43] (p 279 13 16)) (p 279 7 16)) (.cons (.raw r_8)
 .nil) .nil ⟨279,4,280,24⟩)
 (.cons (.iff (.cmp .Eq (.loc 89 (p 281 7 9)) (.cstr [45] (p 281 13 16)) (p 281 7 16)) (.cons (.raw r_7)
 .nil) .nil ⟨281,4,282,24⟩)
 (.cons (.iff (.cmp .Eq (.loc 89 (p 283 7 9)) (.cstr [42] (p 283 13 16)) (p 283 7 16)) (.cons (.raw r_6)
 .nil) .nil ⟨283,4,284,24⟩)
 (.cons (.iff (.cmp .Eq (.loc 89 (p 285 7 9)) (.cstr [47] (p 285 13 16)) (p 285 7 16)) (.cons (.raw r_5)
 .nil) .nil ⟨285,4,286,32⟩)
 (.cons (.iff (.cmp .Eq (.loc 89 (p 287 7 9)) (.cstr [37] (p 287 13 16)) (p 287 7 16)) (.cons (.raw r_4)
 .nil) .nil ⟨287,4,288,32⟩)
 (.cons (.iff (.bop .Or (.cons (.cmp .Eq (.loc 89 (p 289 7 9)) (.cstr [60,60] (p 289 13 17)) (p 289 7 17)) (.cons (.cmp .Eq (.loc 89 (p 289 21 23)) (.cstr [60,60,60] (p 289 27 32)) (p 289 21 32)) .nil)) (p 289 7 32)) (.cons (.raw r_3)
 .nil) .nil ⟨289,4,290,31⟩)
 (.cons (.iff (.cmp .Eq (.loc 89 (p 291 7 9)) (.cstr [62,62] (p 291 13 17)) (p 291 7 17)) (.cons (.raw r_2)
 .nil) .nil ⟨291,4,292,32⟩)
 (.cons (.iff (.cmp .Eq (.loc 89 (p 293 7 9)) (.cstr [62,62,62] (p 293 13 18)) (p 293 7 18)) (.cons (.raw r_1)
 .nil) .nil ⟨293,4,294,40⟩)
 (.cons (.ret (.cnone (p 295 11 15)) (p 295 4 15))
 .nil)))))))))
noncomputable def f_arithmetic : FI where
  name:=10
  pars:=[89,81,64,91]
  apos:=[(p 278 15 17),(p 278 19 20),(p 278 22 23),(p 278 25 31)]
  kinds:=[l 89,l 81,l 64,l 91,g 195,g 196,g 197,g 198,g 199,g 200,g 201,g 202]
  locs:=[89,81,64,91]
  gls:=[195,196,197,198,199,200,201,202]
  body:=b_arithmetic
noncomputable def b_comparison : SL:=(.cons (.iff (.cmp .Eq (.loc 89 (p 297 7 9)) (.cstr [60] (p 297 13 16)) (p 297 7 16)) (.cons (.raw r_16)
 .nil) .nil ⟨297,4,298,33⟩)
 (.cons (.iff (.cmp .Eq (.loc 89 (p 299 7 9)) (.cstr [60,61] (p 299 13 17)) (p 299 7 17)) (.cons (.raw r_15)
 .nil) .nil ⟨299,4,300,39⟩)
 (.cons (.iff (.cmp .Eq (.loc 89 (p 301 7 9)) (.cstr [62] (p 301 13 16)) (p 301 7 16)) (.cons (.raw r_14)
 .nil) .nil ⟨301,4,302,36⟩)
 (.cons (.iff (.cmp .Eq (.loc 89 (p 303 7 9)) (.cstr [62,61] (p 303 13 17)) (p 303 7 17)) (.cons (.raw r_13)
 .nil) .nil ⟨303,4,304,42⟩)
 (.cons (.iff (.cmp .Eq (.loc 89 (p 305 7 9)) (.cstr [61,61] (p 305 13 17)) (p 305 7 17)) (.cons (.raw r_12)
 .nil) .nil ⟨305,4,306,26⟩)
 (.cons (.iff (.cmp .Eq (.loc 89 (p 307 7 9)) (.cstr [33,61] (p 307 13 17)) (p 307 7 17)) (.cons (.raw r_11)
 .nil) .nil ⟨307,4,308,30⟩)
 (.cons (.iff (.cmp .Eq (.loc 89 (p 309 7 9)) (.cstr [61,61,61] (p 309 13 18)) (p 309 7 18)) (.cons (.raw r_10)
 .nil) .nil ⟨309,4,310,31⟩)
 (.cons (.iff (.cmp .Eq (.loc 89 (p 311 7 9)) (.cstr [33,61,61] (p 311 13 18)) (p 311 7 18)) (.cons (.raw r_9)
 .nil) .nil ⟨311,4,312,35⟩)
 (.cons (.ret (.cnone (p 313 11 15)) (p 313 4 15))
 .nil)))))))))
noncomputable def f_comparison : FI where
  name:=11
  pars:=[89,81,64,91]
  apos:=[(p 296 15 17),(p 296 19 20),(p 296 22 23),(p 296 25 31)]
  kinds:=[l 89,l 81,l 64,l 91,g 203,g 204,g 205,g 206,g 207,g 208,g 209,g 210]
  locs:=[89,81,64,91]
  gls:=[203,204,205,206,207,208,209,210]
  body:=b_comparison
noncomputable def b_bitwise : SL:=(.cons (.iff (.cmp .Eq (.loc 89 (p 315 7 9)) (.cstr [38] (p 315 13 16)) (p 315 7 16)) (.cons (.ret (.callU 6 (p 316 15 22) (.cons (.loc 81 (p 316 23 24)) (.cons (.loc 64 (p 316 26 27)) .nil)) (p 316 15 28)) (p 316 8 28))
 .nil) .nil ⟨315,4,316,28⟩)
 (.cons (.iff (.cmp .Eq (.loc 89 (p 317 7 9)) (.cstr [124] (p 317 13 16)) (p 317 7 16)) (.cons (.ret (.callU 7 (p 318 15 21) (.cons (.loc 81 (p 318 22 23)) (.cons (.loc 64 (p 318 25 26)) .nil)) (p 318 15 27)) (p 318 8 27))
 .nil) .nil ⟨317,4,318,27⟩)
 (.cons (.iff (.cmp .Eq (.loc 89 (p 319 7 9)) (.cstr [94] (p 319 13 16)) (p 319 7 16)) (.cons (.ret (.callU 8 (p 320 15 22) (.cons (.loc 81 (p 320 23 24)) (.cons (.loc 64 (p 320 26 27)) .nil)) (p 320 15 28)) (p 320 8 28))
 .nil) .nil ⟨319,4,320,28⟩)
 (.cons (.iff (.cmp .Eq (.loc 89 (p 321 7 9)) (.cstr [126,94] (p 321 13 17)) (p 321 7 17)) (.cons (.raw r_19)
 .nil) .nil ⟨321,4,322,29⟩)
 (.cons (.iff (.cmp .Eq (.loc 89 (p 323 7 9)) (.cstr [38,38] (p 323 13 17)) (p 323 7 17)) (.cons (.raw r_18)
 .nil) .nil ⟨323,4,324,30⟩)
 (.cons (.iff (.cmp .Eq (.loc 89 (p 325 7 9)) (.cstr [124,124] (p 325 13 17)) (p 325 7 17)) (.cons (.raw r_17)
 .nil) .nil ⟨325,4,326,29⟩)
 (.cons (.ret (.cnone (p 327 11 15)) (p 327 4 15))
 .nil)))))))
noncomputable def f_bitwise : FI where
  name:=12
  pars:=[89,81,64]
  apos:=[(p 314 12 14),(p 314 16 17),(p 314 19 20)]
  kinds:=[l 89,l 81,l 64,g 6,g 7,g 8,g 211,g 212,g 213]
  locs:=[89,81,64]
  gls:=[6,7,8,211,212,213]
  body:=b_bitwise
noncomputable def b_binary : SL:=(.cons (.asg (.loc 90 (p 329 4 9)) (.callU 10 (p 329 12 22) (.cons (.loc 89 (p 329 23 25)) (.cons (.loc 81 (p 329 27 28)) (.cons (.loc 64 (p 329 30 31)) (.cons (.loc 91 (p 329 33 39)) .nil)))) (p 329 12 40)) (p 329 4 40))
 (.cons (.iff (.cmp .Is (.loc 90 (p 330 7 12)) (.cnone (p 330 16 20)) (p 330 7 20)) (.cons (.asg (.loc 90 (p 331 8 13)) (.callU 11 (p 331 16 26) (.cons (.loc 89 (p 331 27 29)) (.cons (.loc 81 (p 331 31 32)) (.cons (.loc 64 (p 331 34 35)) (.cons (.loc 91 (p 331 37 43)) .nil)))) (p 331 16 44)) (p 331 8 44))
 .nil) .nil ⟨330,4,331,44⟩)
 (.cons (.iff (.cmp .Is (.loc 90 (p 332 7 12)) (.cnone (p 332 16 20)) (p 332 7 20)) (.cons (.asg (.loc 90 (p 333 8 13)) (.callU 12 (p 333 16 23) (.cons (.loc 89 (p 333 24 26)) (.cons (.loc 81 (p 333 28 29)) (.cons (.loc 64 (p 333 31 32)) .nil))) (p 333 16 33)) (p 333 8 33))
 .nil) .nil ⟨332,4,333,33⟩)
 (.cons (.iff (.cmp .Is (.loc 90 (p 334 7 12)) (.cnone (p 334 16 20)) (p 334 7 20)) (.cons (.raw r_20)
 .nil) .nil ⟨334,4,335,53⟩)
 (.cons (.ret (.loc 90 (p 336 11 16)) (p 336 4 16))
 .nil)))))
noncomputable def f_binary : FI where
  name:=13
  pars:=[89,81,64,91]
  apos:=[(p 328 11 13),(p 328 15 16),(p 328 18 19),(p 328 21 27)]
  kinds:=[l 89,l 81,l 64,l 91,l 90,g 10,g 11,g 12,g 214]
  locs:=[89,81,64,91,90]
  gls:=[10,11,12,214]
  body:=b_binary
noncomputable def b_conditional : SL:=(.cons (.asg (.loc 92 (p 354 4 13)) (.callU 15 (p 354 16 24) (.cons (.sub (.loc 93 (p 354 25 26)) (.cint 2 (p 354 27 28)) (p 354 25 29)) (.cons (.loc 94 (p 354 31 34)) .nil)) (p 354 16 35)) (p 354 4 35))
 (.cons (.asg (.loc 95 (p 355 4 9)) (.callU 5 (p 355 12 17) (.cons (.loc 92 (p 355 18 27)) .nil) (p 355 12 28)) (p 355 4 28))
 (.cons (.iff (.cmp .Eq (.loc 95 (p 356 7 12)) (.cint 1 (p 356 16 17)) (p 356 7 17)) (.cons (.ret (.callU 15 (p 357 15 23) (.cons (.sub (.loc 93 (p 357 24 25)) (.cint 3 (p 357 26 27)) (p 357 24 28)) (.cons (.loc 94 (p 357 30 33)) .nil)) (p 357 15 34)) (p 357 8 34))
 .nil) .nil ⟨356,4,357,34⟩)
 (.cons (.iff (.cmp .Eq (.loc 95 (p 358 7 12)) (.cint 0 (p 358 16 17)) (p 358 7 17)) (.cons (.ret (.callU 15 (p 359 15 23) (.cons (.sub (.loc 93 (p 359 24 25)) (.cint 4 (p 359 26 27)) (p 359 24 28)) (.cons (.loc 94 (p 359 30 33)) .nil)) (p 359 15 34)) (p 359 8 34))
 .nil) .nil ⟨358,4,359,34⟩)
 (.cons (.ret (.callU 9 (p 360 11 17) (.cons (.loc 92 (p 360 18 27)) (.cons (.callU 15 (p 360 29 37) (.cons (.sub (.loc 93 (p 360 38 39)) (.cint 3 (p 360 40 41)) (p 360 38 42)) (.cons (.loc 94 (p 360 44 47)) .nil)) (p 360 29 48)) (.cons (.callU 15 (p 360 50 58) (.cons (.sub (.loc 93 (p 360 59 60)) (.cint 4 (p 360 61 62)) (p 360 59 63)) (.cons (.loc 94 (p 360 65 68)) .nil)) (p 360 50 69)) .nil))) (p 360 11 70)) (p 360 4 70))
 .nil)))))
noncomputable def f_conditional : FI where
  name:=14
  pars:=[93,94]
  apos:=[(p 353 16 17),(p 353 19 22)]
  kinds:=[l 93,l 94,l 92,l 95,g 15,g 5,g 9]
  locs:=[93,94,92,95]
  gls:=[15,5,9]
  body:=b_conditional
noncomputable def b_evaluate : SL:=(.cons (.asg (.loc 96 (p 380 4 7)) (.sub (.loc 93 (p 380 10 11)) (.cint 0 (p 380 12 13)) (p 380 10 14)) (p 380 4 14))
 (.cons (.iff (.cmp .Eq (.loc 96 (p 381 7 10)) (.cstr [99,111,110,115,116] (p 381 14 21)) (p 381 7 21)) (.cons (.ret (.tup (.cons (.sub (.loc 93 (p 382 16 17)) (.cint 1 (p 382 18 19)) (p 382 16 20)) (.cons (.sub (.loc 93 (p 382 22 23)) (.cint 2 (p 382 24 25)) (p 382 22 26)) (.cons (.sub (.loc 93 (p 382 28 29)) (.cint 3 (p 382 30 31)) (p 382 28 32)) .nil))) (p 382 15 33)) (p 382 8 33))
 .nil) .nil ⟨381,4,382,33⟩)
 (.cons (.iff (.cmp .Eq (.loc 96 (p 383 7 10)) (.cstr [115,105,103] (p 383 14 19)) (p 383 7 19)) (.cons (.ret (.callM (.att (.cel 94 (p 384 15 18)) 97 (p 384 15 24)) 98 (p 384 15 28) (.cons (.sub (.loc 93 (p 384 29 30)) (.cint 2 (p 384 31 32)) (p 384 29 33)) .nil) (p 384 15 34)) (p 384 8 34))
 .nil) .nil ⟨383,4,384,34⟩)
 (.cons (.iff (.cmp .Eq (.loc 96 (p 385 7 10)) (.cstr [108,111,99,97,108] (p 385 14 21)) (p 385 7 21)) (.cons (.raw r_30)
 .nil) .nil ⟨385,4,386,30⟩)
 (.cons (.iff (.cmp .Eq (.loc 96 (p 387 7 10)) (.cstr [98,105,110] (p 387 14 19)) (p 387 7 19)) (.cons (.ret (.callU 13 (p 388 15 21) (.cons (.sub (.loc 93 (p 388 22 23)) (.cint 2 (p 388 24 25)) (p 388 22 26)) (.cons (.callU 15 (p 388 28 36) (.cons (.sub (.loc 93 (p 388 37 38)) (.cint 3 (p 388 39 40)) (p 388 37 41)) (.cons (.cel 94 (p 388 43 46)) .nil)) (p 388 28 47)) (.cons (.callU 15 (p 388 49 57) (.cons (.sub (.loc 93 (p 388 58 59)) (.cint 4 (p 388 60 61)) (p 388 58 62)) (.cons (.cel 94 (p 388 64 67)) .nil)) (p 388 49 68)) (.cons (.sub (.loc 93 (p 388 70 71)) (.cint 5 (p 388 72 73)) (p 388 70 74)) .nil)))) (p 388 15 75)) (p 388 8 75))
 .nil) .nil ⟨387,4,388,75⟩)
 (.cons (.iff (.cmp .Eq (.loc 96 (p 389 7 10)) (.cstr [117,110] (p 389 14 18)) (p 389 7 18)) (.cons (.raw r_29)
 .nil) .nil ⟨389,4,390,47⟩)
 (.cons (.iff (.cmp .Eq (.loc 96 (p 391 7 10)) (.cstr [101,120,116] (p 391 14 19)) (p 391 7 19)) (.cons (.raw r_28)
 .nil) .nil ⟨391,4,392,54⟩)
 (.cons (.iff (.cmp .Eq (.loc 96 (p 393 7 10)) (.cstr [115,108,105,99,101] (p 393 14 21)) (p 393 7 21)) (.cons (.ret (.callU 3 (p 394 15 24) (.cons (.callU 15 (p 394 25 33) (.cons (.sub (.loc 93 (p 394 34 35)) (.cint 2 (p 394 36 37)) (p 394 34 38)) (.cons (.cel 94 (p 394 40 43)) .nil)) (p 394 25 44)) (.cons (.sub (.loc 93 (p 394 46 47)) (.cint 3 (p 394 48 49)) (p 394 46 50)) (.cons (.sub (.loc 93 (p 394 52 53)) (.cint 1 (p 394 54 55)) (p 394 52 56)) .nil))) (p 394 15 57)) (p 394 8 57))
 .nil) .nil ⟨393,4,394,57⟩)
 (.cons (.iff (.cmp .Eq (.loc 96 (p 395 7 10)) (.cstr [112,105,99,107] (p 395 14 20)) (p 395 7 20)) (.cons (.raw r_27)
 .nil) .nil ⟨395,4,396,29⟩)
 (.cons (.iff (.cmp .Eq (.loc 96 (p 397 7 10)) (.cstr [119,111,114,100] (p 397 14 20)) (p 397 7 20)) (.cons (.raw r_26)
 .nil) .nil ⟨397,4,398,34⟩)
 (.cons (.iff (.cmp .Eq (.loc 96 (p 399 7 10)) (.cstr [99,111,110,100] (p 399 14 20)) (p 399 7 20)) (.cons (.ret (.callU 14 (p 400 15 26) (.cons (.loc 93 (p 400 27 28)) (.cons (.cel 94 (p 400 30 33)) .nil)) (p 400 15 34)) (p 400 8 34))
 .nil) .nil ⟨399,4,400,34⟩)
 (.cons (.iff (.cmp .Eq (.loc 96 (p 401 7 10)) (.cstr [99,97,116] (p 401 14 19)) (p 401 7 19)) (.cons (.raw r_25)
 .nil) .nil ⟨401,4,402,61⟩)
 (.cons (.iff (.cmp .Eq (.loc 96 (p 403 7 10)) (.cstr [112,111,119] (p 403 14 19)) (p 403 7 19)) (.cons (.raw r_24)
 .nil) .nil ⟨403,4,404,74⟩)
 (.cons (.iff (.cmp .Eq (.loc 96 (p 405 7 10)) (.cstr [99,97,108,108] (p 405 14 20)) (p 405 7 20)) (.cons (.raw r_23)
 .nil) .nil ⟨405,4,406,69⟩)
 (.cons (.iff (.cmp .Eq (.loc 96 (p 407 7 10)) (.cstr [115,121,115] (p 407 14 19)) (p 407 7 19)) (.cons (.raw r_22)
 .nil) .nil ⟨407,4,408,35⟩)
 (.cons (.raw r_21)
 .nil))))))))))))))))
noncomputable def f_evaluate : FI where
  name:=15
  pars:=[93,94]
  apos:=[(p 379 13 14),(p 379 16 19)]
  kinds:=[l 93,(94,.cell),l 96,g 13,g 15,g 215,g 216,g 3,g 217,g 218,g 14,g 219,g 220,g 221,g 214]
  locs:=[93,96]
  cels:=[94]
  gls:=[13,15,215,216,3,217,218,14,219,220,221,214]
  fast:=[93,94,96,222]
  body:=b_evaluate
noncomputable def b_drive_bit : SL:=(.cons (.iff (.cmp .Eq (.loc 90 (p 419 7 12)) (.glo 103 (p 419 16 20)) (p 419 7 20)) (.cons (.ret (.tup (.cons (.neg (.loc 99 (p 420 17 19)) (p 420 16 19)) (.cons (.neg (.loc 99 (p 420 22 24)) (p 420 21 24)) .nil)) (p 420 15 25)) (p 420 8 25))
 .nil) .nil ⟨419,4,420,25⟩)
 (.cons (.iff (.cmp .Eq (.loc 90 (p 421 7 12)) (.glo 102 (p 421 16 19)) (p 421 7 19)) (.cons (.ret (.tup (.cons (.loc 100 (p 422 16 18)) (.cons (.loc 100 (p 422 20 22)) .nil)) (p 422 15 23)) (p 422 8 23))
 .nil) .nil ⟨421,4,422,23⟩)
 (.cons (.iff (.cmp .Eq (.loc 90 (p 423 7 12)) (.glo 101 (p 423 16 22)) (p 423 7 22)) (.cons (.ret (.tup (.cons (.cint 0 (p 424 16 17)) (.cons (.cint 0 (p 424 19 20)) .nil)) (p 424 15 21)) (p 424 8 21))
 .nil) .nil ⟨423,4,424,21⟩)
 (.cons (.ret (.tup (.cons (.neg (.loc 99 (p 425 13 15)) (p 425 12 15)) (.cons (.loc 100 (p 425 17 19)) .nil)) (p 425 11 20)) (p 425 4 20))
 .nil))))
noncomputable def f_drive_bit : FI where
  name:=16
  pars:=[90,99,100]
  apos:=[(p 418 14 19),(p 418 21 23),(p 418 25 27)]
  kinds:=[l 90,l 99,l 100,g 103,g 102,g 101]
  locs:=[90,99,100]
  gls:=[103,102,101]
  body:=b_drive_bit
noncomputable def b_drive : SL:=(.cons (.ret (.comp false (.callU 16 (p 427 12 21) (.cons (.callU 1 (p 427 22 26) (.cons (.cel 64 (p 427 27 28)) (.cons (.loc 65 (p 427 30 31)) .nil)) (p 427 22 32)) (.cons (.cel 99 (p 427 34 36)) (.cons (.cel 100 (p 427 38 40)) .nil))) (p 427 12 41)) 65 (p 427 46 47) true (p 427 51 56) (.sub (.cel 64 (p 427 57 58)) (.cint 0 (p 427 59 60)) (p 427 57 61)) (p 427 51 62) 0 (p 427 11 63)) (p 427 4 63))
 .nil)
noncomputable def f_drive : FI where
  name:=17
  pars:=[64,99,100]
  apos:=[(p 426 10 11),(p 426 13 15),(p 426 17 19)]
  kinds:=[(64,.cell),(99,.cell),(100,.cell),g 193]
  locs:=[]
  cels:=[64,99,100]
  gls:=[193]
  fast:=[64,99,100,65]
  body:=b_drive
noncomputable def b_stronger : SL:=(.cons (.iff (.cmp .Gt (.callB .abs 107 (p 429 7 10) (.cons (.loc 104 (p 429 11 12)) .nil) (p 429 7 13)) (.callB .abs 107 (p 429 16 19) (.cons (.loc 105 (p 429 20 21)) .nil) (p 429 16 22)) (p 429 7 22)) (.cons (.ret (.loc 104 (p 430 15 16)) (p 430 8 16))
 .nil) .nil ⟨429,4,430,16⟩)
 (.cons (.iff (.cmp .Gt (.callB .abs 107 (p 431 7 10) (.cons (.loc 105 (p 431 11 12)) .nil) (p 431 7 13)) (.callB .abs 107 (p 431 16 19) (.cons (.loc 104 (p 431 20 21)) .nil) (p 431 16 22)) (p 431 7 22)) (.cons (.ret (.loc 105 (p 432 15 16)) (p 432 8 16))
 .nil) .nil ⟨431,4,432,16⟩)
 (.cons (.iff (.loc 106 (p 433 7 14)) (.cons (.ret (.callB .min2 76 (p 434 15 18) (.cons (.loc 104 (p 434 19 20)) (.cons (.loc 105 (p 434 22 23)) .nil)) (p 434 15 24)) (p 434 8 24))
 .nil) .nil ⟨433,4,434,24⟩)
 (.cons (.ret (.callB .max2 77 (p 435 11 14) (.cons (.loc 104 (p 435 15 16)) (.cons (.loc 105 (p 435 18 19)) .nil)) (p 435 11 20)) (p 435 4 20))
 .nil))))
noncomputable def f_stronger : FI where
  name:=18
  pars:=[104,105,106]
  apos:=[(p 428 13 14),(p 428 16 17),(p 428 19 26)]
  kinds:=[l 104,l 105,l 106,g 107,g 76,g 77]
  locs:=[104,105,106]
  gls:=[107,76,77]
  body:=b_stronger
noncomputable def b_join : SL:=(.cons (.asg (.loc 108 (p 437 4 11)) (.cmp .NotEq (.loc 110 (p 437 14 18)) (.cstr [119,111,114] (p 437 22 27)) (p 437 14 27)) (p 437 4 27))
 (.cons (.asg (.loc 109 (p 438 4 12)) (.cmp .Eq (.loc 110 (p 438 15 19)) (.cstr [119,97,110,100] (p 438 23 29)) (p 438 15 29)) (p 438 4 29))
 (.cons (.ret (.tup (.cons (.callU 18 (p 439 12 20) (.cons (.sub (.loc 104 (p 439 21 22)) (.cint 0 (p 439 23 24)) (p 439 21 25)) (.cons (.sub (.loc 105 (p 439 27 28)) (.cint 0 (p 439 29 30)) (p 439 27 31)) (.cons (.loc 108 (p 439 33 40)) .nil))) (p 439 12 41)) (.cons (.callU 18 (p 439 43 51) (.cons (.sub (.loc 104 (p 439 52 53)) (.cint 1 (p 439 54 55)) (p 439 52 56)) (.cons (.sub (.loc 105 (p 439 58 59)) (.cint 1 (p 439 60 61)) (p 439 58 62)) (.cons (.loc 109 (p 439 64 72)) .nil))) (p 439 43 73)) .nil)) (p 439 11 74)) (p 439 4 74))
 .nil)))
noncomputable def f_join : FI where
  name:=19
  pars:=[110,104,105]
  apos:=[(p 436 9 13),(p 436 15 16),(p 436 18 19)]
  kinds:=[l 110,l 104,l 105,l 108,l 109,g 18]
  locs:=[110,104,105,108,109]
  gls:=[18]
  body:=b_join
noncomputable def b_rest_drive : SL:=(.cons (.iff (.cmp .Eq (.loc 110 (p 441 7 11)) (.cstr [116,114,105,48] (p 441 15 21)) (p 441 7 21)) (.cons (.ret (.tup (.cons (.neg (.glo 114 (p 442 17 21)) (p 442 16 21)) (.cons (.neg (.glo 114 (p 442 24 28)) (p 442 23 28)) .nil)) (p 442 15 29)) (p 442 8 29))
 .nil) .nil ⟨441,4,442,29⟩)
 (.cons (.iff (.cmp .Eq (.loc 110 (p 443 7 11)) (.cstr [116,114,105,49] (p 443 15 21)) (p 443 7 21)) (.cons (.ret (.tup (.cons (.glo 114 (p 444 16 20)) (.cons (.glo 114 (p 444 22 26)) .nil)) (p 444 15 27)) (p 444 8 27))
 .nil) .nil ⟨443,4,444,27⟩)
 (.cons (.iff (.cmp .Eq (.loc 110 (p 445 7 11)) (.cstr [115,117,112,112,108,121,48] (p 445 15 24)) (p 445 7 24)) (.cons (.ret (.tup (.cons (.neg (.glo 113 (p 446 17 23)) (p 446 16 23)) (.cons (.neg (.glo 113 (p 446 26 32)) (p 446 25 32)) .nil)) (p 446 15 33)) (p 446 8 33))
 .nil) .nil ⟨445,4,446,33⟩)
 (.cons (.iff (.cmp .Eq (.loc 110 (p 447 7 11)) (.cstr [115,117,112,112,108,121,49] (p 447 15 24)) (p 447 7 24)) (.cons (.ret (.tup (.cons (.glo 113 (p 448 16 22)) (.cons (.glo 113 (p 448 24 30)) .nil)) (p 448 15 31)) (p 448 8 31))
 .nil) .nil ⟨447,4,448,31⟩)
 (.cons (.iff (.cmp .Eq (.loc 110 (p 449 7 11)) (.cstr [116,114,105,114,101,103] (p 449 15 23)) (p 449 7 23)) (.cons (.ret (.callU 16 (p 450 15 24) (.cons (.loc 111 (p 450 25 29)) (.cons (.glo 112 (p 450 31 42)) (.cons (.glo 112 (p 450 44 55)) .nil))) (p 450 15 56)) (p 450 8 56))
 .nil) .nil ⟨449,4,450,56⟩)
 (.cons (.ret (.tup (.cons (.cint 0 (p 451 12 13)) (.cons (.cint 0 (p 451 15 16)) .nil)) (p 451 11 17)) (p 451 4 17))
 .nil))))))
noncomputable def f_rest_drive : FI where
  name:=20
  pars:=[110,111]
  apos:=[(p 440 15 19),(p 440 21 25)]
  kinds:=[l 110,l 111,g 114,g 113,g 16,g 112]
  locs:=[110,111]
  gls:=[114,113,16,112]
  body:=b_rest_drive
noncomputable def b_held_code : SL:=(.cons (.iff (.cmp .Is (.loc 111 (p 453 7 11)) (.cnone (p 453 15 19)) (p 453 7 19)) (.cons (.ret (.glo 116 (p 454 15 22)) (p 454 8 22))
 .nil) .nil ⟨453,4,454,22⟩)
 (.cons (.ret (.sub (.loc 111 (p 455 11 15)) (.loc 115 (p 455 16 21)) (p 455 11 22)) (p 455 4 22))
 .nil))
noncomputable def f_held_code : FI where
  name:=21
  pars:=[111,115]
  apos:=[(p 452 14 18),(p 452 20 25)]
  kinds:=[l 111,l 115,g 116]
  locs:=[111,115]
  gls:=[116]
  body:=b_held_code
noncomputable def b_resolve_bits : SL:=(.cons (.asg (.loc 117 (p 457 4 10)) (.lst true .nil (p 457 13 15)) (p 457 4 15))
 (.cons (.for (.loc 115 (p 458 8 13)) true (p 458 17 22) (.loc 118 (p 458 23 28)) (p 458 17 29) (.cons (.asg (.loc 119 (p 459 8 12)) (.callU 20 (p 459 15 25) (.cons (.loc 110 (p 459 26 30)) (.cons (.callU 21 (p 459 32 41) (.cons (.loc 111 (p 459 42 46)) (.cons (.loc 115 (p 459 48 53)) .nil)) (p 459 32 54)) .nil)) (p 459 15 55)) (p 459 8 55))
 (.cons (.for (.loc 66 (p 460 12 15)) false (p 0 0 0) (.loc 120 (p 460 19 26)) (p 460 19 26) (.cons (.asg (.loc 119 (p 461 12 16)) (.callU 19 (p 461 19 23) (.cons (.loc 110 (p 461 24 28)) (.cons (.loc 119 (p 461 30 34)) (.cons (.sub (.loc 66 (p 461 36 39)) (.loc 115 (p 461 40 45)) (p 461 36 46)) .nil))) (p 461 19 47)) (p 461 12 47))
 .nil) ⟨460,8,461,47⟩)
 (.cons (.exp (.app (.loc 117 (p 462 8 14)) (.loc 119 (p 462 22 26)) (p 462 8 21) (p 462 8 27)) (p 462 8 27))
 .nil))) ⟨458,4,462,27⟩)
 (.cons (.ret (.frL 117 (p 463 11 17)) (p 463 4 17))
 .nil)))
noncomputable def f_resolve_bits : FI where
  name:=22
  pars:=[110,118,120,111]
  apos:=[(p 456 17 21),(p 456 23 28),(p 456 30 37),(p 456 39 43)]
  kinds:=[l 110,l 118,l 120,l 111,l 117,l 115,l 119,l 66,g 193,g 20,g 21,g 19]
  locs:=[110,118,120,111,117,115,119,66]
  gls:=[193,20,21,19]
  body:=b_resolve_bits
noncomputable def b_pair_code : SL:=(.cons (.iff (.cmp .Gt (.sub (.loc 119 (p 465 7 11)) (.cint 0 (p 465 12 13)) (p 465 7 14)) (.cint 0 (p 465 17 18)) (p 465 7 18)) (.cons (.ret (.glo 102 (p 466 15 18)) (p 466 8 18))
 .nil) .nil ⟨465,4,466,18⟩)
 (.cons (.iff (.cmp .Lt (.sub (.loc 119 (p 467 7 11)) (.cint 1 (p 467 12 13)) (p 467 7 14)) (.cint 0 (p 467 17 18)) (p 467 7 18)) (.cons (.ret (.glo 103 (p 468 15 19)) (p 468 8 19))
 .nil) .nil ⟨467,4,468,19⟩)
 (.cons (.iff (.bop .And (.cons (.cmp .Eq (.sub (.loc 119 (p 469 7 11)) (.cint 0 (p 469 12 13)) (p 469 7 14)) (.cint 0 (p 469 18 19)) (p 469 7 19)) (.cons (.cmp .Eq (.sub (.loc 119 (p 469 24 28)) (.cint 1 (p 469 29 30)) (p 469 24 31)) (.cint 0 (p 469 35 36)) (p 469 24 36)) .nil)) (p 469 7 36)) (.cons (.ret (.glo 101 (p 470 15 21)) (p 470 8 21))
 .nil) .nil ⟨469,4,470,21⟩)
 (.cons (.ret (.glo 116 (p 471 11 18)) (p 471 4 18))
 .nil))))
noncomputable def f_pair_code : FI where
  name:=23
  pars:=[119]
  apos:=[(p 464 14 18)]
  kinds:=[l 119,g 102,g 103,g 101,g 116]
  locs:=[119]
  gls:=[102,103,101,116]
  body:=b_pair_code
noncomputable def b_pairs_vec : SL:=(.cons (.ret (.callU 2 (p 473 11 21) (.cons (.comp false (.callU 23 (p 473 23 32) (.cons (.loc 119 (p 473 33 37)) .nil) (p 473 23 38)) 119 (p 473 43 47) false (p 0 0 0) (.loc 121 (p 473 51 56)) (p 473 51 56) 1 (p 473 22 57)) .nil) (p 473 11 58)) (p 473 4 58))
 .nil)
noncomputable def f_pairs_vec : FI where
  name:=24
  pars:=[121]
  apos:=[(p 472 14 19)]
  kinds:=[l 121,g 2]
  locs:=[121]
  gls:=[2]
  fast:=[121,119]
  body:=b_pairs_vec
noncomputable def b_opposite : SL:=(.cons (.iff (.cmp .Eq (.loc 90 (p 476 7 12)) (.glo 103 (p 476 16 20)) (p 476 7 20)) (.cons (.ret (.glo 102 (p 477 15 18)) (p 477 8 18))
 .nil) .nil ⟨476,4,477,18⟩)
 (.cons (.iff (.cmp .Eq (.loc 90 (p 478 7 12)) (.glo 102 (p 478 16 19)) (p 478 7 19)) (.cons (.ret (.glo 103 (p 479 15 19)) (p 479 8 19))
 .nil) .nil ⟨478,4,479,19⟩)
 (.cons (.ret (.glo 116 (p 480 11 18)) (p 480 4 18))
 .nil)))
noncomputable def f_opposite : FI where
  name:=25
  pars:=[90]
  apos:=[(p 475 13 18)]
  kinds:=[l 90,g 103,g 102,g 116]
  locs:=[90]
  gls:=[103,102,116]
  body:=b_opposite
noncomputable def b_and_codes : SL:=(.cons (.asg (.loc 117 (p 482 4 10)) (.glo 102 (p 482 13 16)) (p 482 4 16))
 (.cons (.for (.loc 90 (p 483 8 13)) false (p 0 0 0) (.loc 122 (p 483 17 22)) (p 483 17 22) (.cons (.iff (.cmp .Eq (.loc 90 (p 484 11 16)) (.glo 103 (p 484 20 24)) (p 484 11 24)) (.cons (.ret (.glo 103 (p 485 19 23)) (p 485 12 23))
 .nil) .nil ⟨484,8,485,23⟩)
 (.cons (.iff (.cmp .NotEq (.loc 90 (p 486 11 16)) (.glo 102 (p 486 20 23)) (p 486 11 23)) (.cons (.asg (.loc 117 (p 487 12 18)) (.glo 116 (p 487 21 28)) (p 487 12 28))
 .nil) .nil ⟨486,8,487,28⟩)
 .nil)) ⟨483,4,487,28⟩)
 (.cons (.ret (.loc 117 (p 488 11 17)) (p 488 4 17))
 .nil)))
noncomputable def f_and_codes : FI where
  name:=26
  pars:=[122]
  apos:=[(p 481 14 19)]
  kinds:=[l 122,l 117,l 90,g 102,g 103,g 116]
  locs:=[122,117,90]
  gls:=[102,103,116]
  body:=b_and_codes
noncomputable def b_or_codes : SL:=(.cons (.asg (.loc 117 (p 490 4 10)) (.glo 103 (p 490 13 17)) (p 490 4 17))
 (.cons (.for (.loc 90 (p 491 8 13)) false (p 0 0 0) (.loc 122 (p 491 17 22)) (p 491 17 22) (.cons (.iff (.cmp .Eq (.loc 90 (p 492 11 16)) (.glo 102 (p 492 20 23)) (p 492 11 23)) (.cons (.ret (.glo 102 (p 493 19 22)) (p 493 12 22))
 .nil) .nil ⟨492,8,493,22⟩)
 (.cons (.iff (.cmp .NotEq (.loc 90 (p 494 11 16)) (.glo 103 (p 494 20 24)) (p 494 11 24)) (.cons (.asg (.loc 117 (p 495 12 18)) (.glo 116 (p 495 21 28)) (p 495 12 28))
 .nil) .nil ⟨494,8,495,28⟩)
 .nil)) ⟨491,4,495,28⟩)
 (.cons (.ret (.loc 117 (p 496 11 17)) (p 496 4 17))
 .nil)))
noncomputable def f_or_codes : FI where
  name:=27
  pars:=[122]
  apos:=[(p 489 13 18)]
  kinds:=[l 122,l 117,l 90,g 103,g 102,g 116]
  locs:=[122,117,90]
  gls:=[103,102,116]
  body:=b_or_codes
noncomputable def b_xor_codes : SL:=(.cons (.asg (.loc 117 (p 498 4 10)) (.glo 103 (p 498 13 17)) (p 498 4 17))
 (.cons (.for (.loc 90 (p 499 8 13)) false (p 0 0 0) (.loc 122 (p 499 17 22)) (p 499 17 22) (.cons (.iff (.cmp .Gt (.loc 90 (p 500 11 16)) (.glo 102 (p 500 19 22)) (p 500 11 22)) (.cons (.ret (.glo 116 (p 501 19 26)) (p 501 12 26))
 .nil) .nil ⟨500,8,501,26⟩)
 (.cons (.asg (.loc 117 (p 502 8 14)) (.bin .BitXor (.loc 117 (p 502 17 23)) (.loc 90 (p 502 26 31)) (p 502 17 31)) (p 502 8 31))
 .nil)) ⟨499,4,502,31⟩)
 (.cons (.ret (.loc 117 (p 503 11 17)) (p 503 4 17))
 .nil)))
noncomputable def f_xor_codes : FI where
  name:=28
  pars:=[122]
  apos:=[(p 497 14 19)]
  kinds:=[l 122,l 117,l 90,g 103,g 102,g 116]
  locs:=[122,117,90]
  gls:=[103,102,116]
  body:=b_xor_codes
noncomputable def b_logic_gate : SL:=(.cons (.iff (.cmp .Eq (.loc 110 (p 505 7 11)) (.cstr [97,110,100] (p 505 15 20)) (p 505 7 20)) (.cons (.ret (.callU 26 (p 506 15 24) (.cons (.loc 122 (p 506 25 30)) .nil) (p 506 15 31)) (p 506 8 31))
 .nil) .nil ⟨505,4,506,31⟩)
 (.cons (.iff (.cmp .Eq (.loc 110 (p 507 7 11)) (.cstr [110,97,110,100] (p 507 15 21)) (p 507 7 21)) (.cons (.ret (.callU 25 (p 508 15 23) (.cons (.callU 26 (p 508 24 33) (.cons (.loc 122 (p 508 34 39)) .nil) (p 508 24 40)) .nil) (p 508 15 41)) (p 508 8 41))
 .nil) .nil ⟨507,4,508,41⟩)
 (.cons (.iff (.cmp .Eq (.loc 110 (p 509 7 11)) (.cstr [111,114] (p 509 15 19)) (p 509 7 19)) (.cons (.ret (.callU 27 (p 510 15 23) (.cons (.loc 122 (p 510 24 29)) .nil) (p 510 15 30)) (p 510 8 30))
 .nil) .nil ⟨509,4,510,30⟩)
 (.cons (.iff (.cmp .Eq (.loc 110 (p 511 7 11)) (.cstr [110,111,114] (p 511 15 20)) (p 511 7 20)) (.cons (.ret (.callU 25 (p 512 15 23) (.cons (.callU 27 (p 512 24 32) (.cons (.loc 122 (p 512 33 38)) .nil) (p 512 24 39)) .nil) (p 512 15 40)) (p 512 8 40))
 .nil) .nil ⟨511,4,512,40⟩)
 (.cons (.iff (.cmp .Eq (.loc 110 (p 513 7 11)) (.cstr [120,111,114] (p 513 15 20)) (p 513 7 20)) (.cons (.ret (.callU 28 (p 514 15 24) (.cons (.loc 122 (p 514 25 30)) .nil) (p 514 15 31)) (p 514 8 31))
 .nil) .nil ⟨513,4,514,31⟩)
 (.cons (.iff (.cmp .Eq (.loc 110 (p 515 7 11)) (.cstr [120,110,111,114] (p 515 15 21)) (p 515 7 21)) (.cons (.ret (.callU 25 (p 516 15 23) (.cons (.callU 28 (p 516 24 33) (.cons (.loc 122 (p 516 34 39)) .nil) (p 516 24 40)) .nil) (p 516 15 41)) (p 516 8 41))
 .nil) .nil ⟨515,4,516,41⟩)
 (.cons (.iff (.cmp .Eq (.loc 110 (p 517 7 11)) (.cstr [98,117,102] (p 517 15 20)) (p 517 7 20)) (.cons (.ret (.callU 25 (p 518 15 23) (.cons (.callU 25 (p 518 24 32) (.cons (.sub (.loc 122 (p 518 33 38)) (.cint 0 (p 518 39 40)) (p 518 33 41)) .nil) (p 518 24 42)) .nil) (p 518 15 43)) (p 518 8 43))
 .nil) .nil ⟨517,4,518,43⟩)
 (.cons (.iff (.cmp .Eq (.loc 110 (p 519 7 11)) (.cstr [110,111,116] (p 519 15 20)) (p 519 7 20)) (.cons (.ret (.callU 25 (p 520 15 23) (.cons (.sub (.loc 122 (p 520 24 29)) (.cint 0 (p 520 30 31)) (p 520 24 32)) .nil) (p 520 15 33)) (p 520 8 33))
 .nil) .nil ⟨519,4,520,33⟩)
 (.cons (.raw r_31)
 .nil)))))))))
noncomputable def f_logic_gate : FI where
  name:=29
  pars:=[110,122]
  apos:=[(p 504 15 19),(p 504 21 26)]
  kinds:=[l 110,l 122,g 26,g 25,g 27,g 28,g 214]
  locs:=[110,122]
  gls:=[26,25,27,28,214]
  body:=b_logic_gate
noncomputable def b_is_three_state : SL:=(.cons (.ret (.cmp .In (.loc 110 (p 523 11 15)) (.tup (.cons (.cstr [98,117,102,105,102,48] (p 523 20 28)) (.cons (.cstr [98,117,102,105,102,49] (p 523 30 38)) (.cons (.cstr [110,111,116,105,102,48] (p 523 40 48)) (.cons (.cstr [110,111,116,105,102,49] (p 523 50 58)) (.cons (.cstr [110,109,111,115] (p 523 60 66)) (.cons (.cstr [112,109,111,115] (p 523 68 74)) .nil)))))) (p 523 19 75)) (p 523 11 75)) (p 523 4 75))
 .nil)
noncomputable def f_is_three_state : FI where
  name:=30
  pars:=[110]
  apos:=[(p 522 19 23)]
  kinds:=[l 110]
  locs:=[110]
  body:=b_is_three_state
noncomputable def b_opening_code : SL:=(.cons (.iff (.cmp .In (.loc 110 (p 525 7 11)) (.tup (.cons (.cstr [98,117,102,105,102,48] (p 525 16 24)) (.cons (.cstr [110,111,116,105,102,48] (p 525 26 34)) (.cons (.cstr [112,109,111,115] (p 525 36 42)) .nil))) (p 525 15 43)) (p 525 7 43)) (.cons (.ret (.glo 103 (p 526 15 19)) (p 526 8 19))
 .nil) .nil ⟨525,4,526,19⟩)
 (.cons (.ret (.glo 102 (p 527 11 14)) (p 527 4 14))
 .nil))
noncomputable def f_opening_code : FI where
  name:=31
  pars:=[110]
  apos:=[(p 524 17 21)]
  kinds:=[l 110,g 103,g 102]
  locs:=[110]
  gls:=[103,102]
  body:=b_opening_code
noncomputable def b_passed_code : SL:=(.cons (.iff (.cmp .In (.loc 110 (p 529 7 11)) (.tup (.cons (.cstr [110,109,111,115] (p 529 16 22)) (.cons (.cstr [112,109,111,115] (p 529 24 30)) .nil)) (p 529 15 31)) (p 529 7 31)) (.cons (.ret (.loc 123 (p 530 15 19)) (p 530 8 19))
 .nil) .nil ⟨529,4,530,19⟩)
 (.cons (.iff (.cmp .In (.loc 110 (p 531 7 11)) (.tup (.cons (.cstr [110,111,116,105,102,48] (p 531 16 24)) (.cons (.cstr [110,111,116,105,102,49] (p 531 26 34)) .nil)) (p 531 15 35)) (p 531 7 35)) (.cons (.ret (.callU 25 (p 532 15 23) (.cons (.loc 123 (p 532 24 28)) .nil) (p 532 15 29)) (p 532 8 29))
 .nil) .nil ⟨531,4,532,29⟩)
 (.cons (.ret (.callU 25 (p 533 11 19) (.cons (.callU 25 (p 533 20 28) (.cons (.loc 123 (p 533 29 33)) .nil) (p 533 20 34)) .nil) (p 533 11 35)) (p 533 4 35))
 .nil)))
noncomputable def f_passed_code : FI where
  name:=32
  pars:=[110,123]
  apos:=[(p 528 16 20),(p 528 22 26)]
  kinds:=[l 110,l 123,g 25]
  locs:=[110,123]
  gls:=[25]
  body:=b_passed_code
noncomputable def b_three_state : SL:=(.cons (.asg (.loc 90 (p 535 4 9)) (.callU 32 (p 535 12 23) (.cons (.loc 110 (p 535 24 28)) (.cons (.loc 123 (p 535 30 34)) .nil)) (p 535 12 35)) (p 535 4 35))
 (.cons (.iff (.cmp .Eq (.loc 124 (p 536 7 14)) (.callU 31 (p 536 18 30) (.cons (.loc 110 (p 536 31 35)) .nil) (p 536 18 36)) (p 536 7 36)) (.cons (.ret (.callU 16 (p 537 15 24) (.cons (.loc 90 (p 537 25 30)) (.cons (.loc 99 (p 537 32 34)) (.cons (.loc 100 (p 537 36 38)) .nil))) (p 537 15 39)) (p 537 8 39))
 .nil) .nil ⟨536,4,537,39⟩)
 (.cons (.iff (.bop .Or (.cons (.cmp .Eq (.loc 124 (p 538 7 14)) (.glo 103 (p 538 18 22)) (p 538 7 22)) (.cons (.cmp .Eq (.loc 124 (p 538 26 33)) (.glo 102 (p 538 37 40)) (p 538 26 40)) (.cons (.cmp .Eq (.loc 90 (p 538 44 49)) (.glo 101 (p 538 53 59)) (p 538 44 59)) .nil))) (p 538 7 59)) (.cons (.ret (.tup (.cons (.cint 0 (p 539 16 17)) (.cons (.cint 0 (p 539 19 20)) .nil)) (p 539 15 21)) (p 539 8 21))
 .nil) .nil ⟨538,4,539,21⟩)
 (.cons (.iff (.cmp .Eq (.loc 90 (p 540 7 12)) (.glo 103 (p 540 16 20)) (p 540 7 20)) (.cons (.ret (.tup (.cons (.neg (.loc 99 (p 541 17 19)) (p 541 16 19)) (.cons (.cint 0 (p 541 21 22)) .nil)) (p 541 15 23)) (p 541 8 23))
 .nil) .nil ⟨540,4,541,23⟩)
 (.cons (.iff (.cmp .Eq (.loc 90 (p 542 7 12)) (.glo 102 (p 542 16 19)) (p 542 7 19)) (.cons (.ret (.tup (.cons (.cint 0 (p 543 16 17)) (.cons (.loc 100 (p 543 19 21)) .nil)) (p 543 15 22)) (p 543 8 22))
 .nil) .nil ⟨542,4,543,22⟩)
 (.cons (.ret (.tup (.cons (.neg (.loc 99 (p 544 13 15)) (p 544 12 15)) (.cons (.loc 100 (p 544 17 19)) .nil)) (p 544 11 20)) (p 544 4 20))
 .nil))))))
noncomputable def f_three_state : FI where
  name:=33
  pars:=[110,123,124,99,100]
  apos:=[(p 534 16 20),(p 534 22 26),(p 534 28 35),(p 534 37 39),(p 534 41 43)]
  kinds:=[l 110,l 123,l 124,l 99,l 100,l 90,g 32,g 31,g 16,g 103,g 102,g 101]
  locs:=[110,123,124,99,100,90]
  gls:=[32,31,16,103,102,101]
  body:=b_three_state
noncomputable def b_gate_pair : SL:=(.cons (.iff (.cmp .Eq (.loc 110 (p 546 7 11)) (.cstr [112,117,108,108,117,112] (p 546 15 23)) (p 546 7 23)) (.cons (.ret (.tup (.cons (.loc 100 (p 547 16 18)) (.cons (.loc 100 (p 547 20 22)) .nil)) (p 547 15 23)) (p 547 8 23))
 .nil) .nil ⟨546,4,547,23⟩)
 (.cons (.iff (.cmp .Eq (.loc 110 (p 548 7 11)) (.cstr [112,117,108,108,100,111,119,110] (p 548 15 25)) (p 548 7 25)) (.cons (.ret (.tup (.cons (.neg (.loc 99 (p 549 17 19)) (p 549 16 19)) (.cons (.neg (.loc 99 (p 549 22 24)) (p 549 21 24)) .nil)) (p 549 15 25)) (p 549 8 25))
 .nil) .nil ⟨548,4,549,25⟩)
 (.cons (.iff (.callU 30 (p 550 7 21) (.cons (.loc 110 (p 550 22 26)) .nil) (p 550 7 27)) (.cons (.ret (.callU 33 (p 551 15 26) (.cons (.loc 110 (p 551 27 31)) (.cons (.sub (.loc 122 (p 551 33 38)) (.cint 0 (p 551 39 40)) (p 551 33 41)) (.cons (.sub (.loc 122 (p 551 43 48)) (.cint 1 (p 551 49 50)) (p 551 43 51)) (.cons (.loc 99 (p 551 53 55)) (.cons (.loc 100 (p 551 57 59)) .nil))))) (p 551 15 60)) (p 551 8 60))
 .nil) .nil ⟨550,4,551,60⟩)
 (.cons (.ret (.callU 16 (p 552 11 20) (.cons (.callU 29 (p 552 21 31) (.cons (.loc 110 (p 552 32 36)) (.cons (.loc 122 (p 552 38 43)) .nil)) (p 552 21 44)) (.cons (.loc 99 (p 552 46 48)) (.cons (.loc 100 (p 552 50 52)) .nil))) (p 552 11 53)) (p 552 4 53))
 .nil))))
noncomputable def f_gate_pair : FI where
  name:=34
  pars:=[110,122,99,100]
  apos:=[(p 545 14 18),(p 545 20 25),(p 545 27 29),(p 545 31 33)]
  kinds:=[l 110,l 122,l 99,l 100,g 30,g 33,g 16,g 29]
  locs:=[110,122,99,100]
  gls:=[30,33,16,29]
  body:=b_gate_pair
noncomputable def b_level_codes : SL:=(.cons (.iff (.cmp .Eq (.loc 125 (p 555 7 13)) (.cstr [48] (p 555 17 20)) (p 555 7 20)) (.cons (.ret (.tup (.cons (.cint 0 (p 556 16 17)) .nil) (p 556 15 19)) (p 556 8 19))
 .nil) .nil ⟨555,4,556,19⟩)
 (.cons (.iff (.cmp .Eq (.loc 125 (p 557 7 13)) (.cstr [49] (p 557 17 20)) (p 557 7 20)) (.cons (.ret (.tup (.cons (.cint 1 (p 558 16 17)) .nil) (p 558 15 19)) (p 558 8 19))
 .nil) .nil ⟨557,4,558,19⟩)
 (.cons (.iff (.cmp .Eq (.loc 125 (p 559 7 13)) (.cstr [120] (p 559 17 20)) (p 559 7 20)) (.cons (.ret (.tup (.cons (.cint 3 (p 560 16 17)) .nil) (p 560 15 19)) (p 560 8 19))
 .nil) .nil ⟨559,4,560,19⟩)
 (.cons (.iff (.cmp .Eq (.loc 125 (p 561 7 13)) (.cstr [98] (p 561 17 20)) (p 561 7 20)) (.cons (.ret (.tup (.cons (.cint 0 (p 562 16 17)) (.cons (.cint 1 (p 562 19 20)) .nil)) (p 562 15 21)) (p 562 8 21))
 .nil) .nil ⟨561,4,562,21⟩)
 (.cons (.iff (.cmp .Eq (.loc 125 (p 563 7 13)) (.cstr [63] (p 563 17 20)) (p 563 7 20)) (.cons (.ret (.tup (.cons (.cint 0 (p 564 16 17)) (.cons (.cint 1 (p 564 19 20)) (.cons (.cint 3 (p 564 22 23)) .nil))) (p 564 15 24)) (p 564 8 24))
 .nil) .nil ⟨563,4,564,24⟩)
 (.cons (.ret (.tup .nil (p 565 11 13)) (p 565 4 13))
 .nil))))))
noncomputable def f_level_codes : FI where
  name:=35
  pars:=[125]
  apos:=[(p 554 16 22)]
  kinds:=[l 125]
  locs:=[125]
  body:=b_level_codes
noncomputable def b_is_edge : SL:=(.cons (.ret (.bop .Or (.cons (.cmp .Eq (.sub (.loc 125 (p 567 11 17)) (.cint 0 (p 567 18 19)) (p 567 11 20)) (.cstr [101,100,103,101] (p 567 24 30)) (p 567 11 30)) (.cons (.cmp .In (.loc 125 (p 567 34 40)) (.tup (.cons (.cstr [114] (p 567 45 48)) (.cons (.cstr [102] (p 567 50 53)) (.cons (.cstr [112] (p 567 55 58)) (.cons (.cstr [110] (p 567 60 63)) (.cons (.cstr [42] (p 567 65 68)) .nil))))) (p 567 44 69)) (p 567 34 69)) .nil)) (p 567 11 69)) (p 567 4 69))
 .nil)
noncomputable def f_is_edge : FI where
  name:=36
  pars:=[125]
  apos:=[(p 566 12 18)]
  kinds:=[l 125]
  locs:=[125]
  body:=b_is_edge
noncomputable def b_out_code : SL:=(.cons (.iff (.cmp .Eq (.loc 126 (p 589 7 10)) (.cstr [45] (p 589 14 17)) (p 589 7 17)) (.cons (.ret (.loc 127 (p 590 15 20)) (p 590 8 20))
 .nil) .nil ⟨589,4,590,20⟩)
 (.cons (.ret (.sub (.callU 35 (p 591 11 22) (.cons (.loc 126 (p 591 23 26)) .nil) (p 591 11 27)) (.cint 0 (p 591 28 29)) (p 591 11 30)) (p 591 4 30))
 .nil))
noncomputable def f_out_code : FI where
  name:=37
  pars:=[126,127]
  apos:=[(p 588 13 16),(p 588 18 23)]
  kinds:=[l 126,l 127,g 35]
  locs:=[126,127]
  gls:=[35]
  body:=b_out_code
noncomputable def b_plain : SL:=(.cons (.iff (.cmp .Eq (.loc 1 (p 593 7 11)) (.cint 2 (p 593 15 16)) (p 593 7 16)) (.cons (.ret (.cint 3 (p 594 15 16)) (p 594 8 16))
 .nil) .nil ⟨593,4,594,16⟩)
 (.cons (.ret (.loc 1 (p 595 11 15)) (p 595 4 15))
 .nil))
noncomputable def f_plain : FI where
  name:=38
  pars:=[1]
  apos:=[(p 592 10 14)]
  kinds:=[l 1]
  locs:=[1]
  body:=b_plain
noncomputable def b_levels_match : SL:=(.cons (.for (.loc 65 (p 597 8 9)) true (p 597 13 18) (.callB .len 67 (p 597 19 22) (.cons (.loc 128 (p 597 23 26)) .nil) (p 597 19 27)) (p 597 13 28) (.cons (.iff (.cmp .Eq (.loc 65 (p 598 11 12)) (.loc 129 (p 598 16 20)) (p 598 11 20)) (.cons (.raw r_32)
 .nil) .nil ⟨598,8,599,20⟩)
 (.cons (.iff (.bop .Or (.cons (.callU 36 (p 600 11 18) (.cons (.sub (.loc 128 (p 600 19 22)) (.loc 65 (p 600 23 24)) (p 600 19 25)) .nil) (p 600 11 26)) (.cons (.cmp .NotIn (.sub (.loc 122 (p 600 30 35)) (.loc 65 (p 600 36 37)) (p 600 30 38)) (.callU 35 (p 600 46 57) (.cons (.sub (.loc 128 (p 600 58 61)) (.loc 65 (p 600 62 63)) (p 600 58 64)) .nil) (p 600 46 65)) (p 600 30 65)) .nil)) (p 600 11 65)) (.cons (.ret (.cbool false (p 601 19 24)) (p 601 12 24))
 .nil) .nil ⟨600,8,601,24⟩)
 .nil)) ⟨597,4,601,24⟩)
 (.cons (.ret (.cbool true (p 602 11 15)) (p 602 4 15))
 .nil))
noncomputable def f_levels_match : FI where
  name:=39
  pars:=[128,122,129]
  apos:=[(p 596 17 20),(p 596 22 27),(p 596 29 33)]
  kinds:=[l 128,l 122,l 129,l 65,g 193,g 67,g 36,g 35]
  locs:=[128,122,129,65]
  gls:=[193,67,36,35]
  body:=b_levels_match
noncomputable def b_next_level : SL:=(.cons (.asg (.loc 131 (p 604 4 7)) (.comp false (.callU 38 (p 604 11 16) (.cons (.loc 1 (p 604 17 21)) .nil) (p 604 11 22)) 1 (p 604 27 31) false (p 0 0 0) (.loc 122 (p 604 35 40)) (p 604 35 40) 2 (p 604 10 41)) (p 604 4 41))
 (.cons (.for (.tup [(false,128,(p 605 8 11)),(false,127,(p 605 13 18)),(false,126,(p 605 20 23))] (p 605 8 23)) false (p 0 0 0) (.att (.loc 104 (p 605 27 28)) 130 (p 605 27 33)) (p 605 27 33) (.cons (.iff (.callU 39 (p 606 11 23) (.cons (.loc 128 (p 606 24 27)) (.cons (.loc 131 (p 606 29 32)) (.cons (.neg (.cint 1 (p 606 35 36)) (p 606 34 36)) .nil))) (p 606 11 37)) (.cons (.ret (.callU 37 (p 607 19 27) (.cons (.loc 126 (p 607 28 31)) (.cons (.cint 3 (p 607 33 34)) .nil)) (p 607 19 35)) (p 607 12 35))
 .nil) .nil ⟨606,8,607,35⟩)
 .nil) ⟨605,4,607,35⟩)
 (.cons (.ret (.cint 3 (p 608 11 12)) (p 608 4 12))
 .nil)))
noncomputable def f_next_level : FI where
  name:=40
  pars:=[104,122]
  apos:=[(p 603 15 16),(p 603 18 23)]
  kinds:=[l 104,l 122,l 131,l 128,l 127,l 126,g 39,g 37]
  locs:=[104,122,131,128,127,126]
  gls:=[39,37]
  fast:=[104,122,1,131,128,127,126]
  body:=b_next_level
noncomputable def b_Element___init__ : SL:=(.cons (.asg (.att (.loc 132 (p 632 8 12)) 139 (p 632 8 19)) (.loc 139 (p 632 22 28)) (p 632 8 28))
 (.cons (.asg (.att (.loc 132 (p 633 8 12)) 110 (p 633 8 17)) (.loc 110 (p 633 20 24)) (p 633 8 24))
 (.cons (.asg (.att (.loc 132 (p 634 8 12)) 138 (p 634 8 23)) (.loc 138 (p 634 26 36)) (p 634 8 36))
 (.cons (.asg (.att (.loc 132 (p 635 8 12)) 137 (p 635 8 21)) (.loc 137 (p 635 24 32)) (p 635 8 32))
 (.cons (.asg (.att (.loc 132 (p 636 8 12)) 121 (p 636 8 18)) (.cnone (p 636 21 25)) (p 636 8 25))
 (.cons (.asg (.att (.loc 132 (p 637 8 12)) 136 (p 637 8 20)) (.cnone (p 637 23 27)) (p 637 8 27))
 (.cons (.asg (.att (.loc 132 (p 638 8 12)) 135 (p 638 8 18)) (.cint 0 (p 638 21 22)) (p 638 8 22))
 (.cons (.asg (.att (.loc 132 (p 639 8 12)) 134 (p 639 8 16)) (.cbool false (p 639 19 24)) (p 639 8 24))
 (.cons (.asg (.att (.loc 132 (p 640 8 12)) 127 (p 640 8 18)) (.cint 3 (p 640 21 22)) (p 640 8 22))
 (.cons (.asg (.att (.loc 132 (p 641 8 12)) 133 (p 641 8 19)) (.lst false .nil (p 641 22 24)) (p 641 8 24))
 .nil))))))))))
noncomputable def f_Element___init__ : FI where
  name:=59
  pars:=[132,139,110,138,137]
  apos:=[(p 631 17 21),(p 631 23 29),(p 631 31 35),(p 631 37 47),(p 631 49 57)]
  kinds:=[l 132,l 139,l 110,l 138,l 137]
  locs:=[132,139,110,138,137]
  body:=b_Element___init__
noncomputable def b_primitive_code : SL:=(.cons (.asg (.loc 140 (p 643 4 13)) (.att (.att (.loc 142 (p 643 16 23)) 138 (p 643 16 34)) 140 (p 643 16 44)) (p 643 4 44))
 (.cons (.iff (.not (.att (.loc 140 (p 644 11 20)) 141 (p 644 11 31)) (p 644 7 31)) (.cons (.ret (.callU 40 (p 645 15 25) (.cons (.loc 140 (p 645 26 35)) (.cons (.loc 133 (p 645 37 43)) .nil)) (p 645 15 44)) (p 645 8 44))
 .nil) .nil ⟨644,4,645,44⟩)
 (.cons (.raw r_35)
 (.cons (.raw r_34)
 (.cons (.raw r_33)
 .nil)))))
noncomputable def f_primitive_code : FI where
  name:=41
  pars:=[142,133]
  apos:=[(p 642 19 26),(p 642 28 34)]
  kinds:=[l 142,l 133,l 140,g 40,g 223]
  locs:=[142,133,140]
  gls:=[40,223]
  body:=b_primitive_code
noncomputable def b_element_pairs : SL:=(.cons (.asg (.tup [(false,99,(p 650 4 6)),(false,100,(p 650 8 10))] (p 650 4 10)) (.att (.loc 142 (p 650 13 20)) 137 (p 650 13 29)) (p 650 4 29))
 (.cons (.iff (.cmp .Eq (.att (.loc 142 (p 651 7 14)) 110 (p 651 7 19)) (.cstr [97,115,115,105,103,110] (p 651 23 31)) (p 651 7 31)) (.cons (.ret (.callU 17 (p 652 15 20) (.cons (.callU 15 (p 652 21 29) (.cons (.att (.att (.loc 142 (p 652 30 37)) 138 (p 652 30 48)) 90 (p 652 30 54)) (.cons (.cel 94 (p 652 56 59)) .nil)) (p 652 21 60)) (.cons (.loc 99 (p 652 62 64)) (.cons (.loc 100 (p 652 66 68)) .nil))) (p 652 15 69)) (p 652 8 69))
 .nil) .nil ⟨651,4,652,69⟩)
 (.cons (.asg (.loc 133 (p 653 4 10)) (.comp false (.callU 1 (p 653 14 18) (.cons (.callU 15 (p 653 19 27) (.cons (.loc 93 (p 653 28 29)) (.cons (.cel 94 (p 653 31 34)) .nil)) (p 653 19 35)) (.cons (.cint 0 (p 653 37 38)) .nil)) (p 653 14 39)) 93 (p 653 44 45) false (p 0 0 0) (.att (.att (.loc 142 (p 653 49 56)) 138 (p 653 49 67)) 128 (p 653 49 71)) (p 653 49 71) 3 (p 653 13 72)) (p 653 4 72))
 (.cons (.iff (.cmp .Eq (.att (.loc 142 (p 654 7 14)) 110 (p 654 7 19)) (.cstr [103,97,116,101] (p 654 23 29)) (p 654 7 29)) (.cons (.ret (.lst false (.cons (.callU 34 (p 655 16 25) (.cons (.att (.att (.loc 142 (p 655 26 33)) 138 (p 655 26 44)) 110 (p 655 26 49)) (.cons (.loc 133 (p 655 51 57)) (.cons (.loc 99 (p 655 59 61)) (.cons (.loc 100 (p 655 63 65)) .nil)))) (p 655 16 66)) .nil) (p 655 15 67)) (p 655 8 67))
 .nil) .nil ⟨654,4,655,67⟩)
 (.cons (.ret (.lst false (.cons (.callU 16 (p 656 12 21) (.cons (.callU 41 (p 656 22 36) (.cons (.loc 142 (p 656 37 44)) (.cons (.loc 133 (p 656 46 52)) .nil)) (p 656 22 53)) (.cons (.loc 99 (p 656 55 57)) (.cons (.loc 100 (p 656 59 61)) .nil))) (p 656 12 62)) .nil) (p 656 11 63)) (p 656 4 63))
 .nil)))))
noncomputable def f_element_pairs : FI where
  name:=42
  pars:=[142,94]
  apos:=[(p 649 18 25),(p 649 27 30)]
  kinds:=[l 142,(94,.cell),l 99,l 100,l 133,g 17,g 15,g 34,g 16,g 41]
  locs:=[142,99,100,133]
  cels:=[94]
  gls:=[17,15,34,16,41]
  fast:=[142,94,99,100,93,133]
  body:=b_element_pairs
noncomputable def b_Thread___init__ : SL:=(.cons (.asg (.att (.loc 132 (p 661 8 12)) 139 (p 661 8 19)) (.loc 139 (p 661 22 28)) (p 661 8 28))
 (.cons (.asg (.att (.loc 132 (p 662 8 12)) 1 (p 662 8 17)) (.loc 1 (p 662 20 24)) (p 662 8 24))
 (.cons (.asg (.att (.loc 132 (p 663 8 12)) 153 (p 663 8 15)) (.loc 153 (p 663 18 20)) (p 663 8 20))
 (.cons (.asg (.att (.loc 132 (p 664 8 12)) 152 (p 664 8 18)) (.loc 152 (p 664 21 26)) (p 664 8 26))
 (.cons (.asg (.att (.loc 132 (p 665 8 12)) 151 (p 665 8 17)) (.loc 151 (p 665 20 24)) (p 665 8 24))
 (.cons (.asg (.att (.loc 132 (p 666 8 12)) 150 (p 666 8 18)) (.lst false .nil (p 666 21 23)) (p 666 8 23))
 (.cons (.asg (.att (.loc 132 (p 667 8 12)) 149 (p 667 8 19)) (.lst false .nil (p 667 22 24)) (p 667 8 24))
 (.cons (.asg (.att (.loc 132 (p 668 8 12)) 148 (p 668 8 19)) (.neg (.cint 1 (p 668 23 24)) (p 668 22 24)) (p 668 8 24))
 (.cons (.asg (.att (.loc 132 (p 669 8 12)) 147 (p 669 8 21)) (.dic [] .nil (p 669 24 26)) (p 669 8 26))
 (.cons (.asg (.att (.loc 132 (p 670 8 12)) 146 (p 670 8 17)) (.cbool false (p 670 20 25)) (p 670 8 25))
 (.cons (.asg (.att (.loc 132 (p 671 8 12)) 145 (p 671 8 17)) (.cnone (p 671 20 24)) (p 671 8 24))
 (.cons (.asg (.att (.loc 132 (p 672 8 12)) 135 (p 672 8 18)) (.cint 0 (p 672 21 22)) (p 672 8 22))
 (.cons (.asg (.att (.loc 132 (p 673 8 12)) 144 (p 673 8 20)) (.cbool false (p 673 23 28)) (p 673 8 28))
 (.cons (.asg (.att (.loc 132 (p 674 8 12)) 143 (p 674 8 18)) (.cbool false (p 674 21 26)) (p 674 8 26))
 .nil))))))))))))))
noncomputable def f_Thread___init__ : FI where
  name:=59
  pars:=[132,139,1,153,152,151]
  apos:=[(p 660 17 21),(p 660 23 29),(p 660 31 35),(p 660 37 39),(p 660 41 46),(p 660 48 52)]
  kinds:=[l 132,l 139,l 1,l 153,l 152,l 151]
  locs:=[132,139,1,153,152,151]
  body:=b_Thread___init__
noncomputable def b__law_bag : SL:=(.cons (.asg (.loc 154 (p 677 4 7)) (.lst true (.cons (.cint 0 (p 677 11 12)) (.cons (.cint 1 (p 677 14 15)) .nil)) (p 677 10 16)) (p 677 4 16))
 (.cons (.for (.loc 157 (p 678 8 12)) false (p 0 0 0) (.slc (.callB .list 156 (p 678 16 20) (.cons (.loc 155 (p 678 21 27)) .nil) (p 678 16 28)) .no (.yes (.cint 20 (p 678 30 32))) (p 678 29 32) (p 678 16 33)) (p 678 16 33) (.cons (.exp (.app (.loc 154 (p 679 8 11)) (.callB .int 158 (p 679 19 22) (.cons (.loc 157 (p 679 23 27)) .nil) (p 679 19 28)) (p 679 8 18) (p 679 8 29)) (p 679 8 29))
 (.cons (.asg (.sub (.loc 154 (p 680 8 11)) (.cint 1 (p 680 12 13)) (p 680 8 14)) (.bin .Mod (.bin .Add (.bin .Add (.bin .Mult (.sub (.loc 154 (p 680 18 21)) (.cint 1 (p 680 22 23)) (p 680 18 24)) (.cint 31 (p 680 27 29)) (p 680 18 29)) (.bin .Mod (.callB .int 158 (p 680 32 35) (.cons (.loc 157 (p 680 36 40)) .nil) (p 680 32 41)) (.cint 9973 (p 680 44 48)) (p 680 32 48)) (p 680 18 48)) (.cint 1 (p 680 51 52)) (p 680 18 52)) (.cint 1000003 (p 680 56 63)) (p 680 17 63)) (p 680 8 63))
 .nil)) ⟨678,4,680,63⟩)
 (.cons (.ret (.loc 154 (p 681 11 14)) (p 681 4 14))
 .nil)))
noncomputable def f__law_bag : FI where
  name:=43
  pars:=[155]
  apos:=[(p 676 13 19)]
  kinds:=[l 155,l 154,l 157,g 156,g 158]
  locs:=[155,154,157]
  gls:=[156,158]
  body:=b__law_bag
noncomputable def b__law_pull : SL:=(.cons (.iff (.cmp .Eq (.sub (.loc 154 (p 683 7 10)) (.cint 0 (p 683 11 12)) (p 683 7 13)) (.cint 0 (p 683 17 18)) (p 683 7 18)) (.cons (.iff (.cmp .Gt (.callB .len 67 (p 684 11 14) (.cons (.loc 154 (p 684 15 18)) .nil) (p 684 11 19)) (.cint 2 (p 684 22 23)) (p 684 11 23)) (.cons (.asg (.loc 157 (p 685 12 16)) (.pop (.loc 154 (p 685 19 22)) (.cint 2 (p 685 27 28)) (p 685 19 26) (p 685 19 29)) (p 685 12 29))
 (.cons (.asg (.sub (.loc 154 (p 686 12 15)) (.cint 0 (p 686 16 17)) (p 686 12 18)) (.ite (.cmp .GtE (.loc 157 (p 686 33 37)) (.cint 0 (p 686 41 42)) (p 686 33 42)) (.bin .Mult (.cint 2 (p 686 21 22)) (.loc 157 (p 686 25 29)) (p 686 21 29)) (.bin .Sub (.bin .Mult (.neg (.cint 2 (p 686 49 50)) (p 686 48 50)) (.loc 157 (p 686 53 57)) (p 686 48 57)) (.cint 1 (p 686 60 61)) (p 686 48 61)) (p 686 21 61)) (p 686 12 61))
 .nil)) (.cons (.asg (.sub (.loc 154 (p 688 12 15)) (.cint 1 (p 688 16 17)) (p 688 12 18)) (.bin .Mod (.bin .Add (.bin .Mult (.sub (.loc 154 (p 688 22 25)) (.cint 1 (p 688 26 27)) (p 688 22 28)) (.cint 69069 (p 688 31 36)) (p 688 22 36)) (.cint 12345 (p 688 39 44)) (p 688 22 44)) (.cint 4294967296 (p 688 48 58)) (p 688 21 58)) (p 688 12 58))
 (.cons (.asg (.sub (.loc 154 (p 689 12 15)) (.cint 0 (p 689 16 17)) (p 689 12 18)) (.bin .FloorDiv (.sub (.loc 154 (p 689 21 24)) (.cint 1 (p 689 25 26)) (p 689 21 27)) (.cint 16 (p 689 31 33)) (p 689 21 33)) (p 689 12 33))
 .nil)) ⟨684,8,689,33⟩)
 .nil) .nil ⟨683,4,689,33⟩)
 (.cons (.asg (.loc 159 (p 690 4 7)) (.bin .Mod (.callB .int 158 (p 690 10 13) (.cons (.sub (.loc 154 (p 690 14 17)) (.cint 0 (p 690 18 19)) (p 690 14 20)) .nil) (p 690 10 21)) (.loc 160 (p 690 24 28)) (p 690 10 28)) (p 690 4 28))
 (.cons (.asg (.sub (.loc 154 (p 691 4 7)) (.cint 0 (p 691 8 9)) (p 691 4 10)) (.bin .FloorDiv (.sub (.loc 154 (p 691 13 16)) (.cint 0 (p 691 17 18)) (p 691 13 19)) (.loc 160 (p 691 23 27)) (p 691 13 27)) (p 691 4 27))
 (.cons (.ret (.loc 159 (p 692 11 14)) (p 692 4 14))
 .nil))))
noncomputable def f__law_pull : FI where
  name:=44
  pars:=[154,160]
  apos:=[(p 682 14 17),(p 682 19 23)]
  kinds:=[l 154,l 160,l 157,l 159,g 67,g 158]
  locs:=[154,160,157,159]
  gls:=[67,158]
  body:=b__law_pull
noncomputable def b__law_signal : SL:=(.cons (.ret (.tup (.cons (.cstr [115,105,103] (p 694 12 17)) (.cons (.cint 2 (p 694 19 20)) (.cons (.callU 44 (p 694 22 31) (.cons (.loc 154 (p 694 32 35)) (.cons (.cint 3 (p 694 37 38)) .nil)) (p 694 22 39)) .nil))) (p 694 11 40)) (p 694 4 40))
 .nil)
noncomputable def f__law_signal : FI where
  name:=45
  pars:=[154]
  apos:=[(p 693 16 19)]
  kinds:=[l 154,g 44]
  locs:=[154]
  gls:=[44]
  body:=b__law_signal
noncomputable def b__law_term : SL:=(.cons (.asg (.loc 162 (p 696 4 8)) (.callU 44 (p 696 11 20) (.cons (.loc 154 (p 696 21 24)) (.cons (.cint 5 (p 696 26 27)) .nil)) (p 696 11 28)) (p 696 4 28))
 (.cons (.iff (.cmp .Eq (.loc 162 (p 697 7 11)) (.cint 0 (p 697 15 16)) (p 697 7 16)) (.cons (.ret (.tup (.cons (.cstr [99,111,110,115,116] (p 698 16 23)) (.cons (.cint 2 (p 698 25 26)) (.cons (.callU 44 (p 698 28 37) (.cons (.loc 154 (p 698 38 41)) (.cons (.cint 4 (p 698 43 44)) .nil)) (p 698 28 45)) (.cons (.callU 44 (p 698 47 56) (.cons (.loc 154 (p 698 57 60)) (.cons (.cint 4 (p 698 62 63)) .nil)) (p 698 47 64)) .nil)))) (p 698 15 65)) (p 698 8 65))
 .nil) .nil ⟨697,4,698,65⟩)
 (.cons (.iff (.cmp .Lt (.loc 162 (p 699 7 11)) (.cint 3 (p 699 14 15)) (p 699 7 15)) (.cons (.ret (.callU 45 (p 700 15 26) (.cons (.loc 154 (p 700 27 30)) .nil) (p 700 15 31)) (p 700 8 31))
 .nil) .nil ⟨699,4,700,31⟩)
 (.cons (.iff (.cmp .Eq (.loc 162 (p 701 7 11)) (.cint 3 (p 701 15 16)) (p 701 7 16)) (.cons (.asg (.loc 92 (p 702 8 17)) (.callU 45 (p 702 20 31) (.cons (.loc 154 (p 702 32 35)) .nil) (p 702 20 36)) (p 702 8 36))
 (.cons (.asg (.loc 71 (p 703 8 13)) (.callU 45 (p 703 16 27) (.cons (.loc 154 (p 703 28 31)) .nil) (p 703 16 32)) (p 703 8 32))
 (.cons (.ret (.tup (.cons (.cstr [99,111,110,100] (p 704 16 22)) (.cons (.cint 2 (p 704 24 25)) (.cons (.loc 92 (p 704 27 36)) (.cons (.loc 71 (p 704 38 43)) (.cons (.callU 45 (p 704 45 56) (.cons (.loc 154 (p 704 57 60)) .nil) (p 704 45 61)) .nil))))) (p 704 15 62)) (p 704 8 62))
 .nil))) .nil ⟨701,4,704,62⟩)
 (.cons (.asg (.loc 161 (p 705 4 8)) (.sub (.tup (.cons (.cstr [38] (p 705 12 15)) (.cons (.cstr [124] (p 705 17 20)) (.cons (.cstr [94] (p 705 22 25)) .nil))) (p 705 11 26)) (.callU 44 (p 705 27 36) (.cons (.loc 154 (p 705 37 40)) (.cons (.cint 3 (p 705 42 43)) .nil)) (p 705 27 44)) (p 705 11 45)) (p 705 4 45))
 (.cons (.asg (.loc 71 (p 706 4 9)) (.callU 45 (p 706 12 23) (.cons (.loc 154 (p 706 24 27)) .nil) (p 706 12 28)) (p 706 4 28))
 (.cons (.ret (.tup (.cons (.cstr [98,105,110] (p 707 12 17)) (.cons (.cint 2 (p 707 19 20)) (.cons (.loc 161 (p 707 22 26)) (.cons (.loc 71 (p 707 28 33)) (.cons (.callU 45 (p 707 35 46) (.cons (.loc 154 (p 707 47 50)) .nil) (p 707 35 51)) (.cons (.cbool false (p 707 53 58)) .nil)))))) (p 707 11 59)) (p 707 4 59))
 .nil)))))))
noncomputable def f__law_term : FI where
  name:=46
  pars:=[154]
  apos:=[(p 695 14 17)]
  kinds:=[l 154,l 162,l 92,l 71,l 161,g 44,g 45]
  locs:=[154,162,92,71,161]
  gls:=[44,45]
  body:=b__law_term
noncomputable def b__law_input : SL:=(.cons (.asg (.loc 93 (p 709 4 5)) (.callU 46 (p 709 8 17) (.cons (.loc 154 (p 709 18 21)) .nil) (p 709 8 22)) (p 709 4 22))
 (.cons (.iff (.cmp .Eq (.callU 44 (p 710 7 16) (.cons (.loc 154 (p 710 17 20)) (.cons (.cint 2 (p 710 22 23)) .nil)) (p 710 7 24)) (.cint 0 (p 710 28 29)) (p 710 7 29)) (.cons (.ret (.tup (.cons (.cstr [115,108,105,99,101] (p 711 16 23)) (.cons (.cint 1 (p 711 25 26)) (.cons (.loc 93 (p 711 28 29)) (.cons (.callU 44 (p 711 31 40) (.cons (.loc 154 (p 711 41 44)) (.cons (.cint 2 (p 711 46 47)) .nil)) (p 711 31 48)) .nil)))) (p 711 15 49)) (p 711 8 49))
 .nil) .nil ⟨710,4,711,49⟩)
 (.cons (.ret (.loc 93 (p 712 11 12)) (p 712 4 12))
 .nil)))
noncomputable def f__law_input : FI where
  name:=47
  pars:=[154]
  apos:=[(p 708 15 18)]
  kinds:=[l 154,l 93,g 46,g 44]
  locs:=[154,93]
  gls:=[46,44]
  body:=b__law_input
noncomputable def b__law_thing : SL:=(.cons (.ret (.callU 62 (p 714 11 17) (.cons (.cint 0 (p 714 18 19)) (.cons (.lst false .nil (p 714 21 23)) (.cons (.cint 0 (p 714 25 26)) (.cons (.lst false .nil (p 714 28 30)) (.cons (.cstr [116,104,105,110,103] (p 714 32 39)) .nil))))) (p 714 11 40)) (p 714 4 40))
 .nil)
noncomputable def f__law_thing : FI where
  name:=48
  pars:=[]
  apos:=[]
  kinds:=[g 62]
  locs:=[]
  gls:=[62]
  body:=b__law_thing
noncomputable def b__law_element : SL:=(.cons (.asg (.loc 163 (p 716 4 9)) (.callU 48 (p 716 12 22) .nil (p 716 12 24)) (p 716 4 24))
 (.cons (.asg (.att (.loc 163 (p 717 4 9)) 169 (p 717 4 14)) (.callU 44 (p 717 17 26) (.cons (.cel 154 (p 717 27 30)) (.cons (.loc 168 (p 717 32 36)) .nil)) (p 717 17 37)) (p 717 4 37))
 (.cons (.asg (.loc 162 (p 718 4 8)) (.callU 44 (p 718 11 20) (.cons (.cel 154 (p 718 21 24)) (.cons (.cint 6 (p 718 26 27)) .nil)) (p 718 11 28)) (p 718 4 28))
 (.cons (.iff (.cmp .Lt (.loc 162 (p 719 7 11)) (.cint 2 (p 719 14 15)) (p 719 7 15)) (.cons (.asg (.att (.loc 163 (p 720 8 13)) 90 (p 720 8 19)) (.tup (.cons (.cstr [115,108,105,99,101] (p 720 23 30)) (.cons (.loc 168 (p 720 32 36)) (.cons (.callU 46 (p 720 38 47) (.cons (.cel 154 (p 720 48 51)) .nil) (p 720 38 52)) (.cons (.cint 0 (p 720 54 55)) .nil)))) (p 720 22 56)) (p 720 8 56))
 (.cons (.ret (.frz (.callU 61 (p 721 15 22) (.cons (.loc 139 (p 721 23 29)) (.cons (.cstr [97,115,115,105,103,110] (p 721 31 39)) (.cons (.frL 163 (p 721 41 46)) (.cons (.tup (.cons (.callU 44 (p 721 49 58) (.cons (.cel 154 (p 721 59 62)) (.cons (.cint 8 (p 721 64 65)) .nil)) (p 721 49 66)) (.cons (.callU 44 (p 721 68 77) (.cons (.cel 154 (p 721 78 81)) (.cons (.cint 8 (p 721 83 84)) .nil)) (p 721 68 85)) .nil)) (p 721 48 86)) .nil)))) (p 721 15 87))) (p 721 8 87))
 .nil)) .nil ⟨719,4,721,87⟩)
 (.cons (.iff (.cmp .Eq (.loc 162 (p 722 7 11)) (.cint 2 (p 722 15 16)) (p 722 7 16)) (.cons (.asg (.loc 130 (p 723 8 12)) (.lst true .nil (p 723 15 17)) (p 723 8 17))
 (.cons (.for (.loc 164 (p 724 12 16)) true (p 724 20 25) (.callU 44 (p 724 26 35) (.cons (.cel 154 (p 724 36 39)) (.cons (.cint 5 (p 724 41 42)) .nil)) (p 724 26 43)) (p 724 20 44) (.cons (.asg (.loc 128 (p 725 12 15)) (.lst false (.cons (.sub (.cstr [48,49,120,63,98] (p 725 19 26)) (.callU 44 (p 725 27 36) (.cons (.cel 154 (p 725 37 40)) (.cons (.cint 5 (p 725 42 43)) .nil)) (p 725 27 44)) (p 725 19 45)) (.cons (.sub (.cstr [48,49,120,63,98] (p 725 47 54)) (.callU 44 (p 725 55 64) (.cons (.cel 154 (p 725 65 68)) (.cons (.cint 5 (p 725 70 71)) .nil)) (p 725 55 72)) (p 725 47 73)) .nil)) (p 725 18 74)) (p 725 12 74))
 (.cons (.exp (.app (.loc 130 (p 726 12 16)) (.tup (.cons (.loc 128 (p 726 25 28)) (.cons (.cnone (p 726 30 34)) (.cons (.sub (.cstr [48,49,120] (p 726 36 41)) (.callU 44 (p 726 42 51) (.cons (.cel 154 (p 726 52 55)) (.cons (.cint 3 (p 726 57 58)) .nil)) (p 726 42 59)) (p 726 36 60)) .nil))) (p 726 24 61)) (p 726 12 23) (p 726 12 62)) (p 726 12 62))
 .nil)) ⟨724,8,726,62⟩)
 (.cons (.asg (.att (.loc 163 (p 727 8 13)) 140 (p 727 8 23)) (.callU 48 (p 727 26 36) .nil (p 727 26 38)) (p 727 8 38))
 (.cons (.asg (.att (.att (.loc 163 (p 728 8 13)) 140 (p 728 8 23)) 141 (p 728 8 34)) (.cbool false (p 728 37 42)) (p 728 8 42))
 (.cons (.asg (.att (.att (.loc 163 (p 729 8 13)) 140 (p 729 8 23)) 130 (p 729 8 28)) (.frL 130 (p 729 31 35)) (p 729 8 35))
 (.cons (.asg (.att (.loc 163 (p 730 8 13)) 128 (p 730 8 17)) (.tup (.cons (.callU 47 (p 730 21 31) (.cons (.cel 154 (p 730 32 35)) .nil) (p 730 21 36)) (.cons (.callU 47 (p 730 38 48) (.cons (.cel 154 (p 730 49 52)) .nil) (p 730 38 53)) .nil)) (p 730 20 54)) (p 730 8 54))
 (.cons (.ret (.frz (.callU 61 (p 731 15 22) (.cons (.loc 139 (p 731 23 29)) (.cons (.cstr [117,100,112] (p 731 31 36)) (.cons (.frL 163 (p 731 38 43)) (.cons (.tup (.cons (.cint 6 (p 731 46 47)) (.cons (.cint 6 (p 731 49 50)) .nil)) (p 731 45 51)) .nil)))) (p 731 15 52))) (p 731 8 52))
 .nil))))))) .nil ⟨722,4,731,52⟩)
 (.cons (.asg (.loc 167 (p 732 4 9)) (.tup (.cons (.cstr [97,110,100] (p 732 13 18)) (.cons (.cstr [110,97,110,100] (p 732 20 26)) (.cons (.cstr [111,114] (p 732 28 32)) (.cons (.cstr [110,111,114] (p 732 34 39)) (.cons (.cstr [120,111,114] (p 732 41 46)) (.cons (.cstr [120,110,111,114] (p 732 48 54)) (.cons (.cstr [98,117,102] (p 732 56 61)) (.cons (.cstr [110,111,116] (p 732 63 68)) (.cons (.cstr [98,117,102,105,102,48] (p 732 70 78)) (.cons (.cstr [98,117,102,105,102,49] (p 732 80 88)) (.cons (.cstr [110,111,116,105,102,48] (p 732 90 98)) (.cons (.cstr [110,111,116,105,102,49] (p 732 100 108)) (.cons (.cstr [110,109,111,115] (p 732 110 116)) (.cons (.cstr [112,109,111,115] (p 732 118 124)) (.cons (.cstr [112,117,108,108,117,112] (p 732 126 134)) (.cons (.cstr [112,117,108,108,100,111,119,110] (p 732 136 146)) .nil)))))))))))))))) (p 732 12 147)) (p 732 4 147))
 (.cons (.asg (.loc 166 (p 733 4 9)) (.callU 44 (p 733 12 21) (.cons (.cel 154 (p 733 22 25)) (.cons (.cint 16 (p 733 27 29)) .nil)) (p 733 12 30)) (p 733 4 30))
 (.cons (.asg (.att (.loc 163 (p 734 4 9)) 110 (p 734 4 14)) (.sub (.loc 167 (p 734 17 22)) (.loc 166 (p 734 23 28)) (p 734 17 29)) (p 734 4 29))
 (.cons (.asg (.loc 160 (p 735 4 8)) (.ite (.cmp .Gt (.loc 166 (p 735 16 21)) (.cint 13 (p 735 24 26)) (p 735 16 26)) (.cint 0 (p 735 11 12)) (.cint 2 (p 735 32 33)) (p 735 11 33)) (p 735 4 33))
 (.cons (.iff (.cmp .In (.loc 166 (p 736 7 12)) (.tup (.cons (.cint 6 (p 736 17 18)) (.cons (.cint 7 (p 736 20 21)) .nil)) (p 736 16 22)) (p 736 7 22)) (.cons (.asg (.loc 160 (p 737 8 12)) (.cint 1 (p 737 15 16)) (p 737 8 16))
 .nil) .nil ⟨736,4,737,16⟩)
 (.cons (.iff (.cmp .Lt (.loc 166 (p 738 7 12)) (.cint 6 (p 738 15 16)) (p 738 7 16)) (.cons (.asg (.loc 160 (p 739 8 12)) (.bin .Add (.cint 2 (p 739 15 16)) (.callU 44 (p 739 19 28) (.cons (.cel 154 (p 739 29 32)) (.cons (.cint 2 (p 739 34 35)) .nil)) (p 739 19 36)) (p 739 15 36)) (p 739 8 36))
 .nil) .nil ⟨738,4,739,36⟩)
 (.cons (.asg (.att (.loc 163 (p 740 4 9)) 128 (p 740 4 13)) (.callB .tuple 165 (p 740 16 21) (.cons (.comp false (.callU 47 (p 740 23 33) (.cons (.cel 154 (p 740 34 37)) .nil) (p 740 23 38)) 164 (p 740 43 47) true (p 740 51 56) (.loc 160 (p 740 57 61)) (p 740 51 62) 4 (p 740 22 63)) .nil) (p 740 16 64)) (p 740 4 64))
 (.cons (.ret (.frz (.callU 61 (p 741 11 18) (.cons (.loc 139 (p 741 19 25)) (.cons (.cstr [103,97,116,101] (p 741 27 33)) (.cons (.frL 163 (p 741 35 40)) (.cons (.tup (.cons (.callU 44 (p 741 43 52) (.cons (.cel 154 (p 741 53 56)) (.cons (.cint 8 (p 741 58 59)) .nil)) (p 741 43 60)) (.cons (.callU 44 (p 741 62 71) (.cons (.cel 154 (p 741 72 75)) (.cons (.cint 8 (p 741 77 78)) .nil)) (p 741 62 79)) .nil)) (p 741 42 80)) .nil)))) (p 741 11 81))) (p 741 4 81))
 .nil)))))))))))))
noncomputable def f__law_element : FI where
  name:=49
  pars:=[154,139,168]
  apos:=[(p 715 17 20),(p 715 22 28),(p 715 30 34)]
  kinds:=[(154,.cell),l 139,l 168,l 163,l 162,l 130,l 164,l 128,l 167,l 166,l 160,g 48,g 44,g 46,g 61,g 193,g 47,g 165]
  locs:=[139,168,163,162,130,164,128,167,166,160]
  cels:=[154]
  gls:=[48,44,46,61,193,47,165]
  fast:=[154,139,168,163,162,130,164,128,167,166,160]
  body:=b__law_element
noncomputable def b__law_row : SL:=(.cons (.iff (.cmp .Eq (.sub (.cel 93 (p 743 7 8)) (.cint 0 (p 743 9 10)) (p 743 7 11)) (.cstr [99,111,110,115,116] (p 743 15 22)) (p 743 7 22)) (.cons (.ret (.comp false (.bin .Add (.bin .Mod (.callB .int 158 (p 744 16 19) (.cons (.bin .RShift (.sub (.cel 93 (p 744 20 21)) (.cint 2 (p 744 22 23)) (p 744 20 24)) (.loc 65 (p 744 28 29)) (p 744 20 29)) .nil) (p 744 16 30)) (.cint 2 (p 744 33 34)) (p 744 16 34)) (.bin .Mult (.cint 2 (p 744 37 38)) (.bin .Mod (.callB .int 158 (p 744 42 45) (.cons (.bin .RShift (.sub (.cel 93 (p 744 46 47)) (.cint 3 (p 744 48 49)) (p 744 46 50)) (.loc 65 (p 744 54 55)) (p 744 46 55)) .nil) (p 744 42 56)) (.cint 2 (p 744 59 60)) (p 744 42 60)) (p 744 37 61)) (p 744 16 61)) 65 (p 744 66 67) true (p 744 71 76) (.cint 2 (p 744 77 78)) (p 744 71 79) 6 (p 744 15 80)) (p 744 8 80))
 .nil) .nil ⟨743,4,744,80⟩)
 (.cons (.iff (.cmp .Eq (.sub (.cel 93 (p 745 7 8)) (.cint 0 (p 745 9 10)) (p 745 7 11)) (.cstr [115,105,103] (p 745 15 20)) (p 745 7 20)) (.cons (.ret (.callB .list 156 (p 746 15 19) (.cons (.sub (.loc 172 (p 746 20 24)) (.sub (.cel 93 (p 746 25 26)) (.cint 2 (p 746 27 28)) (p 746 25 29)) (p 746 20 30)) .nil) (p 746 15 31)) (p 746 8 31))
 .nil) .nil ⟨745,4,746,31⟩)
 (.cons (.iff (.cmp .Eq (.sub (.cel 93 (p 747 7 8)) (.cint 0 (p 747 9 10)) (p 747 7 11)) (.cstr [115,108,105,99,101] (p 747 15 22)) (p 747 7 22)) (.cons (.ret (.slc (.callU 50 (p 748 15 23) (.cons (.sub (.cel 93 (p 748 24 25)) (.cint 2 (p 748 26 27)) (p 748 24 28)) (.cons (.loc 172 (p 748 30 34)) .nil)) (p 748 15 35)) (.yes (.sub (.cel 93 (p 748 36 37)) (.cint 3 (p 748 38 39)) (p 748 36 40))) (.yes (.bin .Add (.sub (.cel 93 (p 748 41 42)) (.cint 3 (p 748 43 44)) (p 748 41 45)) (.sub (.cel 93 (p 748 48 49)) (.cint 1 (p 748 50 51)) (p 748 48 52)) (p 748 41 52))) (p 748 36 52) (p 748 15 53)) (p 748 8 53))
 .nil) .nil ⟨747,4,748,53⟩)
 (.cons (.iff (.cmp .Eq (.sub (.cel 93 (p 749 7 8)) (.cint 0 (p 749 9 10)) (p 749 7 11)) (.cstr [99,111,110,100] (p 749 15 21)) (p 749 7 21)) (.cons (.asg (.loc 95 (p 750 8 13)) (.callU 50 (p 750 16 24) (.cons (.sub (.cel 93 (p 750 25 26)) (.cint 2 (p 750 27 28)) (p 750 25 29)) (.cons (.loc 172 (p 750 31 35)) .nil)) (p 750 16 36)) (p 750 8 36))
 (.cons (.asg (.cel 71 (p 751 8 13)) (.callU 50 (p 751 16 24) (.cons (.sub (.cel 93 (p 751 25 26)) (.cint 3 (p 751 27 28)) (p 751 25 29)) (.cons (.loc 172 (p 751 31 35)) .nil)) (p 751 16 36)) (p 751 8 36))
 (.cons (.asg (.cel 171 (p 752 8 14)) (.callU 50 (p 752 17 25) (.cons (.sub (.cel 93 (p 752 26 27)) (.cint 4 (p 752 28 29)) (p 752 26 30)) (.cons (.loc 172 (p 752 32 36)) .nil)) (p 752 17 37)) (p 752 8 37))
 (.cons (.iff (.cmp .In (.cint 1 (p 753 11 12)) (.loc 95 (p 753 16 21)) (p 753 11 21)) (.cons (.ret (.cel 71 (p 754 19 24)) (p 754 12 24))
 .nil) .nil ⟨753,8,754,24⟩)
 (.cons (.iff (.cmp .Eq (.loc 95 (p 755 11 16)) (.lst false (.cons (.cint 0 (p 755 21 22)) (.cons (.cint 0 (p 755 24 25)) .nil)) (p 755 20 26)) (p 755 11 26)) (.cons (.ret (.cel 171 (p 756 19 25)) (p 756 12 25))
 .nil) .nil ⟨755,8,756,25⟩)
 (.cons (.ret (.comp false (.ite (.bop .And (.cons (.cmp .Eq (.sub (.cel 71 (p 757 28 33)) (.loc 65 (p 757 34 35)) (p 757 28 36)) (.sub (.cel 171 (p 757 40 46)) (.loc 65 (p 757 47 48)) (p 757 40 49)) (p 757 28 49)) (.cons (.cmp .Lt (.sub (.cel 71 (p 757 54 59)) (.loc 65 (p 757 60 61)) (p 757 54 62)) (.cint 2 (p 757 65 66)) (p 757 54 66)) .nil)) (p 757 28 66)) (.sub (.cel 71 (p 757 16 21)) (.loc 65 (p 757 22 23)) (p 757 16 24)) (.cint 3 (p 757 72 73)) (p 757 16 73)) 65 (p 757 78 79) true (p 757 83 88) (.cint 2 (p 757 89 90)) (p 757 83 91) 5 (p 757 15 92)) (p 757 8 92))
 .nil)))))) .nil ⟨749,4,757,92⟩)
 (.cons (.asg (.cel 71 (p 758 4 9)) (.callU 50 (p 758 12 20) (.cons (.sub (.cel 93 (p 758 21 22)) (.cint 3 (p 758 23 24)) (p 758 21 25)) (.cons (.loc 172 (p 758 27 31)) .nil)) (p 758 12 32)) (p 758 4 32))
 (.cons (.asg (.cel 171 (p 759 4 10)) (.callU 50 (p 759 13 21) (.cons (.sub (.cel 93 (p 759 22 23)) (.cint 4 (p 759 24 25)) (p 759 22 26)) (.cons (.loc 172 (p 759 28 32)) .nil)) (p 759 13 33)) (p 759 4 33))
 (.cons (.asg (.loc 88 (p 760 4 9)) (.lst true .nil (p 760 12 14)) (p 760 4 14))
 (.cons (.for (.loc 65 (p 761 8 9)) true (p 761 13 18) (.cint 2 (p 761 19 20)) (p 761 13 21) (.cons (.asg (.loc 170 (p 762 8 12)) (.lst true .nil (p 762 15 17)) (p 762 8 17))
 (.cons (.for (.loc 68 (p 763 12 13)) false (p 0 0 0) (.callU 51 (p 763 17 28) (.cons (.sub (.cel 71 (p 763 29 34)) (.loc 65 (p 763 35 36)) (p 763 29 37)) .nil) (p 763 17 38)) (p 763 17 38) (.cons (.for (.loc 69 (p 764 16 17)) false (p 0 0 0) (.callU 51 (p 764 21 32) (.cons (.sub (.cel 171 (p 764 33 39)) (.loc 65 (p 764 40 41)) (p 764 33 42)) .nil) (p 764 21 43)) (p 764 21 43) (.cons (.exp (.app (.loc 170 (p 765 16 20)) (.ite (.cmp .Eq (.sub (.cel 93 (p 765 37 38)) (.cint 2 (p 765 39 40)) (p 765 37 41)) (.cstr [38] (p 765 45 48)) (p 765 37 48)) (.bin .BitAnd (.loc 68 (p 765 28 29)) (.loc 69 (p 765 32 33)) (p 765 28 33)) (.ite (.cmp .Eq (.sub (.cel 93 (p 765 63 64)) (.cint 2 (p 765 65 66)) (p 765 63 67)) (.cstr [124] (p 765 71 74)) (p 765 63 74)) (.bin .BitOr (.loc 68 (p 765 54 55)) (.loc 69 (p 765 58 59)) (p 765 54 59)) (.bin .BitXor (.loc 68 (p 765 80 81)) (.loc 69 (p 765 84 85)) (p 765 80 85)) (p 765 54 85)) (p 765 28 85)) (p 765 16 27) (p 765 16 86)) (p 765 16 86))
 .nil) ⟨764,12,765,86⟩)
 .nil) ⟨763,8,765,86⟩)
 (.cons (.exp (.app (.loc 88 (p 766 8 13)) (.ite (.cmp .Eq (.callB .min1 76 (p 766 32 35) (.cons (.frL 170 (p 766 36 40)) .nil) (p 766 32 41)) (.callB .max1 77 (p 766 45 48) (.cons (.frL 170 (p 766 49 53)) .nil) (p 766 45 54)) (p 766 32 54)) (.sub (.loc 170 (p 766 21 25)) (.cint 0 (p 766 26 27)) (p 766 21 28)) (.cint 3 (p 766 60 61)) (p 766 21 61)) (p 766 8 20) (p 766 8 62)) (p 766 8 62))
 .nil))) ⟨761,4,766,62⟩)
 (.cons (.ret (.frL 88 (p 767 11 16)) (p 767 4 16))
 .nil)))))))))
noncomputable def f__law_row : FI where
  name:=50
  pars:=[93,172]
  apos:=[(p 742 13 14),(p 742 16 20)]
  kinds:=[(93,.cell),l 172,l 65,l 95,(71,.cell),(171,.cell),l 88,l 170,l 68,l 69,g 193,g 156,g 50,g 51,g 76,g 77]
  locs:=[172,65,95,88,170,68,69]
  cels:=[93,71,171]
  gls:=[193,156,50,51,76,77]
  fast:=[93,172,65,95,71,171,88,170,68,69]
  body:=b__law_row
noncomputable def b__law_either : SL:=(.cons (.ret (.ite (.cmp .Lt (.loc 173 (p 769 20 23)) (.cint 2 (p 769 26 27)) (p 769 20 27)) (.lst false (.cons (.loc 173 (p 769 12 15)) .nil) (p 769 11 16)) (.lst false (.cons (.cint 0 (p 769 34 35)) (.cons (.cint 1 (p 769 37 38)) .nil)) (p 769 33 39)) (p 769 11 39)) (p 769 4 39))
 .nil)
noncomputable def f__law_either : FI where
  name:=51
  pars:=[173]
  apos:=[(p 768 16 19)]
  kinds:=[l 173]
  locs:=[173]
  body:=b__law_either
noncomputable def b__law_gate : SL:=(.cons (.asg (.loc 174 (p 771 4 8)) (.lst false (.cons (.lst false .nil (p 771 12 14)) .nil) (p 771 11 15)) (p 771 4 15))
 (.cons (.for (.cel 173 (p 772 8 11)) false (p 0 0 0) (.loc 128 (p 772 15 18)) (p 772 15 18) (.cons (.asg (.loc 174 (p 773 8 12)) (.comp2 (.bin .Add (.loc 175 (p 773 16 19)) (.lst false (.cons (.loc 176 (p 773 23 26)) .nil) (p 773 22 27)) (p 773 16 27)) 175 (p 773 32 35) (.loc 174 (p 773 39 43)) 176 (p 773 48 51) (.callU 51 (p 773 55 66) (.cons (.cel 173 (p 773 67 70)) .nil) (p 773 55 71)) 7 (p 773 15 72)) (p 773 8 72))
 .nil) ⟨772,4,773,72⟩)
 (.cons (.asg (.loc 170 (p 774 4 8)) (.lst true .nil (p 774 11 13)) (p 774 4 13))
 (.cons (.for (.loc 175 (p 775 8 11)) false (p 0 0 0) (.loc 174 (p 775 15 19)) (p 775 15 19) (.cons (.iff (.cmp .In (.loc 110 (p 776 11 15)) (.tup (.cons (.cstr [97,110,100] (p 776 20 25)) (.cons (.cstr [110,97,110,100] (p 776 27 33)) .nil)) (p 776 19 34)) (p 776 11 34)) (.cons (.asg (.loc 176 (p 777 12 15)) (.callB .min1 76 (p 777 18 21) (.cons (.loc 175 (p 777 22 25)) .nil) (p 777 18 26)) (p 777 12 26))
 .nil) (.cons (.iff (.cmp .In (.loc 110 (p 778 13 17)) (.tup (.cons (.cstr [111,114] (p 778 22 26)) (.cons (.cstr [110,111,114] (p 778 28 33)) .nil)) (p 778 21 34)) (p 778 13 34)) (.cons (.asg (.loc 176 (p 779 12 15)) (.callB .max1 77 (p 779 18 21) (.cons (.loc 175 (p 779 22 25)) .nil) (p 779 18 26)) (p 779 12 26))
 .nil) (.cons (.asg (.loc 176 (p 781 12 15)) (.bin .Mod (.callB .int 158 (p 781 18 21) (.cons (.callB .sum 177 (p 781 22 25) (.cons (.loc 175 (p 781 26 29)) .nil) (p 781 22 30)) .nil) (p 781 18 31)) (.cint 2 (p 781 34 35)) (p 781 18 35)) (p 781 12 35))
 .nil) ⟨778,8,781,35⟩)
 .nil) ⟨776,8,781,35⟩)
 (.cons (.exp (.app (.loc 170 (p 782 8 12)) (.ite (.cmp .In (.loc 110 (p 782 31 35)) (.tup (.cons (.cstr [110,97,110,100] (p 782 40 46)) (.cons (.cstr [110,111,114] (p 782 48 53)) (.cons (.cstr [120,110,111,114] (p 782 55 61)) (.cons (.cstr [110,111,116] (p 782 63 68)) .nil)))) (p 782 39 69)) (p 782 31 69)) (.bin .Sub (.cint 1 (p 782 20 21)) (.loc 176 (p 782 24 27)) (p 782 20 27)) (.loc 176 (p 782 75 78)) (p 782 20 78)) (p 782 8 19) (p 782 8 79)) (p 782 8 79))
 .nil)) ⟨775,4,782,79⟩)
 (.cons (.ret (.frL 170 (p 783 11 15)) (p 783 4 15))
 .nil)))))
noncomputable def f__law_gate : FI where
  name:=52
  pars:=[110,128]
  apos:=[(p 770 14 18),(p 770 20 23)]
  kinds:=[l 110,l 128,l 174,(173,.cell),l 175,l 176,l 170,g 76,g 77,g 158,g 177]
  locs:=[110,128,174,175,176,170]
  cels:=[173]
  gls:=[76,77,158,177]
  fast:=[110,128,174,173,175,176,170]
  body:=b__law_gate
noncomputable def b__law_table : SL:=(.cons (.asg (.loc 179 (p 785 4 9)) (.dic [([48],(p 785 13 16)),([49],(p 785 23 26)),([120],(p 785 33 36)),([63],(p 785 46 49)),([98],(p 785 65 68))] (.cons (.lst false (.cons (.cint 0 (p 785 19 20)) .nil) (p 785 18 21)) (.cons (.lst false (.cons (.cint 1 (p 785 29 30)) .nil) (p 785 28 31)) (.cons (.lst false (.cons (.cint 3 (p 785 39 40)) (.cons (.cint 2 (p 785 42 43)) .nil)) (p 785 38 44)) (.cons (.lst false (.cons (.cint 0 (p 785 52 53)) (.cons (.cint 1 (p 785 55 56)) (.cons (.cint 2 (p 785 58 59)) (.cons (.cint 3 (p 785 61 62)) .nil)))) (p 785 51 63)) (.cons (.lst false (.cons (.cint 0 (p 785 71 72)) (.cons (.cint 1 (p 785 74 75)) .nil)) (p 785 70 76)) .nil))))) (p 785 12 77)) (p 785 4 77))
 (.cons (.for (.tup [(false,178,(p 786 8 13)),(false,127,(p 786 15 20)),(false,126,(p 786 22 25))] (p 786 8 25)) false (p 0 0 0) (.loc 130 (p 786 29 33)) (p 786 29 33) (.cons (.iff (.bop .And (.cons (.cmp .In (.sub (.loc 128 (p 787 11 14)) (.cint 0 (p 787 15 16)) (p 787 11 17)) (.sub (.loc 179 (p 787 21 26)) (.sub (.loc 178 (p 787 27 32)) (.cint 0 (p 787 33 34)) (p 787 27 35)) (p 787 21 36)) (p 787 11 36)) (.cons (.cmp .In (.sub (.loc 128 (p 787 41 44)) (.cint 1 (p 787 45 46)) (p 787 41 47)) (.sub (.loc 179 (p 787 51 56)) (.sub (.loc 178 (p 787 57 62)) (.cint 1 (p 787 63 64)) (p 787 57 65)) (p 787 51 66)) (p 787 41 66)) .nil)) (p 787 11 66)) (.cons (.ret (.ite (.cmp .Eq (.loc 126 (p 788 29 32)) (.cstr [120] (p 788 36 39)) (p 788 29 39)) (.lst false (.cons (.cint 0 (p 788 20 21)) (.cons (.cint 1 (p 788 23 24)) .nil)) (p 788 19 25)) (.lst false (.cons (.callB .int 158 (p 788 46 49) (.cons (.cmp .Eq (.loc 126 (p 788 50 53)) (.cstr [49] (p 788 57 60)) (p 788 50 60)) .nil) (p 788 46 61)) .nil) (p 788 45 62)) (p 788 19 62)) (p 788 12 62))
 .nil) .nil ⟨787,8,788,62⟩)
 .nil) ⟨786,4,788,62⟩)
 (.cons (.ret (.lst false (.cons (.cint 0 (p 789 12 13)) (.cons (.cint 1 (p 789 15 16)) .nil)) (p 789 11 17)) (p 789 4 17))
 .nil)))
noncomputable def f__law_table : FI where
  name:=53
  pars:=[130,128]
  apos:=[(p 784 15 19),(p 784 21 24)]
  kinds:=[l 130,l 128,l 179,l 178,l 127,l 126,g 158]
  locs:=[130,128,179,178,127,126]
  gls:=[158]
  body:=b__law_table
noncomputable def b__law_levels : SL:=(.cons (.asg (.tup [(true,181,(p 791 4 8)),(true,180,(p 791 10 16))] (p 791 4 16)) (.att (.loc 142 (p 791 19 26)) 137 (p 791 19 35)) (p 791 4 35))
 (.cons (.asg (.loc 163 (p 792 4 9)) (.att (.loc 142 (p 792 12 19)) 138 (p 792 12 30)) (p 792 4 30))
 (.cons (.iff (.cmp .Eq (.att (.loc 142 (p 793 7 14)) 110 (p 793 7 19)) (.cstr [97,115,115,105,103,110] (p 793 23 31)) (p 793 7 31)) (.cons (.asg (.loc 88 (p 794 8 13)) (.lst true .nil (p 794 16 18)) (p 794 8 18))
 (.cons (.for (.loc 173 (p 795 12 15)) false (p 0 0 0) (.callU 50 (p 795 19 27) (.cons (.att (.loc 163 (p 795 28 33)) 90 (p 795 28 39)) (.cons (.cel 172 (p 795 41 45)) .nil)) (p 795 19 46)) (p 795 19 46) (.cons (.exp (.app (.loc 88 (p 796 12 17)) (.ite (.cmp .Eq (.loc 173 (p 796 32 35)) (.cint 2 (p 796 39 40)) (p 796 32 40)) (.lst false (.cons (.cint 0 (p 796 26 27)) .nil) (p 796 25 28)) (.comp false (.ite (.cmp .Eq (.loc 176 (p 796 57 60)) (.cint 1 (p 796 64 65)) (p 796 57 65)) (.cel 180 (p 796 47 53)) (.bin .Sub (.cint 0 (p 796 71 72)) (.cel 181 (p 796 75 79)) (p 796 71 79)) (p 796 47 79)) 176 (p 796 84 87) false (p 0 0 0) (.callU 51 (p 796 91 102) (.cons (.loc 173 (p 796 103 106)) .nil) (p 796 91 107)) (p 796 91 107) 11 (p 796 46 108)) (p 796 25 108)) (p 796 12 24) (p 796 12 109)) (p 796 12 109))
 .nil) ⟨795,8,796,109⟩)
 (.cons (.ret (.frL 88 (p 797 15 20)) (p 797 8 20))
 .nil))) .nil ⟨793,4,797,20⟩)
 (.cons (.asg (.loc 128 (p 798 4 7)) (.comp false (.sub (.callU 50 (p 798 11 19) (.cons (.loc 93 (p 798 20 21)) (.cons (.cel 172 (p 798 23 27)) .nil)) (p 798 11 28)) (.cint 0 (p 798 29 30)) (p 798 11 31)) 93 (p 798 36 37) false (p 0 0 0) (.att (.loc 163 (p 798 41 46)) 128 (p 798 41 50)) (p 798 41 50) 10 (p 798 10 51)) (p 798 4 51))
 (.cons (.iff (.cmp .Eq (.att (.loc 142 (p 799 7 14)) 110 (p 799 7 19)) (.cstr [117,100,112] (p 799 23 28)) (p 799 7 28)) (.cons (.ret (.lst false (.cons (.comp false (.ite (.cmp .Eq (.loc 176 (p 800 27 30)) (.cint 1 (p 800 34 35)) (p 800 27 35)) (.cel 180 (p 800 17 23)) (.bin .Sub (.cint 0 (p 800 41 42)) (.cel 181 (p 800 45 49)) (p 800 41 49)) (p 800 17 49)) 176 (p 800 54 57) false (p 0 0 0) (.callU 53 (p 800 61 71) (.cons (.att (.att (.loc 163 (p 800 72 77)) 140 (p 800 72 87)) 130 (p 800 72 92)) (.cons (.loc 128 (p 800 94 97)) .nil)) (p 800 61 98)) (p 800 61 98) 9 (p 800 16 99)) .nil) (p 800 15 100)) (p 800 8 100))
 .nil) .nil ⟨799,4,800,100⟩)
 (.cons (.iff (.cmp .Eq (.att (.loc 163 (p 801 7 12)) 110 (p 801 7 17)) (.cstr [112,117,108,108,117,112] (p 801 21 29)) (p 801 7 29)) (.cons (.ret (.lst false (.cons (.lst false (.cons (.cel 180 (p 802 17 23)) .nil) (p 802 16 24)) .nil) (p 802 15 25)) (p 802 8 25))
 .nil) .nil ⟨801,4,802,25⟩)
 (.cons (.iff (.cmp .Eq (.att (.loc 163 (p 803 7 12)) 110 (p 803 7 17)) (.cstr [112,117,108,108,100,111,119,110] (p 803 21 31)) (p 803 7 31)) (.cons (.ret (.lst false (.cons (.lst false (.cons (.bin .Sub (.cint 0 (p 804 17 18)) (.cel 181 (p 804 21 25)) (p 804 17 25)) .nil) (p 804 16 26)) .nil) (p 804 15 27)) (p 804 8 27))
 .nil) .nil ⟨803,4,804,27⟩)
 (.cons (.iff (.cmp .In (.att (.loc 163 (p 805 7 12)) 110 (p 805 7 17)) (.tup (.cons (.cstr [98,117,102,105,102,48] (p 805 22 30)) (.cons (.cstr [98,117,102,105,102,49] (p 805 32 40)) (.cons (.cstr [110,111,116,105,102,48] (p 805 42 50)) (.cons (.cstr [110,111,116,105,102,49] (p 805 52 60)) (.cons (.cstr [110,109,111,115] (p 805 62 68)) (.cons (.cstr [112,109,111,115] (p 805 70 76)) .nil)))))) (p 805 21 77)) (p 805 7 77)) (.cons (.asg (.loc 170 (p 806 8 12)) (.lst true .nil (p 806 15 17)) (p 806 8 17))
 (.cons (.for (.loc 124 (p 807 12 19)) false (p 0 0 0) (.callU 51 (p 807 23 34) (.cons (.sub (.loc 128 (p 807 35 38)) (.cint 1 (p 807 39 40)) (p 807 35 41)) .nil) (p 807 23 42)) (p 807 23 42) (.cons (.iff (.cmp .NotEq (.loc 124 (p 808 15 22)) (.ite (.cmp .In (.att (.loc 163 (p 808 32 37)) 110 (p 808 32 42)) (.tup (.cons (.cstr [98,117,102,105,102,48] (p 808 47 55)) (.cons (.cstr [110,111,116,105,102,48] (p 808 57 65)) (.cons (.cstr [112,109,111,115] (p 808 67 73)) .nil))) (p 808 46 74)) (p 808 32 74)) (.cint 0 (p 808 27 28)) (.cint 1 (p 808 80 81)) (p 808 27 81)) (p 808 15 82)) (.cons (.exp (.app (.loc 170 (p 809 16 20)) (.cint 0 (p 809 28 29)) (p 809 16 27) (p 809 16 30)) (p 809 16 30))
 .nil) (.cons (.iff (.bop .And (.cons (.cmp .Eq (.sub (.loc 128 (p 810 17 20)) (.cint 0 (p 810 21 22)) (p 810 17 23)) (.cint 2 (p 810 27 28)) (p 810 17 28)) (.cons (.cmp .In (.att (.loc 163 (p 810 33 38)) 110 (p 810 33 43)) (.tup (.cons (.cstr [110,109,111,115] (p 810 48 54)) (.cons (.cstr [112,109,111,115] (p 810 56 62)) .nil)) (p 810 47 63)) (p 810 33 63)) .nil)) (p 810 17 63)) (.cons (.exp (.app (.loc 170 (p 811 16 20)) (.cint 0 (p 811 28 29)) (p 811 16 27) (p 811 16 30)) (p 811 16 30))
 .nil) (.cons (.for (.loc 176 (p 813 20 23)) false (p 0 0 0) (.callU 51 (p 813 27 38) (.cons (.sub (.loc 128 (p 813 39 42)) (.cint 0 (p 813 43 44)) (p 813 39 45)) .nil) (p 813 27 46)) (p 813 27 46) (.cons (.asg (.loc 182 (p 814 20 22)) (.cmp .Eq (.loc 176 (p 814 25 28)) (.ite (.cmp .In (.att (.loc 163 (p 814 38 43)) 110 (p 814 38 48)) (.tup (.cons (.cstr [110,111,116,105,102,48] (p 814 53 61)) (.cons (.cstr [110,111,116,105,102,49] (p 814 63 71)) .nil)) (p 814 52 72)) (p 814 38 72)) (.cint 0 (p 814 33 34)) (.cint 1 (p 814 78 79)) (p 814 33 79)) (p 814 25 80)) (p 814 20 80))
 (.cons (.exp (.app (.loc 170 (p 815 20 24)) (.ite (.loc 182 (p 815 42 44)) (.cel 180 (p 815 32 38)) (.bin .Sub (.cint 0 (p 815 50 51)) (.cel 181 (p 815 54 58)) (p 815 50 58)) (p 815 32 58)) (p 815 20 31) (p 815 20 59)) (p 815 20 59))
 .nil)) ⟨813,16,815,59⟩)
 .nil) ⟨810,12,815,59⟩)
 .nil) ⟨808,12,815,59⟩)
 .nil) ⟨807,8,815,59⟩)
 (.cons (.ret (.lst false (.cons (.frL 170 (p 816 16 20)) .nil) (p 816 15 21)) (p 816 8 21))
 .nil))) .nil ⟨805,4,816,21⟩)
 (.cons (.ret (.lst false (.cons (.comp false (.ite (.cmp .Eq (.loc 176 (p 817 23 26)) (.cint 1 (p 817 30 31)) (p 817 23 31)) (.cel 180 (p 817 13 19)) (.bin .Sub (.cint 0 (p 817 37 38)) (.cel 181 (p 817 41 45)) (p 817 37 45)) (p 817 13 45)) 176 (p 817 50 53) false (p 0 0 0) (.callU 52 (p 817 57 66) (.cons (.att (.loc 163 (p 817 67 72)) 110 (p 817 67 77)) (.cons (.loc 128 (p 817 79 82)) .nil)) (p 817 57 83)) (p 817 57 83) 8 (p 817 12 84)) .nil) (p 817 11 85)) (p 817 4 85))
 .nil)))))))))
noncomputable def f__law_levels : FI where
  name:=54
  pars:=[142,172]
  apos:=[(p 790 16 23),(p 790 25 29)]
  kinds:=[l 142,(172,.cell),(181,.cell),(180,.cell),l 163,l 88,l 173,l 176,l 128,l 170,l 124,l 182,g 50,g 51,g 53,g 52]
  locs:=[142,163,88,173,176,128,170,124,182]
  cels:=[172,181,180]
  gls:=[50,51,53,52]
  fast:=[142,172,181,180,163,88,173,176,93,128,170,124,182]
  body:=b__law_levels
noncomputable def b__law_rest : SL:=(.cons (.iff (.cmp .Eq (.loc 110 (p 819 7 11)) (.cstr [116,114,105,114,101,103] (p 819 15 23)) (p 819 7 23)) (.cons (.ret (.ite (.cmp .Eq (.loc 173 (p 820 22 25)) (.cint 2 (p 820 29 30)) (p 820 22 30)) (.lst false (.cons (.cint 0 (p 820 16 17)) .nil) (p 820 15 18)) (.comp false (.ite (.cmp .Eq (.loc 176 (p 820 42 45)) (.cint 1 (p 820 49 50)) (p 820 42 50)) (.cint 2 (p 820 37 38)) (.neg (.cint 2 (p 820 57 58)) (p 820 56 58)) (p 820 37 58)) 176 (p 820 63 66) false (p 0 0 0) (.callU 51 (p 820 70 81) (.cons (.loc 173 (p 820 82 85)) .nil) (p 820 70 86)) (p 820 70 86) 12 (p 820 36 87)) (p 820 15 87)) (p 820 8 87))
 .nil) .nil ⟨819,4,820,87⟩)
 (.cons (.ret (.lst false (.cons (.get (.dic [([116,114,105,48],(p 821 13 19)),([116,114,105,49],(p 821 25 31)),([115,117,112,112,108,121,48],(p 821 36 45)),([115,117,112,112,108,121,49],(p 821 51 60))] (.cons (.neg (.cint 5 (p 821 22 23)) (p 821 21 23)) (.cons (.cint 5 (p 821 33 34)) (.cons (.neg (.cint 7 (p 821 48 49)) (p 821 47 49)) (.cons (.cint 7 (p 821 62 63)) .nil)))) (p 821 12 64)) (.loc 110 (p 821 69 73)) (.cint 0 (p 821 75 76)) (p 821 12 68) (p 821 12 77)) .nil) (p 821 11 78)) (p 821 4 78))
 .nil))
noncomputable def f__law_rest : FI where
  name:=55
  pars:=[110,173]
  apos:=[(p 818 14 18),(p 818 20 23)]
  kinds:=[l 110,l 173,g 51]
  locs:=[110,173]
  gls:=[51]
  fast:=[110,173,176]
  body:=b__law_rest
noncomputable def b__law_net : SL:=(.cons (.asg (.loc 174 (p 823 4 8)) (.lst false (.cons (.lst false (.cons (.cint 0 (p 823 13 14)) (.cons (.cint 0 (p 823 16 17)) .nil)) (p 823 12 18)) .nil) (p 823 11 19)) (p 823 4 19))
 (.cons (.for (.loc 186 (p 824 8 14)) false (p 0 0 0) (.loc 185 (p 824 18 25)) (p 824 18 25) (.cons (.asg (.loc 187 (p 825 8 17)) (.lst true .nil (p 825 20 22)) (p 825 8 22))
 (.cons (.for (.loc 175 (p 826 12 15)) false (p 0 0 0) (.loc 174 (p 826 19 23)) (p 826 19 23) (.cons (.for (.loc 188 (p 827 16 21)) false (p 0 0 0) (.loc 186 (p 827 25 31)) (p 827 25 31) (.cons (.asg (.loc 173 (p 828 16 19)) (.lst false (.cons (.callB .max2 77 (p 828 23 26) (.cons (.sub (.loc 175 (p 828 27 30)) (.cint 0 (p 828 31 32)) (p 828 27 33)) (.cons (.bin .Sub (.cint 0 (p 828 35 36)) (.loc 188 (p 828 39 44)) (p 828 35 44)) .nil)) (p 828 23 45)) (.cons (.callB .max2 77 (p 828 47 50) (.cons (.sub (.loc 175 (p 828 51 54)) (.cint 1 (p 828 55 56)) (p 828 51 57)) (.cons (.loc 188 (p 828 59 64)) .nil)) (p 828 47 65)) .nil)) (p 828 22 66)) (p 828 16 66))
 (.cons (.iff (.cmp .NotIn (.loc 173 (p 829 19 22)) (.loc 187 (p 829 30 39)) (p 829 19 39)) (.cons (.exp (.app (.loc 187 (p 830 20 29)) (.loc 173 (p 830 37 40)) (p 830 20 36) (p 830 20 41)) (p 830 20 41))
 .nil) .nil ⟨829,16,830,41⟩)
 .nil)) ⟨827,12,830,41⟩)
 .nil) ⟨826,8,830,41⟩)
 (.cons (.asg (.loc 174 (p 831 8 12)) (.frL 187 (p 831 15 24)) (p 831 8 24))
 .nil))) ⟨824,4,831,24⟩)
 (.cons (.asg (.loc 170 (p 832 4 8)) (.lst true .nil (p 832 11 13)) (p 832 4 13))
 (.cons (.for (.tup [(false,183,(p 833 8 11)),(false,184,(p 833 13 17))] (p 833 8 17)) false (p 0 0 0) (.loc 174 (p 833 21 25)) (p 833 21 25) (.cons (.iff (.bop .And (.cons (.cmp .Eq (.loc 183 (p 834 11 14)) (.loc 184 (p 834 18 22)) (p 834 11 22)) (.cons (.cmp .Gt (.loc 183 (p 834 27 30)) (.cint 0 (p 834 33 34)) (p 834 27 34)) .nil)) (p 834 11 34)) (.cons (.exp (.app (.loc 170 (p 835 12 16)) (.get (.dic [([119,97,110,100],(p 835 25 31)),([119,111,114],(p 835 36 41))] (.cons (.cint 0 (p 835 33 34)) (.cons (.cint 1 (p 835 43 44)) .nil)) (p 835 24 45)) (.loc 110 (p 835 50 54)) (.cint 3 (p 835 56 57)) (p 835 24 49) (p 835 24 58)) (p 835 12 23) (p 835 12 59)) (p 835 12 59))
 .nil) (.cons (.iff (.cmp .Eq (.loc 183 (p 836 13 16)) (.loc 184 (p 836 20 24)) (p 836 13 24)) (.cons (.exp (.app (.loc 170 (p 837 12 16)) (.cint 2 (p 837 24 25)) (p 837 12 23) (p 837 12 26)) (p 837 12 26))
 .nil) (.cons (.exp (.app (.loc 170 (p 839 12 16)) (.ite (.cmp .Gt (.loc 183 (p 839 29 32)) (.loc 184 (p 839 35 39)) (p 839 29 39)) (.cint 0 (p 839 24 25)) (.cint 1 (p 839 45 46)) (p 839 24 46)) (p 839 12 23) (p 839 12 47)) (p 839 12 47))
 .nil) ⟨836,8,839,47⟩)
 .nil) ⟨834,8,839,47⟩)
 .nil) ⟨833,4,839,47⟩)
 (.cons (.ret (.ite (.cmp .Eq (.callB .min1 76 (p 840 22 25) (.cons (.frL 170 (p 840 26 30)) .nil) (p 840 22 31)) (.callB .max1 77 (p 840 35 38) (.cons (.frL 170 (p 840 39 43)) .nil) (p 840 35 44)) (p 840 22 44)) (.sub (.loc 170 (p 840 11 15)) (.cint 0 (p 840 16 17)) (p 840 11 18)) (.cint 3 (p 840 50 51)) (p 840 11 51)) (p 840 4 51))
 .nil)))))
noncomputable def f__law_net : FI where
  name:=56
  pars:=[110,185]
  apos:=[(p 822 13 17),(p 822 19 26)]
  kinds:=[l 110,l 185,l 174,l 186,l 187,l 175,l 188,l 173,l 170,l 183,l 184,g 77,g 76]
  locs:=[110,185,174,186,187,175,188,173,170,183,184]
  gls:=[77,76]
  body:=b__law_net
noncomputable def b__law_context__law_get : SL:=(.cons (.asg (.loc 183 (p 844 8 11)) (.callB .int 158 (p 844 14 17) (.cons (.sub (.sub (.cel 172 (p 844 18 22)) (.loc 189 (p 844 23 26)) (p 844 18 27)) (.cint 0 (p 844 28 29)) (p 844 18 30)) .nil) (p 844 14 31)) (p 844 8 31))
 (.cons (.asg (.loc 184 (p 845 8 12)) (.callB .int 158 (p 845 15 18) (.cons (.sub (.sub (.cel 172 (p 845 19 23)) (.loc 189 (p 845 24 27)) (p 845 19 28)) (.cint 1 (p 845 29 30)) (p 845 19 31)) .nil) (p 845 15 32)) (p 845 8 32))
 (.cons (.ret (.tup (.cons (.cint 2 (p 846 16 17)) (.cons (.bin .Add (.bin .Mod (.loc 183 (p 846 19 22)) (.cint 2 (p 846 25 26)) (p 846 19 26)) (.bin .Mult (.cint 2 (p 846 29 30)) (.bin .Mod (.loc 184 (p 846 34 38)) (.cint 2 (p 846 41 42)) (p 846 34 42)) (p 846 29 43)) (p 846 19 43)) (.cons (.bin .Add (.bin .FloorDiv (.loc 183 (p 846 45 48)) (.cint 2 (p 846 52 53)) (p 846 45 53)) (.bin .Mult (.cint 2 (p 846 56 57)) (.bin .FloorDiv (.loc 184 (p 846 61 65)) (.cint 2 (p 846 69 70)) (p 846 61 70)) (p 846 56 71)) (p 846 45 71)) .nil))) (p 846 15 72)) (p 846 8 72))
 .nil)))
noncomputable def f__law_context__law_get : FI where
  name:=60
  pars:=[189]
  apos:=[(p 843 17 20)]
  kinds:=[l 189,l 183,l 184,(172,.free),g 158]
  locs:=[189,183,184]
  cels:=[172]
  gls:=[158]
  body:=b__law_context__law_get
noncomputable def b_law : SL:=(.cons (.asg (.cel 154 (p 852 4 7)) (.callU 43 (p 852 10 18) (.cons (.loc 155 (p 852 19 25)) .nil) (p 852 10 26)) (p 852 4 26))
 (.cons (.asg (.loc 172 (p 853 4 8)) (.lst true .nil (p 853 11 13)) (p 853 4 13))
 (.cons (.for (.loc 164 (p 854 8 12)) true (p 854 16 21) (.cint 3 (p 854 22 23)) (p 854 16 24) (.cons (.exp (.app (.loc 172 (p 855 8 12)) (.lst false (.cons (.callU 44 (p 855 21 30) (.cons (.cel 154 (p 855 31 34)) (.cons (.cint 4 (p 855 36 37)) .nil)) (p 855 21 38)) (.cons (.callU 44 (p 855 40 49) (.cons (.cel 154 (p 855 50 53)) (.cons (.cint 4 (p 855 55 56)) .nil)) (p 855 40 57)) .nil)) (p 855 20 58)) (p 855 8 19) (p 855 8 59)) (p 855 8 59))
 .nil) ⟨854,4,855,59⟩)
 (.cons (.asg (.loc 168 (p 856 4 8)) (.bin .Add (.cint 1 (p 856 11 12)) (.callU 44 (p 856 15 24) (.cons (.cel 154 (p 856 25 28)) (.cons (.cint 2 (p 856 30 31)) .nil)) (p 856 15 32)) (p 856 11 32)) (p 856 4 32))
 (.cons (.asg (.cel 110 (p 857 4 8)) (.sub (.tup (.cons (.cstr [119,105,114,101] (p 857 12 18)) (.cons (.cstr [116,114,105] (p 857 20 25)) (.cons (.cstr [119,97,110,100] (p 857 27 33)) (.cons (.cstr [119,111,114] (p 857 35 40)) (.cons (.cstr [116,114,105,48] (p 857 42 48)) (.cons (.cstr [116,114,105,49] (p 857 50 56)) (.cons (.cstr [116,114,105,114,101,103] (p 857 58 66)) (.cons (.cstr [115,117,112,112,108,121,48] (p 857 68 77)) (.cons (.cstr [115,117,112,112,108,121,49] (p 857 79 88)) .nil))))))))) (p 857 11 89)) (.callU 44 (p 857 90 99) (.cons (.cel 154 (p 857 100 103)) (.cons (.cint 9 (p 857 105 106)) .nil)) (p 857 90 107)) (p 857 11 108)) (p 857 4 108))
 (.cons (.asg (.cel 111 (p 858 4 8)) (.comp false (.callU 44 (p 858 12 21) (.cons (.cel 154 (p 858 22 25)) (.cons (.cint 4 (p 858 27 28)) .nil)) (p 858 12 29)) 65 (p 858 34 35) true (p 858 39 44) (.loc 168 (p 858 45 49)) (p 858 39 50) 15 (p 858 11 51)) (p 858 4 51))
 (.cons (.asg (.loc 192 (p 859 4 9)) (.callU 48 (p 859 12 22) .nil (p 859 12 24)) (p 859 4 24))
 (.cons (.asg (.att (.loc 192 (p 860 4 9)) 110 (p 860 4 14)) (.cstr [97,110,100] (p 860 17 22)) (p 860 4 22))
 (.cons (.asg (.att (.loc 192 (p 861 4 9)) 128 (p 861 4 13)) (.tup (.cons (.tup (.cons (.cstr [99,111,110,115,116] (p 861 18 25)) (.cons (.cint 2 (p 861 27 28)) (.cons (.cint 2 (p 861 30 31)) (.cons (.cint 0 (p 861 33 34)) .nil)))) (p 861 17 35)) (.cons (.tup (.cons (.cstr [99,111,110,115,116] (p 861 38 45)) (.cons (.cint 2 (p 861 47 48)) (.cons (.cint 3 (p 861 50 51)) (.cons (.cint 0 (p 861 53 54)) .nil)))) (p 861 37 55)) .nil)) (p 861 16 56)) (p 861 4 56))
 (.cons (.iff (.cmp .NotEq (.callU 42 (p 862 7 20) (.cons (.frz (.callU 61 (p 862 21 28) (.cons (.cint 9 (p 862 29 30)) (.cons (.cstr [103,97,116,101] (p 862 32 38)) (.cons (.frL 192 (p 862 40 45)) (.cons (.tup (.cons (.cint 6 (p 862 48 49)) (.cons (.cint 5 (p 862 51 52)) .nil)) (p 862 47 53)) .nil)))) (p 862 21 54))) (.cons (.frz (.callU 58 (p 862 56 68) (.cons (.frL 172 (p 862 69 73)) .nil) (p 862 56 74))) .nil)) (p 862 7 75)) (.lst false (.cons (.tup (.cons (.neg (.cint 6 (p 862 82 83)) (p 862 81 83)) (.cons (.neg (.cint 6 (p 862 86 87)) (p 862 85 87)) .nil)) (p 862 80 88)) .nil) (p 862 79 89)) (p 862 7 89)) (.cons (.ret (.cbool false (p 863 15 20)) (p 863 8 20))
 .nil) .nil ⟨862,4,863,20⟩)
 (.cons (.asg (.loc 190 (p 864 4 11)) (.lst true .nil (p 864 14 16)) (p 864 4 16))
 (.cons (.asg (.loc 185 (p 865 4 11)) (.comp true (.lst true (.cons (.callU 55 (p 865 16 25) (.cons (.cel 110 (p 865 26 30)) (.cons (.sub (.cel 111 (p 865 32 36)) (.loc 65 (p 865 37 38)) (p 865 32 39)) .nil)) (p 865 16 40)) .nil) (p 865 15 41)) 65 (p 865 46 47) true (p 865 51 56) (.loc 168 (p 865 57 61)) (p 865 51 62) 14 (p 865 14 63)) (p 865 4 63))
 (.cons (.for (.loc 139 (p 866 8 14)) true (p 866 18 23) (.bin .Add (.cint 1 (p 866 24 25)) (.callU 44 (p 866 28 37) (.cons (.cel 154 (p 866 38 41)) (.cons (.cint 3 (p 866 43 44)) .nil)) (p 866 28 45)) (p 866 24 45)) (p 866 18 46) (.cons (.asg (.loc 142 (p 867 8 15)) (.frz (.callU 49 (p 867 18 30) (.cons (.cel 154 (p 867 31 34)) (.cons (.loc 139 (p 867 36 42)) (.cons (.loc 168 (p 867 44 48)) .nil))) (p 867 18 49))) (p 867 8 49))
 (.cons (.asg (.loc 186 (p 868 8 14)) (.callU 54 (p 868 17 28) (.cons (.loc 142 (p 868 29 36)) (.cons (.frL 172 (p 868 38 42)) .nil)) (p 868 17 43)) (p 868 8 43))
 (.cons (.asg (.loc 121 (p 869 8 13)) (.callU 42 (p 869 16 29) (.cons (.loc 142 (p 869 30 37)) (.cons (.frz (.callU 58 (p 869 39 51) (.cons (.frL 172 (p 869 52 56)) .nil) (p 869 39 57))) .nil)) (p 869 16 58)) (p 869 8 58))
 (.cons (.iff (.cmp .NotEq (.loc 121 (p 870 11 16)) (.comp false (.tup (.cons (.callB .min1 76 (p 870 22 25) (.cons (.loc 66 (p 870 26 29)) .nil) (p 870 22 30)) (.cons (.callB .max1 77 (p 870 32 35) (.cons (.loc 66 (p 870 36 39)) .nil) (p 870 32 40)) .nil)) (p 870 21 41)) 66 (p 870 46 49) false (p 0 0 0) (.loc 186 (p 870 53 59)) (p 870 53 59) 13 (p 870 20 60)) (p 870 11 60)) (.cons (.ret (.cbool false (p 871 19 24)) (p 871 12 24))
 .nil) .nil ⟨870,8,871,24⟩)
 (.cons (.asg (.loc 169 (p 872 8 12)) (.ite (.cmp .Eq (.att (.loc 142 (p 872 20 27)) 110 (p 872 20 32)) (.cstr [97,115,115,105,103,110] (p 872 36 44)) (p 872 20 44)) (.cint 0 (p 872 15 16)) (.att (.att (.loc 142 (p 872 50 57)) 138 (p 872 50 68)) 169 (p 872 50 73)) (p 872 15 73)) (p 872 8 73))
 (.cons (.asg (.loc 191 (p 873 8 14)) (.rep (.lst false (.cons (.tup (.cons (.cint 0 (p 873 19 20)) (.cons (.cint 0 (p 873 22 23)) .nil)) (p 873 18 24)) .nil) (p 873 17 25)) (.loc 168 (p 873 28 32)) (p 873 17 32)) (p 873 8 32))
 (.cons (.for (.loc 65 (p 874 12 13)) true (p 874 17 22) (.callB .len 67 (p 874 23 26) (.cons (.loc 186 (p 874 27 33)) .nil) (p 874 23 34)) (p 874 17 35) (.cons (.asg (.sub (.loc 191 (p 875 12 18)) (.bin .Add (.loc 169 (p 875 19 23)) (.loc 65 (p 875 26 27)) (p 875 19 27)) (p 875 12 28)) (.sub (.loc 121 (p 875 31 36)) (.loc 65 (p 875 37 38)) (p 875 31 39)) (p 875 12 39))
 (.cons (.exp (.app (.sub (.loc 185 (p 876 12 19)) (.bin .Add (.loc 169 (p 876 20 24)) (.loc 65 (p 876 27 28)) (p 876 20 28)) (p 876 12 29)) (.sub (.loc 186 (p 876 37 43)) (.loc 65 (p 876 44 45)) (p 876 37 46)) (p 876 12 36) (p 876 12 47)) (p 876 12 47))
 .nil)) ⟨874,8,876,47⟩)
 (.cons (.exp (.app (.loc 190 (p 877 8 15)) (.frL 191 (p 877 23 29)) (p 877 8 22) (p 877 8 30)) (p 877 8 30))
 .nil)))))))) ⟨866,4,877,30⟩)
 (.cons (.asg (.loc 64 (p 878 4 5)) (.callU 24 (p 878 8 17) (.cons (.callU 22 (p 878 18 30) (.cons (.cel 110 (p 878 31 35)) (.cons (.loc 168 (p 878 37 41)) (.cons (.frL 190 (p 878 43 50)) (.cons (.cel 111 (p 878 52 56)) .nil)))) (p 878 18 57)) .nil) (p 878 8 58)) (p 878 4 58))
 (.cons (.for (.loc 65 (p 879 8 9)) true (p 879 13 18) (.loc 168 (p 879 19 23)) (p 879 13 24) (.cons (.iff (.cmp .NotEq (.bin .Add (.bin .Mod (.callB .int 158 (p 880 11 14) (.cons (.bin .RShift (.sub (.loc 64 (p 880 15 16)) (.cint 1 (p 880 17 18)) (p 880 15 19)) (.loc 65 (p 880 23 24)) (p 880 15 24)) .nil) (p 880 11 25)) (.cint 2 (p 880 28 29)) (p 880 11 29)) (.bin .Mult (.cint 2 (p 880 32 33)) (.bin .Mod (.callB .int 158 (p 880 37 40) (.cons (.bin .RShift (.sub (.loc 64 (p 880 41 42)) (.cint 2 (p 880 43 44)) (p 880 41 45)) (.loc 65 (p 880 49 50)) (p 880 41 50)) .nil) (p 880 37 51)) (.cint 2 (p 880 54 55)) (p 880 37 55)) (p 880 32 56)) (p 880 11 56)) (.callU 56 (p 880 60 68) (.cons (.cel 110 (p 880 69 73)) (.cons (.frz (.sub (.loc 185 (p 880 75 82)) (.loc 65 (p 880 83 84)) (p 880 75 85))) .nil)) (p 880 60 86)) (p 880 11 86)) (.cons (.ret (.cbool false (p 881 19 24)) (p 881 12 24))
 .nil) .nil ⟨880,8,881,24⟩)
 .nil) ⟨879,4,881,24⟩)
 (.cons (.ret (.cmp .Eq (.sub (.loc 64 (p 882 11 12)) (.cint 0 (p 882 13 14)) (p 882 11 15)) (.loc 168 (p 882 19 23)) (p 882 11 23)) (p 882 4 23))
 .nil))))))))))))))))
noncomputable def f_law : FI where
  name:=57
  pars:=[155]
  apos:=[(p 851 8 14)]
  kinds:=[l 155,(154,.cell),l 172,l 164,l 168,(110,.cell),l 65,(111,.cell),l 192,l 190,l 185,l 139,l 142,l 186,l 121,l 169,l 191,l 64,g 43,g 193,g 44,g 48,g 42,g 61,g 58,g 49,g 54,g 67,g 24,g 22,g 158,g 56]
  locs:=[155,172,164,168,65,192,190,185,139,142,186,121,169,191,64]
  cels:=[154,110,111]
  gls:=[43,193,44,48,42,61,58,49,54,67,24,22,158,56]
  fast:=[155,154,172,164,168,110,65,111,192,190,185,139,142,186,121,66,169,191,64]
  body:=b_law
end
noncomputable def ciL : List CI:=[
  { kinds:=[l 224,l 65,g 16,g 1,(99,.free),(100,.free),(64,.free)],tgs:=[65],frs:=[99,100,64],gls:=[16,1] },
  { kinds:=[l 224,l 119,g 23],tgs:=[119],frs:=[],gls:=[23] },
  { kinds:=[l 224,l 1,g 38],tgs:=[1],frs:=[],gls:=[38] },
  { kinds:=[l 224,l 93,g 1,g 15,(94,.free)],tgs:=[93],frs:=[94],gls:=[1,15] },
  { kinds:=[l 224,l 164,g 47,(154,.free)],tgs:=[164],frs:=[154],gls:=[47] },
  { kinds:=[l 224,l 65,(71,.free),(171,.free)],tgs:=[65],frs:=[71,171],gls:=[] },
  { kinds:=[l 224,l 65,g 158,(93,.free)],tgs:=[65],frs:=[93],gls:=[158] },
  { kinds:=[l 224,l 175,l 176,g 51,(173,.free)],tgs:=[175,176],frs:=[173],gls:=[51] },
  { kinds:=[l 224,l 176,(180,.free),(181,.free)],tgs:=[176],frs:=[180,181],gls:=[] },
  { kinds:=[l 224,l 176,(180,.free),(181,.free)],tgs:=[176],frs:=[180,181],gls:=[] },
  { kinds:=[l 224,l 93,g 50,(172,.free)],tgs:=[93],frs:=[172],gls:=[50] },
  { kinds:=[l 224,l 176,(180,.free),(181,.free)],tgs:=[176],frs:=[180,181],gls:=[] },
  { kinds:=[l 224,l 176],tgs:=[176],frs:=[],gls:=[] },
  { kinds:=[l 224,l 66,g 76,g 77],tgs:=[66],frs:=[],gls:=[76,77] },
  { kinds:=[l 224,l 65,g 55,(111,.free),(110,.free)],tgs:=[65],frs:=[111,110],gls:=[55] },
  { kinds:=[l 224,l 65,g 44,(154,.free)],tgs:=[65],frs:=[154],gls:=[44] }]
noncomputable def gcL : List (Option D):=[none,none,none,none,none,none,none,none,none,none,none,none,none,none,none,none,none,none,none,none,none,none,none,none,none,none,none,none,none,none,none,none,none,none,none,none,none,none,none,none,none,none,none,none,none,none,none,none,none,none,none,none,none,none,none,none,none,none,none,none,none,none,none,none,none,none,none,none,none,none,none,none,none,none,none,none,none,none,none,none,none,none,none,none,none,none,none,none,none,none,none,none,none,none,none,none,none,none,none,none,none,some (.int 2),some (.int 1),some (.int 0),none,none,none,none,none,none,none,none,some (.int 2),some (.int 7),some (.int 5),none,some (.int 3),none,none,none,none,none,none,none,none,none,none,none,none,none,none,none,none,none,none,none,none,none,none,none,none,none,none,none,none,none,none,none,none,none,none,none,none,none,none,none,none,none,none,none,none,none,none,none,none,none,none,none,none,none,none,none,none,none,none,none,none,none,none,none,none,none,none,none,none,none,none,none,none,none,none,none,none,none,none,none,none,none,none,none,none,none,none,none,none,none,none,none,none,none,none,none,none,none,none,none,none,none,none,none,none,none,none,none,none]
end Mine
end
section
namespace Mine
noncomputable def scOf (kinds : List (Nat × NameKind)) (fast : List Nat) : Scope :=
  { kind:=.function,names:=kinds.map fun p=>(nm p.1,p.2),isGenerator:=false,isCoroutine:=false,more:=fast.map fun n=>(Str.ofString "fast",Const.str (nm n)) }
noncomputable def ciOf (n : Nat) : CI:=match nth ciL n with
  | some c=>c
  | none=>⟨[],[],[],[]⟩
noncomputable def ciScope (n : Nat) : Scope:=scOf (ciOf n).kinds []
noncomputable def strOf (s : List Nat) : Str:=⟨s.toArray⟩
mutual
noncomputable def toE : X → Expr
  | .cnone p=>.Constant .none 0 p
  | .cbool b p=>.Constant (.bool b) 0 p
  | .cint i p=>.Constant (.int i) 0 p
  | .cstr s p=>.Constant (.str (strOf s)) 0 p
  | .loc n p=>.Name (nm n) p
  | .cel n p=>.Name (nm n) p
  | .glo n p=>.Name (nm n) p
  | .frL n p=>.Name (nm n) p
  | .frC n p=>.Name (nm n) p
  | .frz x=>toE x
  | .bin op a b p=>.BinOp (toE a) op (toE b) p
  | .rep a b p=>.BinOp (toE a) .Mult (toE b) p
  | .cmp op a b p=>.Compare (toE a) [op] [toE b] p
  | .bop op xs p=>.BoolOp op (toEs xs) p
  | .not a p=>.UnaryOp .Not (toE a) p
  | .neg a p=>.UnaryOp .USub (toE a) p
  | .ite t a b p=>.IfExp (toE t) (toE a) (toE b) p
  | .tup xs p=>.Tuple (toEs xs) 0 p
  | .lst _ xs p=>.List (toEs xs) p
  | .dic ks xs p=>.Dict (ks.map fun k=>some (.Constant (.str (strOf k.1)) 0 k.2)) (toEs xs) p
  | .sub a i p=>.Subscript (toE a) (toE i) p
  | .slc a lo hi q p=>.Subscript (toE a) (.Slice (toO lo) (toO hi) none q) p
  | .att a n p=>.Attribute (toE a) (nm n) p
  | .callU f fp xs p=>.Call (.Name (nm f) fp) (toEs xs) [] p
  | .callB _ f fp xs p=>.Call (.Name (nm f) fp) (toEs xs) [] p
  | .callM o n op xs p=>.Call (.Attribute (toE o) (nm n) op) (toEs xs) [] p
  | .app a v op p=>.Call (.Attribute (toE a) (Str.ofString "append") op) [toE v] [] p
  | .pop a i op p=>.Call (.Attribute (toE a) (Str.ofString "pop") op) [toE i] [] p
  | .get a k e op p=>.Call (.Attribute (toE a) (Str.ofString "get") op) [toE k,toE e] [] p
  | .comp _ elt t tp r fp it ip ci p=>.ListComp (toE elt) [⟨.Name (nm t) tp,match r with | true=>.Call (.Name (Str.ofString "range") fp) [toE it] [] ip | false=>toE it,[],0⟩] (ciScope ci) p
  | .comp2 elt t tp it u up iu ci p=>.ListComp (toE elt) [⟨.Name (nm t) tp,toE it,[],0⟩,⟨.Name (nm u) up,toE iu,[],0⟩] (ciScope ci) p
noncomputable def toO : XO → Option Expr
  | .no=>none
  | .yes x=>some (toE x)
noncomputable def toEs : XL → List Expr
  | .nil=>[]
  | .cons x r=>toE x :: toEs r
end
noncomputable def toT : Tg → Expr
  | .loc n p=>.Name (nm n) p
  | .cel n p=>.Name (nm n) p
  | .tup ts p=>.Tuple (ts.map fun t=>.Name (nm t.2.1) t.2.2) 0 p
  | .att o n p=>.Attribute (toE o) (nm n) p
  | .sub o i p=>.Subscript (toE o) (toE i) p
mutual
noncomputable def toS : S → Stmt
  | .asg t e p=>.Assign [toT t] (toE e) p
  | .aug _ n np op e p=>.AugAssign (.Name (nm n) np) op (toE e) p
  | .exp e p=>.Expr (toE e) p
  | .iff t a b p=>.If (toE t) (toSs a) (toSs b) p
  | .for t r fp it ip b p=>.For (toT t) (match r with | true=>.Call (.Name (Str.ofString "range") fp) [toE it] [] ip | false=>toE it) (toSs b) [] p
  | .ret e p=>.Return (some (toE e)) p
  | .raw s=>s
noncomputable def toSs : SL → List Stmt
  | .nil=>[]
  | .cons s r=>toS s :: toSs r
end
noncomputable def gconst (n : Nat) : Option D:=match nth gcL n with
  | some d=>d
  | none=>none
noncomputable def isFn (f : Nat) : Bool:=Nat.blt f 59 || Nat.beq f 61 || Nat.beq f 62
noncomputable def biId : BI → Nat
  | .len=>67
  | .int=>158
  | .list=>156
  | .tuple=>165
  | .min1=>76
  | .max1=>77
  | .min2=>76
  | .max2=>77
  | .sum=>177
  | .abs=>107
noncomputable def XL.len : XL → Nat
  | .nil=>0
  | .cons _ r=>r.len + 1
noncomputable def isCmp : X → Bool
  | .comp ..=>true
  | .comp2 ..=>true
  | .frz x=>isCmp x
  | _=>false
noncomputable def isTup : X → Bool
  | .tup ..=>true
  | .frz x=>isTup x
  | _=>false
noncomputable def isComp : X → Bool
  | .comp ..=>true
  | .comp2 ..=>true
  | _=>false
noncomputable def isTgT : Tg → Bool
  | .tup _ _=>true
  | _=>false
noncomputable def okA (t : Tg) (e : X) : Bool:=bif' (isComp e) true (!isCmp e && (!isTgT t || !isTup e))
structure Cfg (R : Type) where
  F : R
  P : Nat → List D → Option D
  M : Nat → List D → Option D
  I : Nat → List V → Hp → (V → Hp → R) → R
noncomputable def frsIn : List Nat → List (Nat × Option V) → Bool
  | [],_=>true
  | n :: r,cs=>match has cs n with
    | true=>frsIn r cs
    | false=>false
noncomputable def enterC (ci : CI) (st : St) : St :=
  { loc:=ci.tgs.map fun t=>(t,none),cel:=st.cel.filter fun p=>mem ci.frs p.1,gl:=ci.gls,hp:=st.hp,own:=false }
section
variable {R : Type}
noncomputable def loopF (f : D → St → (Fl → St → R) → R) : List D → St → (Fl → St → R) → R
  | [],st,k=>k .nxt st
  | x :: xs,st,k=>f x st fun fl st'=>match fl with
    | .nxt=>loopF f xs st' k
    | .ret v=>k (.ret v) st'
noncomputable def loopC (f : D → List V → St → (List V → St → R) → R) : List D → List V → St → (List V → St → R) → R
  | [],acc,st,k=>k acc st
  | x :: xs,acc,st,k=>f x acc st fun acc' st'=>loopC f xs acc' st' k
noncomputable def setLoc (st : St) (n : Nat) (v : V) : St:={ st with loc:=put st.loc n v }
noncomputable def setCel (st : St) (n : Nat) (v : V) : St:={ st with cel:=put st.cel n v }
mutual
noncomputable def aX (c : Cfg R) : X → St → (V → St → R) → R
  | .cnone _,st,k=>k (.d .none) st
  | .cbool b _,st,k=>k (.d (.bool b)) st
  | .cint i _,st,k=>k (.d (.int i)) st
  | .cstr s _,st,k=>k (.d (.str s)) st
  | .loc n _,st,k=>match look st.loc n with
    | some v=>k v st
    | none=>c.F
  | .cel n _,st,k=>match look st.cel n with
    | some v=>k v st
    | none=>c.F
  | .glo n _,st,k=>match mem st.gl n,gconst n with
    | true,some d=>k (.d d) st
    | _,_=>c.F
  | .frL n _,st,k=>match look st.loc n with
    | some v=>match frz 4 st.hp v with
      | some (d,hp)=>k (.d d) { st with loc:=put st.loc n (.d d),hp:=hp }
      | none=>c.F
    | none=>c.F
  | .frC n _,st,k=>match look st.cel n with
    | some v=>match frz 4 st.hp v with
      | some (d,hp)=>k (.d d) { st with cel:=put st.cel n (.d d),hp:=hp }
      | none=>c.F
    | none=>c.F
  | .frz x,st,k=>aX c x st fun v st=>match frz 4 st.hp v with
    | some (d,hp)=>k (.d d) { st with hp:=hp }
    | none=>c.F
  | .bin op a b _,st,k=>aX c a st fun va st=>aX c b st fun vb st=>match va,vb with
    | .d x,.d y=>match binD op x y with
      | some r=>k (.d r) st
      | none=>c.F
    | _,_=>c.F
  | .rep a b _,st,k=>aX c a st fun va st=>aX c b st fun vb st=>match va,vb with
    | .d (.lst xs),.d (.int n)=>match ixI n with
      | some n=>bif' (decide (xs.length ≤ 1000)) (k (.c st.hp.length) { st with hp:=st.hp ++ [some (.lst (rep xs n))] }) c.F
      | none=>c.F
    | _,_=>c.F
  | .cmp op a b _,st,k=>aX c a st fun va st=>aX c b st fun vb st=>match va,vb with
    | .d x,.d y=>match cmpD op x y with
      | some r=>k (.d (.bool r)) st
      | none=>c.F
    | .d x,.c n=>match hget st.hp n with
      | some (.lst vs)=>match allD vs with
        | some ds=>match op with
          | .In=>match cmpD .In x (.lst ds) with
            | some r=>k (.d (.bool r)) st
            | none=>c.F
          | .NotIn=>match cmpD .NotIn x (.lst ds) with
            | some r=>k (.d (.bool r)) st
            | none=>c.F
          | _=>c.F
        | none=>c.F
      | _=>c.F
    | _,_=>c.F
  | .bop op xs _,st,k=>aB c op xs st k
  | .not a _,st,k=>aX c a st fun v st=>match truV v with
    | some b=>k (.d (.bool (!b))) st
    | none=>c.F
  | .neg a _,st,k=>aX c a st fun v st=>match v with
    | .d (.int i)=>k (.d (.int (-i))) st
    | _=>c.F
  | .ite t a b _,st,k=>aT c t st fun r st=>match r with
    | true=>aX c a st k
    | false=>aX c b st k
  | .tup xs _,st,k=>aXs c xs st fun vs st=>match allD vs with
    | some ds=>bif' (decide (ds.length ≤ 1000)) (k (.d (.tup ds)) st) c.F
    | none=>c.F
  | .lst false xs _,st,k=>aXs c xs st fun vs st=>match allD vs with
    | some ds=>bif' (decide (ds.length ≤ 1000)) (k (.d (.lst ds)) st) c.F
    | none=>c.F
  | .lst true xs _,st,k=>aXs c xs st fun vs st=>bif' (decide (vs.length ≤ 1000)) (k (.c st.hp.length) { st with hp:=st.hp ++ [some (.lst vs)] }) c.F
  | .dic ks xs _,st,k=>bif' (Nat.beq ks.length xs.len && Nat.ble xs.len 15) (aXs c xs st fun vs st=>match allD vs with
    | some ds=>bif' (decide (ks.map (·.1)).Nodup) (k (.d (.dict (ks.map (·.1)) ds)) st) c.F
    | none=>c.F) c.F
  | .sub a i _,st,k=>aX c a st fun va st=>aX c i st fun vi st=>match vi with
    | .d i=>match subV va i st.hp with
      | some r=>k r st
      | none=>c.F
    | .c _=>c.F
  | .slc a lo hi _ _,st,k=>aX c a st fun va st=>aO c lo st fun l st=>aO c hi st fun h st=>match va with
    | .d x=>match slcD x l h with
      | some r=>k (.d r) st
      | none=>c.F
    | .c _=>c.F
  | .att a n _,st,k=>aX c a st fun va st=>match attV va n st.hp with
    | some r=>k r st
    | none=>c.F
  | .callU f _ xs _,st,k=>match mem st.gl f && isFn f with
    | true=>aXs c xs st fun vs st=>match allD vs with
      | some ds=>match c.P f ds with
        | some r=>k (.d r) st
        | none=>c.I f vs st.hp fun v hp=>k v { st with hp:=hp }
      | none=>c.I f vs st.hp fun v hp=>k v { st with hp:=hp }
    | false=>c.F
  | .callB b f _ xs _,st,k=>match mem st.gl f && Nat.beq (biId b) f with
    | true=>aXs c xs st fun vs st=>match callB b vs st.hp with
      | some r=>k (.d r) st
      | none=>c.F
    | false=>c.F
  | .callM o n op xs p,st,k=>bif' (Nat.beq op.endLine p.line && Nat.ble xs.len 28) (aX c o st fun vo st=>match attV vo n st.hp with
    | some (.d (.clo q cs))=>aXs c xs st fun vs st=>match allD vs with
      | some ds=>match c.M q (cs ++ ds) with
        | some r=>k (.d r) st
        | none=>c.F
      | none=>c.F
    | _=>c.F) c.F
  | .app a v op p,st,k=>bif' (Nat.beq op.endLine p.line) (aX c a st fun va st=>match va with
    | .c n=>match hget st.hp n with
      | some (.lst _)=>aX c v st fun w st=>match hget st.hp n with
        | some (.lst vs)=>bif' (decide (vs.length ≤ 1000)) (k (.d .none) { st with hp:=hset st.hp n (some (.lst (vs ++ [w]))) }) c.F
        | _=>c.F
      | _=>c.F
    | .d _=>c.F) c.F
  | .pop a i op p,st,k=>bif' (Nat.beq op.endLine p.line) (aX c a st fun va st=>match va with
    | .c n=>match hget st.hp n with
      | some (.lst _)=>aX c i st fun vi st=>match vi with
        | .d (.int i)=>match hget st.hp n,ixI i with
          | some (.lst vs),some j=>match nth vs j with
            | some r=>bif' (decide (vs.length ≤ 1000)) (k r { st with hp:=hset st.hp n (some (.lst (vs.eraseIdx j))) }) c.F
            | none=>c.F
          | _,_=>c.F
        | _=>c.F
      | _=>c.F
    | .d _=>c.F) c.F
  | .get a q e op p,st,k=>bif' (Nat.beq op.endLine p.line) (aX c a st fun va st=>match va with
    | .d (.dict ks xs)=>aX c q st fun vq st=>match vq with
      | .d (.str s)=>aX c e st fun ve st=>match ve with
        | .d e=>k (.d (match kfind ks xs s with | some r=>r | none=>e)) st
        | .c _=>c.F
      | _=>c.F
    | _=>c.F) c.F
  | .comp m elt t _ r _ it _ ci _,st,k=>bif' (frsIn (ciOf ci).frs st.cel && (!r || mem st.gl 193)) (aX c it st fun vi st=>match vi with
    | .c _=>c.F
    | .d di=>match (match r with | true=>rngD di | false=>itemsV di) with
      | none=>c.F
      | some ds=>bif' (mem (ciOf ci).tgs t && frsIn (ciOf ci).frs st.cel && decide (ds.length ≤ 1000)) (loopC (fun x acc st k=>bif' (has st.loc t) (aX c elt (setLoc st t (.d x)) fun v st=>k (acc ++ [v]) st) c.F) ds [] (enterC (ciOf ci) st) fun acc st'=>match m with
        | true=>k (.c st'.hp.length) { st with hp:=st'.hp ++ [some (.lst acc)] }
        | false=>match allD acc with
          | some xs=>k (.d (.lst xs)) { st with hp:=st'.hp }
          | none=>c.F) c.F) c.F
  | .comp2 elt t _ it u _ iu ci _,st,k=>bif' (frsIn (ciOf ci).frs st.cel) (aX c it st fun vi st=>match vi with
    | .c _=>c.F
    | .d di=>match itemsV di with
      | none=>c.F
      | some ds=>bif' (mem (ciOf ci).tgs t && mem (ciOf ci).tgs u && frsIn (ciOf ci).frs st.cel && decide (ds.length ≤ 1000))
        (loopC (fun x acc st k=>bif' (has st.loc t) (aX c iu (setLoc st t (.d x)) fun vu st=>match vu with
          | .c _=>c.F
          | .d du=>match itemsV du with
            | none=>c.F
            | some es=>bif' (decide (es.length ≤ 1000)) (loopC (fun y acc st k=>bif' (has st.loc u) (aX c elt (setLoc st u (.d y)) fun v st=>bif' (decide (acc.length ≤ 100000)) (k (acc ++ [v]) st) c.F) c.F) es acc st k) c.F) c.F) ds [] (enterC (ciOf ci) st) fun acc st'=>bif' (decide (acc.length ≤ 1000000)) (match allD acc with
        | some xs=>k (.d (.lst xs)) { st with hp:=st'.hp }
        | none=>c.F) c.F) c.F) c.F
noncomputable def aO (c : Cfg R) : XO → St → (Option D → St → R) → R
  | .no,st,k=>k none st
  | .yes x,st,k=>aX c x st fun v st=>match v with
    | .d d=>k (some d) st
    | .c _=>c.F
noncomputable def aXs (c : Cfg R) : XL → St → (List V → St → R) → R
  | .nil,st,k=>k [] st
  | .cons x r,st,k=>aX c x st fun v st=>aXs c r st fun vs st=>k (v :: vs) st
noncomputable def aB (c : Cfg R) (op : BoolOp) : XL → St → (V → St → R) → R
  | .nil,_,_=>c.F
  | .cons x .nil,st,k=>aX c x st k
  | .cons x (.cons y r),st,k=>aX c x st fun v st=>match truV v with
    | none=>c.F
    | some b=>match op,b with
      | .And,false=>k v st
      | .Or,true=>k v st
      | _,_=>aB c op (.cons y r) st k
noncomputable def aT (c : Cfg R) : X → St → (Bool → St → R) → R
  | .bop op xs _,st,k=>aTs c op xs st k
  | .not a _,st,k=>aT c a st fun b st=>k (!b) st
  | .ite ..,_,_=>c.F
  | .cmp op a b _,st,k=>aX c a st fun va st=>aX c b st fun vb st=>match va,vb with
    | .d x,.d y=>match cmpD op x y with
      | some r=>k r st
      | none=>c.F
    | .d x,.c n=>match hget st.hp n with
      | some (.lst vs)=>match allD vs with
        | some ds=>match op with
          | .In=>match cmpD .In x (.lst ds) with
            | some r=>k r st
            | none=>c.F
          | .NotIn=>match cmpD .NotIn x (.lst ds) with
            | some r=>k r st
            | none=>c.F
          | _=>c.F
        | none=>c.F
      | _=>c.F
    | _,_=>c.F
  | .loc n _,st,k=>match look st.loc n with
    | some v=>match truV v with
      | some b=>k b st
      | none=>c.F
    | none=>c.F
  | .att a n _,st,k=>aX c a st fun va st=>match attV va n st.hp with
    | some r=>match truV r with
      | some b=>k b st
      | none=>c.F
    | none=>c.F
  | .callU f _ xs _,st,k=>match mem st.gl f && isFn f with
    | true=>aXs c xs st fun vs st=>match allD vs with
      | some ds=>match c.P f ds with
        | some r=>match truV (.d r) with
          | some b=>k b st
          | none=>c.F
        | none=>c.I f vs st.hp fun v hp=>match truV v with
          | some b=>k b { st with hp:=hp }
          | none=>c.F
      | none=>c.I f vs st.hp fun v hp=>match truV v with
        | some b=>k b { st with hp:=hp }
        | none=>c.F
    | false=>c.F
  | _,_,_=>c.F
noncomputable def aTs (c : Cfg R) (op : BoolOp) : XL → St → (Bool → St → R) → R
  | .nil,st,k=>k (match op with | .And=>true | .Or=>false) st
  | .cons x r,st,k=>aT c x st fun b st=>match op,b with
    | .And,false=>k false st
    | .Or,true=>k true st
    | _,_=>aTs c op r st k
end
noncomputable def aTup (c : Cfg R) : List (Bool × Nat × Pos) → List D → St → (St → R) → R
  | [],[],st,k=>k st
  | (b,n,_) :: ts,x :: xs,st,k=>match b with
    | true=>bif' (st.own && has st.cel n) (aTup c ts xs (setCel st n (.d x)) k) c.F
    | false=>bif' (has st.loc n) (aTup c ts xs (setLoc st n (.d x)) k) c.F
  | _,_,_,_=>c.F
noncomputable def aG (c : Cfg R) : Tg → V → St → (St → R) → R
  | .loc n _,v,st,k=>bif' (has st.loc n) (k (setLoc st n v)) c.F
  | .cel n _,v,st,k=>bif' (st.own && has st.cel n) (k (setCel st n v)) c.F
  | .tup ts _,.d x,st,k=>match x with
    | .tup xs=>aTup c ts xs st k
    | .lst xs=>aTup c ts xs st k
    | _=>c.F
  | .tup _ _,.c _,_,_=>c.F
  | .att o n _,v,st,k=>aX c o st fun vo st=>match vo with
    | .c a=>match hget st.hp a with
      | some (.inst q ns vs)=>match fput ns vs n v with
        | (ns',vs')=>bif' (mem fldL n && decide (ns.length ≤ 100)) (k { st with hp:=hset st.hp a (some (.inst q ns' vs')) }) c.F
      | _=>c.F
    | .d _=>c.F
  | .sub o i _,v,st,k=>aX c o st fun vo st=>aX c i st fun vi st=>match vo,vi with
    | .c a,.d (.int i)=>match hget st.hp a,ixI i with
      | some (.lst vs),some j=>bif' (decide (j < vs.length)) (k { st with hp:=hset st.hp a (some (.lst (vs.set j v))) }) c.F
      | _,_=>c.F
    | _,_=>c.F
mutual
noncomputable def aS (c : Cfg R) : S → St → (Fl → St → R) → R
  | .asg t e _,st,k=>bif' (okA t e) (aX c e st fun v st=>aG c t v st fun st=>k .nxt st) c.F
  | .aug cell n _ op e _,st,k=>match cell,op,look st.loc n with
    | false,.BitOr,some (.d (.int i))=>aX c e st fun v st=>match v with
      | .d (.int j)=>match has st.loc n,binD .BitOr (.int i) (.int j) with
        | true,some r=>k .nxt (setLoc st n (.d r))
        | _,_=>c.F
      | _=>c.F
    | _,_,_=>c.F
  | .exp e _,st,k=>bif' (!isCmp e) (aX c e st fun v st=>match v with
    | .d .none=>k .nxt st
    | _=>c.F) c.F
  | .iff t a b _,st,k=>aT c t st fun r st=>match r with
    | true=>aSL c a st k
    | false=>aSL c b st k
  | .for t r _ it _ b _,st,k=>bif' (!r || mem st.gl 193) (aX c it st fun vi st=>match vi with
    | .c _=>c.F
    | .d di=>match (match r with | true=>rngD di | false=>itemsV di) with
      | none=>c.F
      | some ds=>loopF (fun x st k=>aG c t (.d x) st fun st=>aSL c b st k) ds st k) c.F
  | .ret e _,st,k=>aX c e st fun v st=>k (.ret v) st
  | .raw _,_,_=>c.F
noncomputable def aSL (c : Cfg R) : SL → St → (Fl → St → R) → R
  | .nil,st,k=>k .nxt st
  | .cons s r,st,k=>aS c s st fun fl st=>match fl with
    | .nxt=>aSL c r st k
    | .ret v=>k (.ret v) st
end
end
noncomputable def startOf (f : FI) (vs : List V) (hp : Hp) : St :=
  { loc:=f.locs.map fun n=>(n,fget f.pars vs n),cel:=f.cels.map fun n=>(n,fget f.pars vs n),gl:=f.gls,hp:=hp }
end Mine
end
section
namespace Mine
set_option genInjectivity true in
inductive Role where
  | free
  | fro (o : Obj)
  | loc
  | nce (n : Nat)
  | mut (n : Nat)
noncomputable def Role.isMut : Role → Prop
  | .free=>False
  | .fro _=>False
  | _=>True
noncomputable def Role.stable : Role → Prop
  | .free=>False
  | .mut _=>False
  | _=>True
structure Wd where
  τ : Addr → Role
  mu : List Addr
structure Wd.le (w w' : Wd) : Prop where
  st : ∀ a,(w.τ a).stable → w'.τ a = w.τ a
  two : ∀ (n : Nat) (a : Addr),w.mu[n]? = some a → w'.mu[n]? = some a
theorem Wd.le.refl (w : Wd) : w.le w:=⟨fun _ _=>rfl,fun _ _ e=>e⟩
theorem Wd.le.trans {a b c : Wd} (x : a.le b) (y : b.le c) : a.le c:=⟨fun p o=>(y.1 p (by rw [x.1 p o]; exact o)).trans (x.1 p o),fun n p e=>y.2 n p (x.2 n p e)⟩
theorem Wd.le.one {w w' : Wd} (x : w.le w') (a : Addr) (o : Obj) (e : w.τ a = .fro o) : w'.τ a = .fro o:=(x.st a (by rw [e]; trivial)).trans e
structure Stp (w : Wd) (h : Heap) (w' : Wd) (h' : Heap) : Prop where
  le : w.le w'
  kept : ∀ b o,w.τ b = .free → h.get? b = some o → h'.get? b = some o ∧ w'.τ b = .free
theorem Stp.refl (w : Wd) (h : Heap) : Stp w h w h:=⟨.refl w,fun _ _ a b=>⟨b,a⟩⟩
theorem Stp.trans {a b c : Wd} {h h' h'' : Heap} (x : Stp a h b h') (y : Stp b h' c h'') : Stp a h c h'' :=
  ⟨x.le.trans y.le,fun p o e q=>let z:=x.kept p o e q; y.kept p o z.2 z.1⟩
theorem Stp.one {w w' : Wd} {h h' : Heap} (x : Stp w h w' h') : ∀ (a : Addr) (o : Obj),w.τ a = .fro o → w'.τ a = .fro o:=x.le.one
theorem Stp.push (w : Wd) (h : Heap) (o : Obj) : Stp w h w (h.push o):=⟨.refl w,fun _ _ a b=>⟨Heap.get?_push_of_some _ b,a⟩⟩
theorem Stp.of {w : Wd} {h h' : Heap} (k : ∀ b o,h.get? b = some o → h'.get? b = some o) : Stp w h w h':=⟨.refl w,fun _ _ a b=>⟨k _ _ b,a⟩⟩
structure Ad where
  cls : Nat → Addr
  dict : Obj → List (Str × Value) → Prop
  clo : Nat → Value → List Value → (Addr → Role) → Prop
  tab : Addr → Array Value → (Addr → Role) → Prop
noncomputable abbrev lstObj (vs : List Value) (n : Nat) : Obj:={ cls:=.type "list",data:=.seq vs.toArray n }
noncomputable abbrev tupObj (vs : List Value) (n : Nat) : Obj:={ cls:=.type "tuple",data:=.seq vs.toArray n }
mutual
inductive Rep (ad : Ad) (τ : Addr → Role) : D → Value → Prop
  | none : Rep ad τ .none .none
  | bool (b) : Rep ad τ (.bool b) (.bool b)
  | int (i t) : Rep ad τ (.int i) (.int i t)
  | str (s t) : Rep ad τ (.str s) (.str (strOf s) t)
  | tup {a xs vs n} : τ a = .fro (tupObj vs n) → RepL ad τ xs vs → Rep ad τ (.tup xs) (.ref a)
  | lst {a xs vs n} : τ a = .fro (lstObj vs n) → RepL ad τ xs vs → Rep ad τ (.lst xs) (.ref a)
  | dict {a o ks xs kvs} : τ a = .fro o → ad.dict o kvs → kvs.map (·.1) = ks.map strOf → (a == sysModules) = false → RepL ad τ xs (kvs.map (·.2)) → Rep ad τ (.dict ks xs) (.ref a)
  | inst {a d c ns xs vs od m} : τ a = .fro (instObj (ad.cls c) d) → τ d = .fro od → LCg.NsObj od m → ns.map (fun n=>m (nm n)) = vs.map some → RepL ad τ xs vs → Rep ad τ (.inst c ns xs) (.ref a)
  | clo {v k xs vs} : ad.clo k v vs τ → RepL ad τ xs vs → Rep ad τ (.clo k xs) v
inductive RepL (ad : Ad) (τ : Addr → Role) : List D → List Value → Prop
  | nil : RepL ad τ [] []
  | cons {x v xs vs} : Rep ad τ x v → RepL ad τ xs vs → RepL ad τ (x :: xs) (v :: vs)
end
structure AdOk (ad : Ad) : Prop where
  mono : ∀ k v vs τ τ',(∀ a o,τ a = .fro o → τ' a = .fro o) → ad.clo k v vs τ → ad.clo k v vs τ'
  tmono : ∀ p ps τ τ',(∀ a o,τ a = .fro o → τ' a = .fro o) → ad.tab p ps τ → ad.tab p ps τ'
  handed : ∀ k v vs τ,ad.clo k v vs τ → handedIn v = true
section
variable {ad : Ad} {τ τ' : Addr → Role}
theorem Rep.mono (ok : AdOk ad) (hk : ∀ a o,τ a = .fro o → τ' a = .fro o) {x : D} {v : Value} (h : Rep ad τ x v) : Rep ad τ' x v :=
  Rep.rec (motive_1:=fun x v _=>Rep ad τ' x v) (motive_2:=fun x v _=>RepL ad τ' x v) .none .bool .int .str (fun a _ r=>.tup (hk _ _ a) r) (fun a _ r=>.lst (hk _ _ a) r) (fun a b c d _ r=>.dict (hk _ _ a) b c d r)
    (fun a b c d _ r=>.inst (hk _ _ a) (hk _ _ b) c d r) (fun a _ r=>.clo (ok.mono _ _ _ _ _ hk a) r) .nil (fun _ _ h r=>.cons h r) h
theorem RepL.ind {P : List D → List Value → Prop} (h0 : P [] []) (h1 : ∀ {x v xs vs},Rep ad τ x v → RepL ad τ xs vs → P xs vs → P (x :: xs) (v :: vs)) {ds : List D} {vs : List Value} (h : RepL ad τ ds vs) : P ds vs :=
  RepL.rec (motive_1:=fun _ _ _=>True) (motive_2:=fun x v _=>P x v) trivial (fun _=>trivial) (fun _ _=>trivial) (fun _ _=>trivial) (fun _ _ _=>trivial) (fun _ _ _=>trivial) (fun _ _ _ _ _ _=>trivial)
    (fun _ _ _ _ _ _=>trivial) (fun _ _ _=>trivial) h0 (fun a b _ r=>h1 a b r) h
theorem RepL.mono (ok : AdOk ad) (hk : ∀ a o,τ a = .fro o → τ' a = .fro o) {x : List D} {v : List Value} (h : RepL ad τ x v) : RepL ad τ' x v :=
  RepL.ind .nil (fun h _ r=>.cons (Rep.mono ok hk h) r) h
end
noncomputable def RepV (ad : Ad) (w : Wd) : V → Value → Prop
  | .d x,v=>Rep ad w.τ x v
  | .c n,v=>∃ a,w.mu[n]? = some a ∧ v = .ref a
inductive RepVs (ad : Ad) (w : Wd) : List V → List Value → Prop
  | nil : RepVs ad w [] []
  | cons {x v xs vs} : RepV ad w x v → RepVs ad w xs vs → RepVs ad w (x :: xs) (v :: vs)
section
variable {ad : Ad} {w w' : Wd}
theorem RepV.mono (ok : AdOk ad) (l : w.le w') : ∀ {x : V} {v : Value},RepV ad w x v → RepV ad w' x v
  | .d _,_,h=>Rep.mono ok l.one h
  | .c _,_,⟨a,e,q⟩=>⟨a,l.2 _ _ e,q⟩
theorem RepVs.mono (ok : AdOk ad) (l : w.le w') {x : List V} {v : List Value} (h : RepVs ad w x v) : RepVs ad w' x v:=by
  induction h with
  | nil=>exact .nil
  | cons h _ ih=>exact .cons (h.mono ok l) ih
end
noncomputable def FldObj (od : Obj) (m : Str → Option Value) (k : Nat) : Prop:=∃ es ep,od.data = .dict es ep ∧ StrKeys es ∧ (∀ name,nsFind es name = m name) ∧ es.size ≤ k
theorem FldObj.ns {od : Obj} {m : Str → Option Value} {k : Nat} (h : FldObj od m k) : LCg.NsObj od m:=let ⟨es,ep,a,b,c,_⟩:=h; ⟨es,ep,a,b,c⟩
theorem FldObj.alive {od : Obj} {m : Str → Option Value} {k : Nat} (h : FldObj od m k) : od.isFreed = false:=let ⟨_,_,a,_⟩:=h; Obj.isFreed_of_dict a
noncomputable def BagOk (xs : List V) : Prop:=∃ (q l : Int) (r : List Int),xs = .d (.int q) :: .d (.int l) :: r.map (fun i=>.d (.int i)) ∧ 0 ≤ q ∧ r.length ≤ 900
inductive CtAt (ad : Ad) (w : Wd) (n : Nat) (h : Heap) : Ct → Prop
  | lst {a vs k xs} : w.mu[n]? = some a → w.τ a = .mut n → h.get? a = some (lstObj vs k) → RepVs ad w xs vs → CtAt ad w n h (.lst xs)
  | inst {a d c ns xs vs od m} : w.mu[n]? = some a → w.τ a = .mut n → h.get? a = some (instObj (ad.cls c) d) → w.τ d = .mut n → h.get? d = some od → FldObj od m ns.length → ns.Nodup → ns.map (fun n=>m (nm n)) = vs.map some → RepVs ad w xs vs → CtAt ad w n h (.inst c ns xs)
  | tab {a ps} : w.mu[n]? = some a → w.τ a = .mut n → h.get? a = some (tabObj ps) → ad.tab a ps w.τ → CtAt ad w n h .tab
  | bag {a vs k xs} : w.mu[n]? = some a → w.τ a = .mut n → h.get? a = some (lstObj vs k) → RepVs ad w xs vs → BagOk xs → CtAt ad w n h .bag
structure Act where
  ad : Ad
  hT : Heap
  h0 : Heap
  ps : Addr → Prop
  τ0 : Addr → Role
  env : Env
  ok : AdOk ad
  top : ∀ b o,hT.get? b = some o → h0.get? b = some o ∧ ¬ ps b
  above : h0.objs.size ≤ env.locals
  kind : env.scope.kind = .function
  glob : env.globals = mainGlobals
  bui : env.builtins = builtinsNs
noncomputable def CelOk (g : Act) (w : Wd) (own : Bool) (n : Nat) (c : Addr) : Prop:=(g.env.kindOf (nm n) = some .cell ∧ w.τ c = .nce n) ∨ (own = false ∧ (g.env.kindOf (nm n) = some .cell ∨ g.env.kindOf (nm n) = some .free) ∧ ¬ g.ps c ∧ ∃ o,g.h0.get? c = some o)
theorem CelOk.le {g : Act} {w w' : Wd} {own : Bool} {n : Nat} {c : Addr} (h : CelOk g w own n c) (l : w.le w') : CelOk g w' own n c:=by
  rcases h with ⟨a,b⟩ | ⟨a,b⟩
  · exact .inl ⟨a,(l.st c (by rw [b]; trivial)).trans b⟩
  · exact .inr ⟨a,b⟩
theorem CelOk.keep {g : Act} {w : Wd} {own : Bool} {n : Nat} {c : Addr} {h h' : Heap} {v : Option Value} (t : CelOk g w own n c) (i : h.IsCell c v) (e : ∀ b o,¬ g.ps b → g.h0.get? b = some o → h.get? b = some o)
    (e' : ∀ b o,¬ g.ps b → g.h0.get? b = some o → h'.get? b = some o) (k : w.τ c = .nce n → ∀ o,h.get? c = some o → h'.get? c = some o) : h'.IsCell c v:=by
  obtain ⟨o,ho,hd⟩:=i
  rcases t with ⟨_,q⟩ | ⟨_,_,p,o',q⟩
  · exact ⟨o,k q o ho,hd⟩
  · have:=e c o' p q
    rw [ho] at this; obtain rfl:=Option.some.inj this
    exact ⟨o,e' c o p q,hd⟩
structure Rel (g : Act) (w : Wd) (st : St) (h : Heap) : Prop where
  ext : ∀ b o,¬ g.ps b → g.h0.get? b = some o → h.get? b = some o
  fro : ∀ a o,w.τ a = .fro o → h.get? a = some o
  mfresh : ∀ a,(w.τ a).isMut → g.ps a ∨ g.h0.objs.size ≤ a
  frosh : ∀ a o,w.τ a = .fro o → g.τ0 a = .fro o ∨ g.h0.objs.size ≤ a ∨ g.ps a
  mthere : ∀ a,(w.τ a).isMut → ∃ o,h.get? a = some o
  len : w.mu.length = st.hp.length
  cells : ∀ n c,hget st.hp n = some c → CtAt g.ad w n h c
  locT : w.τ g.env.locals = .loc
  loc : ∃ m,h.Ns g.env.locals m ∧ ∀ n v,look st.loc n = some v → ∃ x,m (nm n) = some x ∧ RepV g.ad w v x
  lock : ∀ n,has st.loc n = true → g.env.kindOf (nm n) = some .local
  cel : ∀ n,has st.cel n = true → ∃ c v0,g.env.cells.lookup (nm n) = some c ∧ CelOk g w st.own n c ∧ h.IsCell c v0 ∧ ∀ v,look st.cel n = some v → ∃ x,v0 = some x ∧ RepV g.ad w v x
  gl : ∀ n,mem st.gl n = true → g.env.kindOf (nm n) = some .globalImplicit
section
variable {g : Act} {w : Wd} {st : St} {h h' : Heap}
theorem Rel.lt (R : Rel g w st h) : g.env.locals < h.objs.size:=let ⟨_,hn,_⟩:=R.loc; hn.lt
theorem Rel.size (R : Rel g w st h) : g.h0.objs.size ≤ h.objs.size:=Nat.le_of_lt (Nat.lt_of_le_of_lt g.above R.lt)
theorem Rel.there (R : Rel g w st h) {a : Addr} (ha : w.τ a ≠ .free) : a < h.objs.size:=by
  cases e : w.τ a with
  | free=>exact absurd e ha
  | fro o=>exact Heap.lt_size (R.fro a o e)
  | loc=>obtain ⟨o,q⟩:=R.mthere a (by rw [e]; trivial); exact Heap.lt_size q
  | nce n=>obtain ⟨o,q⟩:=R.mthere a (by rw [e]; trivial); exact Heap.lt_size q
  | «mut» n=>obtain ⟨o,q⟩:=R.mthere a (by rw [e]; trivial); exact Heap.lt_size q
theorem Rel.free (R : Rel g w st h) {a : Addr} (ha : h.objs.size ≤ a) : w.τ a = .free:=by
  cases e : w.τ a with
  | free=>rfl
  | _=>exact absurd (R.there (a:=a) (by rw [e]; intro q; cases q)) (Nat.not_lt.mpr ha)
theorem Rel.top (R : Rel g w st h) : ∀ b o,g.hT.get? b = some o → h.get? b = some o:=fun b o e=>R.ext b o (g.top b o e).2 (g.top b o e).1
theorem Rel.topSize (_ : Rel g w st h) {b : Addr} {o : Obj} (e : g.hT.get? b = some o) : b < g.h0.objs.size:=Heap.lt_size (g.top b o e).1
theorem CtAt.keeps {ad : Ad} {n : Nat} {c : Ct} (x : CtAt ad w n h c) (hk : ∀ b o,w.τ b = .mut n → h.get? b = some o → h'.get? b = some o) : CtAt ad w n h' c:=by
  cases x with
  | lst a b c d=>exact .lst a b (hk _ _ b c) d
  | inst a b c d e f f1 f2 f3=>exact .inst a b (hk _ _ b c) d (hk _ _ d e) f f1 f2 f3
  | tab a b c d=>exact .tab a b (hk _ _ b c) d
  | bag a b c d e=>exact .bag a b (hk _ _ b c) d e
theorem CtAt.le {ad : Ad} (ok : AdOk ad) {w' : Wd} (l : w.le w') {n : Nat} {c : Ct} (hm : ∀ b,w.τ b = .mut n → w'.τ b = .mut n) (x : CtAt ad w n h c) : CtAt ad w' n h c:=by
  cases x with
  | lst a b c d=>exact .lst (l.2 _ _ a) (hm _ b) c (d.mono ok l)
  | inst a b c d e f f1 f2 f3=>exact .inst (l.2 _ _ a) (hm _ b) c (hm _ d) e f f1 f2 (f3.mono ok l)
  | tab a b c d=>exact .tab (l.2 _ _ a) (hm _ b) c (ok.tmono _ _ _ _ l.one d)
  | bag a b c d e=>exact .bag (l.2 _ _ a) (hm _ b) c (d.mono ok l) e
theorem isCell_keeps {c : Addr} {v : Option Value} (x : h.IsCell c v) (hk : ∀ o,h.get? c = some o → h'.get? c = some o) : h'.IsCell c v:=let ⟨o,e,d⟩:=x; ⟨o,hk o e,d⟩
theorem Rel.keeps (R : Rel g w st h) (hk : ∀ b o,(w.τ b ≠ .free ∨ b < g.h0.objs.size) → h.get? b = some o → h'.get? b = some o) : Rel g w st h':=by
  have k1 : ∀ {b : Addr} {r : Role} {o : Obj},w.τ b = r → r ≠ .free → h.get? b = some o → h'.get? b = some o:=fun e q z=>hk _ _ (.inl (by rw [e]; exact q)) z
  have ext' : ∀ b o,¬ g.ps b → g.h0.get? b = some o → h'.get? b = some o:=fun b o p e=>hk b o (.inr (Heap.lt_size e)) (R.ext b o p e)
  refine ⟨ext',fun a o e=>k1 e (fun q=>by cases q) (R.fro a o e),R.mfresh,R.frosh,fun a m=>?_,R.len,fun n c e=>(R.cells n c e).keeps fun b o z=>k1 z (fun q=>by cases q),R.locT,?_,R.lock,fun n e=>?_,R.gl⟩
  · obtain ⟨o,q⟩:=R.mthere a m
    exact ⟨o,hk a o (.inl (by intro z; rw [z] at m; exact m)) q⟩
  · obtain ⟨m,hn,r⟩:=R.loc
    exact ⟨m,hn.at' fun o=>k1 R.locT (fun q=>by cases q),r⟩
  · obtain ⟨c,v0,b,t,i,r⟩:=R.cel n e
    exact ⟨c,v0,b,t,t.keep i R.ext ext' fun q o=>k1 q (fun z=>by cases z),r⟩
theorem Rel.push (R : Rel g w st h) (o : Obj) : Rel g w st (h.push o):=R.keeps fun _ _ _ e=>Heap.get?_push_of_some _ e
theorem Rel.extBut (R : Rel g w st h) {a : Addr} (hs : Heap.ExtBut a h h') (hf : w.τ a = .free) (ha : g.h0.objs.size ≤ a) : Rel g w st h':=R.keeps fun b o q e=>hs b o (by
  rintro rfl
  rcases q with q | q
  · exact q hf
  · exact absurd q (Nat.not_lt.mpr ha)) e
noncomputable def Wd.setτ (w : Wd) (a : Addr) (r : Role) : Wd:=⟨fun b=>if b = a then r else w.τ b,w.mu⟩
theorem Wd.setτ_ne {a b : Addr} {r : Role} (hb : b ≠ a) : (w.setτ a r).τ b = w.τ b:=if_neg hb
theorem Wd.setτ_eq {a : Addr} {r : Role} : (w.setτ a r).τ a = r:=if_pos rfl
theorem Wd.le_set {a : Addr} {r : Role} (hf : ¬ (w.τ a).stable) : w.le (w.setτ a r):=⟨fun b e=>by
  by_cases hb : b = a
  · subst hb; exact absurd e hf
  · exact Wd.setτ_ne hb,fun _ _ e=>e⟩
theorem Rel.grow {w' : Wd} (R : Rel g w st h) (l : w.le w') (hlen : w'.mu = w.mu) (hτ : ∀ a,w.τ a ≠ .free → w'.τ a = w.τ a) (hn : ∀ a,w.τ a = .free → w'.τ a ≠ .free → g.h0.objs.size ≤ a ∧ ∃ o,h.get? a = some o ∧ ∀ o',w'.τ a = .fro o' → o' = o) : Rel g w' st h:=by
  have k : ∀ {a : Addr} {r : Role},w.τ a = r → r ≠ .free → w'.τ a = r:=fun e q=>(hτ _ (by rw [e]; exact q)).trans e
  refine ⟨R.ext,fun a o e=>?_,fun a m=>?_,fun a o e=>?_,fun a m=>?_,by rw [hlen]; exact R.len,fun n c e=>(R.cells n c e).le g.ok l fun b z=>k z (fun q=>by cases q),k R.locT (fun q=>by cases q),?_,R.lock,fun n e=>?_,R.gl⟩
  · by_cases hf : w.τ a = .free
    · obtain ⟨_,o',q,z⟩:=hn a hf (by rw [e]; intro q; cases q)
      rw [z o e]; exact q
    · rw [hτ a hf] at e; exact R.fro a o e
  · by_cases hf : w.τ a = .free
    · exact .inr (hn a hf (by intro q; rw [q] at m; exact m)).1
    · rw [hτ a hf] at m; exact R.mfresh a m
  · by_cases hf : w.τ a = .free
    · exact .inr (.inl (hn a hf (by rw [e]; intro q; cases q)).1)
    · rw [hτ a hf] at e; exact R.frosh a o e
  · by_cases hf : w.τ a = .free
    · obtain ⟨_,o',q,_⟩:=hn a hf (by intro q; rw [q] at m; exact m)
      exact ⟨o',q⟩
    · rw [hτ a hf] at m; exact R.mthere a m
  · obtain ⟨m,hn',r⟩:=R.loc
    exact ⟨m,hn',fun n v e=>let ⟨x,a,b⟩:=r n v e; ⟨x,a,b.mono g.ok l⟩⟩
  · obtain ⟨c,v0,b,t,i,r⟩:=R.cel n e
    exact ⟨c,v0,b,t.le l,i,fun v e=>let ⟨x,a,b⟩:=r v e; ⟨x,a,b.mono g.ok l⟩⟩
theorem Rel.newFro (R : Rel g w st h) (o : Obj) (hf : o.isFreed = false) : Stp w h (w.setτ h.objs.size (.fro o)) (h.push o) ∧ Rel g (w.setτ h.objs.size (.fro o)) st (h.push o):=by
  have f:=R.free (Nat.le_refl _)
  have l : w.le (w.setτ h.objs.size (.fro o)):=Wd.le_set (by rw [f]; exact id)
  refine ⟨⟨l,fun b o' e q=>⟨Heap.get?_push_of_some _ q,(Wd.setτ_ne (Nat.ne_of_lt (Heap.lt_size q))).trans e⟩⟩,(R.push o).grow l rfl (fun a ha=>Wd.setτ_ne (by rintro rfl; exact ha f)) fun a hf' hn=>?_⟩
  by_cases ha : a = h.objs.size
  · subst ha
    exact ⟨R.size,o,Heap.get?_push_size _ hf,fun o' e=>by rw [Wd.setτ_eq] at e; cases e; rfl⟩
  · rw [Wd.setτ_ne ha] at hn; exact absurd hf' hn
end
section
variable {ad : Ad} {τ : Addr → Role} {w : Wd}
theorem Rep.lst_inv {xs : List D} {v : Value} (h : Rep ad τ (.lst xs) v) : ∃ a vs n,v = .ref a ∧ τ a = .fro (lstObj vs n) ∧ RepL ad τ xs vs:=by
  cases h with
  | lst a b=>exact ⟨_,_,_,rfl,a,b⟩
theorem Rep.tup_inv {xs : List D} {v : Value} (h : Rep ad τ (.tup xs) v) : ∃ a vs n,v = .ref a ∧ τ a = .fro (tupObj vs n) ∧ RepL ad τ xs vs:=by
  cases h with
  | tup a b=>exact ⟨_,_,_,rfl,a,b⟩
theorem Rep.int_inv {i : Int} {v : Value} (h : Rep ad τ (.int i) v) : ∃ t,v = .int i t:=by
  cases h with
  | int i t=>exact ⟨t,rfl⟩
theorem Rep.bool_inv {b : Bool} {v : Value} (h : Rep ad τ (.bool b) v) : v = .bool b:=by
  cases h with
  | bool=>rfl
theorem Rep.str_inv {s : List Nat} {v : Value} (h : Rep ad τ (.str s) v) : ∃ t,v = .str (strOf s) t:=by
  cases h with
  | str s t=>exact ⟨t,rfl⟩
theorem Rep.none_inv {v : Value} (h : Rep ad τ .none v) : v = .none:=by
  cases h with
  | none=>rfl
theorem RepVs.one {x : V} {xs : List Value} (h : RepVs ad w [x] xs) : ∃ v,xs = [v] ∧ RepV ad w x v:=by
  cases h with
  | cons a b=>cases b; exact ⟨_,rfl,a⟩
theorem RepVs.two {x y : V} {xs : List Value} (h : RepVs ad w [x,y] xs) : ∃ v u,xs = [v,u] ∧ RepV ad w x v ∧ RepV ad w y u:=by
  cases h with
  | cons a b=>obtain ⟨u,rfl,c⟩:=b.one; exact ⟨_,_,rfl,a,c⟩
end
end Mine
end
section
namespace Mine
noncomputable def codeOf (s : Str) : Nat:=s.cps.toList.foldl (fun n c=>n * 2097152 + c) 1
noncomputable def strNe (a b : Str) : Bool:=!Nat.beq (codeOf a) (codeOf b)
noncomputable def apart : List Str → Bool
  | []=>true
  | s :: r=>r.all (strNe s) && apart r
theorem nm_apart : (apart nmL && nmL.all fun s=>s.cps.all (· < 2000000)) = true:=by decide +kernel
theorem nmAt_mem : ∀ (l : List Str) (n k : Nat),(nmAt l n k = ⟨#[n + 2000000]⟩ ∧ l.length ≤ k) ∨ (k < l.length ∧ l[k]? = some (nmAt l n k))
  | [],n,k=>.inl ⟨by cases k <;> rfl,Nat.zero_le _⟩
  | s :: r,n,0=>.inr ⟨Nat.zero_lt_succ _,rfl⟩
  | s :: r,n,k + 1=>by
    rcases nmAt_mem r n k with ⟨a,b⟩ | ⟨a,b⟩
    · exact .inl ⟨a,Nat.succ_le_succ b⟩
    · exact .inr ⟨Nat.succ_lt_succ a,by rw [List.getElem?_cons_succ]; exact b⟩
theorem apart_inj : ∀ {l : List Str} {i j : Nat} {x : Str},apart l = true → l[i]? = some x → l[j]? = some x → i = j
  | [],i,j,x,_,e,_=>by simp at e
  | s :: r,i,j,x,h,e,f=>by
    unfold apart at h
    rw [Bool.and_eq_true] at h
    have ne : ∀ {k : Nat},r[k]? = some s → False:=fun {k} q=>by
      have:=List.all_eq_true.mp h.1 s (List.mem_of_getElem? q)
      unfold strNe at this
      rw [Nat.beq_refl] at this
      exact nof this
    cases i with
    | zero =>
      cases j with
      | zero=>rfl
      | succ j=>simp at e f; subst e; exact (ne f).elim
    | succ i =>
      cases j with
      | zero=>simp at e f; subst f; exact (ne e).elim
      | succ j=>simp at e f; rw [apart_inj h.2 e f]
theorem nm_inj {a b : Nat} (h : nm a = nm b) : a = b:=by
  have H:=nm_apart
  rw [Bool.and_eq_true] at H
  have far : ∀ {i k : Nat},nmL[i]? = some (⟨#[k + 2000000]⟩ : Str) → False:=fun {i k} e=>by
    have:=List.all_eq_true.mp H.2 _ (List.mem_of_getElem? e)
    simp at this
    omega
  rcases nmAt_mem nmL a a with ⟨p,_⟩ | ⟨_,p⟩ <;> rcases nmAt_mem nmL b b with ⟨q,_⟩ | ⟨_,q⟩
  · have z : (⟨#[a + 2000000]⟩ : Str) = ⟨#[b + 2000000]⟩:=p.symm.trans (h.trans q)
    injection z with z
    have : [a + 2000000] = [b + 2000000]:=congrArg Array.toList z
    simp at this; exact this
  · have e : nm b = (⟨#[a + 2000000]⟩ : Str):=h.symm.trans p
    exact (far (by rw [← e]; exact q)).elim
  · have e : nm a = (⟨#[b + 2000000]⟩ : Str):=h.trans q
    exact (far (by rw [← e]; exact p)).elim
  · exact apart_inj H.1 p (by rw [show nmAt nmL a a = nmAt nmL b b from h]; exact q)
theorem beq_is (a b : Nat) : Nat.beq a b = decide (a = b):=by
  by_cases h : a = b
  · subst h; rw [decide_eq_true rfl]; exact Nat.beq_refl a
  · rw [decide_eq_false h]
    cases e : Nat.beq a b with
    | false=>rfl
    | true=>exact absurd (Nat.eq_of_beq_eq_true e) h
section
variable {α : Type}
theorem look_put : ∀ (l : List (Nat × Option α)) (n k : Nat) (x : α),look (put l n x) k = if k = n then (if has l n then some x else none) else look l k
  | [],n,k,x=>by simp [look,put,has]
  | (m,v) :: r,n,k,x=>by
    have ih:=look_put r n k x
    unfold put has
    rw [beq_is]
    by_cases h : m = n
    · subst h
      simp only [decide_true,look,beq_is]
      by_cases q : k = m
      · subst q; simp
      · simp [q,Ne.symm q]
    · simp only [h,decide_false,look,beq_is]
      by_cases q : m = k
      · subst q; simp [h]
      · simp [q,ih]
theorem has_put : ∀ (l : List (Nat × Option α)) (n k : Nat) (x : α),has (put l n x) k = has l k
  | [],_,_,_=>rfl
  | (m,v) :: r,n,k,x=>by
    have ih:=has_put r n k x
    unfold put
    cases e : Nat.beq m n <;> simp only [has] <;> cases Nat.beq m k <;> first | rfl | exact ih
theorem has_of_look : ∀ {l : List (Nat × Option α)} {n : Nat} {x : α},look l n = some x → has l n = true
  | [],_,_,h=>by exact nope h
  | (m,v) :: r,n,x,h=>by
    unfold look at h
    unfold has
    cases e : Nat.beq m n with
    | true=>rfl
    | false=>rw [e] at h; exact has_of_look (l:=r) h
end
theorem hget_set : ∀ (hp : Hp) (n k : Nat) (y : Option Ct),hget (hset hp n y) k = if k = n then (if n < hp.length then y else none) else hget hp k
  | [],n,k,y=>by simp [hset,hget]
  | x :: r,0,0,y=>by simp [hset,hget]
  | x :: r,0,k + 1,y=>by simp [hset,hget]
  | x :: r,n + 1,0,y=>by simp [hset,hget]
  | x :: r,n + 1,k + 1,y=>by simp [hset,hget,hget_set r n k y]
theorem hset_length : ∀ (hp : Hp) (n : Nat) (y : Option Ct),(hset hp n y).length = hp.length
  | [],_,_=>rfl
  | x :: r,0,y=>rfl
  | x :: r,n + 1,y=>by simp [hset,hset_length r n y]
theorem hget_lt : ∀ {hp : Hp} {n : Nat} {c : Ct},hget hp n = some c → n < hp.length
  | [],_,_,h=>by exact nope h
  | x :: r,0,_,_=>Nat.zero_lt_succ _
  | x :: r,n + 1,_,h=>Nat.succ_lt_succ (hget_lt (hp:=r) h)
theorem hget_app : ∀ (hp : Hp) (y : Option Ct) (k : Nat),hget (hp ++ [y]) k = if k = hp.length then y else hget hp k
  | [],y,0=>rfl
  | [],y,k + 1=>by simp [hget]
  | x :: r,y,0=>by simp [hget]
  | x :: r,y,k + 1=>by simp [hget,hget_app r y k]
section
variable {g : Act} {w : Wd} {st : St} {h h' : Heap}
theorem Rel.setLoc (R : Rel g w st h) {n : Nat} {v : V} {x : Value} {m : Str → Option Value} (hm : ∀ n v,look st.loc n = some v → ∃ x,m (nm n) = some x ∧ RepV g.ad w v x)
    (hv : RepV g.ad w v x) (hn : h'.Ns g.env.locals (fun y=>if y = nm n then some x else m y)) (hs : Heap.SameBut g.env.locals h h') : Rel g w (setLoc st n v) h':=by
  have ne : ∀ {b : Addr} {r : Role},w.τ b = r → r ≠ .loc → b ≠ g.env.locals:=fun e q z=>by subst z; rw [R.locT] at e; exact q e.symm
  have ext' : ∀ b o,¬ g.ps b → g.h0.get? b = some o → h'.get? b = some o:=fun b o p e=>hs.extBut b o (by rintro rfl; exact absurd (Heap.lt_size e) (Nat.not_lt.mpr g.above)) (R.ext b o p e)
  refine ⟨ext',fun a o e=>hs.extBut a o (ne e fun q=>by cases q) (R.fro a o e),R.mfresh,R.frosh,fun a m=>?_,R.len,fun n c e=>(R.cells n c e).keeps fun b o z=>hs.extBut b o (ne z fun q=>by cases q),R.locT,⟨_,hn,fun k u e=>?_⟩,fun k e=>?_,fun k e=>?_,R.gl⟩
  · obtain ⟨o,q⟩:=R.mthere a m
    by_cases ha : a = g.env.locals
    · subst ha; obtain ⟨o',_,_,e,_⟩:=hn; exact ⟨o',e⟩
    · exact ⟨o,hs.extBut a o ha q⟩
  · have e : look (put st.loc n v) k = some u:=e
    rw [look_put] at e
    by_cases hk : k = n
    · subst hk
      rw [if_pos rfl] at e
      cases q : has st.loc k with
      | true=>rw [q] at e; simp at e; subst e; exact ⟨x,if_pos rfl,hv⟩
      | false=>rw [q] at e; simp at e
    · rw [if_neg hk] at e
      obtain ⟨y,a,b⟩:=hm k u e
      exact ⟨y,(if_neg fun z=>hk (nm_inj z)).trans a,b⟩
  · have e : has (put st.loc n v) k = true:=e
    rw [has_put] at e; exact R.lock k e
  · obtain ⟨c,v0,b,t,i,r⟩:=R.cel k e
    exact ⟨c,v0,b,t,t.keep i R.ext ext' fun q o=>hs.extBut c o (ne q fun z=>by cases z),r⟩
theorem Rel.setCel (R : Rel g w st h) {n : Nat} {v : V} {x : Value} {c : Addr} (hc : g.env.cells.lookup (nm n) = some c) (ht : w.τ c = .nce n)
    (hv : RepV g.ad w v x) (hn : h'.IsCell c (some x)) (hs : Heap.SameBut c h h') : Rel g w (setCel st n v) h':=by
  have ne : ∀ {b : Addr} {r : Role},w.τ b = r → r ≠ .nce n → b ≠ c:=fun e q z=>by subst z; rw [ht] at e; exact q e.symm
  have ext' : ∀ b o,¬ g.ps b → g.h0.get? b = some o → h'.get? b = some o:=fun b o p e=>hs.extBut b o (by
    rintro rfl
    rcases R.mfresh b (by rw [ht]; trivial) with q | q
    · exact p q
    · exact absurd (Heap.lt_size e) (Nat.not_lt.mpr q)) (R.ext b o p e)
  refine ⟨ext',fun a o e=>hs.extBut a o (ne e fun q=>by cases q) (R.fro a o e),R.mfresh,R.frosh,fun a m=>?_,R.len,fun n c e=>(R.cells n c e).keeps fun b o z=>hs.extBut b o (ne z fun q=>by cases q),R.locT,?_,R.lock,fun k e=>?_,R.gl⟩
  · obtain ⟨o,q⟩:=R.mthere a m
    by_cases ha : a = c
    · subst ha; obtain ⟨o',e,_⟩:=hn; exact ⟨o',e⟩
    · exact ⟨o,hs.extBut a o ha q⟩
  · obtain ⟨m,hn',r⟩:=R.loc
    exact ⟨m,hn'.at' fun o=>hs.extBut _ o (ne R.locT fun q=>by cases q),r⟩
  · have e : has (put st.cel n v) k = true:=e
    rw [has_put] at e
    obtain ⟨d,v0,b,t,i,r⟩:=R.cel k e
    by_cases hk : k = n
    · subst hk
      rw [hc] at b; obtain rfl:=Option.some.inj b
      refine ⟨c,some x,hc,t,hn,fun u z=>?_⟩
      have z : look (put st.cel k v) k = some u:=z
      have e1 : has st.cel k = true:=by rw [← has_put st.cel k k v]; exact e
      rw [look_put,if_pos rfl,e1] at z
      simp at z; subst z; exact ⟨x,rfl,hv⟩
    · refine ⟨d,v0,b,t,t.keep i R.ext ext' fun q o=>hs.extBut d o (ne q fun z=>by cases z; exact hk rfl),fun u z=>?_⟩
      have z : look (put st.cel n v) k = some u:=z
      rw [look_put,if_neg hk] at z; exact r u z
theorem Rel.setCt (R : Rel g w st h) {n : Nat} {a : Addr} {c c' : Ct} (hc : hget st.hp n = some c) (ht : w.τ a = .mut n) (hs : Heap.SameBut a h h') (ho : ∃ o,h'.get? a = some o) (hn : CtAt g.ad w n h' c') :
    Rel g w { st with hp:=hset st.hp n (some c') } h':=by
  have ne : ∀ {b : Addr} {r : Role},w.τ b = r → r ≠ .mut n → b ≠ a:=fun e q z=>by subst z; rw [ht] at e; exact q e.symm
  have ext' : ∀ b o,¬ g.ps b → g.h0.get? b = some o → h'.get? b = some o:=fun b o p e=>hs.extBut b o (by
    rintro rfl
    rcases R.mfresh b (by rw [ht]; trivial) with q | q
    · exact p q
    · exact absurd (Heap.lt_size e) (Nat.not_lt.mpr q)) (R.ext b o p e)
  refine ⟨ext',fun a o e=>hs.extBut a o (ne e fun q=>by cases q) (R.fro a o e),R.mfresh,R.frosh,fun b m=>?_,by rw [hset_length]; exact R.len,fun k q e=>?_,R.locT,?_,R.lock,fun k e=>?_,R.gl⟩
  · obtain ⟨o,q⟩:=R.mthere b m
    by_cases ha : b = a
    · subst ha; exact ho
    · exact ⟨o,hs.extBut b o ha q⟩
  · rw [hget_set] at e
    by_cases hk : k = n
    · subst hk
      rw [if_pos rfl,if_pos (hget_lt hc)] at e
      cases e; exact hn
    · rw [if_neg hk] at e
      exact (R.cells k q e).keeps fun b o z=>hs.extBut b o (ne z fun q=>by cases q; exact hk rfl)
  · obtain ⟨m,hn',r⟩:=R.loc
    exact ⟨m,hn'.at' fun o=>hs.extBut _ o (ne R.locT fun q=>by cases q),r⟩
  · obtain ⟨c,v0,b,t,i,r⟩:=R.cel k e
    exact ⟨c,v0,b,t,t.keep i R.ext ext' fun q o=>hs.extBut c o (ne q fun z=>by cases z),r⟩
theorem Rel.drop (R : Rel g w st h) (n : Nat) : Rel g w { st with hp:=hset st.hp n none } h:=by
  refine ⟨R.ext,R.fro,R.mfresh,R.frosh,R.mthere,by rw [hset_length]; exact R.len,fun k q e=>?_,R.locT,R.loc,R.lock,R.cel,R.gl⟩
  rw [hget_set] at e
  by_cases hk : k = n
  · rw [if_pos hk] at e; split at e <;> exact nope e
  · rw [if_neg hk] at e; exact R.cells k q e
theorem Rel.still (R : Rel g w st h) {n : Nat} {a : Addr} {o : Obj} (ht : w.τ a = .mut n) (hd : hget st.hp n = none) (ho : h.get? a = some o) : w.le (w.setτ a (.fro o)) ∧ Rel g (w.setτ a (.fro o)) st h:=by
  have l : w.le (w.setτ a (.fro o)):=Wd.le_set (by rw [ht]; exact id)
  have ne : ∀ {b : Addr} {r : Role},w.τ b = r → r ≠ .mut n → b ≠ a:=fun e q z=>by subst z; rw [ht] at e; exact q e.symm
  refine ⟨l,R.ext,fun b o' e=>?_,fun b m=>?_,fun b o' e=>?_,fun b m=>?_,R.len,fun k q e=>(R.cells k q e).le g.ok l fun b z=>?_,(Wd.setτ_ne (ne R.locT fun q=>by cases q)).trans R.locT,?_,R.lock,fun k e=>?_,R.gl⟩
  · by_cases hb : b = a
    · subst hb; rw [Wd.setτ_eq] at e; cases e; exact ho
    · rw [Wd.setτ_ne hb] at e; exact R.fro b o' e
  · by_cases hb : b = a
    · subst hb; rw [Wd.setτ_eq] at m; exact m.elim
    · rw [Wd.setτ_ne hb] at m; exact R.mfresh b m
  · by_cases hb : b = a
    · subst hb
      rcases R.mfresh b (by rw [ht]; trivial) with q | q
      · exact .inr (.inr q)
      · exact .inr (.inl q)
    · rw [Wd.setτ_ne hb] at e; exact R.frosh b o' e
  · by_cases hb : b = a
    · subst hb; rw [Wd.setτ_eq] at m; exact m.elim
    · rw [Wd.setτ_ne hb] at m; exact R.mthere b m
  · have hk : k ≠ n:=by rintro rfl; rw [hd] at e; exact nope e
    exact (Wd.setτ_ne (ne z fun q=>by cases q; exact hk rfl)).trans z
  · obtain ⟨m,hn,r⟩:=R.loc
    exact ⟨m,hn,fun k u e=>let ⟨x,p,q⟩:=r k u e; ⟨x,p,q.mono g.ok l⟩⟩
  · obtain ⟨c,v0,b,t,i,r⟩:=R.cel k e
    exact ⟨c,v0,b,t.le l,i,fun u e=>let ⟨x,p,q⟩:=r u e; ⟨x,p,q.mono g.ok l⟩⟩
end
end Mine
end
section
namespace Mine
section
variable {ad : Ad} {w w' : Wd}
theorem repL_of_allD : ∀ {vs : List V} {ds : List D} {xs : List Value},allD vs = some ds → RepVs ad w vs xs → RepL ad w.τ ds xs
  | [],ds,xs,e,h=>by cases e; cases h; exact .nil
  | .d x :: r,ds,xs,e,h=>by
    unfold allD at e
    split at e
    · rename_i q; obtain rfl:=Option.some.inj e
      cases h with
      | cons a b=>exact .cons a (repL_of_allD q b)
    · exact nope e
  | .c _ :: r,ds,xs,e,_=>by unfold allD at e; exact nope e
theorem allD_map : ∀ (ds : List D),allD (ds.map .d) = some ds
  | []=>rfl
  | x :: r=>by rw [List.map_cons]; unfold allD; rw [allD_map r]
theorem repVs_of_repL {ds : List D} {xs : List Value} (h : RepL ad w.τ ds xs) : RepVs ad w (ds.map .d) xs:=h.ind (P:=fun ds xs=>RepVs ad w (ds.map .d) xs) .nil fun a _ r=>.cons a r
theorem allD_eq : ∀ {vs : List V} {ds : List D},allD vs = some ds → vs = ds.map .d
  | [],ds,e=>by cases e; rfl
  | .d x :: r,ds,e=>by
    unfold allD at e
    split at e
    · rename_i q; cases e; rw [allD_eq q]; rfl
    · exact nope e
  | .c _ :: r,ds,e=>by unfold allD at e; exact nope e
theorem RepVs.length {vs : List V} {xs : List Value} (h : RepVs ad w vs xs) : vs.length = xs.length:=by
  induction h with
  | nil=>rfl
  | cons _ _ ih=>rw [List.length_cons,List.length_cons,ih]
theorem RepL.length {τ : Addr → Role} {ds : List D} {xs : List Value} (h : RepL ad τ ds xs) : ds.length = xs.length:=h.ind (P:=fun ds xs=>ds.length = xs.length) rfl fun _ _ r=>congrArg Nat.succ r
theorem RepVs.app {vs ws : List V} {xs ys : List Value} (h : RepVs ad w vs xs) (k : RepVs ad w ws ys) : RepVs ad w (vs ++ ws) (xs ++ ys):=by
  induction h with
  | nil=>exact k
  | cons a _ ih=>exact .cons a ih
theorem RepL.app {τ : Addr → Role} {vs ws : List D} {xs ys : List Value} (h : RepL ad τ vs xs) (k : RepL ad τ ws ys) : RepL ad τ (vs ++ ws) (xs ++ ys):=h.ind (P:=fun vs xs=>RepL ad τ (vs ++ ws) (xs ++ ys)) k fun a _ r=>.cons a r
theorem RepVs.nth {vs : List V} {xs : List Value} (h : RepVs ad w vs xs) : ∀ {n : Nat} {v : V},nth vs n = some v → ∃ x,xs[n]? = some x ∧ RepV ad w v x:=by
  induction h with
  | nil=>intro n v e; cases n <;> exact nope e
  | cons a _ ih =>
    intro n v e
    cases n with
    | zero=>cases e; exact ⟨_,rfl,a⟩
    | succ n=>exact ih e
theorem RepL.nth {τ : Addr → Role} {vs : List D} {xs : List Value} (h : RepL ad τ vs xs) {n : Nat} {v : D} (e : Mine.nth vs n = some v) : ∃ x,xs[n]? = some x ∧ Rep ad τ v x :=
  h.ind (P:=fun vs xs=>∀ n v,Mine.nth vs n = some v → ∃ x,xs[n]? = some x ∧ Rep ad τ v x) (fun n v e=>by cases n <;> exact nope e) (fun a _ ih n v e=>by
    cases n with
    | zero=>cases e; exact ⟨_,rfl,a⟩
    | succ n=>exact ih n v e) n v e
theorem nth_get {α : Type} : ∀ (l : List α) (n : Nat),nth l n = l[n]?
  | [],n=>by cases n <;> rfl
  | x :: r,0=>rfl
  | x :: r,n + 1=>by rw [List.getElem?_cons_succ]; exact nth_get r n
theorem RepVs.set {vs : List V} {xs : List Value} (h : RepVs ad w vs xs) {v : V} {x : Value} (hv : RepV ad w v x) : ∀ (n : Nat),RepVs ad w (vs.set n v) (xs.set n x):=by
  induction h with
  | nil=>intro n; exact .nil
  | cons a b ih =>
    intro n
    cases n with
    | zero=>exact .cons hv b
    | succ n=>exact .cons a (ih n)
theorem RepVs.erase {vs : List V} {xs : List Value} (h : RepVs ad w vs xs) : ∀ (n : Nat),RepVs ad w (vs.eraseIdx n) (xs.eraseIdx n):=by
  induction h with
  | nil=>intro n; exact .nil
  | cons a b ih =>
    intro n
    cases n with
    | zero=>exact b
    | succ n=>exact .cons a (ih n)
theorem hget_gone (hp : Hp) (a : Nat) : hget (hset hp a none) a = none:=by rw [hget_set,if_pos rfl]; split <;> rfl
theorem hget_gone' {hp : Hp} {n : Nat} (a : Nat) (h : hget hp n = none) : hget (hset hp a none) n = none:=by
  rw [hget_set]
  split
  · split <;> rfl
  · exact h
end
section
variable {g : Act} {h : Heap}
structure Frozen (g : Act) (h : Heap) (w : Wd) (hp : Hp) (st : St) (w' : Wd) (hp' : Hp) : Prop where
  le : w.le w'
  rel : Rel g w' { st with hp:=hp' } h
  mu : w'.mu = w.mu
  dead : ∀ n,hget hp n = none → hget hp' n = none
  roles : ∀ b,(∀ n,w.τ b = .mut n → hget hp n = none) → w'.τ b = w.τ b
theorem Frozen.stp {w w' : Wd} {hp hp' : Hp} {st : St} (F : Frozen g h w hp st w' hp') : Stp w h w' h :=
  ⟨F.le,fun b _ e q=>⟨q,(F.roles b fun n z=>by rw [e] at z; cases z).trans e⟩⟩
theorem frzGo_sound {f : Hp → V → Option (D × Hp)}
    (hf : ∀ {hp hp' : Hp} {v : V} {d : D},f hp v = some (d,hp') → ∀ {w : Wd} {st : St} {x : Value},Rel g w { st with hp:=hp } h → RepV g.ad w v x → ∃ w',Frozen g h w hp st w' hp' ∧ Rep g.ad w'.τ d x) :
    ∀ {vs : List V} {hp hp' : Hp} {ds : List D},frz.go f hp vs = some (ds,hp') → ∀ {w : Wd} {st : St} {xs : List Value},Rel g w { st with hp:=hp } h → RepVs g.ad w vs xs → ∃ w',Frozen g h w hp st w' hp' ∧ RepL g.ad w'.τ ds xs
  | [],hp,hp',ds,e,w,st,xs,R,r=>by
    unfold frz.go at e; cases e; cases r
    exact ⟨w,⟨.refl w,R,rfl,fun _ q=>q,fun _ _=>rfl⟩,.nil⟩
  | v :: vs,hp,hp',ds,e,w,st,xs,R,r=>by
    unfold frz.go at e
    split at e
    · rename_i d hp1 q
      split at e
      · rename_i ds' hp2 q2
        cases e
        cases r with
        | cons a b =>
          obtain ⟨w1,F1,r1⟩:=hf q R a
          obtain ⟨w2,F2,r2⟩:=frzGo_sound hf q2 F1.rel (b.mono g.ok F1.le)
          refine ⟨w2,⟨F1.le.trans F2.le,F2.rel,F2.mu.trans F1.mu,fun n z=>F2.dead n (F1.dead n z),fun b z=>?_⟩,.cons (r1.mono g.ok F2.le.one) r2⟩
          have z1:=F1.roles b z
          exact (F2.roles b fun n y=>F1.dead n (z n (by rw [← z1]; exact y))).trans z1
      · exact nope e
    · exact nope e
theorem frz_sound : ∀ (k : Nat) {hp hp' : Hp} {v : V} {d : D},frz k hp v = some (d,hp') → ∀ {w : Wd} {st : St} {x : Value},Rel g w { st with hp:=hp } h → RepV g.ad w v x → ∃ w',Frozen g h w hp st w' hp' ∧ Rep g.ad w'.τ d x
  | k,hp,hp',.d y,d,e,w,st,x,R,r=>by
    have : some (y,hp) = some (d,hp'):=by cases k <;> exact e
    cases this
    exact ⟨w,⟨.refl w,R,rfl,fun _ q=>q,fun _ _=>rfl⟩,r⟩
  | 0,hp,hp',.c a,d,e,w,st,x,R,r=>by unfold frz at e; exact nope e
  | k + 1,hp,hp',.c a,d,e,w,st,x,R,r=>by
    unfold frz at e
    obtain ⟨ax,hax,rfl⟩:=r
    split at e
    · rename_i vs hc
      split at e
      · rename_i ds hp1 q
        cases e
        cases R.cells a _ hc with
        | lst h1 h2 h3 h4 =>
          rw [hax] at h1; obtain rfl:=Option.some.inj h1
          have R1 : Rel g w { st with hp:=hset hp a none } h:=R.drop a
          obtain ⟨w1,F,r1⟩:=frzGo_sound (frz_sound k) q R1 h4
          have t1 : w1.τ ax = .mut a:=(F.roles ax fun n z=>by
            rw [h2] at z; cases z
            exact hget_gone hp a).trans h2
          have d1 : hget hp' a = none:=F.dead a (hget_gone hp a)
          obtain ⟨l2,R2⟩:=F.rel.still t1 d1 h3
          refine ⟨_,⟨F.le.trans l2,R2,F.mu,fun n z=>F.dead n (hget_gone' a z),fun b z=>?_⟩,.lst Wd.setτ_eq (r1.mono g.ok l2.one)⟩
          have hb : b ≠ ax:=by rintro rfl; have:=z a h2; rw [hc] at this; cases this
          rw [Wd.setτ_ne hb]
          exact F.roles b fun n y=>hget_gone' a (z n y)
      · exact nope e
    · rename_i c ns vs hc
      split at e
      · rename_i ds hp1 q
        cases e
        cases R.cells a _ hc with
        | inst h1 h2 h3 h4 h5 h7 h8 h9 h6 =>
          rename_i dx xs od mm
          rw [hax] at h1; obtain rfl:=Option.some.inj h1
          have R1 : Rel g w { st with hp:=hset hp a none } h:=R.drop a
          have ne : dx ≠ ax:=by rintro rfl; rw [h3] at h5; cases h5; obtain ⟨_,_,q,_,_⟩:=h7; cases q
          obtain ⟨w1,F,r1⟩:=frzGo_sound (frz_sound k) q R1 h6
          have t0 : ∀ b,w.τ b = .mut a → w1.τ b = .mut a:=fun b hb=>(F.roles b fun n z=>by
            rw [hb] at z; cases z
            exact hget_gone hp a).trans hb
          have d1 : hget hp' a = none:=F.dead a (hget_gone hp a)
          obtain ⟨l2,R2⟩:=F.rel.still (t0 ax h2) d1 h3
          obtain ⟨l3,R3⟩:=R2.still (a:=dx) (n:=a) ((Wd.setτ_ne ne).trans (t0 dx h4)) d1 h5
          refine ⟨_,⟨F.le.trans (l2.trans l3),R3,F.mu,fun n z=>F.dead n (hget_gone' a z),fun b z=>?_⟩,.inst (l3.one _ _ Wd.setτ_eq) Wd.setτ_eq h7.ns h9 (r1.mono g.ok (l2.trans l3).one)⟩
          have hb : b ≠ ax:=by rintro rfl; have:=z a h2; rw [hc] at this; cases this
          have hb' : b ≠ dx:=by rintro rfl; have:=z a h4; rw [hc] at this; cases this
          rw [Wd.setτ_ne hb',Wd.setτ_ne hb]
          exact F.roles b fun n y=>hget_gone' a (z n y)
      · exact nope e
    · exact nope e
theorem Rel.newLst {w : Wd} {st : St} (R : Rel g w st h) {vs : List V} {xs : List Value} (hv : RepVs g.ad w vs xs) :
    ∃ w',Stp w h w' (h.push (lstObj xs 0)) ∧ Rel g w' { st with hp:=st.hp ++ [some (.lst vs)] } (h.push (lstObj xs 0)) ∧ RepV g.ad w' (.c st.hp.length) (.ref h.objs.size):=by
  have f:=R.free (Nat.le_refl _)
  let w' : Wd:=⟨fun b=>if b = h.objs.size then .mut st.hp.length else w.τ b,w.mu ++ [h.objs.size]⟩
  have l : w.le w':=⟨fun b e=>if_neg (by rintro rfl; rw [f] at e; exact e),fun n a e=>by
    show (w.mu ++ [h.objs.size])[n]? = some a
    rw [List.getElem?_append_left (List.getElem?_eq_some_iff.mp e).1]; exact e⟩
  have k : ∀ {a : Addr} {r : Role},w.τ a = r → r ≠ .free → w'.τ a = r:=fun e q=>(if_neg (by rintro rfl; rw [f] at e; exact q e.symm)).trans e
  have hnew : w'.mu[st.hp.length]? = some h.objs.size:=by
    show (w.mu ++ [h.objs.size])[st.hp.length]? = _
    rw [← R.len]; simp
  have P:=R.push (lstObj xs 0)
  refine ⟨w',⟨l,fun b o' e q=>⟨Heap.get?_push_of_some _ q,(if_neg (Nat.ne_of_lt (Heap.lt_size q))).trans e⟩⟩,⟨P.ext,fun a o e=>?_,fun a m=>?_,fun a o e=>?_,fun a m=>?_,?_,fun n c e=>?_,k R.locT (fun q=>by cases q),?_,R.lock,fun n e=>?_,R.gl⟩,⟨_,hnew,rfl⟩⟩
  · by_cases ha : a = h.objs.size
    · rw [show w'.τ a = _ from if_pos ha] at e; cases e
    · rw [show w'.τ a = _ from if_neg ha] at e; exact P.fro a o e
  · by_cases ha : a = h.objs.size
    · exact .inr (ha ▸ R.size)
    · rw [show w'.τ a = _ from if_neg ha] at m; exact P.mfresh a m
  · by_cases ha : a = h.objs.size
    · rw [show w'.τ a = _ from if_pos ha] at e; cases e
    · rw [show w'.τ a = _ from if_neg ha] at e; exact P.frosh a o e
  · by_cases ha : a = h.objs.size
    · subst ha; exact ⟨_,Heap.get?_push_size _ rfl⟩
    · rw [show w'.τ a = _ from if_neg ha] at m; exact P.mthere a m
  · show (w.mu ++ [h.objs.size]).length = (st.hp ++ [some (Ct.lst vs)]).length
    simp [R.len]
  · rw [hget_app] at e
    by_cases hn : n = st.hp.length
    · rw [if_pos hn] at e; cases e; subst hn
      exact .lst hnew (if_pos rfl) (Heap.get?_push_size _ rfl) (hv.mono g.ok l)
    · rw [if_neg hn] at e
      exact (P.cells n c e).le g.ok l fun b z=>k z (fun q=>by cases q)
  · obtain ⟨m,hn,r⟩:=P.loc
    exact ⟨m,hn,fun n v e=>let ⟨x,p,q⟩:=r n v e; ⟨x,p,q.mono g.ok l⟩⟩
  · obtain ⟨c,v0,b,t,i,r⟩:=P.cel n e
    exact ⟨c,v0,b,t.le l,i,fun v e=>let ⟨x,p,q⟩:=r v e; ⟨x,p,q.mono g.ok l⟩⟩
end
end Mine
end
section
open PySem.Spec
namespace Mine
mutual
noncomputable def D.toP : D → PyData
  | .none=>.none
  | .bool b=>.bool b
  | .int i=>.int i
  | .str s=>.str (strOf s)
  | .tup xs=>.tuple (D.toPs xs)
  | .lst xs=>.list (D.toPs xs)
  | _=>.none
noncomputable def D.toPs : List D → List PyData
  | []=>[]
  | x :: r=>D.toP x :: D.toPs r
end
section
variable {ad : Ad} {τ : Addr → Role} {h : Heap}
theorem pl_cases {n : Nat} {d : D} (h : D.isPl n d = true) : d = .none ∨ (∃ i,d = .int i) ∨ (∃ s,d = .str s) ∨ (∃ xs,d = .tup xs) ∨ ∃ xs,d = .lst xs:=by
  cases d with
  | none=>exact .inl rfl
  | int i=>exact .inr (.inl ⟨i,rfl⟩)
  | str s=>exact .inr (.inr (.inl ⟨s,rfl⟩))
  | tup xs=>exact .inr (.inr (.inr (.inl ⟨xs,rfl⟩)))
  | lst xs=>exact .inr (.inr (.inr (.inr ⟨xs,rfl⟩)))
  | _=>cases n <;> exact nof h
theorem Rep.reads (hf : ∀ a o,τ a = .fro o → h.get? a = some o) {x : D} {v : Value} (n : Nat) (r : Rep ad τ x v) (e : D.isPl n x = true) : ∃ as,Reads h v x.toP as:=by
  induction n generalizing x v with
  | zero =>
    rcases pl_cases e with rfl | ⟨i,rfl⟩ | ⟨s,rfl⟩ | ⟨_,rfl⟩ | ⟨_,rfl⟩
    · obtain rfl:=Rep.none_inv r; exact ⟨_,Reads.none⟩
    · obtain ⟨t,rfl⟩:=Rep.int_inv r; exact ⟨_,Reads.int i t⟩
    · obtain ⟨t,rfl⟩:=Rep.str_inv r; exact ⟨_,Reads.str _ t⟩
    · exact nof e
    · exact nof e
  | succ n ih =>
    have all : ∀ (xs : List D) (vs : List Value),RepL ad τ xs vs → (∀ d ∈ xs,D.isPl n d = true) → ∃ as,ReadsAll h vs (D.toPs xs) as:=by
      intro xs
      induction xs with
      | nil=>intro vs r _; cases r; exact ⟨_,ReadsAll.nil⟩
      | cons x xs ihl =>
        intro vs r hd
        cases r with
        | cons a b =>
          obtain ⟨as,q⟩:=ih a (hd _ (.head _))
          obtain ⟨bs,p⟩:=ihl _ b fun d hx=>hd d (.tail _ hx)
          exact ⟨_,ReadsAll.cons q p⟩
    rcases pl_cases e with rfl | ⟨i,rfl⟩ | ⟨s,rfl⟩ | ⟨xs,rfl⟩ | ⟨xs,rfl⟩
    · obtain rfl:=Rep.none_inv r; exact ⟨_,Reads.none⟩
    · obtain ⟨t,rfl⟩:=Rep.int_inv r; exact ⟨_,Reads.int i t⟩
    · obtain ⟨t,rfl⟩:=Rep.str_inv r; exact ⟨_,Reads.str _ t⟩
    · obtain ⟨_,_,_,rfl,a,b⟩:=Rep.tup_inv r
      obtain ⟨as,q⟩:=all _ _ b (List.all_eq_true.mp e)
      exact ⟨as,reads_tuple_at (hf _ _ a) rfl rfl (by simpa using q)⟩
    · obtain ⟨_,_,_,rfl,a,b⟩:=Rep.lst_inv r
      obtain ⟨as,q⟩:=all _ _ b (List.all_eq_true.mp e)
      exact ⟨_,reads_list_at (hf _ _ a) rfl rfl (by simpa using q)⟩
end
theorem str_beq (a b : List Nat) : (a == b) = decide (strOf a = strOf b):=by
  by_cases h : a = b
  · subst h; simp
  · rw [show (a == b) = false from by simpa using h]
    refine (decide_eq_false fun q=>h ?_).symm
    unfold strOf at q
    injection q with q
    exact congrArg Array.toList q
theorem pl_lay : ∀ (n : Nat) (d : D),D.isPl n d = true → d.toP.canLay0 = true ∧ d.toP.depth ≤ n:=by
  have all : ∀ (n : Nat),(∀ d,D.isPl n d = true → d.toP.canLay0 = true ∧ d.toP.depth ≤ n) → ∀ ds : List D,(∀ d ∈ ds,D.isPl n d = true) → PyData.canLayAll0 (D.toPs ds) = true ∧ PyData.depthAll (D.toPs ds) ≤ n:=by
    intro n ih ds
    induction ds with
    | nil=>intro _; simp [D.toPs,PyData.canLayAll0,PyData.depthAll]
    | cons d ds hi =>
      intro h
      have h1:=ih d (h d (.head _))
      have h2:=hi fun e he=>h e (.tail _ he)
      simp only [D.toPs,PyData.canLayAll0,PyData.depthAll,h1.1,h2.1,Bool.and_self,true_and]
      have a1:=h1.2
      have a2:=h2.2
      omega
  intro n
  induction n with
  | zero =>
    intro d h
    cases d <;> simp_all [D.isPl,D.toP,PyData.canLay0,PyData.depth,PyData.strOk,strOf]
  | succ n ih =>
    intro d h
    cases d with
    | tup ds =>
      have q:=all n ih ds (by simpa [D.isPl] using h)
      have q2:=q.2
      simp only [D.toP,PyData.canLay0,PyData.depth,q.1,true_and]
      omega
    | lst ds =>
      have q:=all n ih ds (by simpa [D.isPl] using h)
      have q2:=q.2
      simp only [D.toP,PyData.canLay0,PyData.depth,q.1,true_and]
      omega
    | _=>simp_all [D.isPl,D.toP,PyData.canLay0,PyData.depth,PyData.strOk,strOf]
theorem pl_eqv : ∀ (n : Nat) (d e : D) (k : Nat),D.isPl n d = true → D.isPl k e = true → PyData.eqv d.toP e.toP = D.beq d e:=by
  have all : ∀ (n : Nat),(∀ d e k,D.isPl n d = true → D.isPl k e = true → PyData.eqv d.toP e.toP = D.beq d e) → ∀ (k : Nat) (ds es : List D),(∀ d ∈ ds,D.isPl n d = true) → (∀ d ∈ es,D.isPl k d = true) →
      PyData.eqvAll (D.toPs ds) (D.toPs es) = D.beqL ds es:=by
    intro n ih k ds
    induction ds with
    | nil=>intro es _ _; cases es <;> rfl
    | cons d ds hi =>
      intro es h1 h2
      cases es with
      | nil=>rfl
      | cons e es =>
        have q1:=ih d e k (h1 d (.head _)) (h2 e (.head _))
        have q2:=hi es (fun x hx=>h1 x (.tail _ hx)) fun x hx=>h2 x (.tail _ hx)
        show (PyData.eqv d.toP e.toP && PyData.eqvAll (D.toPs ds) (D.toPs es)) = (D.beq d e && D.beqL ds es)
        rw [q1,q2]
  intro n
  induction n with
  | zero =>
    intro d e k h1 h2
    rcases pl_cases h1 with rfl | ⟨_,rfl⟩ | ⟨_,rfl⟩ | ⟨_,rfl⟩ | ⟨_,rfl⟩
    · rcases pl_cases h2 with rfl | ⟨_,rfl⟩ | ⟨_,rfl⟩ | ⟨_,rfl⟩ | ⟨_,rfl⟩ <;> rfl
    · rcases pl_cases h2 with rfl | ⟨_,rfl⟩ | ⟨_,rfl⟩ | ⟨_,rfl⟩ | ⟨_,rfl⟩ <;> rfl
    · rcases pl_cases h2 with rfl | ⟨_,rfl⟩ | ⟨_,rfl⟩ | ⟨_,rfl⟩ | ⟨_,rfl⟩ <;> first | rfl | exact (str_beq _ _).symm
    · exact nof h1
    · exact nof h1
  | succ n ih =>
    intro d e k h1 h2
    rcases pl_cases h1 with rfl | ⟨_,rfl⟩ | ⟨_,rfl⟩ | ⟨ds,rfl⟩ | ⟨ds,rfl⟩
    · rcases pl_cases h2 with rfl | ⟨_,rfl⟩ | ⟨_,rfl⟩ | ⟨_,rfl⟩ | ⟨_,rfl⟩ <;> rfl
    · rcases pl_cases h2 with rfl | ⟨_,rfl⟩ | ⟨_,rfl⟩ | ⟨_,rfl⟩ | ⟨_,rfl⟩ <;> rfl
    · rcases pl_cases h2 with rfl | ⟨_,rfl⟩ | ⟨_,rfl⟩ | ⟨_,rfl⟩ | ⟨_,rfl⟩ <;> first | rfl | exact (str_beq _ _).symm
    · rcases pl_cases h2 with rfl | ⟨_,rfl⟩ | ⟨_,rfl⟩ | ⟨es,rfl⟩ | ⟨_,rfl⟩ <;> try rfl
      cases k with
      | zero=>exact nof h2
      | succ k=>exact all n ih k ds es (List.all_eq_true.mp h1) (List.all_eq_true.mp h2)
    · rcases pl_cases h2 with rfl | ⟨_,rfl⟩ | ⟨_,rfl⟩ | ⟨_,rfl⟩ | ⟨es,rfl⟩ <;> try rfl
      cases k with
      | zero=>exact nof h2
      | succ k=>exact all n ih k ds es (List.all_eq_true.mp h1) (List.all_eq_true.mp h2)
end Mine
end
section
open PySem.Spec
namespace Mine
structure Rm (A : Around) (d : Nat) : Prop where
  hd : A.handled = none
  un : A.units + 10 * d + 200 < cLine
  dp : A.depth + d < 900
theorem rmU {a j d k : Nat} (h : j ≤ 10) (r : a + 10 * (d + 1) + 200 < k) : a + j + 10 * d + 200 < k:=Nat.lt_of_le_of_lt (Nat.add_le_add_right (Nat.le_trans (Nat.le_of_eq (Nat.add_assoc a j _)) (Nat.add_le_add_left (Nat.le_trans (Nat.le_of_eq (Nat.add_comm j _)) (Nat.add_le_add_left h _)) a)) 200) r
theorem rmD {a d k : Nat} (r : a + (d + 1) < k) : a + 1 + d < k:=Nat.lt_of_le_of_lt (Nat.le_of_eq (Nat.succ_add a d)) r
theorem rmW {a j d k : Nat} (h : j ≤ 200) (r : a + 10 * d + 200 < k) : a + j < k:=Nat.lt_of_le_of_lt (Nat.add_le_add (Nat.le_add_right a _) h) r
theorem Rm.u {A : Around} {d : Nat} (r : Rm A d) : A.units + 64 < cLine:=rmW (by decide) r.un
theorem Rm.less {A : Around} {d e : Nat} (r : Rm A d) (h : e ≤ d) : Rm A e:=⟨r.hd,Nat.lt_of_le_of_lt (Nat.add_le_add_right (Nat.add_le_add_left (Nat.mul_le_mul_left 10 h) _) _) r.un,Nat.lt_of_le_of_lt (Nat.add_le_add_left h _) r.dp⟩
theorem Rm.in1 {A : Around} {d : Nat} (r : Rm A (d + 1)) : Rm A.in1 d:=⟨r.hd,rmU (j:=1) (by decide) r.un,Nat.lt_of_succ_lt r.dp⟩
theorem Rm.deeper {A : Around} {d : Nat} {env : Env} (r : Rm A (d + 1)) : Rm (A.deeper env) d:=⟨r.hd,rmU (j:=3) (by decide) r.un,rmD r.dp⟩
theorem bif_some {α : Type} {b : Bool} {x y : Option α} {r : α} (h : bif' b x y = some r) (hy : y = none) : b = true ∧ x = some r:=by
  cases b with
  | true=>exact ⟨rfl,h⟩
  | false=>rw [hy] at h; exact nope h
section
variable {prog : Program} {W : World} {A : Around} {E : Value → Shared → Prop} {s : Shared} {g : Act} {w : Wd} {st : St} {d : Nat}
noncomputable abbrev Hands (g : Act) (w : Wd) (st : St) (s : Shared) (r : D) (Q : Value → Shared → Prop) : Prop :=
  ∀ w' h' tk v,Stp w s.heap w' h' → Rel g w' st h' → Rep g.ad w'.τ r v → Q v { s with heap:=h',toks:=tk }
theorem Hands.same {r : D} {Q : Value → Shared → Prop} (R : Rel g w st s.heap) (k : Hands g w st s r Q) {v : Value} {tk : Nat} (h : Rep g.ad w.τ r v) : Q v { s with toks:=tk }:=k w s.heap tk v (.refl w _) R h
theorem mulOk {a b : Int} (h : (decide (a.natAbs < 2 ^ 60) || decide (b.natAbs < 2 ^ 60)) = true) : IntMulOk a b:=by
  rcases Bool.or_eq_true_iff.mp h with q | q
  · have:=of_decide_eq_true q
    exact .of_left (intBits_le_64 (by omega) (by omega))
  · have:=of_decide_eq_true q
    exact .of_right (intBits_le_64 (by omega) (by omega))
theorem isList_of {a : Addr} {vs : List Value} {n : Nat} {h : Heap} (e : h.get? a = some (lstObj vs n)) : h.IsList a vs.toArray:=⟨_,e,rfl,n,rfl⟩
theorem add_lists' {l b : Addr} {vs ws : List Value} {n n2 : Nat} {Q : Value → Shared → Prop} (ho : s.heap.get? l = some (lstObj vs n)) (ho2 : s.heap.get? b = some (lstObj ws n2))
    (hsz : vs.length + ws.length ≤ sizeLine) (h : Q (.ref s.heap.objs.size) { s with heap:=s.heap.push (lstObj (vs ++ ws) 0) }) :
    wpAny (model prog W) A (binaryOp .Add (.ref l) (.ref b)) Q E s:=by
  have e : vs.toArray ++ ws.toArray = (vs ++ ws).toArray:=by simp
  refine concat_meets ⟨_,ho,rfl⟩ ⟨_,ho2,rfl⟩ noFill_list_add seq_list_add PySem.F.slot_list_add PySem.F.entry_list_add (PySem.F.args_list_add_2 _ _) (list_addW l b vs.toArray ws.toArray n n2 none none #[] #[] (by simpa using hsz)) ⟨ho,ho2,?_⟩
  rw [e]
  exact h
theorem small_line {n : Nat} (h : n ≤ 1000000) : n ≤ sizeLine:=by rw [sizeLine_eq]; omega
theorem binI_sound {op : Operator} {x y : Int} {r : D} {t u : Tok} {Q : Value → Shared → Prop} (e : binI op x y = some r) (R : Rel g w st s.heap) (k : Hands g w st s r Q) : wpAny (model prog W) A (binaryOp op (.int x t) (.int y u)) Q E s:=by
  unfold binI at e
  split at e
  · cases e; exact PyProof.Rows.add_int (k.same R (.int _ _))
  · cases e; exact PyProof.Rows.sub_int (k.same R (.int _ _))
  · obtain ⟨hb,e⟩:=bif_some e rfl
    cases e; exact PyProof.Rows.mul_int (k.same R (.int _ _)) (mulOk hb)
  · obtain ⟨hb,e⟩:=bif_some e rfl
    obtain rfl:=Option.some.inj e
    rw [Bool.and_eq_true] at hb
    exact PyProof.Rows.floordiv_int (of_decide_eq_true hb.1) (k.same R (.int _ _)) (.inl (PyProof.noPylong_small (of_decide_eq_true hb.2)))
  · obtain ⟨hb,e⟩:=bif_some e rfl
    obtain rfl:=Option.some.inj e
    exact PyProof.Rows.mod_int' (of_decide_eq_true hb) (k.same R (.int _ _))
  · obtain ⟨hb,e⟩:=bif_some e rfl
    obtain rfl:=Option.some.inj e
    rw [Bool.and_eq_true,Bool.and_eq_true] at hb
    have h2:=of_decide_eq_true hb.1.2
    exact PyProof.Rows.lshift_int_small (of_decide_eq_true hb.1.1) (by omega) (of_decide_eq_true hb.2) (k.same R (.int _ _))
  · obtain ⟨hb,e⟩:=bif_some e rfl
    obtain rfl:=Option.some.inj e
    exact PyProof.Rows.rshift_int (of_decide_eq_true hb) (k.same R (.int _ _))
  · cases e; exact PyProof.Rows.and_int (k.same R (.int _ _))
  · cases e; exact PyProof.Rows.or_int (k.same R (.int _ _))
  · cases e; exact PyProof.Rows.xor_int (k.same R (.int _ _))
  · exact nope e
theorem binD_sound {op : Operator} {x y r : D} {vx vy : Value} {Q : Value → Shared → Prop} (e : binD op x y = some r) (R : Rel g w st s.heap) (rx : Rep g.ad w.τ x vx) (ry : Rep g.ad w.τ y vy)
    (k : Hands g w st s r Q) : wpAny (model prog W) A (binaryOp op vx vy) Q E s:=by
  unfold binD at e
  split at e
  · split at e
    · obtain ⟨_,rfl⟩:=Rep.int_inv rx
      obtain ⟨_,rfl⟩:=Rep.int_inv ry
      exact binI_sound e R k
    · exact nope e
  · split at e
    · unfold addLD at e
      split at e
      · obtain ⟨hb,e⟩:=bif_some e rfl
        obtain rfl:=Option.some.inj e
        have hb:=of_decide_eq_true hb
        obtain ⟨_,_,_,rfl,a1,b1⟩:=Rep.lst_inv rx
        obtain ⟨_,_,_,rfl,a2,b2⟩:=Rep.lst_inv ry
        rw [b1.length,b2.length] at hb
        obtain ⟨l,R'⟩:=R.newFro (lstObj (_ ++ _) 0) rfl
        exact add_lists' (R.fro _ _ a1) (R.fro _ _ a2) (small_line (by omega)) (k _ _ s.toks _ l R' (.lst Wd.setτ_eq ((b1.app b2).mono g.ok l.one)))
      · exact nope e
    · exact nope e
  · exact nope e
theorem shaped_pl {d : D} (h : D.isPl 8 d = true) : SeqAt.shaped d.toP = true:=by
  obtain ⟨a,b⟩:=pl_lay 8 d h
  unfold SeqAt.shaped
  rw [a,Bool.true_and]
  exact decide_eq_true (Nat.le_trans b (by decide))
theorem pl_all {xs : List D} (h : xs.all (D.isPl 8) = true) : PyData.canLayAll0 (D.toPs xs) = true ∧ PyData.depthAll (D.toPs xs) ≤ 9:=by
  have l:=pl_lay 9 (.lst xs) (by simpa [D.isPl] using h)
  simp only [D.toP,PyData.canLay0,PyData.depth] at l
  have l2:=l.2
  exact ⟨l.1,by omega⟩
theorem pl_any {a : D} (ha : D.isPl 8 a = true) : ∀ {xs : List D},xs.all (D.isPl 8) = true → ((D.toPs xs).any fun y=>PyData.eqv y a.toP) = xs.any fun y=>D.beq y a
  | [],_=>by simp [D.toPs]
  | x :: r,h=>by
    rw [List.all_cons,Bool.and_eq_true] at h
    rw [D.toPs,List.any_cons,List.any_cons,pl_any ha h.2,pl_eqv 8 x a 8 h.1 ha]
theorem isNone_sound {τ : Addr → Role} {x : D} {b : Bool} {v : Value} (e : isNone x = some b) (r : Rep g.ad τ x v) : (v == Value.none) = b:=by
  cases r <;> cases e <;> rfl
theorem ltI_some {f : Int → Int → Bool} {x y : D} {r : Bool} (e : ltI f x y = some r) : ∃ a b,x = .int a ∧ y = .int b ∧ f a b = r:=by
  unfold ltI at e
  split at e
  · split at e
    · exact ⟨_,_,rfl,rfl,Option.some.inj e⟩
    · exact nope e
  · exact nope e
theorem cmpD_sound {op : CmpOp} {x y : D} {r : Bool} {vx vy : Value} {Q : Value → Shared → Prop} {τ : Addr → Role} (rm : Rm A d) (e : cmpD op x y = some r) (hf : ∀ a o,τ a = .fro o → s.heap.get? a = some o) (rx : Rep g.ad τ x vx) (ry : Rep g.ad τ y vy)
    (k : ∀ tk,Q (.bool r) { s with toks:=tk }) : wpAny (model prog W) A (compareOp op vx vy) Q E s:=by
  have k0 : Q (.bool r) s:=k s.toks
  have isIn : ∀ {xs : List D} {a : D},(D.isPl 8 a && xs.all (D.isPl 8)) = true → A.units + 1 + min (PyData.depthAll (D.toPs xs)) a.toP.depth < cLine:=fun {xs a} hb=>by
    rw [Bool.and_eq_true] at hb
    have l2:=(pl_lay 8 a hb.1).2
    exact Nat.add_assoc A.units 1 _ ▸ rmW (Nat.le_trans (Nat.add_le_add_left (Nat.le_trans (Nat.min_le_right ..) l2) 1) (by decide)) rm.un
  unfold cmpD at e
  split at e
  · obtain ⟨hb,e⟩:=bif_some e rfl
    rw [Bool.and_eq_true] at hb
    obtain ⟨as,ra⟩:=rx.reads hf 8 hb.1
    obtain ⟨bs,rb⟩:=ry.reads hf 8 hb.2
    refine eq_dataH ra rb (shaped_pl hb.1) (shaped_pl hb.2) rm.u ?_
    rw [pl_eqv 8 _ _ 8 hb.1 hb.2,Option.some.inj e]; exact k0
  · obtain ⟨hb,e⟩:=bif_some e rfl
    rw [Bool.and_eq_true] at hb
    obtain ⟨as,ra⟩:=rx.reads hf 8 hb.1
    obtain ⟨bs,rb⟩:=ry.reads hf 8 hb.2
    refine ne_dataH ra rb (shaped_pl hb.1) (shaped_pl hb.2) rm.u ?_
    rw [pl_eqv 8 _ _ 8 hb.1 hb.2,Option.some.inj e]; exact k0
  · obtain ⟨_,_,rfl,rfl,rfl⟩:=ltI_some e
    obtain ⟨_,rfl⟩:=Rep.int_inv rx
    obtain ⟨_,rfl⟩:=Rep.int_inv ry
    exact PyProof.Rows.lt_int k0
  · obtain ⟨_,_,rfl,rfl,rfl⟩:=ltI_some e
    obtain ⟨_,rfl⟩:=Rep.int_inv rx
    obtain ⟨_,rfl⟩:=Rep.int_inv ry
    exact PyProof.Rows.le_int k0
  · obtain ⟨_,_,rfl,rfl,rfl⟩:=ltI_some e
    obtain ⟨_,rfl⟩:=Rep.int_inv rx
    obtain ⟨_,rfl⟩:=Rep.int_inv ry
    exact PyProof.Rows.gt_int k0
  · obtain ⟨_,_,rfl,rfl,rfl⟩:=ltI_some e
    obtain ⟨_,rfl⟩:=Rep.int_inv rx
    obtain ⟨_,rfl⟩:=Rep.int_inv ry
    exact PyProof.Rows.ge_int k0
  · split at e
    · obtain rfl:=Rep.none_inv ry
      refine is_none ?_
      rw [isNone_sound e rx]; exact k0
    · exact nope e
  · split at e
    · obtain rfl:=Rep.none_inv ry
      refine isNot_none ?_
      obtain ⟨b,e1,e2⟩:=Option.map_eq_some_iff.mp e
      rw [isNone_sound e1 rx,e2]; exact k0
    · exact nope e
  · split at e
    · obtain ⟨hb,e⟩:=bif_some e rfl
      have hb':=Bool.and_eq_true_iff.mp hb
      obtain ⟨as,ra⟩:=rx.reads hf 8 hb'.1
      obtain ⟨bs,rb⟩:=ry.reads hf 9 (by simpa [D.isPl] using hb'.2)
      rw [D.toP] at rb
      exact SeqAt.in_list_reads rb ra (pl_all hb'.2).1 (pl_lay 8 _ hb'.1).1 (isIn hb) (by rw [pl_any hb'.1 hb'.2,Option.some.inj e]; exact k0)
    · obtain ⟨hb,e⟩:=bif_some e rfl
      have hb':=Bool.and_eq_true_iff.mp hb
      obtain ⟨as,ra⟩:=rx.reads hf 8 hb'.1
      obtain ⟨bs,rb⟩:=ry.reads hf 9 (by simpa [D.isPl] using hb'.2)
      rw [D.toP] at rb
      exact SeqAt.in_tuple_reads rb ra (pl_all hb'.2).1 (pl_lay 8 _ hb'.1).1 (isIn hb) (by rw [pl_any hb'.1 hb'.2,Option.some.inj e]; exact k0)
    · exact nope e
  · split at e
    · obtain ⟨hb,e⟩:=bif_some e rfl
      have hb':=Bool.and_eq_true_iff.mp hb
      obtain ⟨as,ra⟩:=rx.reads hf 8 hb'.1
      obtain ⟨bs,rb⟩:=ry.reads hf 9 (by simpa [D.isPl] using hb'.2)
      rw [D.toP] at rb
      exact SeqAt.notIn_list_reads rb ra (pl_all hb'.2).1 (pl_lay 8 _ hb'.1).1 (isIn hb) (by rw [pl_any hb'.1 hb'.2,Option.some.inj e]; exact k0)
    · obtain ⟨hb,e⟩:=bif_some e rfl
      have hb':=Bool.and_eq_true_iff.mp hb
      obtain ⟨as,ra⟩:=rx.reads hf 8 hb'.1
      obtain ⟨bs,rb⟩:=ry.reads hf 9 (by simpa [D.isPl] using hb'.2)
      rw [D.toP] at rb
      exact SeqAt.notIn_tuple_reads rb ra (pl_all hb'.2).1 (pl_lay 8 _ hb'.1).1 (isIn hb) (by rw [pl_any hb'.1 hb'.2,Option.some.inj e]; exact k0)
    · exact nope e
theorem truD_sound {x : D} {b : Bool} {v : Value} {Q : Bool → Shared → Prop} (e : truD x = some b) (rx : Rep g.ad w.τ x v) (k : Q b s) : wpAny (model prog W) A (truthy v) Q E s:=by
  unfold truD at e
  split at e
  · obtain rfl:=Rep.none_inv rx
    obtain rfl:=Option.some.inj e
    exact PyProof.Rows.truthy_none k
  · obtain rfl:=Rep.bool_inv rx
    obtain rfl:=Option.some.inj e
    exact wpAny_truthy_bool k
  · obtain ⟨_,rfl⟩:=Rep.int_inv rx
    obtain rfl:=Option.some.inj e
    exact PySem.P.truthy_int k
  · exact nope e
theorem rep_toList : ∀ (n : Nat) (xs : List Value) (acc : Array Value),(List.foldl (fun x1 x2=>x1 ++ x2) acc (List.replicate n xs.toArray)).toList = acc.toList ++ (List.replicate n xs).flatten
  | 0,xs,acc=>by simp
  | n + 1,xs,acc=>by rw [List.replicate_succ,List.foldl_cons,rep_toList n xs,List.replicate_succ,List.flatten_cons]; simp
theorem repVs_rep {xs : List D} {vs : List Value} (h : RepL g.ad w.τ xs vs) : ∀ n : Nat,RepVs g.ad w (rep xs n) (List.replicate n vs).flatten
  | 0=>.nil
  | n + 1=>by rw [List.replicate_succ,List.flatten_cons]; exact (repVs_of_repL h).app (repVs_rep h n)
theorem mul_list' {l : Addr} {vs : List Value} {x : Int} {k : Nat} {u : Tok} {Q : Value → Shared → Prop} (hl : s.heap.get? l = some (lstObj vs k)) (h0 : 0 ≤ x) (hn : x ≤ 1000) (hs : vs.length ≤ 1000)
    (h : Q (.ref s.heap.objs.size) { s with heap:=s.heap.push (lstObj (List.replicate x.toNat vs).flatten 0) }) :
    wpAny (model prog W) A (binaryOp .Mult (.ref l) (.int x u)) Q E s:=by
  have h2 : vs.length * x.toNat ≤ 1000 * 1000:=Nat.mul_le_mul hs (by omega)
  have hz : vs.toArray.size * x.toNat ≤ 2 ^ 24:=by rw [List.size_toArray]; omega
  have e : (List.foldl (fun x1 x2=>x1 ++ x2) #[] (List.replicate (if vs.toArray.isEmpty = true then 0 else x.toNat) vs.toArray)) = ((List.replicate x.toNat vs).flatten).toArray:=by
    apply Array.ext'
    rw [rep_toList]
    by_cases hv : vs = []
    · subst hv; simp
    · rw [if_neg (by simpa using hv)]; simp
  have h' : Q (.ref s.heap.objs.size) { s with heap:=s.heap.push { cls:=.type "list",data:=.seq (List.foldl (fun x1 x2=>x1 ++ x2) #[] (List.replicate (if vs.toArray.isEmpty = true then 0 else x.toNat) vs.toArray)) } }:=by rw [e]; exact h
  have hl : s.heap.get? l = some { cls:=.type "list",data:=.seq vs.toArray k }:=hl
  clear h e
  generalize vs.toArray = items at hl hz h'
  exact wpAny_binaryOp_repeat_ref (T:="list") (U:="int") (by decide) ⟨_,hl,rfl⟩ (fun s'=>typeIs_int s' x u) noFill_list_mul F.fills_int_mul F.slot_int_rmul repeat_list F.slot_int_index.lookup
    (call_meets F.slot_int_rmul (typeIs_int s x u) F.entry_int_rmul (F.args_int_rmul_2 _ _) (int___rmul___int_list x u l items k)
      ⟨hl,rfl,⟨_,hl,rfl⟩,call_meets F.slot_list_mul ⟨_,hl,rfl⟩ F.entry_list_mul (F.args_list_mul_2 _ _)
        (AutoListH.list___mul___list_int_3 l items k x u (by simp [Builtin.List.listFitsIndex]; omega) (by omega) (by simp [Builtin.List.listTooLong,sizeLine]; omega))
        ⟨hl,h'⟩⟩)
end
end Mine
end
section
open PySem.Spec
namespace Mine
theorem ixI_some {i : Int} {n : Nat} (h : ixI i = some n) : 0 ≤ i ∧ i < 1000 ∧ i.toNat = n:=by
  unfold ixI at h
  obtain ⟨a,b⟩:=bif_some h rfl
  rw [Bool.and_eq_true] at a
  obtain rfl:=Option.some.inj b
  exact ⟨of_decide_eq_true a.1,of_decide_eq_true a.2,rfl⟩
structure DictOk (prog : Program) (W : World) (ad : Ad) : Prop where
  is : ∀ o kvs,ad.dict o kvs ↔ o.IsDictOf (strKind prog W) kvs
section
variable {prog : Program} {W : World} {A : Around} {E : Value → Shared → Prop} {s : Shared} {g : Act} {w : Wd} {st : St} {d : Nat}
theorem RepL.take {ad : Ad} {τ : Addr → Role} {xs : List D} {vs : List Value} (h : RepL ad τ xs vs) (n : Nat) : RepL ad τ (xs.take n) (vs.take n) :=
  h.ind (P:=fun xs vs=>∀ n,RepL ad τ (xs.take n) (vs.take n)) (fun n=>by cases n <;> exact .nil) (fun a _ ih n=>by
    cases n with
    | zero=>exact .nil
    | succ n=>exact .cons a (ih n)) n
theorem RepL.drop {ad : Ad} {τ : Addr → Role} {xs : List D} {vs : List Value} (h : RepL ad τ xs vs) (n : Nat) : RepL ad τ (xs.drop n) (vs.drop n) :=
  h.ind (P:=fun xs vs=>∀ n,RepL ad τ (xs.drop n) (vs.drop n)) (fun n=>by cases n <;> exact .nil) (fun a b ih n=>by
    cases n with
    | zero=>exact .cons a b
    | succ n=>exact ih n) n
theorem sub_ops (slice : Expr) (o i : Value) : ∃ ops,subscripted slice false o i = operate ops (getItem o i):=by
  cases slice with
  | Slice a b c p=>cases c <;> exact ⟨_,rfl⟩
  | _=>exact ⟨_,rfl⟩
theorem sub_tail {value slice : Expr} {o i : Value} {T id : String} {Q : Value → Shared → Prop} (hT : s.TypeIs o T) (hl : typeLookup (.type T) "__getitem__" = pure (some (.builtin id)))
    (h : wpAny (model prog W) A (getItem o i) Q E s) : wpAny (model prog W) A (do let r ← subscripted slice (← getitemInPython o) o i; letTemporaryGo value o r; pure r) Q E s:=by
  have fin : ∀ ops,wpAny (model prog W) A (operate ops (getItem o i)) (fun r s₃=>wpAny (model prog W) A (letTemporaryGo value o r >>= fun _=>pure r) Q E s₃) E s:=fun ops =>
    wpAny_operating (wpAny_mono h (fun r s₃ h₃=>wpAny_bind (wpAny_letTemporaryGo (wpAny_pure h₃))) fun _ _ x=>x)
  refine wpAny_bind ?_
  rw [getitemInPython_of_ne hT.not_modules]
  refine wpAny_bind (wpAny_specialOf hT hl ?_)
  refine wpAny_pure (wpAny_bind ?_)
  obtain ⟨ops,e⟩:=sub_ops slice o i
  rw [e]
  exact fin ops
theorem Sub_ {value slice : Expr} {pos : Pos} {env : Env} {Q : Value → Shared → Prop}
    (h : wpAny (model prog W) A (eval value env) (fun o s₁=>wpAny (model prog W) A (eval slice env) (fun i s₂=>∃ T id,s₂.TypeIs o T ∧ typeLookup (.type T) "__getitem__" = pure (some (.builtin id)) ∧ wpAny (model prog W) A (getItem o i) Q E s₂) E s₁) E s) :
    wpAny (model prog W) A (eval (.Subscript value slice pos) env) Q E s:=by
  rw [eval_Subscript]
  refine wpAny_bind (wpAny_mono h (fun o s₁ h₁=>wpAny_bind (wpAny_holding (wpAny_mono h₁ (fun i s₂ h₂=>wpAny_bind (wpAny_standAt ?_)) fun _ _ x=>x))) fun _ _ x=>x)
  obtain ⟨T,id,a,b,c⟩:=h₂
  exact sub_tail a b c
theorem seqIndex_is {i : Int} {n k : Nat} (h0 : 0 ≤ i) (hk : i.toNat = k) (hn : k < n) : seqIndex? i n = some k:=by
  subst hk; exact seqIndex_of h0 (by omega)
theorem valueAt_kfind {ad : Ad} {τ : Addr → Role} : ∀ {ks : List (List Nat)} {xs : List D} {kvs : List (Str × Value)},kvs.map (·.1) = ks.map strOf → RepL ad τ xs (kvs.map (·.2)) → ∀ (q : List Nat),
    (kfind ks xs q = none ∧ valueAt kvs (strOf q) = none) ∨ ∃ d v,kfind ks xs q = some d ∧ valueAt kvs (strOf q) = some v ∧ Rep ad τ d v
  | [],xs,kvs,hk,r,q=>by
    cases kvs with
    | nil=>cases r; exact .inl ⟨rfl,rfl⟩
    | cons _ _=>cases hk
  | k :: ks,xs,[],hk,r,q=>by cases hk
  | k :: ks,xs,(y,v) :: kvs,hk,r,q=>by
    rw [List.map_cons,List.map_cons] at hk
    injection hk with h1 h2
    cases r with
    | cons a b =>
      rename_i x xs
      dsimp only at h1
      subst h1
      unfold kfind valueAt
      rw [str_beq]
      by_cases hq : strOf k = strOf q
      · rw [decide_eq_true hq]
        exact .inr ⟨x,v,rfl,by simp [hq],a⟩
      · rw [decide_eq_false hq]
        have:=valueAt_kfind (ks:=ks) (xs:=xs) (kvs:=kvs) h2 b q
        unfold valueAt at this
        simpa [hq] using this
end
end Mine
end
section
open PySem.Spec
namespace Mine
section
variable {prog : Program} {W : World} {A : Around} {E : Value → Shared → Prop} {s : Shared} {g : Act} {w : Wd} {st : St} {d : Nat}
theorem subV_sound (dk : DictOk prog W g.ad) {a r : V} {i : D} {va vi : Value} {Q : Value → Shared → Prop} (e : subV a i st.hp = some r) (R : Rel g w st s.heap) (ra : RepV g.ad w a va) (ri : Rep g.ad w.τ i vi)
    (k : ∀ tk v,RepV g.ad w r v → Q v { s with toks:=tk }) :
    ∃ T id,s.TypeIs va T ∧ typeLookup (.type T) "__getitem__" = pure (some (.builtin id)) ∧ wpAny (model prog W) A (getItem va vi) Q E s:=by
  unfold subV at e
  split at e
  · rename_i i
    obtain ⟨t,rfl⟩:=Rep.int_inv ri
    split at e
    · rename_i n hn
      obtain ⟨h0,h1,h2⟩:=ixI_some hn
      unfold subI at e
      split at e
      · obtain ⟨x,e1,rfl⟩:=Option.map_eq_some_iff.mp e
        unfold subD at e1
        split at e1
        · obtain ⟨_,vs,_,rfl,a1,b1⟩:=Rep.tup_inv ra
          obtain ⟨v,hv,rv⟩:=b1.nth e1
          have ho:=R.fro _ _ a1
          have hs : n < vs.length:=(List.getElem?_eq_some_iff.mp hv).1
          exact ⟨"tuple",_,⟨_,ho,rfl⟩,PySem.F.slot_tuple_getitem.lookup,PySem.P.getItem_tuple ho (by omega) (by omega) (seqIndex_is (n:=vs.toArray.size) h0 h2 (by simpa using hs)) (by simpa using hv) (k s.toks v rv)⟩
        · obtain ⟨_,vs,_,rfl,a1,b1⟩:=Rep.lst_inv ra
          obtain ⟨v,hv,rv⟩:=b1.nth e1
          have ho:=R.fro _ _ a1
          exact ⟨"list",_,⟨_,ho,rfl⟩,slot_list_getitem.lookup,wpAny_getItem_list (isList_of ho) h0 (by omega) (by rw [h2]; simpa using hv) (k s.toks v rv)⟩
        · rename_i q
          obtain ⟨x,e3,rfl⟩:=Option.map_eq_some_iff.mp e1
          obtain ⟨t',rfl⟩:=Rep.str_inv ra
          rw [nth_get] at e3
          clear e1
          have e1:=e3
          have hs : n < q.length:=(List.getElem?_eq_some_iff.mp e1).1
          refine ⟨"str",_,typeIs_str s _ _,PySem.F.slot_str_getitem.lookup,PySem.P.getItem_str (c:=x) ?_ ?_ (k (s.toks + 1) _ (.str [x] s.toks))⟩
          · rw [Bool.or_eq_false_iff]
            exact ⟨decide_eq_false (by omega),decide_eq_false (by omega)⟩
          · rw [seqIndex_is (n:=(strOf q).length) h0 h2 (by show n < (strOf q).cps.size; simpa [strOf] using hs),Option.bind_some]
            show (strOf q).cps[n]? = some x
            simpa [strOf] using e1
        · exact nope e1
      · rename_i n
        split at e
        · rename_i vs hc
          obtain ⟨ad',hm,rfl⟩:=ra
          cases R.cells n _ hc with
          | lst c1 c2 c3 c4 =>
            rw [hm] at c1; obtain rfl:=Option.some.inj c1
            obtain ⟨v,hv,rv⟩:=c4.nth e
            exact ⟨"list",_,⟨_,c3,rfl⟩,slot_list_getitem.lookup,wpAny_getItem_list (isList_of c3) h0 (by omega) (by rw [h2]; simpa using hv) (k s.toks v rv)⟩
        · exact nope e
    · exact nope e
  · rename_i q
    unfold subK at e
    split at e
    · split at e
      · obtain ⟨x,e1,rfl⟩:=Option.map_eq_some_iff.mp e
        obtain ⟨t,rfl⟩:=Rep.str_inv ri
        cases ra with
        | dict a1 a2 a3 a4 a5 =>
          rcases valueAt_kfind a3 a5 q with ⟨z,_⟩ | ⟨x',v,z1,z2,z3⟩
          · rw [z] at e1; exact nope e1
          · rw [z1] at e1; obtain rfl:=Option.some.inj e1
            have hD : s.heap.DictOf (strKind prog W) _ _:=Heap.dictOf_iff.mpr ⟨_,R.fro _ _ a1,(dk.is _ _).mp a2⟩
            exact ⟨"dict",_,hD.typeIs,slot_dict_getitem.lookup,wpAny_getItem_of (strKind_is _ _ _ _) hD.mapOf z2 (k (s.toks + 1) v z3)⟩
      · exact nope e
    · exact nope e
  · exact nope e
noncomputable abbrev slObj (l u : Value) : Obj:={ cls:=.type "slice",data:=.fields #[l,u,.none] }
inductive RepO (ad : Ad) (τ : Addr → Role) : Option D → Value → Prop
  | none : RepO ad τ none .none
  | some {x v} : Rep ad τ x v → RepO ad τ (some x) v
theorem RepO.int_inv {ad : Ad} {τ : Addr → Role} {i : Int} {v : Value} (h : RepO ad τ (Option.some (.int i)) v) : ∃ t,v = .int i t:=by
  cases h with
  | some h=>exact Rep.int_inv h
theorem ixD_some {d : D} {n : Nat} (h : ixD d = some n) : ∃ i,d = .int i ∧ ixI i = some n:=by
  unfold ixD at h
  split at h
  · exact ⟨_,rfl,h⟩
  · exact nope h
theorem slcD_sound {x r : D} {lo hi : Option D} {vx vl vu : Value} {sl : Addr} {Q : Value → Shared → Prop} (e : slcD x lo hi = some r) (R : Rel g w st s.heap) (rx : Rep g.ad w.τ x vx) (rl : RepO g.ad w.τ lo vl) (ru : RepO g.ad w.τ hi vu)
    (hs : s.heap.IsSliceOf sl vl vu .none) (k : Hands g w st s r Q) :
    ∃ T id,s.TypeIs vx T ∧ typeLookup (.type T) "__getitem__" = pure (some (.builtin id)) ∧ wpAny (model prog W) A (getItem vx (.ref sl)) Q E s:=by
  unfold slcD at e
  split at e
  · split at e
    · split at e
      · rename_i b hb
        obtain ⟨bi,rfl,hb⟩:=ixD_some hb
        obtain ⟨g0,g1,g2⟩:=ixI_some hb
        obtain ⟨u,rfl⟩:=ru.int_inv
        obtain ⟨_,vs,_,rfl,a1,b1⟩:=Rep.lst_inv rx
        have ho:=R.fro _ _ a1
        have hl:=b1.length
        have e2 : bi = (b : Int):=by omega
        subst e2
        split at e
        · obtain ⟨c1,e⟩:=bif_some e rfl
          obtain rfl:=Option.some.inj e
          have c1:=of_decide_eq_true c1
          cases rl
          obtain ⟨l,R'⟩:=R.newFro (lstObj (vs.take b) 0) rfl
          refine ⟨"list",_,⟨_,ho,rfl⟩,slot_list_getitem.lookup,wpAny_getItem_list_slice (isList_of ho) hs .none (.int _ u) .none (by simp) ?_ (by rw [List.size_toArray]; exact small_line (by omega))⟩
          rw [slicePick_upto']
          exact k _ _ s.toks _ l R' (.lst Wd.setτ_eq ((b1.take b).mono g.ok l.one))
        · split at e
          · rename_i a ha
            obtain ⟨ai,rfl,ha⟩:=ixD_some ha
            obtain ⟨h0,h1,h2⟩:=ixI_some ha
            obtain ⟨t,rfl⟩:=rl.int_inv
            obtain ⟨c1,e⟩:=bif_some e rfl
            obtain rfl:=Option.some.inj e
            rw [Bool.and_eq_true,Bool.and_eq_true] at c1
            have c2:=of_decide_eq_true c1.1.1
            have c3:=of_decide_eq_true c1.1.2
            have c4:=of_decide_eq_true c1.2
            obtain ⟨l,R'⟩:=R.newFro (lstObj ((vs.drop a).take (b - a)) 0) rfl
            have e1 : ai = (a : Int):=by omega
            subst e1
            refine ⟨"list",_,⟨_,ho,rfl⟩,slot_list_getitem.lookup,wpAny_getItem_list_slice (isList_of ho) hs (.int _ t) (.int _ u) .none (by simp) ?_ (by rw [List.size_toArray]; exact small_line (by omega))⟩
            rw [slicePick_run _ a b (by rw [List.size_toArray]; omega) c3]
            exact k _ _ s.toks _ l R' (.lst Wd.setτ_eq (((b1.drop a).take (b - a)).mono g.ok l.one))
          · exact nope e
      · exact nope e
    · exact nope e
  · split at e
    · split at e
      · split at e
        · rename_i a ha
          obtain ⟨ai,rfl,ha⟩:=ixD_some ha
          obtain ⟨h0,h1,h2⟩:=ixI_some ha
          obtain ⟨t,rfl⟩:=rl.int_inv
          cases ru
          obtain ⟨c1,e⟩:=bif_some e rfl
          obtain rfl:=Option.some.inj e
          rw [Bool.and_eq_true,Bool.and_eq_true] at c1
          have c2:=of_decide_eq_true c1.1.1
          have c3:=of_decide_eq_true c1.1.2
          have c4:=of_decide_eq_true c1.2
          obtain ⟨_,vs,_,rfl,a1,b1⟩:=Rep.tup_inv rx
          have ho:=R.fro _ _ a1
          have hl:=b1.length
          obtain ⟨l,R'⟩:=R.newFro (tupObj (vs.drop a) 0) rfl
          have e1 : ai = (a : Int):=by omega
          subst e1
          exact ⟨"tuple",_,⟨_,ho,rfl⟩,PySem.F.slot_tuple_getitem.lookup,PyProof.Rows.getItem_tuple_from ⟨_,ho,rfl,_,rfl⟩ hs c3 (by rw [List.size_toArray]; omega)
            (k _ _ s.toks _ l R' (.tup Wd.setτ_eq ((b1.drop a).mono g.ok l.one))) (by rw [List.size_toArray]; exact small_line (by omega))⟩
        · exact nope e
      · exact nope e
    · exact nope e
  · exact nope e
end
end Mine
end
section
open PySem.Spec
namespace Mine
theorem mem_is {l : List Nat} {n : Nat} : mem l n = true ↔ n ∈ l:=by
  induction l with
  | nil=>simp [mem]
  | cons a r ih =>
    unfold mem
    rw [beq_is]
    by_cases h : a = n
    · simp [h]
    · rw [decide_eq_false h]; simp [ih,Ne.symm h]
structure ClsOk (K : Frag) (C : Addr) : Prop where
  ga : findIn K (.ref C) "__getattribute__" = some (some (.builtin "object.__getattribute__"))
  gn : findIn K (.ref C) "__getattr__" = some none
  hh : hasDictIn K C = true
  own : ∀ n ∈ fldL,findIn K (.ref C) (nm n) = some none
  sa : findIn K (.ref C) "__setattr__" = some (some (.builtin "object.__setattr__"))
  po : plainOver K C = true
theorem lookIn_ns {od : Obj} {m : Str → Option Value} (h : LCg.NsObj od m) (name : Str) : lookIn name od = some (m name):=by
  obtain ⟨es,ep,hd,hk,hm⟩:=h
  unfold lookIn
  rw [hd]
  dsimp only
  rw [← hm name]
  unfold nsFind findBy
  rw [← Array.find?_toList]
  cases he : es.toList.find? (fun e=>e.key.isStr name) with
  | some e=>rfl
  | none =>
    have : es.toList.any (·.refKey) = false:=by
      rw [List.any_eq_false]; intro e he; obtain ⟨n,t,h⟩:=hk e (by simpa using he); simp [DictEntry.refKey,h]
    rw [this]; rfl
theorem fld_put {od : Obj} {m : Str → Option Value} {k : Nat} (h : FldObj od m k) (name : Str) (hash : Int) (t : Tok) (v : Value) :
    FldObj (od.putName name hash (.str name t) v) (fun x=>if x = name then some v else m x) (if (m name).isSome then k else k + 1):=by
  obtain ⟨es,ep,hd,hk,hm,hz⟩:=h
  obtain ⟨c,d,dt,sl⟩:=od
  subst hd
  have e1 : m name = nsFind es name:=(hm name).symm
  cases hi : es.findIdx? (·.key.isStr name) with
  | some i =>
    refine ⟨_,ep,by simp only [Obj.putName_eq,Obj.putNameByArray,hi]; rfl,hk.modify _ _,fun x=>?_,?_⟩
    · show _ = if x = name then some v else m x
      rw [← hm]; exact findBy_modify (fun n v=>v.isStr n) Value.isStr_inj es name x v i hi
    · rw [Array.size_modify]; split <;> omega
  | none =>
    refine ⟨_,ep + 1,by simp only [Obj.putName_eq,Obj.putNameByArray,hi]; rfl,hk.push _ _ _ _,fun x=>?_,?_⟩
    · show _ = if x = name then some v else m x
      rw [← hm]
      exact findBy_push (fun n v=>v.isStr n) es name x _ _ v (fun y=>by
        show (name == y) = decide (y = name)
        by_cases h : y = name
        · subst h; simp
        · have : ¬ name = y:=fun e=>h e.symm
          simp [h,this]) hi
    · have : nsFind es name = none:=by
        unfold nsFind findBy
        rw [show es.find? (fun e=>e.key.isStr name) = none from by rw [Array.find?_eq_none]; intro e he; simpa using (Array.findIdx?_eq_none_iff.mp hi) e he]; rfl
      rw [e1,this,Array.size_push]; simp; omega
section
variable {ad : Ad} {τ : Addr → Role} {w : Wd}
theorem Rep.handed (ok : AdOk ad) {x : D} {v : Value} (h : Rep ad τ x v) : handedIn v = true:=by
  cases h with
  | clo a _=>exact ok.handed _ _ _ _ a
  | _=>rfl
theorem RepV.handed (ok : AdOk ad) {x : V} {v : Value} (h : RepV ad w x v) : handedIn v = true:=by
  cases x with
  | d d=>exact Rep.handed ok h
  | c n=>obtain ⟨_,_,rfl⟩:=h; rfl
theorem fget_at {α : Type} {n : Nat} : ∀ (ns : List Nat) (vs : List α) (v : α),fget ns vs n = some v → ∃ i,ns[i]? = some n ∧ Mine.nth vs i = some v
  | [],_,_,e=>by exact nope e
  | _ :: _,[],_,e=>by exact nope e
  | k :: ns,y :: vs,v,e=>by
    have e : (match Nat.beq k n with | true=>some y | false=>fget ns vs n) = some v:=e
    cases hk : Nat.beq k n with
    | true=>rw [hk] at e; cases e; exact ⟨0,congrArg some (Nat.eq_of_beq_eq_true hk),rfl⟩
    | false =>
      rw [hk] at e
      obtain ⟨i,h1,h2⟩:=fget_at ns vs v e
      exact ⟨i + 1,h1,h2⟩
theorem at_map {m : Str → Option Value} {ns : List Nat} {xs : List Value} {n i : Nat} {x : Value} (hm : ns.map (fun n=>m (nm n)) = xs.map some) (h1 : ns[i]? = some n) (h2 : xs[i]? = some x) : m (nm n) = some x:=by
  have:=congrArg (·[i]?) hm
  rw [List.getElem?_map,List.getElem?_map,h1,h2] at this
  exact Option.some.inj this
theorem fget_rep {m : Str → Option Value} {ns : List Nat} {vs : List V} {xs : List Value} {n : Nat} {v : V} (r : RepVs ad w vs xs) (hm : ns.map (fun n=>m (nm n)) = xs.map some) (e : fget ns vs n = some v) : ∃ x,m (nm n) = some x ∧ RepV ad w v x :=
  let ⟨_,h1,h2⟩:=fget_at _ _ _ e
  let ⟨x,h3,h4⟩:=r.nth h2
  ⟨x,at_map hm h1 h3,h4⟩
theorem fgetD_rep {m : Str → Option Value} {ns : List Nat} {vs : List D} {xs : List Value} {n : Nat} {v : D} (r : RepL ad τ vs xs) (hm : ns.map (fun n=>m (nm n)) = xs.map some) (e : fget ns vs n = some v) : ∃ x,m (nm n) = some x ∧ Rep ad τ v x :=
  let ⟨_,h1,h2⟩:=fget_at _ _ _ e
  let ⟨x,h3,h4⟩:=r.nth h2
  ⟨x,at_map hm h1 h3,h4⟩
theorem fput_rep {m : Str → Option Value} {n : Nat} {v : V} {x : Value} (hv : RepV ad w v x) : ∀ {ns ns' : List Nat} {vs vs' : List V} {xs : List Value},RepVs ad w vs xs → ns.Nodup → ns.map (fun n=>m (nm n)) = xs.map some → fput ns vs n v = (ns',vs') →
    ∃ xs',RepVs ad w vs' xs' ∧ ns'.Nodup ∧ ns'.map (fun k=>if nm k = nm n then some x else m (nm k)) = xs'.map some ∧ (∀ k,k ∈ ns' ↔ k ∈ ns ∨ k = n) ∧ ns'.length = if n ∈ ns then ns.length else ns.length + 1
  | [],ns',[],vs',_,.nil,_,_,e=>by
    unfold fput at e; cases e
    exact ⟨[x],.cons hv .nil,by simp,by simp,by simp,by simp⟩
  | [],ns',y :: vs,vs',_,.cons a b,_,hm,e=>by simp at hm
  | k :: ns,ns',[],vs',_,.nil,_,hm,e=>by simp at hm
  | k :: ns,ns',y :: vs,vs',_,.cons (v:=z) (vs:=xs) a b,nd,hm,e=>by
    rw [List.map_cons,List.map_cons] at hm
    injection hm with h1 h2
    rw [List.nodup_cons] at nd
    unfold fput at e
    rw [beq_is] at e
    by_cases hk : k = n
    · rw [decide_eq_true hk] at e; cases e; subst hk
      refine ⟨x :: xs,.cons hv b,by simp [nd.1,nd.2],?_,by intro j; simp only [List.mem_cons]; constructor <;> (rintro (q | q) <;> simp [q]),by simp⟩
      simp only [List.map_cons,if_true]
      rw [← h2]
      congr 1
      refine List.map_congr_left fun j hj=>if_neg fun q=>?_
      exact nd.1 (nm_inj q ▸ hj)
    · rw [decide_eq_false hk] at e
      cases hq : fput ns vs n v with
      | mk n1 v1 =>
        rw [hq] at e; cases e
        obtain ⟨xs',r1,r2,r3,r4,r5⟩:=fput_rep hv b nd.2 h2 hq
        refine ⟨z :: xs',.cons a r1,?_,?_,?_,?_⟩
        · rw [List.nodup_cons]
          exact ⟨fun q=>by rcases (r4 k).mp q with q | q; exact nd.1 q; exact hk q,r2⟩
        · rw [List.map_cons,List.map_cons,r3,if_neg (fun q=>hk (nm_inj q)),h1]
        · intro j; simp only [List.mem_cons,r4]; constructor
          · rintro (q | q | q) <;> simp [q]
          · rintro ((q | q) | q) <;> simp [q]
        · simp only [List.length_cons,r5,List.mem_cons,Ne.symm hk,false_or]; split <;> rfl
end
section
variable {prog : Program} {W : World} {A : Around} {E : Value → Shared → Prop} {s : Shared} {g : Act} {w : Wd} {st : St} {d : Nat} {K : Frag}
theorem fld_of {n : Nat} {α : Type} {x : Option α} {r : α} (e : bif' (mem fldL n) x none = some r) : n ∈ fldL ∧ x = some r:=by
  obtain ⟨a,b⟩:=bif_some e rfl
  exact ⟨mem_is.mp a,b⟩
theorem attV_sound {ex : Bool} (X : K.In g.hT) (C : ∀ c,ClsOk K (g.ad.cls c)) {a r : V} {n : Nat} {va : Value} {Q : Value → Shared → Prop} (e : attV a n st.hp = some r) (R : Rel g w st s.heap) (ra : RepV g.ad w a va)
    (k : ∀ tk v,RepV g.ad w r v → Q v { s with toks:=tk }) : wpAny (model prog W) A (getAttr va (nm n) ex) Q E s:=by
  have X' : K.In s.heap:=fun b o q=>R.top b o (X b o q)
  unfold attV at e
  split at e
  · rename_i c ns xs
    obtain ⟨hn,e⟩:=fld_of e
    obtain ⟨y,e1,e2⟩:=Option.map_eq_some_iff.mp e
    subst e2
    cases ra with
    | inst a1 a2 a3 a4 a5 =>
      rename_i ax dx vs od m
      obtain ⟨x,h1,h2⟩:=fgetD_rep a5 a4 e1
      have I : InstAt s.heap ax (instObj (g.ad.cls c) dx) (g.ad.cls c) (some od):=⟨R.fro _ _ a1,rfl,rfl,R.fro _ _ a2⟩
      exact get_value X' I (C c).ga (findObj_own (C c).hh ((C c).own _ hn) rfl (by rw [lookIn_ns a3,h1])) (h2.handed g.ok) (k _ _ h2)
  · rename_i a
    split at e
    · rename_i c ns vs hc
      obtain ⟨hn,e⟩:=fld_of e
      obtain ⟨ax,b1,rfl⟩:=ra
      cases R.cells _ _ hc with
      | inst h1 h2 h3 h4 h5 h6 h7 h8 h9 =>
        rename_i a' dx xs od m
        rw [b1] at h1; obtain rfl:=Option.some.inj h1
        obtain ⟨x,p1,p2⟩:=fget_rep h9 h8 e
        have I : InstAt s.heap ax (instObj (g.ad.cls c) dx) (g.ad.cls c) (some od):=⟨h3,rfl,rfl,h5⟩
        exact get_value X' I (C c).ga (findObj_own (C c).hh ((C c).own _ hn) rfl (by rw [lookIn_ns h6.ns,p1])) (p2.handed g.ok) (k _ _ p2)
    · exact nope e
  · exact nope e
theorem setV_sound (X : K.In g.hT) (C : ∀ c,ClsOk K (g.ad.cls c)) {a n q : Nat} {ns ns' : List Nat} {vs vs' : List V} {v : V} {va vx : Value} {Q : Unit → Shared → Prop} (hc : hget st.hp a = some (.inst q ns vs)) (hp : fput ns vs n v = (ns',vs'))
    (hn : n ∈ fldL) (hz : ns.length ≤ 100) (R : Rel g w st s.heap) (ra : RepV g.ad w (.c a) va) (rv : RepV g.ad w v vx)
    (k : ∀ h' tk,Stp w s.heap w h' → Rel g w { st with hp:=hset st.hp a (some (.inst q ns' vs')) } h' → Q () { s with heap:=h',toks:=tk }) : wpAny (model prog W) A (setAttr va (nm n) vx) Q E s:=by
  have X' : K.In s.heap:=fun b o q=>R.top b o (X b o q)
  obtain ⟨ax,b1,rfl⟩:=ra
  cases R.cells _ _ hc with
  | inst h1 h2 h3 h4 h5 h6 h7 h8 h9 =>
    rename_i a' dx xs od m
    rw [b1] at h1; obtain rfl:=Option.some.inj h1
    obtain ⟨xs',r1,r2,r3,r4,r5⟩:=fput_rep rv h9 h7 h8 hp
    have I : InstAt s.heap ax (instObj (g.ad.cls q) dx) (g.ad.cls q) (some od):=⟨h3,rfl,rfl,h5⟩
    have ne : dx ≠ ax:=by rintro rfl; rw [h3] at h5; cases h5; obtain ⟨_,_,z,_⟩:=h6; cases z
    refine set_plain X' I (C q).sa (osa_open (s:={ s with toks:=s.toks + 1 }) X' I (C q).po (r:=none) (by unfold takerIn; rw [(C q).own n hn]; rfl) fun b=>?_)
    obtain ⟨cd,hcd,hd'⟩:=any_some (C q).hh
    refine wpAny_bind (wpAny_pure (wpAny_bind (wpAny_bind (wpAny_loadPart h3 (wpAny_bind ((looks_clsIn X' hcd).here (s:={ s with toks:=s.toks + 1 }) ?_))))))
    rw [hd']
    refine wpAny_pure (a:=some dx) (wpAny_bind (wpAny_pure (wpAny_bind ?_)))
    unfold nsSet
    refine wpAny_bind (wpAny_bind (wpAny_askSetting (wpAny_pure (wpAny_bind (wpAny_mkText (wpAny_bind (wpAny_loadPart h5 ?_)))))))
    have F:=fld_put h6 (nm n) (PyData.keyHash W.params (nm n)) (s.toks + 1) vx
    obtain ⟨es,ep,hd,hk,hm,hs⟩:=h6
    rw [hd]
    dsimp only
    have c : (!es.any (·.key.isStr (nm n)) && es.any (·.refKey)) = false:=by
      have : es.any (·.refKey) = false:=by
        rw [Array.any_eq_false']; intro e he; obtain ⟨n,t,h⟩:=hk e he; simp [DictEntry.refKey,h]
      rw [this,Bool.and_false]
    rw [aRefKeyMayBeTheName_at,c]
    refine wpAny_updatePart h5 ?_
    have D':=Heap.get?_update_self (Obj.putName (nm n) (PyData.keyHash W.params (nm n)) (.str (nm n) (s.toks + 1)) vx) h5 F.alive
    have S:=Heap.SameBut.update s.heap dx (Obj.putName (nm n) (PyData.keyHash W.params (nm n)) (.str (nm n) (s.toks + 1)) vx)
    have pl : (Obj.putName (nm n) (PyData.keyHash W.params (nm n)) (.str (nm n) (s.toks + 1)) vx od).data.pastItsLine = none:=by
      obtain ⟨es',ep',q1,_,_,q4⟩:=F
      have z : (if (m (nm n)).isSome then ns.length else ns.length + 1) ≤ 101:=by split <;> omega
      rw [q1]
      exact pastItsLine_dict (Nat.le_succ_of_le (small_line (by omega)))
    refine wpAny_bind (wpAny_lookBehind (s:={ s with heap:=s.heap.update dx (Obj.putName (nm n) (PyData.keyHash W.params (nm n)) (.str (nm n) (s.toks + 1)) vx),toks:=s.toks + 2 }) D' pl ?_)
    refine wpAny_pure (k _ _ ?_ ?_)
    · exact ⟨.refl w,fun b o z1 z2=>⟨S.extBut b o (by rintro rfl; rw [z1] at h4; cases h4) z2,z1⟩⟩
    · refine R.setCt (a:=dx) hc h4 S ⟨_,D'⟩ (.inst (m:=fun x=>if x = nm n then some vx else m x) b1 h2 (S.extBut ax _ ne.symm h3) h4 D' ?_ r2 r3 r1)
      rw [r5]
      refine (show (if (m (nm n)).isSome then ns.length else ns.length + 1) ≤ (if n ∈ ns then ns.length else ns.length + 1) from ?_) |> fun z=>by
        obtain ⟨es',ep',q1,q2,q3,q4⟩:=F
        exact ⟨es',ep',q1,q2,q3,Nat.le_trans q4 z⟩
      by_cases hin : n ∈ ns
      · have : (m (nm n)).isSome = true:=by
          have:=List.mem_map_of_mem (f:=fun n=>m (nm n)) hin
          rw [h8] at this
          obtain ⟨y,_,q⟩:=List.mem_map.mp this
          rw [← q]; rfl
        rw [if_pos hin,if_pos this]; exact Nat.le_refl _
      · rw [if_neg hin]; split <;> omega
end
end Mine
end
section
open PySem.Spec
namespace Mine
noncomputable def biV : BI → Value
  | .len=>.builtin "len"
  | .int=>.type "int"
  | .list=>.type "list"
  | .tuple=>.type "tuple"
  | .min1=>.builtin "min"
  | .max1=>.builtin "max"
  | .min2=>.builtin "min"
  | .max2=>.builtin "max"
  | .sum=>.builtin "sum"
  | .abs=>.builtin "abs"
theorem minL_app : ∀ (m : Int) (l : List Int) (x : Int),minL m (l ++ [x]) = if x < minL m l then x else minL m l
  | m,[],x=>rfl
  | m,y :: l,x=>by rw [List.cons_append]; unfold minL; exact minL_app _ l x
theorem maxL_app : ∀ (m : Int) (l : List Int) (x : Int),maxL m (l ++ [x]) = if maxL m l < x then x else maxL m l
  | m,[],x=>rfl
  | m,y :: l,x=>by rw [List.cons_append]; unfold maxL; exact maxL_app _ l x
theorem range_succ_map (f : Nat → Int) (k : Nat) : (List.range (k + 1)).map f = (List.range k).map f ++ [f k]:=by rw [List.range_succ,List.map_append]; rfl
theorem argBest_min (f : Nat → Int) : ∀ k,f (argBest (fun i j=>decide (f i < f j)) k) = minL (f 0) ((List.range k).map fun i=>f (i + 1))
  | 0=>rfl
  | k + 1=>by
    rw [range_succ_map (fun i=>f (i + 1)),minL_app,← argBest_min f k]
    rw [show argBest (fun i j=>decide (f i < f j)) (k + 1) = if decide (f (k + 1) < f (argBest (fun i j=>decide (f i < f j)) k)) = true then k + 1 else argBest (fun i j=>decide (f i < f j)) k from rfl]
    by_cases h : f (k + 1) < f (argBest (fun i j=>decide (f i < f j)) k)
    · rw [if_pos (decide_eq_true h),if_pos h]
    · rw [if_neg (by simpa using h),if_neg h]
theorem argBest_max (f : Nat → Int) : ∀ k,f (argBest (fun i j=>decide (f i > f j)) k) = maxL (f 0) ((List.range k).map fun i=>f (i + 1))
  | 0=>rfl
  | k + 1=>by
    rw [range_succ_map (fun i=>f (i + 1)),maxL_app,← argBest_max f k]
    rw [show argBest (fun i j=>decide (f i > f j)) (k + 1) = if decide (f (k + 1) > f (argBest (fun i j=>decide (f i > f j)) k)) = true then k + 1 else argBest (fun i j=>decide (f i > f j)) k from rfl]
    by_cases h : f (k + 1) > f (argBest (fun i j=>decide (f i > f j)) k)
    · rw [if_pos (decide_eq_true h),if_pos h]
    · rw [if_neg (by simpa using h),if_neg h]
theorem range_nums (i : Int) (l : List Int) (a : Array (Int × Tok)) (h : a.toList.map (·.1) = i :: l) : a.size = l.length + 1 ∧ numAt a 0 = i ∧ (List.range l.length).map (fun k=>numAt a (k + 1)) = l:=by
  have hs : a.size = l.length + 1:=by have:=congrArg List.length h; simpa using this
  have hn : ∀ k,k < a.size → some (numAt a k) = (i :: l)[k]?:=fun k hk=>by
    rw [← h]; unfold numAt; simp [hk]
  refine ⟨hs,by have:=hn 0 (by omega); simpa using this,?_⟩
  refine List.ext_getElem? fun k=>?_
  by_cases hk : k < l.length
  · have:=hn (k + 1) (by omega)
    rw [List.getElem?_cons_succ] at this
    rw [← this]; simp [hk]
  · rw [List.getElem?_eq_none (by simpa using hk),List.getElem?_eq_none (by simpa using hk)]
theorem intsOf_rep {ad : Ad} {τ : Addr → Role} : ∀ {xs : List D} {l : List Int} {vs : List Value},intsOf xs = some l → RepL ad τ xs vs → ∃ a : Array (Int × Tok),vs.toArray = intItems a ∧ a.toList.map (·.1) = l
  | [],l,vs,e,r=>by cases e; cases r; exact ⟨#[],by simp [intItems],rfl⟩
  | x :: xs,l,vs,e,r=>by
    cases x with
    | int i =>
      unfold intsOf at e
      split at e
      · rename_i l' q
        obtain rfl:=Option.some.inj e
        cases r with
        | cons a b =>
          cases a with
          | int _ t =>
            obtain ⟨a,e1,e2⟩:=intsOf_rep q b
            rename_i vs'
            refine ⟨((i,t) :: a.toList).toArray,?_,by simp [e2]⟩
            have:=congrArg Array.toList e1
            simp [intItems] at this
            simp [intItems,this]
      · exact nope e
    | _=>unfold intsOf at e; exact nope e
section
variable {prog : Program} {W : World} {A : Around} {E : Value → Shared → Prop} {s : Shared} {g : Act} {w : Wd} {st : St} {h h' : Heap}
theorem Rel.froAt (R : Rel g w st h) (hk : ∀ b o,h.get? b = some o → h'.get? b = some o) {a : Addr} {o : Obj} (ha : h.objs.size ≤ a) (ho : h'.get? a = some o) :
    Stp w h (w.setτ a (.fro o)) h' ∧ Rel g (w.setτ a (.fro o)) st h':=by
  have f:=R.free ha
  have l : w.le (w.setτ a (.fro o)):=Wd.le_set (by rw [f]; exact id)
  refine ⟨⟨l,fun b o' e q=>⟨hk _ _ q,(Wd.setτ_ne (by rintro rfl; exact absurd (Heap.lt_size q) (Nat.not_lt.mpr ha))).trans e⟩⟩,(R.keeps fun b o _ e=>hk b o e).grow l rfl (fun b hb=>Wd.setτ_ne (by rintro rfl; exact hb f)) fun b hf' hn=>?_⟩
  by_cases hb : b = a
  · subst hb
    exact ⟨Nat.le_trans R.size ha,o,ho,fun o' e=>by rw [Wd.setτ_eq] at e; cases e; rfl⟩
  · rw [Wd.setτ_ne hb] at hn; exact absurd hf' hn
theorem Hands.kept {r : D} {Q : Value → Shared → Prop} (R : Rel g w st s.heap) (k : Hands g w st s r Q) {v : Value} {tk : Nat} (hk : ∀ b o,s.heap.get? b = some o → h'.get? b = some o) (h : Rep g.ad w.τ r v) : Q v { s with heap:=h',toks:=tk } :=
  k w h' tk v (.of hk) (R.keeps fun b o _ e=>hk b o e) h
theorem rep_if {ad : Ad} {τ : Addr → Role} {c : Prop} [Decidable c] {x y : Int} {t u : Tok} : Rep ad τ (.int (if c then x else y)) (if c then .int x t else .int y u):=by
  by_cases h : c
  · rw [if_pos h,if_pos h]; exact .int _ _
  · rw [if_neg h,if_neg h]; exact .int _ _
theorem rep_bool {ad : Ad} {τ : Addr → Role} (b : Bool) {t : Tok} : Rep ad τ (.int (match b with | true=>1 | false=>0)) (.int (if b then 1 else 0) t):=by cases b <;> exact .int _ _
theorem intItems_num {a : Array (Int × Tok)} {i : Nat} {v : Value} (h : (intItems a)[i]? = some v) : ∃ t,v = .int (numAt a i) t:=intItems_at h
theorem callB_sound {b : BI} {vs : List V} {xs : List Value} {r : D} {Q : Value → Shared → Prop} (e : callB b vs st.hp = some r) (R : Rel g w st s.heap) (rm : A.handled = none) (rv : RepVs g.ad w vs xs) (k : Hands g w st s r Q) :
    wpAny (model prog W) A (call (biV b) xs) Q E s:=by
  unfold callB at e
  split at e
  · exact nope e
  · split at e
    · split at e
      · unfold un at e
        split at e
        · split at e
          · obtain ⟨hb,e⟩:=bif_some e rfl
            obtain rfl:=Option.some.inj e
            have hb:=of_decide_eq_true hb
            obtain ⟨_,rfl,a⟩:=rv.one
            obtain ⟨_,_,_,rfl,a1,b1⟩:=Rep.lst_inv a
            rw [b1.length] at hb
            refine PySem.Calls.call_len_list (isList_of (R.fro _ _ a1)) (by simpa using (by omega : (_ : Int) < 2 ^ 63)) ?_
            refine k.same R ?_
            rw [List.size_toArray,← b1.length]
            exact .int _ _
          · obtain ⟨hb,e⟩:=bif_some e rfl
            obtain rfl:=Option.some.inj e
            have hb:=of_decide_eq_true hb
            obtain ⟨_,rfl,a⟩:=rv.one
            obtain ⟨_,_,_,rfl,a1,b1⟩:=Rep.tup_inv a
            rw [b1.length] at hb
            refine len_tuple ⟨_,R.fro _ _ a1,rfl,_,rfl⟩ (by simpa using (by omega : (_ : Int) < 2 ^ 63)) ?_
            refine k.same R ?_
            rw [List.size_toArray,← b1.length]
            exact .int _ _
          · exact nope e
        · split at e
          · obtain rfl:=Option.some.inj e
            obtain ⟨_,rfl,a⟩:=rv.one
            obtain ⟨t,rfl⟩:=Rep.int_inv a
            exact call_int_int (k.same R (.int _ _))
          · obtain rfl:=Option.some.inj e
            obtain ⟨_,rfl,a⟩:=rv.one
            obtain rfl:=Rep.bool_inv a
            exact call_int_bool (k.same R (rep_bool _))
          · exact nope e
        · split at e
          · obtain ⟨hb,e⟩:=bif_some e rfl
            obtain rfl:=Option.some.inj e
            have hb:=of_decide_eq_true hb
            obtain ⟨_,rfl,a⟩:=rv.one
            obtain ⟨_,_,_,rfl,a1,b1⟩:=Rep.lst_inv a
            rw [b1.length] at hb
            refine call_list_seq _ (.inl rfl) (R.fro _ _ a1) rfl rfl (fun h' c' hk ho=>?_) (small_line (by simpa using (by omega : _ ≤ 1000000)))
            obtain ⟨S,R'⟩:=R.froAt hk (Nat.le_refl _) ho
            exact k _ _ s.toks _ S R' (.lst Wd.setτ_eq (b1.mono g.ok S.one))
          · exact nope e
        · split at e
          · obtain ⟨hb,e⟩:=bif_some e rfl
            obtain rfl:=Option.some.inj e
            have hb:=of_decide_eq_true hb
            obtain ⟨_,rfl,a⟩:=rv.one
            obtain ⟨_,_,_,rfl,a1,b1⟩:=Rep.lst_inv a
            rw [b1.length] at hb
            refine call_tuple_list (isList_of (R.fro _ _ a1)) (fun h' hk=>?_) (small_line (by simpa using (by omega : _ ≤ 1000000)))
            have R1 : Rel g w st h':=R.keeps fun b o _ e=>hk b o e
            obtain ⟨S,R'⟩:=R1.newFro (tupObj _ 0) rfl
            exact k _ _ s.toks _ ((Stp.of hk).trans S) R' (.tup Wd.setτ_eq (b1.mono g.ok S.one))
          · exact nope e
        · split at e
          · split at e
            · rename_i i l q
              obtain rfl:=Option.some.inj e
              obtain ⟨_,rfl,a⟩:=rv.one
              obtain ⟨_,_,_,rfl,a1,b1⟩:=Rep.lst_inv a
              obtain ⟨a,e1,e2⟩:=intsOf_rep q b1
              obtain ⟨z1,z2,z3⟩:=range_nums i l a e2
              refine min_intList rm (by rw [← e1]; exact isList_of (R.fro _ _ a1)) (by omega) fun v h' tk hv hk=>?_
              obtain ⟨t,rfl⟩:=intItems_num hv
              have:=argBest_min (numAt a) (a.size - 1)
              rw [show a.size - 1 = l.length by omega,z2,z3] at this
              rw [show a.size - 1 = l.length by omega,this]
              exact k.kept R hk (.int _ _)
            · exact nope e
          · exact nope e
        · split at e
          · split at e
            · rename_i i l q
              obtain rfl:=Option.some.inj e
              obtain ⟨_,rfl,a⟩:=rv.one
              obtain ⟨_,_,_,rfl,a1,b1⟩:=Rep.lst_inv a
              obtain ⟨a,e1,e2⟩:=intsOf_rep q b1
              obtain ⟨z1,z2,z3⟩:=range_nums i l a e2
              refine max_intList rm (by rw [← e1]; exact isList_of (R.fro _ _ a1)) (by omega) fun v h' tk hv hk=>?_
              obtain ⟨t,rfl⟩:=intItems_num hv
              have:=argBest_max (numAt a) (a.size - 1)
              rw [show a.size - 1 = l.length by omega,z2,z3] at this
              rw [show a.size - 1 = l.length by omega,this]
              exact k.kept R hk (.int _ _)
            · exact nope e
          · exact nope e
        · split at e
          · split at e
            · rename_i l q
              obtain rfl:=Option.some.inj e
              obtain ⟨_,rfl,a⟩:=rv.one
              obtain ⟨_,_,_,rfl,a1,b1⟩:=Rep.lst_inv a
              obtain ⟨a,e1,e2⟩:=intsOf_rep q b1
              refine sum_intListG rm (by rw [← e1]; exact isList_of (R.fro _ _ a1)) fun h' tk t' hk=>?_
              have e3 : preSum (numAt a) a.size = l.sum:=by
                rw [preSum_eq,List.take_of_length_le (by simp),e2]
              rw [e3]
              exact k.kept R hk (.int _ _)
            · exact nope e
          · exact nope e
        · split at e
          · obtain rfl:=Option.some.inj e
            obtain ⟨_,rfl,a⟩:=rv.one
            obtain ⟨t,rfl⟩:=Rep.int_inv a
            exact call_abs_int fun u tk=>k.same R (.int _ _)
          · exact nope e
        · exact nope e
        · exact nope e
      · unfold lenC at e
        split at e
        · split at e
          · rename_i hc
            obtain ⟨hb,e⟩:=bif_some e rfl
            obtain rfl:=Option.some.inj e
            have hb:=of_decide_eq_true hb
            cases rv with
            | cons a b =>
              cases b
              obtain ⟨ax,h0,rfl⟩:=a
              cases R.cells _ _ hc with
              | lst h1 h2 h3 h4 =>
                rw [h0] at h1; obtain rfl:=Option.some.inj h1
                rw [h4.length] at hb
                refine PySem.Calls.call_len_list (isList_of h3) (by simpa using (by omega : (_ : Int) < 2 ^ 63)) ?_
                refine k.same R ?_
                rw [List.size_toArray,← h4.length]
                exact .int _ _
          · exact nope e
        · exact nope e
    · split at e
      · split at e
        · split at e
          · unfold duo at e
            split at e
            · split at e
              · unfold minmax at e
                split at e
                · obtain rfl:=Option.some.inj e
                  obtain ⟨_,_,rfl,a,b⟩:=rv.two
                  obtain ⟨_,rfl⟩:=Rep.int_inv a
                  obtain ⟨_,rfl⟩:=Rep.int_inv b
                  refine min_two_ints rm fun h' tk hk=>k.kept R hk rep_if
                · obtain rfl:=Option.some.inj e
                  obtain ⟨_,_,rfl,a,b⟩:=rv.two
                  obtain ⟨_,rfl⟩:=Rep.int_inv a
                  obtain ⟨_,rfl⟩:=Rep.int_inv b
                  refine max_two_ints rm fun h' tk hk=>k.kept R hk rep_if
                · exact nope e
              · exact nope e
            · exact nope e
          · exact nope e
        · exact nope e
      · exact nope e
end
end Mine
end
section
open PySem.Spec
namespace Mine
theorem nm_ne {s : Str} (h : ((nmL.all fun x=>strNe x s) && s.cps.all (· < 2000000)) = true) (n : Nat) : nm n ≠ s:=by
  rw [Bool.and_eq_true] at h
  intro e
  rcases nmAt_mem nmL n n with ⟨p,_⟩ | ⟨_,p⟩
  · have q : s = (⟨#[n + 2000000]⟩ : Str):=e.symm.trans p
    have:=h.2
    rw [q] at this
    simp at this
    omega
  · rw [show nmAt nmL n n = s from e] at p
    have:=List.all_eq_true.mp h.1 s (List.mem_of_getElem? p)
    unfold strNe at this
    rw [Nat.beq_refl] at this
    exact nof this
theorem nm_super (n : Nat) : nm n ≠ "super":=nm_ne (by decide +kernel) n
theorem nm_debug (n : Nat) : (nm n == ("__debug__" : Str)) = false:=beq_eq_false_iff_ne.mpr (nm_ne (by decide +kernel) n)
theorem nm_classdict (n : Nat) : (nm n == ("__classdict__" : Str)) = false:=beq_eq_false_iff_ne.mpr (nm_ne (by decide +kernel) n)
theorem toE_star : ∀ (x : X) (rest : List Expr) (env : Env),starEach (toE x :: rest) env = (false,eval (toE x) env) :: starEach rest env
  | .frz x,rest,env=>toE_star x rest env
  | .cnone _,_,_ | .cbool _ _,_,_ | .cint _ _,_,_ | .cstr _ _,_,_ | .loc _ _,_,_ | .cel _ _,_,_ | .glo _ _,_,_ | .frL _ _,_,_ | .frC _ _,_,_ | .bin ..,_,_ | .rep ..,_,_ | .cmp ..,_,_ | .bop ..,_,_
  | .not ..,_,_ | .neg ..,_,_ | .ite ..,_,_ | .tup ..,_,_ | .lst ..,_,_ | .dic ..,_,_ | .sub ..,_,_ | .slc ..,_,_ | .att ..,_,_ | .callU ..,_,_ | .callB ..,_,_ | .callM ..,_,_ | .app ..,_,_ | .pop ..,_,_
  | .get ..,_,_ | .comp ..,_,_ | .comp2 ..,_,_=>rfl
theorem toE_behind : ∀ (x : X) (op : CmpOp),behindInMarks op (toE x) = false
  | .frz x,op=>toE_behind x op
  | .cnone _,_ | .cbool _ _,_ | .cint _ _,_ | .cstr _ _,_ | .loc _ _,_ | .cel _ _,_ | .glo _ _,_ | .frL _ _,_ | .frC _ _,_ | .bin ..,_ | .rep ..,_ | .cmp ..,_ | .bop ..,_
  | .not ..,_ | .neg ..,_ | .ite ..,_ | .tup ..,_ | .lst ..,_ | .dic ..,_ | .sub ..,_ | .slc ..,_ | .att ..,_ | .callU ..,_ | .callB ..,_ | .callM ..,_ | .app ..,_ | .pop ..,_
  | .get ..,_ | .comp ..,_ | .comp2 ..,_=>rfl
theorem base_call (f : Nat) (fp : Pos) (xs : List Expr) (p : Pos) (attr : Str) (env : Env) (m : Sem Value) : attributeBase (.Call (.Name (nm f) fp) xs [] p) attr env m = m:=by
  cases xs with
  | nil =>
    unfold attributeBase
    have : (nm f != "super") = true:=bne_iff_ne.mpr (nm_super f)
    simp only [this,Bool.true_or,if_true]
  | cons _ _=>rfl
theorem toE_base : ∀ (x : X) (attr : Str) (env : Env) (m : Sem Value),attributeBase (toE x) attr env m = m
  | .frz x,attr,env,m=>toE_base x attr env m
  | .callU f fp xs p,attr,env,m=>base_call f fp (toEs xs) p attr env m
  | .callB _ f fp xs p,attr,env,m=>base_call f fp (toEs xs) p attr env m
  | .cnone _,_,_,_ | .cbool _ _,_,_,_ | .cint _ _,_,_,_ | .cstr _ _,_,_,_ | .loc _ _,_,_,_ | .cel _ _,_,_,_ | .glo _ _,_,_,_ | .frL _ _,_,_,_ | .frC _ _,_,_,_ | .bin ..,_,_,_ | .rep ..,_,_,_ | .cmp ..,_,_,_ | .bop ..,_,_,_
  | .not ..,_,_,_ | .neg ..,_,_,_ | .ite ..,_,_,_ | .tup ..,_,_,_ | .lst ..,_,_,_ | .dic ..,_,_,_ | .sub ..,_,_,_ | .slc ..,_,_,_ | .att ..,_,_,_ | .callM ..,_,_,_ | .app ..,_,_,_ | .pop ..,_,_,_
  | .get ..,_,_,_ | .comp ..,_,_,_ | .comp2 ..,_,_,_=>rfl
theorem toEs_plain : ∀ (xs : XL) (pos : Pos) (env : Env),(backTo pos (starEach (toEs xs) env)).any (·.1) = false
  | .nil,_,_=>rfl
  | .cons x r,pos,env=>by
    rw [toEs,toE_star]
    show (false || (backTo pos (starEach (toEs r) env)).any (·.1)) = false
    rw [toEs_plain r pos env]; rfl
theorem toEs_len : ∀ (xs : XL),(toEs xs).length = xs.len
  | .nil=>rfl
  | .cons x r=>by rw [toEs,List.length_cons,toEs_len r]; rfl
section
variable {prog : Program} {W : World} {A : Around} {E : Value → Shared → Prop} {s : Shared} {g : Act} {w : Wd} {st : St} {d : Nat} {K : Frag} {env : Env}
theorem spliced_toEs_cons {x : X} {r : XL} {pos : Pos} {Q : List Value → Shared → Prop}
    (h : wpAny (model prog W) A (eval (toE x) env) (fun v s₁=>wpAny (model prog W) A (spliced (backTo pos (starEach (toEs r) env))) (fun vs s₂=>Q (v :: vs) s₂) E s₁) E s) :
    wpAny (model prog W) A (spliced (backTo pos (starEach (toEs (.cons x r)) env))) Q E s:=by
  rw [toEs]; exact wpAny_items_cons h (toE_star x _ _)
noncomputable def ArgsTo (prog : Program) (W : World) (A : Around) (env : Env) (pos : Pos) (E : Value → Shared → Prop) : XL → (List Value → Shared → Prop) → Shared → Prop
  | .nil,Q,s=>Q [] s
  | .cons x r,Q,s=>wpAny (model prog W) A (spliced (backTo pos (starEach (toEs (.cons x r)) env))) Q E s
theorem ArgsTo.wp {xs : XL} {pos : Pos} {Q : List Value → Shared → Prop} (h : ArgsTo prog W A env pos E xs Q s) : wpAny (model prog W) A (spliced (backTo pos (starEach (toEs xs) env))) Q E s:=by
  cases xs with
  | nil=>exact wpAny_items_nil h
  | cons _ _=>exact h
theorem evalArgs_toEs {f : Value} {xs : XL} {pos : Pos} {Q : Args → Shared → Prop} (h : ArgsTo prog W A env pos E xs (fun vs s'=>Q ⟨vs,[]⟩ s') s) :
    wpAny (model prog W) A (evalArgs f true (backTo pos (starEach (toEs xs) env)) []) Q E s:=by
  cases xs with
  | nil=>exact PySem.evalArgs_none h
  | cons x r =>
    have h : wpAny (model prog W) A (spliced (backTo pos (starEach (toEs (.cons x r)) env))) (fun vs s'=>Q ⟨vs,[]⟩ s') E s:=h
    rw [toEs,toE_star] at h ⊢
    exact Calls.evalArgs_plain h
noncomputable abbrev Keeps (prog : Program) (W : World) (h : Heap) (f : Value) : Prop:=∃ k,(k = Keeper.frame ∨ k = Keeper.machine ∨ k = Keeper.boundFrame) ∧ Looks (model prog W) h (keeperOf f) k
theorem keeps_builtin {h : Heap} (id : String) : Keeps prog W h (.builtin id):=⟨.machine,.inr (.inl rfl),.now⟩
theorem keeps_type {h : Heap} (T : String) : Keeps prog W h (.type T):=⟨.machine,.inr (.inl rfl),.now⟩
theorem keeps_fn {h : Heap} {a : Addr} {o : Obj} {fd : FuncData} (ho : h.get? a = some o) (hd : o.data = .func fd) : Keeps prog W h (.ref a) :=
  ⟨.frame,.inl rfl,(Looks.ld (part:=none) ho).andThen (by rw [hd]; exact .now)⟩
theorem callWith_toEs {f : Value} {first : List Value} {xs : XL} {pos : Pos} {Q : Value → Shared → Prop}
    (h : ArgsTo prog W A env pos E xs (fun vs s₁=>Keeps prog W s₁.heap f ∧ wpAny (model prog W) A (call f (first ++ vs)) Q E s₁) s) :
    wpAny (model prog W) A (callWith pos f first (backTo pos (starEach (toEs xs) env)) []) Q E s:=by
  refine callWith_of (P:=fun h=>Keeps prog W h f) (by rw [toEs_plain]; rfl) (fun _ h=>h) (evalArgs_toEs h)
theorem method_toE {o : X} {name : Str} {op p : Pos} {xs : XL} {Q : Value → Shared → Prop} (hp : Nat.beq op.endLine p.line = true) (hx : xs.len < 29)
    (h : wpAny (model prog W) A (eval (toE o) env) (fun ov s₁=>∀ pl,wpAny (model prog W) A (getMethod ov name pl) (fun fx s₂=>wpAny (model prog W) A (callWith p fx.1 fx.2 (backTo p (starEach (toEs xs) env)) []) Q E s₂) E s₁) E s) :
    wpAny (model prog W) A (eval (.Call (.Attribute (toE o) name op) (toEs xs) [] p) env) Q E s:=by
  have hf : ∀ (xs : XL),(backTo p (starEach (toEs xs) env)).all (!·.1) = true:=fun xs=>by
    induction xs using XL.rec (motive_1:=fun _=>True) (motive_2:=fun _=>True) with
    | nil=>rfl
    | cons x r _ ih=>rw [toEs,toE_star]; exact ih
    | _=>trivial
  have few : methodCallForm ((toEs xs).length + 0) (backTo p (starEach (toEs xs) env)) [] = true:=by
    unfold methodCallForm
    rw [hf xs,toEs_len]
    simp; omega
  have e0 : eval (.Call (.Attribute (toE o) name op) (toEs xs) [] p) env = (do
      let ov ← attributeBase (toE o) name env (eval (toE o) env)
      standAt op.atName
      methodCall (toE o) name op p env ov ((toEs xs).length + 0) (backTo p (starEach (toEs xs) env)) []):=rfl
  rw [e0,toE_base]
  refine wpAny_bind (wpAny_mono h (fun ov s₁ h₁=>wpAny_bind (wpAny_standAt ?_)) fun _ _ x=>x)
  unfold methodCall
  rw [few]
  have e1 : calleeOf true (toE o) env ov name = getMethod ov name (do return (← importBound (toE o) env).getD true):=rfl
  rw [e1]
  refine wpAny_bind (wpAny_holding (wpAny_mono (h₁ _) (fun fx s₂ h₂=>?_) fun _ _ x=>x))
  have e2 : methodCallPos true (toE o) env op p = pure p:=by
    unfold methodCallPos
    rw [show (op.endLine == p.line) = true by rw [beq_is] at hp; simpa using hp]; rfl
  obtain ⟨f,first⟩:=fx
  dsimp only
  rw [e2]
  exact wpAny_bind (wpAny_pure h₂)
end
end Mine
end
section
open PySem.Spec
namespace Mine
section
variable {prog : Program} {W : World} {A : Around} {E : Value → Shared → Prop} {s : Shared} {g : Act} {w : Wd} {st : St} {d : Nat} {K : Frag} {h h' : Heap}
noncomputable abbrev Post (g : Act) (w : Wd) (s : Shared) (Qa : V → St → Prop) (Q : Value → Shared → Prop) : Prop :=
  ∀ w' av st' h' tk v,Stp w s.heap w' h' → Rel g w' st' h' → RepV g.ad w' av v → Qa av st' → Q v { s with heap:=h',toks:=tk }
theorem Post.same {Qa : V → St → Prop} {Q : Value → Shared → Prop} (k : Post g w s Qa Q) (R : Rel g w st s.heap) {av : V} {v : Value} {tk : Nat} (r : RepV g.ad w av v) (q : Qa av st) : Q v { s with toks:=tk } :=
  k w av st s.heap tk v (.refl w _) R r q
theorem Post.step {Qa : V → St → Prop} {Q : Value → Shared → Prop} (k : Post g w s Qa Q) {w' : Wd} {h' : Heap} {tk : Nat} (S : Stp w s.heap w' h') : Post g w' { s with heap:=h',toks:=tk } Qa Q :=
  fun w'' av st' h'' tk' v S' R r q=>k w'' av st' h'' tk' v (S.trans S') R r q
theorem ns_uniq {a : Addr} {m m' : Str → Option Value} (x : h.Ns a m) (y : h.Ns a m') : m = m':=by
  obtain ⟨o,es,ep,ho,hd,_,hm⟩:=x
  obtain ⟨o',es',ep',ho',hd',_,hm'⟩:=y
  rw [ho] at ho'; cases ho'
  rw [hd] at hd'; cases hd'
  funext n
  rw [← hm,← hm']
theorem isCell_uniq {a : Addr} {v v' : Option Value} (x : h.IsCell a v) (y : h.IsCell a v') : v = v':=by
  obtain ⟨o,e,d⟩:=x
  obtain ⟨o',e',d'⟩:=y
  rw [e] at e'; cases e'
  rw [d] at d'
  cases v <;> cases v' <;> simp_all
theorem loc_sound {n : Nat} {p : Pos} {v : V} {Q : Value → Shared → Prop} (R : Rel g w st s.heap) (e : look st.loc n = some v) (k : ∀ x,RepV g.ad w v x → Q x s) : wpAny (model prog W) A (eval (.Name (nm n) p) g.env) Q E s:=by
  obtain ⟨m,hn,r⟩:=R.loc
  obtain ⟨x,hx,rx⟩:=r n v e
  exact wpAny_Name (wpAny_loadName_local g.kind (R.lock n (has_of_look e)) hn hx (k x rx)) (nm_debug n)
theorem cel_at {n : Nat} {p : Pos} {c : Addr} {x : Value} {own : Bool} {Q : Value → Shared → Prop} (hc : g.env.cells.lookup (nm n) = some c) (t : CelOk g w own n c) (i : s.heap.IsCell c (some x)) (k : Q x s) :
    wpAny (model prog W) A (eval (.Name (nm n) p) g.env) Q E s:=by
  rcases t with ⟨a,_⟩ | ⟨_,a | a,_⟩
  · exact wpAny_Name (wpAny_loadName_cell g.kind a hc i k) (nm_debug n)
  · exact wpAny_Name (wpAny_loadName_cell g.kind a hc i k) (nm_debug n)
  · exact wpAny_Name (wpAny_loadName_free g.kind a hc i k (nm_classdict n)) (nm_debug n)
theorem cel_sound {n : Nat} {p : Pos} {v : V} {Q : Value → Shared → Prop} (R : Rel g w st s.heap) (e : look st.cel n = some v) (k : ∀ x,RepV g.ad w v x → Q x s) : wpAny (model prog W) A (eval (.Name (nm n) p) g.env) Q E s:=by
  obtain ⟨c,v0,hc,t,i,r⟩:=R.cel n (has_of_look e)
  obtain ⟨x,rfl,rx⟩:=r v e
  exact cel_at hc t i (k x rx)
theorem Rel.putLoc (R : Rel g w st h) {n : Nat} {v : V} {x : Value} {m : Str → Option Value} (hn : h.Ns g.env.locals m) (hx : m (nm n) = some x) (rv : RepV g.ad w v x) : Rel g w { st with loc:=put st.loc n v } h:=by
  refine ⟨R.ext,R.fro,R.mfresh,R.frosh,R.mthere,R.len,R.cells,R.locT,?_,fun k e=>R.lock k (by rw [← has_put st.loc n k v]; exact e),R.cel,R.gl⟩
  obtain ⟨m',hn',r⟩:=R.loc
  have:=ns_uniq hn hn'
  subst this
  refine ⟨m,hn,fun k u e=>?_⟩
  have e : look (put st.loc n v) k = some u:=e
  rw [look_put] at e
  by_cases hk : k = n
  · subst hk
    rw [if_pos rfl] at e
    split at e
    · cases e; exact ⟨x,hx,rv⟩
    · exact nope e
  · rw [if_neg hk] at e; exact r k u e
theorem Rel.putCel (R : Rel g w st h) {n : Nat} {v : V} {x : Value} {c : Addr} (hc : g.env.cells.lookup (nm n) = some c) (i : h.IsCell c (some x)) (rv : RepV g.ad w v x) : Rel g w { st with cel:=put st.cel n v } h:=by
  refine ⟨R.ext,R.fro,R.mfresh,R.frosh,R.mthere,R.len,R.cells,R.locT,R.loc,R.lock,fun k e=>?_,R.gl⟩
  have e1 : has st.cel k = true:=by rw [← has_put st.cel n k v]; exact e
  obtain ⟨c',v0,hc',t,i',r⟩:=R.cel k e1
  refine ⟨c',v0,hc',t,i',fun u z=>?_⟩
  have z : look (put st.cel n v) k = some u:=z
  rw [look_put] at z
  by_cases hk : k = n
  · subst hk
    rw [if_pos rfl] at z
    rw [hc] at hc'; cases hc'
    have:=isCell_uniq i i'
    subst this
    rw [e1] at z
    obtain rfl:=Option.some.inj z
    exact ⟨x,rfl,rv⟩
  · rw [if_neg hk] at z; exact r u z
theorem frL_sound {n : Nat} {p : Pos} {v : V} {dd : D} {hp : Hp} {Q : Value → Shared → Prop} (R : Rel g w st s.heap) (e : look st.loc n = some v) (ef : frz 4 st.hp v = some (dd,hp))
    (k : ∀ w' x,Stp w s.heap w' s.heap → Rel g w' { st with loc:=put st.loc n (.d dd),hp:=hp } s.heap → Rep g.ad w'.τ dd x → Q x s) : wpAny (model prog W) A (eval (.Name (nm n) p) g.env) Q E s:=by
  obtain ⟨m,hn,r⟩:=R.loc
  obtain ⟨x,hx,rx⟩:=r n v e
  obtain ⟨w',F,rd⟩:=frz_sound 4 ef R rx
  exact wpAny_Name (wpAny_loadName_local g.kind (R.lock n (has_of_look e)) hn hx (k w' x F.stp (F.rel.putLoc hn hx rd) rd)) (nm_debug n)
theorem frC_sound {n : Nat} {p : Pos} {v : V} {dd : D} {hp : Hp} {Q : Value → Shared → Prop} (R : Rel g w st s.heap) (e : look st.cel n = some v) (ef : frz 4 st.hp v = some (dd,hp))
    (k : ∀ w' x,Stp w s.heap w' s.heap → Rel g w' { st with cel:=put st.cel n (.d dd),hp:=hp } s.heap → Rep g.ad w'.τ dd x → Q x s) : wpAny (model prog W) A (eval (.Name (nm n) p) g.env) Q E s:=by
  obtain ⟨c,v0,hc,t,i,r⟩:=R.cel n (has_of_look e)
  obtain ⟨x,rfl,rx⟩:=r v e
  obtain ⟨w',F,rd⟩:=frz_sound 4 ef R rx
  exact cel_at hc t i (k w' x F.stp (F.rel.putCel hc i rd) rd)
theorem cmpC_sound {op : CmpOp} {x : D} {n : Nat} {vs : List V} {ds : List D} {r : Bool} {vx vy : Value} {Q : Value → Shared → Prop} (rm : Rm A d) (hc : hget st.hp n = some (.lst vs)) (ea : allD vs = some ds) (e : cmpD op x (.lst ds) = some r)
    (R : Rel g w st s.heap) (rx : Rep g.ad w.τ x vx) (ry : RepV g.ad w (.c n) vy) (k : ∀ tk,Q (.bool r) { s with toks:=tk }) : wpAny (model prog W) A (compareOp op vx vy) Q E s:=by
  obtain ⟨a,h0,rfl⟩:=ry
  cases R.cells _ _ hc with
  | lst h1 h2 h3 h4 =>
    rename_i xs kk
    rw [h0] at h1; obtain rfl:=Option.some.inj h1
    have hk : ∀ b o,w.τ b = .fro o → (w.setτ a (.fro (lstObj xs kk))).τ b = .fro o:=fun b o q=>(Wd.setτ_ne (by rintro rfl; rw [h2] at q; cases q)).trans q
    refine cmpD_sound (τ:=(w.setτ a (.fro (lstObj xs kk))).τ) rm e (fun b o q=>?_) (rx.mono g.ok hk) (.lst Wd.setτ_eq ((repL_of_allD ea h4).mono g.ok hk)) k
    by_cases hb : b = a
    · subst hb; rw [Wd.setτ_eq] at q; cases q; exact h3
    · rw [Wd.setτ_ne hb] at q; exact R.fro b o q
theorem lstAt {n : Nat} {vs : List V} {v : Value} (R : Rel g w st h) (hc : hget st.hp n = some (.lst vs)) (r : RepV g.ad w (.c n) v) : ∃ a xs k,v = .ref a ∧ w.mu[n]? = some a ∧ w.τ a = .mut n ∧ h.get? a = some (lstObj xs k) ∧ RepVs g.ad w vs xs:=by
  obtain ⟨a,h0,rfl⟩:=r
  cases R.cells _ _ hc with
  | lst h1 h2 h3 h4 =>
    rw [h0] at h1; obtain rfl:=Option.some.inj h1
    exact ⟨a,_,_,rfl,h0,h2,h3,h4⟩
theorem app_sound {n : Nat} {vs : List V} {v : V} {va vx : Value} {Q : Value → Shared → Prop} (R : Rel g w st s.heap) (hc : hget st.hp n = some (.lst vs)) (hz : vs.length ≤ 1000) (ra : RepV g.ad w (.c n) va) (rv : RepV g.ad w v vx)
    (k : ∀ h',Stp w s.heap w h' → Rel g w { st with hp:=hset st.hp n (some (.lst (vs ++ [v]))) } h' → Q .none { s with heap:=h' }) :
    wpAny (model prog W) A (call (.builtin "list.append") [va,vx]) Q E s:=by
  obtain ⟨a,xs,kk,rfl,h1,h2,h3,h4⟩:=lstAt R hc ra
  have hl:=h4.length
  refine wpAny_list_append_plain ⟨_,h3⟩ (fun h' hp hs=>?_) (small_line (by rw [List.size_toArray]; omega))
  obtain ⟨n',ho⟩:=hp
  have e : xs.toArray.push vx = (xs ++ [vx]).toArray:=by simp
  rw [e] at ho
  exact k h' ⟨.refl w,fun b o z1 z2=>⟨hs.extBut b o (by rintro rfl; rw [z1] at h2; cases h2) z2,z1⟩⟩ (R.setCt hc h2 hs ⟨_,ho⟩ (.lst h1 h2 ho (h4.app (.cons rv .nil))))
theorem append_method {n : Nat} {vs : List V} {va : Value} {pl : Sem Bool} {Q : Value × List Value → Shared → Prop} (R : Rel g w st s.heap) (hc : hget st.hp n = some (.lst vs)) (ra : RepV g.ad w (.c n) va) (k : Q (.builtin "list.append",[va]) s) :
    wpAny (model prog W) A (getMethod va "append" pl) Q E s:=by
  obtain ⟨a,xs,kk,rfl,h1,h2,h3,h4⟩:=lstAt R hc ra
  exact getMethod_list_of PySem.F.slot_list_append PySem.F.type_list_append (isList_of h3) ⟨_,h3,rfl⟩ k
theorem pop_method {n : Nat} {vs : List V} {va : Value} {pl : Sem Bool} {Q : Value × List Value → Shared → Prop} (R : Rel g w st s.heap) (hc : hget st.hp n = some (.lst vs)) (ra : RepV g.ad w (.c n) va) (k : Q (.builtin "list.pop",[va]) s) :
    wpAny (model prog W) A (getMethod va "pop" pl) Q E s:=by
  obtain ⟨a,xs,kk,rfl,h1,h2,h3,h4⟩:=lstAt R hc ra
  exact getMethod_list_of PySem.F.slot_list_pop PySem.F.type_list_pop (isList_of h3) ⟨_,h3,rfl⟩ k
theorem pop_sound {n j : Nat} {i : Int} {vs : List V} {r : V} {va vx : Value} {Q : Value → Shared → Prop} (R : Rel g w st s.heap) (hc : hget st.hp n = some (.lst vs)) (hz : vs.length ≤ 1000) (hi : ixI i = some j) (hr : nth vs j = some r)
    (ra : RepV g.ad w (.c n) va) (rx : Rep g.ad w.τ (.int i) vx)
    (k : ∀ h' v,Stp w s.heap w h' → Rel g w { st with hp:=hset st.hp n (some (.lst (vs.eraseIdx j))) } h' → RepV g.ad w r v → Q v { s with heap:=h' }) :
    wpAny (model prog W) A (call (.builtin "list.pop") [va,vx]) Q E s:=by
  obtain ⟨a,xs,kk,rfl,h1,h2,h3,h4⟩:=lstAt R hc ra
  cases rx with
  | int _ t =>
    obtain ⟨p0,p1,p2⟩:=ixI_some hi
    obtain ⟨v,hv,rv⟩:=h4.nth hr
    have hl:=h4.length
    have hj : j < xs.length:=(List.getElem?_eq_some_iff.mp hv).1
    have hs:=Heap.SameBut.update s.heap a (Obj.mapSeq fun ys : Array Value=>ys.eraseIdxIfInBounds j)
    have e : xs.toArray.eraseIdxIfInBounds j = (xs.eraseIdx j).toArray:=by simp
    obtain ⟨kk',hm⟩ : ∃ kk',Obj.mapSeq (fun ys : Array Value=>ys.eraseIdxIfInBounds j) (lstObj xs kk) = lstObj (xs.eraseIdx j) kk':=by
      unfold Obj.mapSeq
      dsimp only
      rw [e]
      exact ⟨_,rfl⟩
    have ho : (s.heap.update a (Obj.mapSeq fun ys : Array Value=>ys.eraseIdxIfInBounds j)).get? a = some (lstObj (xs.eraseIdx j) kk'):=by
      rw [Heap.get?_update_self _ h3 (by rw [hm]; rfl),hm]
    exact call_meets PySem.F.slot_list_pop (isList_of h3).typeIs PySem.F.entry_list_pop (PySem.F.args_list_pop_2 _ _)
      (PySem.MeetsSeq.list_pop_at a xs.toArray kk i t j v (by simp [Builtin.List.listFitsIndex]; omega) (seqIndex_is (n:=xs.toArray.size) p0 p2 (by simpa using hj)) (by simpa using hv) (small_line (by rw [List.size_toArray]; omega)))
      ⟨h3,k _ v ⟨.refl w,fun b o z1 z2=>⟨hs.extBut b o (by rintro rfl; rw [z1] at h2; cases h2) z2,z1⟩⟩ (R.setCt hc h2 hs ⟨_,ho⟩ (.lst h1 h2 ho (h4.erase j))) rv⟩
theorem get_method {ks : List (List Nat)} {xs : List D} {va : Value} {pl : Sem Bool} {Q : Value × List Value → Shared → Prop} (dk : DictOk prog W g.ad) (R : Rel g w st s.heap) (ra : Rep g.ad w.τ (.dict ks xs) va) (k : Q (.builtin "dict.get",[va]) s) :
    wpAny (model prog W) A (getMethod va "get" pl) Q E s:=by
  cases ra with
  | dict a1 a2 a3 a4 a5 =>
    have hD:=Heap.dictOf_iff.mpr ⟨_,R.fro _ _ a1,(dk.is _ _).mp a2⟩
    exact getMethod_builtin hD.typeIs PySem.F.plainAttrs_dict PySem.F.slot_dict_get PySem.F.type_dict_get hD.mapOf.noDict k
theorem get_sound {ks : List (List Nat)} {xs : List D} {q : List Nat} {e r : D} {va vq ve : Value} {Q : Value → Shared → Prop} (dk : DictOk prog W g.ad) (R : Rel g w st s.heap) (ra : Rep g.ad w.τ (.dict ks xs) va) (rq : Rep g.ad w.τ (.str q) vq) (re : Rep g.ad w.τ e ve)
    (hr : r = (kfind ks xs q).getD e) (k : ∀ tk v,Rep g.ad w.τ r v → Q v { s with toks:=tk }) : wpAny (model prog W) A (call (.builtin "dict.get") [va,vq,ve]) Q E s:=by
  cases ra with
  | dict a1 a2 a3 a4 a5 =>
    cases rq with
    | str _ t =>
      have hD:=Heap.dictOf_iff.mpr ⟨_,R.fro _ _ a1,(dk.is _ _).mp a2⟩
      refine call_meetsIn PySem.F.slot_dict_get hD.typeIs PySem.F.entry_dict_get (PySem.F.args_dict_get_3 _ _ _) (meets_dict_get_default (strKind prog W) _ (strKind_is prog W _ t) a4 ve) ⟨_,hD.mapOf,?_⟩
      rcases valueAt_kfind a3 a5 q with ⟨z1,z2⟩ | ⟨x',v,z1,z2,z3⟩
      · rw [z2]
        exact k _ _ (by rw [hr,z1]; exact re)
      · rw [z2]
        exact k _ _ (by rw [hr,z1]; exact z3)
end
end Mine
end
section
open PySem.Spec
namespace Mine
noncomputable def Role.out : Role → Role
  | .loc=>.free
  | .nce _=>.free
  | r=>r
theorem Role.out_fro {r : Role} {o : Obj} (h : r.out = .fro o) : r = .fro o:=by cases r <;> simp [Role.out] at h ⊢ <;> exact h
theorem Role.out_mut {r : Role} {n : Nat} (h : r.out = .mut n) : r = .mut n:=by cases r <;> simp [Role.out] at h ⊢ <;> exact h
theorem Role.out_isMut {r : Role} (h : r.out.isMut) : ∃ n,r = .mut n:=by cases r <;> first | exact h.elim | exact ⟨_,rfl⟩
noncomputable def wIn (w : Wd) : Wd:=⟨fun a=>(w.τ a).out,w.mu⟩
noncomputable def wOut (w w2 : Wd) : Wd:=⟨fun a=>match w.τ a with
  | .loc=>.loc
  | .nce n=>.nce n
  | _=>(w2.τ a).out,w2.mu⟩
noncomputable def Role.mine : Role → Prop
  | .loc=>True
  | .nce _=>True
  | _=>False
theorem wOut_mine {w w2 : Wd} {a : Addr} (h : (w.τ a).mine) : (wOut w w2).τ a = w.τ a:=by
  show (match w.τ a with | .loc=>Role.loc | .nce n=>.nce n | _=>(w2.τ a).out) = _
  cases e : w.τ a with
  | loc=>rfl
  | nce n=>rfl
  | _=>rw [e] at h; exact h.elim
theorem wOut_other {w w2 : Wd} {a : Addr} (h : ¬ (w.τ a).mine) : (wOut w w2).τ a = (w2.τ a).out:=by
  show (match w.τ a with | .loc=>Role.loc | .nce n=>.nce n | _=>(w2.τ a).out) = _
  cases e : w.τ a with
  | loc=>rw [e] at h; exact (h trivial).elim
  | nce n=>rw [e] at h; exact (h trivial).elim
  | _=>rfl
structure Wd.sub (w w' : Wd) : Prop where
  fr : ∀ a o,w.τ a = .fro o → w'.τ a = .fro o
  two : ∀ (n : Nat) (a : Addr),w.mu[n]? = some a → w'.mu[n]? = some a
theorem Wd.le.sub {w w' : Wd} (l : w.le w') : w.sub w':=⟨l.one,l.two⟩
theorem Wd.sub.trans {a b c : Wd} (x : a.sub b) (y : b.sub c) : a.sub c:=⟨fun p o e=>y.fr p o (x.fr p o e),fun n p e=>y.two n p (x.two n p e)⟩
section
variable {ad : Ad} {w w' : Wd} {h : Heap}
theorem RepV.sub (ok : AdOk ad) (l : w.sub w') : ∀ {x : V} {v : Value},RepV ad w x v → RepV ad w' x v
  | .d _,_,h=>Rep.mono ok l.fr h
  | .c _,_,⟨a,e,q⟩=>⟨a,l.two _ _ e,q⟩
theorem RepVs.sub (ok : AdOk ad) (l : w.sub w') {x : List V} {v : List Value} (h : RepVs ad w x v) : RepVs ad w' x v:=by
  induction h with
  | nil=>exact .nil
  | cons h _ ih=>exact .cons (h.sub ok l) ih
theorem CtAt.sub (ok : AdOk ad) (l : w.sub w') {n : Nat} {c : Ct} (hm : ∀ b,w.τ b = .mut n → w'.τ b = .mut n) (x : CtAt ad w n h c) : CtAt ad w' n h c:=by
  cases x with
  | lst a b c d=>exact .lst (l.two _ _ a) (hm _ b) c (d.sub ok l)
  | inst a b c d e f f1 f2 f3=>exact .inst (l.two _ _ a) (hm _ b) c (hm _ d) e f f1 f2 (f3.sub ok l)
  | tab a b c d=>exact .tab (l.two _ _ a) (hm _ b) c (ok.tmono _ _ _ _ l.fr d)
  | bag a b c d e=>exact .bag (l.two _ _ a) (hm _ b) c (d.sub ok l) e
end
section
variable {g g' : Act} {w w2 : Wd} {st st2 : St} {h h2 h3 : Heap}
theorem Rel.mine_there (R : Rel g w st h) {a : Addr} (m : (w.τ a).mine) : ∃ o,h.get? a = some o:=R.mthere a (by
  cases e : w.τ a with
  | loc=>trivial
  | nce n=>trivial
  | _=>rw [e] at m; exact m.elim)
theorem leave (R : Rel g w st h) (R2 : Rel g' w2 st2 h2) (had : g'.ad = g.ad) (h0 : ∀ b o,h.get? b = some o → g'.h0.get? b = some o) (hsz : h.objs.size ≤ g'.h0.objs.size) (hps : ∀ a,g'.ps a → ∃ n,w.τ a = .mut n)
    (hτ0 : ∀ a o,g'.τ0 a = .fro o → w.τ a = .fro o) (hS : ∀ b o,(w.τ b).out = .free → h.get? b = some o → h2.get? b = some o ∧ w2.τ b = .free) (hl : w.sub w2)
    (h23 : ∀ b o,b ≠ g'.env.locals → h2.get? b = some o → h3.get? b = some o) :
    Stp w h (wOut w w2) h3 ∧ Rel g (wOut w w2) { st with hp:=st2.hp } h3 ∧ w2.sub (wOut w w2):=by
  have hL : ∀ a o,h.get? a = some o → a ≠ g'.env.locals:=fun a o e=>by
    rintro rfl
    exact absurd (Nat.lt_of_lt_of_le (Heap.lt_size (h0 _ _ e)) (Nat.le_refl _)) (Nat.not_lt.mpr g'.above)
  have up : ∀ b o,h.get? b = some o → (¬ ∃ n,w.τ b = .mut n) → h3.get? b = some o:=fun b o e q=>h23 b o (hL b o e) (R2.ext b o (fun z=>q (hps b z)) (h0 b o e))
  have mineFree : ∀ a,(w.τ a).mine → w2.τ a = .free:=fun a m=>by
    obtain ⟨o,e⟩:=R.mine_there m
    refine (hS a o ?_ e).2
    cases q : w.τ a with
    | loc=>rfl
    | nce n=>rfl
    | _=>rw [q] at m; exact m.elim
  have out2 : ∀ a,¬ (w2.τ a).mine → (wOut w w2).τ a = w2.τ a ∨ (w.τ a).mine:=fun a m=>by
    by_cases q : (w.τ a).mine
    · exact .inr q
    · refine .inl ((wOut_other q).trans ?_)
      cases e : w2.τ a with
      | loc=>rw [e] at m; exact (m trivial).elim
      | nce n=>rw [e] at m; exact (m trivial).elim
      | _=>rfl
  have froOut : ∀ a o,w2.τ a = .fro o → (wOut w w2).τ a = .fro o:=fun a o e=>by
    rcases out2 a (by rw [e]; exact id) with q | q
    · exact q.trans e
    · rw [mineFree a q] at e; cases e
  have mutOut : ∀ a n,w2.τ a = .mut n → (wOut w w2).τ a = .mut n:=fun a n e=>by
    rcases out2 a (by rw [e]; exact id) with q | q
    · exact q.trans e
    · rw [mineFree a q] at e; cases e
  have hsub : w2.sub (wOut w w2):=⟨froOut,fun _ _ e=>e⟩
  have back : ∀ a,(wOut w w2).τ a ≠ .free → ¬ (w.τ a).mine → (wOut w w2).τ a = w2.τ a ∧ ¬ (w2.τ a).mine:=fun a n q=>by
    rw [wOut_other q] at n ⊢
    cases e : w2.τ a with
    | loc=>rw [e] at n; exact (n rfl).elim
    | nce k=>rw [e] at n; exact (n rfl).elim
    | free=>rw [e] at n; exact (n rfl).elim
    | fro o=>exact ⟨rfl,id⟩
    | «mut» k=>exact ⟨rfl,id⟩
  have notMut : ∀ a,(w.τ a).mine → ¬ ∃ n,w.τ a = .mut n:=fun a m ⟨n,q⟩=>by rw [q] at m; exact m
  refine ⟨⟨⟨fun a s=>?_,fun n a e=>hl.two n a e⟩,fun b o e q=>?_⟩,⟨fun b o p e=>?_,fun a o e=>?_,fun a m=>?_,fun a o e=>?_,fun a m=>?_,R2.len,fun n c e=>?_,(wOut_mine (by rw [R.locT]; trivial)).trans R.locT,?_,R.lock,fun n e=>?_,R.gl⟩,hsub⟩
  · cases e : w.τ a with
    | loc=>exact (wOut_mine (by rw [e]; trivial)).trans e
    | nce n=>exact (wOut_mine (by rw [e]; trivial)).trans e
    | fro o=>exact froOut a o (hl.fr a o e)
    | free=>rw [e] at s; exact s.elim
    | «mut» n=>rw [e] at s; exact s.elim
  · have z:=hS b o (by rw [e]; rfl) q
    refine ⟨h23 b o (hL b o q) z.1,?_⟩
    rw [wOut_other (by rw [e]; exact id),z.2]; rfl
  · have q:=R.ext b o p e
    refine up b o q fun ⟨n,z⟩=>?_
    rcases R.mfresh b (by rw [z]; trivial) with y | y
    · exact p y
    · exact absurd (Heap.lt_size e) (Nat.not_lt.mpr y)
  · by_cases q : (w.τ a).mine
    · rw [wOut_mine q] at e; rw [e] at q; exact q.elim
    · obtain ⟨b1,_⟩:=back a (by rw [e]; intro z; cases z) q
      rw [b1] at e
      refine h23 a o (fun z=>?_) (R2.fro a o e)
      rw [z,R2.locT] at e; cases e
  · by_cases q : (w.τ a).mine
    · rw [wOut_mine q] at m; exact R.mfresh a m
    · obtain ⟨b1,b2⟩:=back a (by intro z; rw [z] at m; exact m) q
      rw [b1] at m
      rcases R2.mfresh a m with z | z
      · obtain ⟨n,z⟩:=hps a z
        exact R.mfresh a (by rw [z]; trivial)
      · exact .inr (Nat.le_trans R.size (Nat.le_trans hsz z))
  · by_cases q : (w.τ a).mine
    · rw [wOut_mine q] at e; exact R.frosh a o e
    · obtain ⟨b1,b2⟩:=back a (by rw [e]; intro z; cases z) q
      rw [b1] at e
      rcases R2.frosh a o e with z | z | z
      · exact R.frosh a o (hτ0 a o z)
      · exact .inr (.inl (Nat.le_trans R.size (Nat.le_trans hsz z)))
      · obtain ⟨n,z⟩:=hps a z
        rcases R.mfresh a (by rw [z]; trivial) with y | y
        · exact .inr (.inr y)
        · exact .inr (.inl y)
  · by_cases q : (w.τ a).mine
    · obtain ⟨o,e⟩:=R.mine_there q
      exact ⟨o,up a o e (notMut a q)⟩
    · obtain ⟨b1,b2⟩:=back a (by intro z; rw [z] at m; exact m) q
      rw [b1] at m
      obtain ⟨o,e⟩:=R2.mthere a m
      refine ⟨o,h23 a o (fun z=>?_) e⟩
      rw [z,R2.locT] at b2; exact b2 trivial
  · rw [← had]
    refine ((R2.cells n c e).keeps fun b o z1 z2=>h23 b o (fun z=>?_) z2).sub g'.ok hsub fun b z=>mutOut b n z
    rw [z,R2.locT] at z1; cases z1
  · obtain ⟨m,hn,r⟩:=R.loc
    refine ⟨m,hn.at' fun o e=>up _ o e fun ⟨n,z⟩=>(by rw [R.locT] at z; cases z),fun n v e=>?_⟩
    obtain ⟨x,a,b⟩:=r n v e
    exact ⟨x,a,(b.sub g.ok hl).sub g.ok hsub⟩
  · obtain ⟨c,v0,b,t,i,r⟩:=R.cel n e
    have nm' : ¬ ∃ n,w.τ c = .mut n:=by
      rintro ⟨k,z⟩
      rcases t with ⟨_,q⟩ | ⟨_,_,p,o,q⟩
      · rw [z] at q; cases q
      · rcases R.mfresh c (by rw [z]; trivial) with y | y
        · exact p y
        · exact absurd (Heap.lt_size q) (Nat.not_lt.mpr y)
    refine ⟨c,v0,b,?_,isCell_keeps i fun o e=>up c o e nm',fun v e=>?_⟩
    · rcases t with ⟨a,q⟩ | q
      · exact .inl ⟨a,(wOut_mine (by rw [q]; trivial)).trans q⟩
      · exact .inr q
    · obtain ⟨x,p,q⟩:=r v e
      exact ⟨x,p,(q.sub g.ok hl).sub g.ok hsub⟩
structure Grew (h : Heap) (τ : Addr → Role) (h' : Heap) (τ' : Addr → Role) : Prop where
  keep : ∀ b o,h.get? b = some o → h'.get? b = some o
  fro : ∀ a o,τ a = .fro o → τ' a = .fro o
  new : ∀ a o,τ' a = .fro o → τ a = .fro o ∨ (h.objs.size ≤ a ∧ h'.get? a = some o)
noncomputable def wGrow (w : Wd) (τ' : Addr → Role) : Wd:=⟨fun a=>match w.τ a with
  | .free=>(match τ' a with | .fro o=>.fro o | _=>.free)
  | r=>r,w.mu⟩
theorem wGrow_named {τ' : Addr → Role} {a : Addr} (h : w.τ a ≠ .free) : (wGrow w τ').τ a = w.τ a:=by
  show (match w.τ a with | .free=>_ | r=>r) = _
  cases e : w.τ a with
  | free=>exact (h e).elim
  | _=>rfl
theorem wGrow_free {τ' : Addr → Role} {a : Addr} (h : w.τ a = .free) : (wGrow w τ').τ a = (match τ' a with | .fro o=>.fro o | _=>.free):=by
  show (match w.τ a with | .free=>_ | r=>r) = _
  rw [h]
theorem Rel.grew {τ' : Addr → Role} (R : Rel g w st h) (G : Grew h w.τ h2 τ') : Stp w h (wGrow w τ') h2 ∧ Rel g (wGrow w τ') st h2 ∧ ∀ a o,τ' a = .fro o → (wGrow w τ').τ a = .fro o:=by
  have l : w.le (wGrow w τ'):=⟨fun a s=>wGrow_named (by intro z; rw [z] at s; exact s),fun _ _ e=>e⟩
  have nf : ∀ a o,τ' a = .fro o → w.τ a = .free → h.objs.size ≤ a ∧ h2.get? a = some o:=fun a o e f=>by
    rcases G.new a o e with q | q
    · rw [f] at q; cases q
    · exact q
  refine ⟨⟨l,fun b o e q=>⟨G.keep b o q,?_⟩⟩,(R.keeps fun b o _ e=>G.keep b o e).grow l rfl (fun a ha=>wGrow_named ha) fun a hf hn=>?_,fun a o e=>?_⟩
  · rw [wGrow_free e]
    cases z : τ' b with
    | fro o'=>exact absurd (Heap.lt_size q) (Nat.not_lt.mpr (nf b o' z e).1)
    | _=>rfl
  · rw [wGrow_free hf] at hn ⊢
    cases z : τ' a with
    | fro o'=>exact ⟨Nat.le_trans R.size (nf a o' z hf).1,o',(nf a o' z hf).2,fun o'' e=>by cases e; rfl⟩
    | _=>rw [z] at hn; exact (hn rfl).elim
  · by_cases f : w.τ a = .free
    · rw [wGrow_free f,e]
    · rw [wGrow_named f]
      rcases G.new a o e with q | q
      · exact q
      · exact absurd (R.there f) (Nat.not_lt.mpr q.1)
end
end Mine
end
section
open PySem.Spec
namespace Mine
noncomputable def loudIters : List String:=["enumerate","zip","dict_itemiterator","dict_reverseitemiterator","odict_iterator","itertools.zip_longest","itertools.pairwise"]
noncomputable def QuietIt (h : Heap) (I : Addr) : Prop:=∃ o n,h.get? I = some o ∧ o.cls = .type n ∧ loudIters.contains n = false
inductive Iter (prog : Program) (W : World) (A : Around) (ad : Ad) (w : Wd) (I : Addr) (ds : List D) (i : Nat) (h : Heap) : Prop where
  | mk (fp : _) (P : _) (St : _) (Wk : Walks prog W A I fp [I] ds.length P St) (hst : St i h) (hfp : ∀ b ∈ fp,b = I ∨ ∃ o,w.τ b = .fro o) (hP : ∀ j v x,P j v → ds[j]? = some x → Rep ad w.τ x v) (hq : ∀ j h,St j h → QuietIt h I) : Iter prog W A ad w I ds i h
section
variable {prog : Program} {W : World} {A : Around} {E : Value → Shared → Prop} {s : Shared} {g : Act} {w w' : Wd} {st st' : St} {d : Nat} {I : Addr} {ds : List D} {i : Nat} {h h' : Heap} {env : Env}
theorem Iter.move {ad : Ad} (ok : AdOk ad) (it : Iter prog W A ad w I ds i h) (hI : ∀ o,h.get? I = some o → h'.get? I = some o) (hf : ∀ a o,w.τ a = .fro o → w'.τ a = .fro o) (hk : ∀ a o,w.τ a = .fro o → ∀ o',h.get? a = some o' → h'.get? a = some o') :
    Iter prog W A ad w' I ds i h':=by
  obtain ⟨fp,P,St,Wk,hst,hfp,hP,hq⟩:=it
  refine ⟨fp,P,St,Wk,Wk.frame i h h' hst fun b hb o e=>?_,fun b hb=>?_,fun j v x p e=>(hP j v x p e).mono ok hf,hq⟩
  · rcases hfp b hb with rfl | ⟨o',q⟩
    · exact hI o e
    · exact hk b o' q o e
  · rcases hfp b hb with q | ⟨o',q⟩
    · exact .inl q
    · exact .inr ⟨o',hf b o' q⟩
theorem Iter.quiet {ad : Ad} (it : Iter prog W A ad w I ds i h) : QuietIt h I:=by
  obtain ⟨fp,P,St,Wk,hst,hfp,hP,hq⟩:=it
  exact hq _ _ hst
theorem Iter.step (it : Iter prog W A g.ad w I ds i h) (R : Rel g w st h) (R' : Rel g w' st' h') (S : Stp w h w' h') (hI : w.τ I = .free) : Iter prog W A g.ad w' I ds i h' :=
  it.move g.ok (fun o e=>(S.kept I o hI e).1) S.le.one fun a o q o' e=>by
    rw [R.fro a o q] at e; obtain rfl:=Option.some.inj e
    exact R'.fro a o (S.le.one a o q)
theorem Iter.next (it : Iter prog W A g.ad w I ds i s.heap) {x : D} {Q : Option Value → Shared → Prop} (e : ds[i]? = some x) (hf : ∀ a o,w.τ a = .fro o → s.heap.get? a = some o) (hI : w.τ I = .free)
    (k : ∀ v h' tk,Rep g.ad w.τ x v → Iter prog W A g.ad w I ds (i + 1) h' → (∀ b o,b ≠ I → s.heap.get? b = some o → h'.get? b = some o) → Q (some v) { s with heap:=h',toks:=tk }) :
    wpAny (model prog W) A (pyNext (.ref I)) Q E s:=by
  obtain ⟨fp,P,St,Wk,hst,hfp,hP,hq⟩:=it
  exact Wk.item i s Q E (List.getElem?_eq_some_iff.mp e).1 hst fun v h' tk p st' hk=>k v h' tk (hP i v x p e) ⟨fp,P,St,Wk,st',hfp,hP,hq⟩ fun b o hb e=>hk b o (by simpa using hb) e
theorem Iter.done (it : Iter prog W A g.ad w I ds i s.heap) {Q : Option Value → Shared → Prop} (e : i = ds.length)
    (k : ∀ h' tk,(∀ b o,b ≠ I → s.heap.get? b = some o → h'.get? b = some o) → Q none { s with heap:=h',toks:=tk }) :
    wpAny (model prog W) A (pyNext (.ref I)) Q E s:=by
  obtain ⟨fp,P,St,Wk,hst,hfp,hP,hq⟩:=it
  subst e
  exact Wk.done s Q E hst fun h' tk hk=>k h' tk fun b o hb e=>hk b o (by simpa using hb) e
theorem iter_start {di : D} {xv : Value} {Q : Value → Shared → Prop} (hh : A.handled = none) (e : itemsV di = some ds) (R : Rel g w st s.heap) (rx : Rep g.ad w.τ di xv)
    (k : ∀ o,Iter prog W A g.ad w s.heap.objs.size ds 0 (s.heap.push o) → Q (.ref s.heap.objs.size) { s with heap:=s.heap.push o }) :
    wpAny (model prog W) A (pyIter xv) Q E s:=by
  unfold itemsV at e
  split at e
  · obtain rfl:=Option.some.inj e
    cases rx with
    | lst a1 b1 =>
      rename_i a vs n
      have ho:=R.fro _ _ a1
      have hl:=isList_of ho
      have ne : a ≠ s.heap.objs.size:=Nat.ne_of_lt (Heap.lt_size ho)
      refine wpAny_pyIter_list hl (k _ ⟨[s.heap.objs.size,a],fun i v=>vs.toArray[i]? = some v,fun i h=>h.IsListIter s.heap.objs.size a i ∧ h.IsList a vs.toArray,?_,⟨⟨_,Heap.get?_push_size _ rfl,rfl,rfl⟩,hl.push _⟩,fun b hb=>?_,fun j v x p e=>?_,fun j h st=>?_⟩)
      · have:=Walks.list (prog:=prog) (w:=W) hh s.heap.objs.size a ne vs.toArray
        rw [b1.length,← List.size_toArray]
        exact this
      · rcases List.mem_cons.mp hb with rfl | hb
        · exact .inl rfl
        · rcases List.mem_cons.mp hb with rfl | hb
          · exact .inr ⟨_,a1⟩
          · cases hb
      · rw [← nth_get] at e
        obtain ⟨y,hy,ry⟩:=b1.nth e
        have : vs[j]? = some v:=by simpa using p
        rw [this] at hy; cases hy; exact ry
      · obtain ⟨⟨o,q1,q2,q3⟩,_⟩:=st
        exact ⟨o,"list_iterator",q1,q2,by decide +kernel⟩
  · obtain rfl:=Option.some.inj e
    cases rx with
    | tup a1 b1 =>
      rename_i a vs n
      have ho:=R.fro _ _ a1
      have hl : s.heap.IsTuple a vs.toArray:=⟨_,ho,rfl,_,rfl⟩
      have ne : a ≠ s.heap.objs.size:=Nat.ne_of_lt (Heap.lt_size ho)
      refine wpAny_pyIter_tuple hl (k _ ⟨[s.heap.objs.size,a],fun i v=>vs.toArray[i]? = some v,fun i h=>h.IsTupleIter s.heap.objs.size a i ∧ h.IsTuple a vs.toArray,?_,⟨⟨_,Heap.get?_push_size _ rfl,rfl,rfl⟩,⟨_,Heap.get?_push_of_some _ ho,rfl,_,rfl⟩⟩,fun b hb=>?_,fun j v x p e=>?_,fun j h st=>?_⟩)
      · have:=Walks.tuple (prog:=prog) (w:=W) hh s.heap.objs.size a ne vs.toArray
        rw [b1.length,← List.size_toArray]
        exact this
      · rcases List.mem_cons.mp hb with rfl | hb
        · exact .inl rfl
        · rcases List.mem_cons.mp hb with rfl | hb
          · exact .inr ⟨_,a1⟩
          · cases hb
      · rw [← nth_get] at e
        obtain ⟨y,hy,ry⟩:=b1.nth e
        have : vs[j]? = some v:=by simpa using p
        rw [this] at hy; cases hy; exact ry
      · obtain ⟨⟨o,q1,q2,q3⟩,_⟩:=st
        exact ⟨o,"tuple_iterator",q1,q2,by decide +kernel⟩
  · exact nope e
theorem range_start {di : D} {xv : Value} {Q : Value → Shared → Prop} (hh : A.handled = none) (e : rngD di = some ds) (rx : Rep g.ad w.τ di xv)
    (k : ∀ o o' tk,Iter prog W A g.ad w (s.heap.objs.size + 1) ds 0 ((s.heap.push o).push o') → Q (.ref (s.heap.objs.size + 1)) { s with heap:=(s.heap.push o).push o',toks:=tk }) :
    wpAny (model prog W) A (call (.type "range") [xv]) (fun r s₁=>wpAny (model prog W) A (pyIter r) Q E s₁) E s:=by
  unfold rngD at e
  split at e
  · rename_i n
    obtain ⟨hb,e⟩:=bif_some e rfl
    obtain rfl:=Option.some.inj e
    cases rx with
    | int _ t =>
      refine call_range_1 ?_
      have sz : (s.heap.push { cls:=.type "range",data:=.fields #[.int 0 s.toks,.int n t,.int 1 (s.toks + 1)] }).objs.size = s.heap.objs.size + 1:=Heap.size_push ..
      rw [Bool.and_eq_true] at hb
      have h1:=of_decide_eq_true hb.1
      have h2:=of_decide_eq_true hb.2
      · refine wpAny_pyIter_range (IsRange.new s.heap 0 n 1 _ _ _) (small_one (by decide) (by decide) (by omega) (by omega)) ?_
        dsimp only
        rw [sz]
        refine k _ _ _ ⟨[s.heap.objs.size + 1],fun i v=>∃ t,v = .int (0 + i * 1) t,fun i h=>IsRangeIter h (s.heap.objs.size + 1) (0 + (i : Nat) * 1) ((n.toNat : Int) - (i : Nat)) 1,?_,?_,fun b hb=>.inl (by simpa using hb),fun j v x p e=>?_,fun j h st=>?_⟩
        · have:=Walks.range (prog:=prog) (w:=W) hh (s.heap.objs.size + 1) 0 1 n.toNat
          rw [show ((List.range n.toNat).map fun (i : Nat)=>D.int i).length = n.toNat by simp]
          exact this
        · rw [rangeSize_one]
          have : (if (0 : Int) < n then n - 0 else 0) = (n.toNat : Int) - ((0 : Nat) : Int):=by split <;> omega
          rw [this]
          show Heap.get? _ _ = _
          rw [← sz,Heap.get?_push_size _ rfl]
          simp [rawInt]
        · obtain ⟨t,rfl⟩:=p
          rw [List.getElem?_map] at e
          obtain ⟨y,hy,rfl⟩:=Option.map_eq_some_iff.mp e
          have : y = j:=by
            have:=List.getElem?_eq_some_iff.mp hy
            obtain ⟨_,q⟩:=this
            simpa using q.symm
          subst this
          have : (0 : Int) + (y : Int) * 1 = (y : Int):=by omega
          rw [this]; exact .int _ _
        · exact ⟨_,"range_iterator",st,rfl,by decide +kernel⟩
  · exact nope e
theorem fold_toE : ∀ (x : X) (env : Env) (v : Value),foldedSetIterable (toE x) env v = pure v
  | .frz x,env,v=>fold_toE x env v
  | .cnone _,_,_ | .cbool _ _,_,_ | .cint _ _,_,_ | .cstr _ _,_,_ | .loc _ _,_,_ | .cel _ _,_,_ | .glo _ _,_,_ | .frL _ _,_,_ | .frC _ _,_,_ | .bin ..,_,_ | .rep ..,_,_ | .cmp ..,_,_ | .bop ..,_,_
  | .not ..,_,_ | .neg ..,_,_ | .ite ..,_,_ | .tup ..,_,_ | .lst ..,_,_ | .dic ..,_,_ | .sub ..,_,_ | .slc ..,_,_ | .att ..,_,_ | .callU ..,_,_ | .callB ..,_,_ | .callM ..,_,_ | .app ..,_,_ | .pop ..,_,_
  | .get ..,_,_ | .comp ..,_,_ | .comp2 ..,_,_=>rfl
noncomputable def itE (r : Bool) (fp : Pos) (it : X) (ip : Pos) : Expr:=match r with
  | true=>.Call (.Name (Str.ofString "range") fp) [toE it] [] ip
  | false=>toE it
theorem fold_itE (r : Bool) (fp : Pos) (it : X) (ip : Pos) (env : Env) (v : Value) : foldedSetIterable (itE r fp it ip) env v = pure v:=by
  cases r with
  | true=>rfl
  | false=>exact fold_toE it env v
end
end Mine
end
section
open PySem.Spec
namespace Mine
noncomputable def klook : List (Nat × NameKind) → Nat → Option NameKind
  | [],_=>none
  | (m,k) :: r,n=>match Nat.beq m n with
    | true=>some k
    | false=>klook r n
theorem klook_is (l : List (Nat × NameKind)) (n : Nat) : (l.map fun p=>(nm p.1,p.2)).lookup (nm n) = klook l n:=by
  induction l with
  | nil=>rfl
  | cons p r ih =>
    obtain ⟨m,k⟩:=p
    rw [List.map_cons,List.lookup_cons]
    unfold klook
    rw [beq_is]
    by_cases h : m = n
    · subst h; simp
    · rw [decide_eq_false h,beq_eq_false_iff_ne.mpr (fun q=>h (nm_inj q).symm)]
      exact ih
noncomputable def isK (a : Option NameKind) (k : NameKind) : Bool:=a == some k
noncomputable def ciOkB (c : CI) : Bool :=
  (c.kinds.all fun p=>match p.2 with
    | .local=>klook c.kinds p.1 == some .local
    | .free=>mem c.frs p.1
    | .globalImplicit=>true
    | _=>false) && c.tgs.all (fun n=>klook c.kinds n == some .local) && c.frs.all (fun n=>klook c.kinds n == some .free) && c.gls.all fun n=>klook c.kinds n == some .globalImplicit
theorem nth_mem {α : Type} : ∀ {l : List α} {n : Nat} {x : α},nth l n = some x → x ∈ l
  | [],_,_,e=>by exact nope e
  | y :: r,0,x,e=>by cases e; exact .head _
  | y :: r,n + 1,x,e=>.tail _ (nth_mem (l:=r) e)
theorem ci_all : ciL.all ciOkB = true:=by decide +kernel
theorem ci_ok (n : Nat) : ciOkB (ciOf n) = true:=by
  unfold ciOf
  split
  · rename_i c e
    exact List.all_eq_true.mp ci_all c (nth_mem e)
  · rfl
structure CIOk (c : CI) : Prop where
  loc : ∀ x ∈ (scOf c.kinds []).names,x.2 = .local → (scOf c.kinds []).names.lookup x.1 = some .local
  nocell : ∀ x ∈ (scOf c.kinds []).names,x.2 ≠ .cell
  tg : ∀ n ∈ c.tgs,(scOf c.kinds []).names.lookup (nm n) = some .local
  fr : ∀ n ∈ c.frs,(scOf c.kinds []).names.lookup (nm n) = some .free
  fr' : ∀ x ∈ (scOf c.kinds []).names,x.2 = .free → ∃ n ∈ c.frs,x.1 = nm n
  gl : ∀ n ∈ c.gls,(scOf c.kinds []).names.lookup (nm n) = some .globalImplicit
theorem CIOk.of {c : CI} (h : ciOkB c = true) : CIOk c:=by
  unfold ciOkB at h
  rw [Bool.and_eq_true,Bool.and_eq_true,Bool.and_eq_true] at h
  obtain ⟨⟨⟨h1,h2⟩,h3⟩,h4⟩:=h
  have h1:=List.all_eq_true.mp h1
  refine ⟨fun x hx e=>?_,fun x hx e=>?_,fun n hn=>?_,fun n hn=>?_,fun x hx e=>?_,fun n hn=>?_⟩
  · obtain ⟨p,hp,rfl⟩:=List.mem_map.mp hx
    have:=h1 p hp
    dsimp only at e
    rw [e] at this
    show ((c.kinds.map fun p=>(nm p.1,p.2)).lookup (nm p.1)) = _
    rw [klook_is]; simpa using this
  · obtain ⟨p,hp,rfl⟩:=List.mem_map.mp hx
    have:=h1 p hp
    dsimp only at e
    rw [e] at this; exact nof this
  · show ((c.kinds.map fun p=>(nm p.1,p.2)).lookup (nm n)) = _
    rw [klook_is]; simpa using List.all_eq_true.mp h2 n hn
  · show ((c.kinds.map fun p=>(nm p.1,p.2)).lookup (nm n)) = _
    rw [klook_is]; simpa using List.all_eq_true.mp h3 n hn
  · obtain ⟨p,hp,rfl⟩:=List.mem_map.mp hx
    have:=h1 p hp
    dsimp only at e
    rw [e] at this
    exact ⟨p.1,mem_is.mp this,rfl⟩
  · show ((c.kinds.map fun p=>(nm p.1,p.2)).lookup (nm n)) = _
    rw [klook_is]; simpa using List.all_eq_true.mp h4 n hn
theorem frsIn_mem {cs : List (Nat × Option V)} : ∀ {l : List Nat},frsIn l cs = true → ∀ n ∈ l,has cs n = true
  | [],_,n,hn=>nomatch hn
  | m :: r,h,n,hn=>by
    unfold frsIn at h
    split at h
    · rename_i q
      rcases List.mem_cons.mp hn with rfl | hn
      · exact q
      · exact frsIn_mem h n hn
    · exact nof h
theorem closure_loop (env : Env) : ∀ (names : List (Str × NameKind)) (cs : List (Str × Addr)),(∀ x ∈ names,x.2 = .free → ∃ c,env.cells.lookup x.1 = some c) →
    ∃ cl,(forIn names cs (fun (x : Str × NameKind) r=>do
      if x.2 == .free then pure (ForInStep.yield ((x.1,← cellOf env x.1) :: r)) else pure (ForInStep.yield r) : _ → _ → Sem (ForInStep (List (Str × Addr))))) = pure cl ∧
      ∀ n,(∀ c,cs.lookup n = some c → env.cells.lookup n = some c) → (∀ c,cl.lookup n = some c → env.cells.lookup n = some c) ∧ (((n,NameKind.free) ∈ names ∨ (cs.lookup n).isSome) → (cl.lookup n).isSome)
  | [],cs,_=>⟨cs,rfl,fun n h=>⟨h,fun q=>q.resolve_left (fun z=>nomatch z)⟩⟩
  | (n,k) :: r,cs,h=>by
    rw [List.forIn_cons]
    by_cases hk : k = .free
    · subst hk
      obtain ⟨c,hc⟩:=h _ (.head _) rfl
      obtain ⟨cl,e,q⟩:=closure_loop env r ((n,c) :: cs) fun x hx=>h x (.tail _ hx)
      refine ⟨cl,?_,fun m hm=>?_⟩
      · have e1 : cellOf env n = pure c:=by unfold cellOf; rw [hc]
        simp only [beq_self_eq_true,if_true,e1,pure_bind]
        exact e
      · have hm' : ∀ c',((n,c) :: cs).lookup m = some c' → env.cells.lookup m = some c':=fun c' z=>by
          rw [List.lookup_cons] at z
          by_cases hmn : m = n
          · subst hmn; simp at z; subst z; exact hc
          · rw [beq_eq_false_iff_ne.mpr hmn] at z; exact hm c' z
        refine ⟨(q m hm').1,fun z=>(q m hm').2 ?_⟩
        rw [List.lookup_cons]
        by_cases hmn : m = n
        · subst hmn; simp
        · rw [beq_eq_false_iff_ne.mpr hmn]
          rcases z with z | z
          · rcases List.mem_cons.mp z with z | z
            · cases z; exact (hmn rfl).elim
            · exact .inl z
          · exact .inr z
    · obtain ⟨cl,e,q⟩:=closure_loop env r cs fun x hx=>h x (.tail _ hx)
      refine ⟨cl,?_,fun m hm=>⟨(q m hm).1,fun z=>(q m hm).2 ?_⟩⟩
      · have : (k == NameKind.free) = false:=beq_eq_false_iff_ne.mpr hk
        simp only [this,Bool.false_eq_true,if_false,pure_bind]
        exact e
      · rcases z with z | z
        · rcases List.mem_cons.mp z with z | z
          · cases z; exact (hk rfl).elim
          · exact .inl z
        · exact .inr z
theorem closureFor_is {scope : Scope} {env : Env} (h : ∀ x ∈ scope.names,x.2 = .free → ∃ c,env.cells.lookup x.1 = some c) :
    ∃ cl,closureFor scope env = pure cl ∧ ∀ n,(n,NameKind.free) ∈ scope.names → cl.lookup n = env.cells.lookup n:=by
  obtain ⟨cl,e,q⟩:=closure_loop env scope.names [] h
  refine ⟨cl,?_,fun n hn=>?_⟩
  · unfold closureFor
    refine Eq.trans ?_ (congrArg (fun m=>m >>= fun cs=>pure cs) e)
    rfl
  · obtain ⟨q1,q2⟩:=q n (fun c z=>by exact nope z)
    cases z : cl.lookup n with
    | none=>rw [z] at q2; exact absurd (q2 (.inl hn)) (by simp)
    | some c=>exact (q1 c z).symm
theorem relabel_look (scope : Scope) (env : Env) (x : Str) {k : NameKind} (h : scope.names.lookup x = some k) :
    (relabel scope env).names.lookup x = some (if (k == .free && env.scope.kind == .function && env.kindOf x == some .cell) then .cell else k):=by
  unfold relabel
  dsimp only
  have : ∀ (l : List (Str × NameKind)),l.lookup x = some k → (l.map fun (n,k)=>if (k == NameKind.free && env.scope.kind == .function && env.kindOf n == some .cell) then (n,NameKind.cell) else (n,k)).lookup x = some (if (k == NameKind.free && env.scope.kind == .function && env.kindOf x == some .cell) then .cell else k):=by
    intro l
    induction l with
    | nil=>intro h; exact nope h
    | cons p r ih =>
      obtain ⟨n,k'⟩:=p
      intro h
      rw [List.lookup_cons] at h
      rw [List.map_cons]
      dsimp only
      by_cases hx : x = n
      · subst hx
        simp at h
        subst h
        split
        · simp
        · simp
      · rw [beq_eq_false_iff_ne.mpr hx] at h
        have ih:=ih h
        split
        · rw [List.lookup_cons,beq_eq_false_iff_ne.mpr hx]; exact ih
        · rw [List.lookup_cons,beq_eq_false_iff_ne.mpr hx]; exact ih
  exact this _ h
section
variable {g : Act} {w : Wd} {st : St} {h : Heap}
theorem Rel.newCt (R : Rel g w st h) {as : List Addr} {a : Addr} {c : Ct} (ha : ∀ b ∈ as,w.τ b = .free ∧ g.h0.objs.size ≤ b ∧ ∃ o,h.get? b = some o)
    (hc : ∀ w' : Wd,w.le w' → (∀ b ∈ as,w'.τ b = .mut st.hp.length) → w'.mu[st.hp.length]? = some a → CtAt g.ad w' st.hp.length h c) :
    ∃ w',w.le w' ∧ (∀ b,b ∉ as → w'.τ b = w.τ b) ∧ Rel g w' { st with hp:=st.hp ++ [some c] } h ∧ RepV g.ad w' (.c st.hp.length) (.ref a):=by
  let w' : Wd:=⟨fun b=>if b ∈ as then .mut st.hp.length else w.τ b,w.mu ++ [a]⟩
  have out : ∀ b,b ∉ as → w'.τ b = w.τ b:=fun b hb=>if_neg hb
  have k : ∀ {a : Addr} {r : Role},w.τ a = r → r ≠ .free → w'.τ a = r:=fun e q=>(out _ fun hm=>q (e.symm.trans (ha _ hm).1)).trans e
  have l : w.le w':=⟨fun b e=>out b fun hm=>by rw [(ha b hm).1] at e; exact e,fun n a e=>by
    show (w.mu ++ [_])[n]? = some a
    rw [List.getElem?_append_left (List.getElem?_eq_some_iff.mp e).1]; exact e⟩
  have hnew : w'.mu[st.hp.length]? = some a:=by
    show (w.mu ++ [a])[st.hp.length]? = _
    rw [← R.len]; simp
  refine ⟨w',l,out,⟨R.ext,fun b o e=>?_,fun b m=>?_,fun b o e=>?_,fun b m=>?_,?_,fun n c' e=>?_,k R.locT (fun q=>by cases q),?_,R.lock,fun n e=>?_,R.gl⟩,⟨_,hnew,rfl⟩⟩
  · by_cases hb : b ∈ as
    · rw [show w'.τ b = _ from if_pos hb] at e; cases e
    · rw [out b hb] at e; exact R.fro b o e
  · by_cases hb : b ∈ as
    · exact .inr (ha b hb).2.1
    · rw [out b hb] at m; exact R.mfresh b m
  · by_cases hb : b ∈ as
    · rw [show w'.τ b = _ from if_pos hb] at e; cases e
    · rw [out b hb] at e; exact R.frosh b o e
  · by_cases hb : b ∈ as
    · exact (ha b hb).2.2
    · rw [out b hb] at m; exact R.mthere b m
  · show (w.mu ++ [_]).length = (st.hp ++ [some c]).length
    simp [R.len]
  · rw [hget_app] at e
    by_cases hn : n = st.hp.length
    · rw [if_pos hn] at e; cases e; subst hn
      exact hc w' l (fun b hb=>if_pos hb) hnew
    · rw [if_neg hn] at e
      exact (R.cells n c' e).le g.ok l fun b z=>k z (fun q=>by cases q)
  · obtain ⟨m,hn,r⟩:=R.loc
    exact ⟨m,hn,fun n v e=>let ⟨x,p,q⟩:=r n v e; ⟨x,p,q.mono g.ok l⟩⟩
  · obtain ⟨c,v0,b,t,i,r⟩:=R.cel n e
    exact ⟨c,v0,b,t.le l,i,fun v e=>let ⟨x,p,q⟩:=r v e; ⟨x,p,q.mono g.ok l⟩⟩
theorem Rel.newFroAt (R : Rel g w st h) {a : Addr} {o : Obj} (hf : w.τ a = .free) (ha : g.h0.objs.size ≤ a) (ho : h.get? a = some o) : w.le (w.setτ a (.fro o)) ∧ Rel g (w.setτ a (.fro o)) st h:=by
  have l : w.le (w.setτ a (.fro o)):=Wd.le_set (by rw [hf]; exact id)
  refine ⟨l,R.grow l rfl (fun b hb=>Wd.setτ_ne (by rintro rfl; exact hb hf)) fun b hf' hn=>?_⟩
  by_cases hb : b = a
  · subst hb
    exact ⟨ha,o,ho,fun o' e=>by rw [Wd.setτ_eq] at e; cases e; rfl⟩
  · rw [Wd.setτ_ne hb] at hn; exact absurd hf' hn
end
end Mine
end
section
open PySem.Spec
namespace Mine
section
variable {prog : Program} {W : World} {A : Around} {E : Value → Shared → Prop} {s : Shared} {g : Act} {w : Wd} {st : St} {d : Nat} {I : Addr} {ds : List D} {i : Nat} {h h' hb : Heap} {env : Env}
noncomputable def compAct (g : Act) (w : Wd) (hb : Heap) (env : Env) (R : ∀ b o,g.hT.get? b = some o → hb.get? b = some o ∧ ¬ ∃ n,w.τ b = .mut n) (ha : hb.objs.size ≤ env.locals) (hk : env.scope.kind = .function) (hg : env.globals = mainGlobals) (hu : env.builtins = builtinsNs) : Act :=
  { ad:=g.ad,hT:=g.hT,h0:=hb,ps:=fun a=>∃ n,w.τ a = .mut n,τ0:=w.τ,env:=env,ok:=g.ok,top:=R,above:=ha,kind:=hk,glob:=hg,bui:=hu }
theorem Rel.topNot (R : Rel g w st h) : ∀ b o,g.hT.get? b = some o → h.get? b = some o ∧ ¬ ∃ n,w.τ b = .mut n:=fun b o e=>⟨R.top b o e,fun ⟨n,z⟩=>by
  rcases R.mfresh b (by rw [z]; trivial) with y | y
  · exact (g.top b o e).2 y
  · exact absurd (R.topSize e) (Nat.not_lt.mpr y)⟩
theorem look_none {α : Type} (l : List Nat) (n : Nat) : look (l.map fun t=>(t,(none : Option α))) n = none:=by
  induction l with
  | nil=>rfl
  | cons a r ih =>
    rw [List.map_cons]
    unfold look
    split
    · rfl
    · exact ih
theorem has_map {α : Type} (f : Nat → α) (l : List Nat) (n : Nat) : has (l.map fun t=>(t,f t)) n = mem l n:=by
  induction l with
  | nil=>rfl
  | cons a r ih =>
    rw [List.map_cons]
    unfold has mem
    rw [ih]
theorem has_filter (p : Nat → Bool) (l : List (Nat × Option V)) (n : Nat) : has (l.filter fun x=>p x.1) n = true → p n = true ∧ has l n = true:=by
  induction l with
  | nil=>intro h; exact nof h
  | cons a r ih =>
    obtain ⟨m,v⟩:=a
    intro h
    rw [List.filter_cons] at h
    unfold has
    rw [beq_is]
    by_cases hm : m = n
    · subst hm
      rw [decide_eq_true rfl]
      refine ⟨?_,rfl⟩
      cases hp : p m with
      | true=>rfl
      | false =>
        rw [show p (m,v).1 = false from hp] at h
        simp at h
        have:=(ih h).1
        rw [hp] at this; exact nof this
    · rw [decide_eq_false hm]
      cases hp : p m with
      | true =>
        rw [show p (m,v).1 = true from hp] at h
        simp only [if_true] at h
        unfold has at h
        rw [beq_is,decide_eq_false hm] at h
        exact ih h
      | false =>
        rw [show p (m,v).1 = false from hp] at h
        simp at h
        exact ih h
theorem look_filter (p : Nat → Bool) (l : List (Nat × Option V)) (n : Nat) (hp : p n = true) : look (l.filter fun x=>p x.1) n = look l n:=by
  induction l with
  | nil=>rfl
  | cons a r ih =>
    obtain ⟨m,v⟩:=a
    rw [List.filter_cons]
    by_cases hm : m = n
    · subst hm
      rw [show p (m,v).1 = true from hp]
      simp only [if_true]
      unfold look
      rw [beq_is,decide_eq_true rfl]
    · cases hq : p m with
      | true =>
        simp only [if_true]
        unfold look
        rw [beq_is,decide_eq_false hm]
        exact ih
      | false =>
        simp only [Bool.false_eq_true,if_false]
        rw [ih]
        conv=>rhs; unfold look
        rw [beq_is,decide_eq_false hm]
theorem enter_comp {ci : CI} (ok : CIOk ci) (R : Rel g w st hb) (hfr : frsIn ci.frs st.cel = true) {C : Addr} {cl : List (Str × Addr)} (hcl : ∀ n,(n,NameKind.free) ∈ (scOf ci.kinds []).names → cl.lookup n = g.env.cells.lookup n)
    {m : Str → Option Value} (hC : hb.objs.size ≤ C) (hns : h.Ns C m) (up : ∀ b o,hb.get? b = some o → h.get? b = some o) :
    ∃ (ha : hb.objs.size ≤ (compEnvC (scOf ci.kinds []) cl C g.env).locals) (hk : (compEnvC (scOf ci.kinds []) cl C g.env).scope.kind = .function) (hg : (compEnvC (scOf ci.kinds []) cl C g.env).globals = mainGlobals) (hu : (compEnvC (scOf ci.kinds []) cl C g.env).builtins = builtinsNs),
      Rel (compAct g w hb (compEnvC (scOf ci.kinds []) cl C g.env) R.topNot ha hk hg hu) ((wIn w).setτ C .loc) (enterC ci st) h:=by
  refine ⟨hC,rfl,g.glob,g.bui,?_⟩
  have hCf : w.τ C = .free:=R.free hC
  have ne : ∀ {a : Addr} {r : Role},w.τ a = r → r ≠ .free → a ≠ C:=fun e q z=>by subst z; rw [hCf] at e; exact q e.symm
  have s1 : w.sub ((wIn w).setτ C .loc):=⟨fun a o e=>(Wd.setτ_ne (ne e fun q=>by cases q)).trans (by show (w.τ a).out = _; rw [e]; rfl),fun _ _ e=>e⟩
  have kd : ∀ {x : Str} {k : NameKind},(scOf ci.kinds []).names.lookup x = some k → k ≠ .free → (compEnvC (scOf ci.kinds []) cl C g.env).kindOf x = some k:=fun {x k} e q=>by
    have:=relabel_look (scOf ci.kinds []) g.env x e
    rw [show (k == NameKind.free) = false from beq_eq_false_iff_ne.mpr q] at this
    show (relabel (scOf ci.kinds []) g.env).names.lookup x = some k
    simpa using this
  refine ⟨fun b o _ e=>up b o e,fun a o e=>?_,fun a m=>?_,fun a o e=>?_,fun a m=>?_,R.len,fun n c e=>?_,Wd.setτ_eq,⟨_,hns,fun n v e=>?_⟩,fun n e=>?_,fun n e=>?_,fun n e=>?_⟩
  · by_cases hz : a = C
    · subst hz; rw [Wd.setτ_eq] at e; cases e
    · rw [Wd.setτ_ne hz] at e
      exact up a o (R.fro a o (Role.out_fro e))
  · by_cases hz : a = C
    · exact .inr (hz ▸ hC)
    · rw [Wd.setτ_ne hz] at m
      exact .inl (Role.out_isMut m)
  · by_cases hz : a = C
    · subst hz; rw [Wd.setτ_eq] at e; cases e
    · rw [Wd.setτ_ne hz] at e
      exact .inl (Role.out_fro e)
  · by_cases hz : a = C
    · subst hz; obtain ⟨o,_,_,q,_⟩:=hns; exact ⟨o,q⟩
    · rw [Wd.setτ_ne hz] at m
      obtain ⟨n,q⟩:=Role.out_isMut m
      obtain ⟨o,e⟩:=R.mthere a (by rw [q]; trivial)
      exact ⟨o,up a o e⟩
  · exact ((R.cells n c e).keeps fun b o _ e=>up b o e).sub g.ok s1 fun b z=>(Wd.setτ_ne (ne z fun q=>by cases q)).trans (by show (w.τ b).out = _; rw [z]; rfl)
  · have e : look (ci.tgs.map fun t=>(t,none)) n = some v:=e
    rw [look_none] at e; exact nope e
  · have e : has (ci.tgs.map fun t=>(t,none)) n = true:=e
    rw [has_map (fun _=>none)] at e
    exact kd (ok.tg n (mem_is.mp e)) (fun q=>by cases q)
  · have e : has (st.cel.filter fun p=>mem ci.frs p.1) n = true:=e
    obtain ⟨e1,e2⟩:=has_filter _ _ _ e
    have hn:=ok.fr n (mem_is.mp e1)
    have hin : (nm n,NameKind.free) ∈ (scOf ci.kinds []).names:=by
      have : ∀ (l : List (Str × NameKind)) (x : Str) (k : NameKind),l.lookup x = some k → (x,k) ∈ l:=by
        intro l
        induction l with
        | nil=>intro x k h; exact nope h
        | cons p r ih =>
          obtain ⟨y,k'⟩:=p
          intro x k h
          rw [List.lookup_cons] at h
          by_cases hx : x = y
          · subst hx; simp at h; subst h; exact .head _
          · rw [beq_eq_false_iff_ne.mpr hx] at h; exact .tail _ (ih x k h)
      exact this _ _ _ hn
    obtain ⟨c,v0,b,t,i,r⟩:=R.cel n e2
    have nm' : ¬ ∃ k,w.τ c = .mut k:=by
      rintro ⟨k,z⟩
      rcases t with ⟨_,q⟩ | ⟨_,_,p,o,q⟩
      · rw [z] at q; cases q
      · rcases R.mfresh c (by rw [z]; trivial) with y | y
        · exact p y
        · exact absurd (Heap.lt_size q) (Nat.not_lt.mpr y)
    obtain ⟨oc,hoc,hdc⟩:=i
    refine ⟨c,v0,(hcl _ hin).trans b,.inr ⟨rfl,?_,nm',oc,hoc⟩,⟨oc,up c oc hoc,hdc⟩,fun v z=>?_⟩
    · have:=relabel_look (scOf ci.kinds []) g.env (nm n) hn
      by_cases q : (NameKind.free == NameKind.free && g.env.scope.kind == .function && g.env.kindOf (nm n) == some .cell) = true
      · rw [if_pos q] at this; exact .inl this
      · rw [if_neg q] at this; exact .inr this
    · have z : look (st.cel.filter fun p=>mem ci.frs p.1) n = some v:=z
      rw [look_filter _ _ _ e1] at z
      obtain ⟨x,p,q⟩:=r v z
      exact ⟨x,p,q.sub g.ok s1⟩
  · exact kd (ok.gl n (mem_is.mp e)) (fun q=>by cases q)
noncomputable def XOk (prog : Program) (W : World) (A : Around) (ad : Ad) (hT : Heap) (c : Cfg Prop) (x : X) : Prop :=
  ∀ {g : Act} {st : St} {w : Wd} {s : Shared} {E : Value → Shared → Prop} {Q : Value → Shared → Prop} {Qa : V → St → Prop},g.ad = ad → g.hT = hT → aX c x st Qa → Rel g w st s.heap → Post g w s Qa Q → wpAny (model prog W) A (eval (toE x) g.env) Q E s
theorem Iter.self (it : Iter prog W A g.ad w I ds i s.heap) {Q : Value → Shared → Prop} (k : Q (.ref I) s) : wpAny (model prog W) A (pyIter (.ref I)) Q E s:=by
  obtain ⟨fp,P,St,Wk,hst,_⟩:=it
  exact Wk.self i s Q E hst k
theorem Rel.setName (R : Rel g w st s.heap) {n : Nat} {v : V} {x : Value} {p : Pos} {Q : Unit → Shared → Prop} (hh : has st.loc n = true) (rv : RepV g.ad w v x)
    (k : ∀ h' tk,Stp w s.heap w h' → Rel g w (Mine.setLoc st n v) h' → Heap.SameBut g.env.locals s.heap h' → Q () { s with heap:=h',toks:=tk }) : wpAny (model prog W) A (assign (.Name (nm n) p) g.env x) Q E s:=by
  obtain ⟨m,hn,r⟩:=R.loc
  refine wpAny_assign_Name (wpAny_storeName_local (R.lock n hh) hn (fun h' hn' hs=>?_) (by rw [g.kind]; rfl))
  exact k h' _ ⟨.refl w,fun b o z1 z2=>⟨hs.extBut b o (by rintro rfl; rw [R.locT] at z1; cases z1) z2,z1⟩⟩ (R.setLoc r rv hn' hs) hs
end
end Mine
end
section
open PySem.Spec
namespace Mine
section
variable {prog : Program} {W : World} {A : Around} {E : Value → Shared → Prop} {s : Shared} {g : Act} {w : Wd} {st : St} {d : Nat} {I : Addr} {ds : List D} {i : Nat} {h h' hb : Heap} {env : Env} {ad : Ad} {hT : Heap} {c : Cfg Prop}
theorem Stp.free {w w' : Wd} {h h' : Heap} (S : Stp w h w' h') {a : Addr} (hf : w.τ a = .free) (ht : ∃ o,h.get? a = some o) : w'.τ a = .free:=let ⟨o,e⟩:=ht; (S.kept a o hf e).2
noncomputable def LoopDoes (prog : Program) (W : World) (A : Around) (ad : Ad) (hT : Heap) (e : Expr) (I L : Addr) (ds : List D) (st0 : St) (Kf : List V → St → Prop) : Prop :=
  ∀ {g' : Act} {wi : Wd} {s₁ : Shared} {RR : Result → Shared → Prop},g'.ad = ad → g'.hT = hT → Rel g' wi st0 s₁.heap → Iter prog W A ad wi I ds 0 s₁.heap → wi.τ I = .free → (∃ o,s₁.heap.get? I = some o) → wi.τ L = .free → s₁.heap.get? L = some (lstObj [] 0) → I ≠ L → g'.h0.objs.size ≤ I →
    g'.h0.objs.size ≤ L →
    (∀ w2 st2 acc h2 tk xs kk,wi.le w2 → (∀ b o,wi.τ b = .free → b ≠ I → b ≠ L → s₁.heap.get? b = some o → h2.get? b = some o ∧ w2.τ b = .free) → Rel g' w2 st2 h2 → w2.τ L = .free → h2.get? L = some (lstObj xs kk) → RepVs ad w2 acc xs → acc.length ≤ 1000000 → Kf acc st2 → RR (.ok .next) { s₁ with heap:=h2,toks:=tk }) →
    codeAny (model prog W) A (.compLoop e 0 (.ref I) (.ref L) g'.env) RR s₁
theorem comp_frame {elt iter : Expr} {t : Nat} {tp p : Pos} {rest : List Comprehension} {ci : CI} {cl : List (Str × Addr)} {oI : Obj} {Q : Value → Shared → Prop} {Kf : List V → St → Prop} (had : g.ad = ad) (hhT : g.hT = hT) (ok : CIOk ci) (R : Rel g w st hb) (hfr : frsIn ci.frs st.cel = true)
    (hcl : ∀ n,(n,NameKind.free) ∈ (scOf ci.kinds []).names → cl.lookup n = g.env.cells.lookup n) (hs : s.heap = hb.push oI) (hoI : oI.isFreed = false) (it : Iter prog W A g.ad w hb.objs.size ds 0 s.heap)
    (loop : LoopDoes prog W A ad hT (.ListComp elt (⟨.Name (nm t) tp,iter,[],0⟩ :: rest) (scOf ci.kinds []) p) hb.objs.size (hb.objs.size + 1) ds (enterC ci st) Kf)
    (post : ∀ w3 st2 acc h3 tk xs kk,Stp w hb w3 h3 → Rel g w3 { st with hp:=st2.hp } h3 → w3.τ (hb.objs.size + 1) = .free → h3.get? (hb.objs.size + 1) = some (lstObj xs kk) → RepVs g.ad w3 acc xs → acc.length ≤ 1000000 → Kf acc st2 → Q (.ref (hb.objs.size + 1)) { s with heap:=h3,toks:=tk }) :
    wpAny (model prog W) A (newList []) (fun acc s₃=>wpAny (model prog W) A (newFunctionEnv (scOf ci.kinds []) g.env.globals cl [] g.env.qual none .none (some g.env)) (fun cenv s₄ =>
      codeAny (model prog W) A (.compStart (.ListComp elt (⟨.Name (nm t) tp,iter,[],0⟩ :: rest) (scOf ci.kinds []) p) 0 (.ref hb.objs.size) acc { cenv with scope:=relabel (scOf ci.kinds []) g.env })
        (compPost (model prog W) A E none Q acc cenv.locals) s₄) E s₃) E s:=by
  have e1 : s.heap.objs.size = hb.objs.size + 1:=by rw [hs,Heap.size_push]
  refine wpAny_newObj_type (wpAny_newFunctionEnv ok.nocell (by intro y hy; simp at hy) (fun h₁ hns₁ hsb₁=>?_) rfl)
  dsimp only at hns₁ hsb₁ ⊢
  rw [e1]
  have e2 : (s.heap.push { cls:=.type "list",dict:=none,data:=.seq ([] : List Value).toArray }).objs.size = hb.objs.size + 2:=by rw [Heap.size_push,e1]
  rw [e2] at hns₁ hsb₁ ⊢
  have up0 : ∀ b o,b ≠ hb.objs.size + 2 → (s.heap.push { cls:=.type "list",dict:=none,data:=.seq ([] : List Value).toArray }).get? b = some o → h₁.get? b = some o:=fun b o q e=>hsb₁.extBut b o q (Heap.get?_push_of_some _ e)
  have upI : ∀ b o,s.heap.get? b = some o → h₁.get? b = some o:=fun b o e=>up0 b o (Nat.ne_of_lt (Nat.lt_of_lt_of_le (Heap.lt_size e) (by rw [e1]; exact Nat.le_succ _))) (Heap.get?_push_of_some _ e)
  have up : ∀ b o,hb.get? b = some o → h₁.get? b = some o:=fun b o e=>upI b o (by rw [hs]; exact Heap.get?_push_of_some _ e)
  have hI : h₁.get? hb.objs.size = some oI:=upI _ _ (by rw [hs]; exact Heap.get?_push_size _ hoI)
  have hD : h₁.get? (hb.objs.size + 1) = some (lstObj [] 0):=up0 _ _ (Nat.ne_of_lt (by omega)) (by rw [← e1]; exact Heap.get?_push_size _ rfl)
  obtain ⟨ha,hk,hg,hu,R1⟩:=enter_comp ok R hfr hcl (C:=hb.objs.size + 2) (by omega) hns₁ up
  have fI : w.τ hb.objs.size = .free:=R.free (Nat.le_refl _)
  have fD : w.τ (hb.objs.size + 1) = .free:=R.free (by omega)
  have wi : ∀ b,b ≠ hb.objs.size + 2 → w.τ b = .free → ((wIn w).setτ (hb.objs.size + 2) .loc).τ b = .free:=fun b q e=>(Wd.setτ_ne q).trans (by show (w.τ b).out = _; rw [e]; rfl)
  have it1 : Iter prog W A ad ((wIn w).setτ (hb.objs.size + 2) .loc) hb.objs.size ds 0 h₁:=by
    rw [← had]
    refine it.move g.ok (fun o e=>upI _ o e) (fun a o e=>?_) (fun a o e o' q=>upI a o' q)
    have : a ≠ hb.objs.size + 2:=Nat.ne_of_lt (Nat.lt_of_lt_of_le (R.there (a:=a) (by rw [e]; intro z; cases z)) (Nat.le_add_right _ 2))
    exact (Wd.setτ_ne this).trans (by show (w.τ a).out = _; rw [e]; rfl)
  have main : ∀ s₁ : Shared,s₁ = { s with heap:=h₁,toks:=s.toks + ([] : List (Str × Value)).length } →
      codeAny (model prog W) A (.compLoop (.ListComp elt (⟨.Name (nm t) tp,iter,[],0⟩ :: rest) (scOf ci.kinds []) p) 0 (.ref hb.objs.size) (.ref (hb.objs.size + 1)) (compEnvC (scOf ci.kinds []) cl (hb.objs.size + 2) g.env))
        (compPost (model prog W) A E none Q (.ref (hb.objs.size + 1)) (hb.objs.size + 2)) s₁:=by
    rintro s₁ rfl
    refine loop (g':=compAct g w hb _ R.topNot ha hk hg hu) had hhT R1 it1 (wi _ (Nat.ne_of_lt (by omega)) fI) ⟨_,hI⟩ (wi _ (Nat.ne_of_lt (by omega)) fD) hD (Nat.ne_of_lt (by omega)) (Nat.le_refl _) (Nat.le_succ _) fun w2 st2 acc h2 tk xs kk hle kept R2 f2 hD2 rv hz hK=>?_
    obtain ⟨m2,hn2,_⟩:=R2.loc
    refine ⟨m2,hn2,fun h3 hs3=>?_⟩
    have S:=leave R R2 rfl (fun b o e=>e) (Nat.le_refl _) (fun a z=>z) (fun a o z=>z) (fun b o q e=>?_) ⟨fun a o e=>?_,fun n a e=>hle.two n a e⟩ (h3:=h3) (fun b o q e=>hs3.extBut b o q e)
    · obtain ⟨S1,S2,S3⟩:=S
      refine post _ _ _ _ _ xs kk S1 S2 ?_ (hs3.extBut _ _ (Nat.ne_of_lt (show hb.objs.size + 1 < hb.objs.size + 2 by omega)) hD2) ((had ▸ rv).sub g.ok S3) hz hK
      rw [wOut_other (by rw [fD]; exact id),f2]; rfl
    · have hlt:=Heap.lt_size e
      have : b ≠ hb.objs.size + 2:=Nat.ne_of_lt (Nat.lt_of_lt_of_le hlt (Nat.le_add_right _ 2))
      exact kept b o ((Wd.setτ_ne this).trans q) (Nat.ne_of_lt hlt) (Nat.ne_of_lt (Nat.lt_succ_of_lt hlt)) (up b o e)
    · have : a ≠ hb.objs.size + 2:=Nat.ne_of_lt (Nat.lt_of_lt_of_le (R.there (a:=a) (by rw [e]; intro z; cases z)) (Nat.le_add_right _ 2))
      exact hle.one a o ((Wd.setτ_ne this).trans (by show (w.τ a).out = _; rw [e]; rfl))
  exact codeAny_compStart_list (main _ rfl) (Iter.self (g:=compAct g w hb _ R.topNot ha hk hg hu) (had ▸ it1) (main _ rfl))
end
end Mine
end
section
open PySem.Spec
namespace Mine
section
variable {prog : Program} {W : World} {A : Around} {E : Value → Shared → Prop} {s : Shared} {g : Act} {w : Wd} {st : St} {d : Nat} {I L : Addr} {ds : List D} {i : Nat} {h h' hb : Heap} {env : Env} {ad : Ad} {hT : Heap} {c : Cfg Prop}
theorem bif_prop {b : Bool} {P F : Prop} (h : bif' b P F) (hF : ¬ F) : b = true ∧ P:=by
  cases b with
  | true=>exact ⟨rfl,h⟩
  | false=>exact absurd h hF
structure LoopAt (prog : Program) (W : World) (A : Around) (ad : Ad) (g' : Act) (wi : Wd) (s₁ : Shared) (I L : Addr) (ds : List D) (i : Nat) (w' : Wd) (st' : St) (acc : List V) (h' : Heap) (xs : List Value) (kk : Nat) : Prop where
  le : wi.le w'
  kept : ∀ b o,wi.τ b = .free → b ≠ I → b ≠ L → s₁.heap.get? b = some o → h'.get? b = some o ∧ w'.τ b = .free
  rel : Rel g' w' st' h'
  iter : Iter prog W A ad w' I ds i h'
  fI : w'.τ I = .free
  tI : ∃ o,h'.get? I = some o
  fL : w'.τ L = .free
  tL : h'.get? L = some (lstObj xs kk)
  rv : RepVs ad w' acc xs
theorem LoopAt.next {g' : Act} {wi w' w2 : Wd} {s₁ : Shared} {st' st2 : St} {acc : List V} {h1 h2 : Heap} {xs : List Value} {kk : Nat} (T : LoopAt prog W A ad g' wi s₁ I L ds i w' st' acc h' xs kk) (had : g'.ad = ad) (S : Stp w' h1 w2 h2) (R : Rel g' w2 st2 h2)
    (R1 : Rel g' w' st' h1) (it : Iter prog W A ad w' I ds (i + 1) h1) (k1 : ∀ b o,b ≠ I → h'.get? b = some o → h1.get? b = some o) (tI : ∃ o,h1.get? I = some o) (hIL : I ≠ L) :
    LoopAt prog W A ad g' wi s₁ I L ds (i + 1) w2 st2 acc h2 xs kk:=by
  have tL:=k1 L _ hIL.symm T.tL
  refine ⟨T.le.trans S.le,fun b o e p q z=>?_,R,had ▸ (had ▸ it).step (g:=g') R1 R S T.fI,S.free T.fI tI,?_,S.free T.fL ⟨_,tL⟩,(S.kept L _ T.fL tL).1,T.rv.mono (had ▸ g'.ok) S.le⟩
  · obtain ⟨z1,z2⟩:=T.kept b o e p q z
    exact S.kept b o z2 (k1 b o p z1)
  · obtain ⟨o,e⟩:=tI
    exact ⟨o,(S.kept I o T.fI e).1⟩
inductive LInv (prog : Program) (W : World) (A : Around) (ad : Ad) (g' : Act) (wi : Wd) (s₁ : Shared) (I L : Addr) (ds : List D) (B : D → List V → St → (List V → St → Prop) → Prop) (Kf : List V → St → Prop) (Q : Nat → List V → Prop) : Nat → Shared → Prop
  | mk {i : Nat} {w' : Wd} {st' : St} {acc : List V} {h' : Heap} {tk : Nat} {xs : List Value} {kk : Nat} : i ≤ ds.length → LoopAt prog W A ad g' wi s₁ I L ds i w' st' acc h' xs kk → Q i acc → loopC B (ds.drop i) acc st' Kf →
    LInv prog W A ad g' wi s₁ I L ds B Kf Q (ds.length + 1 - i) { s₁ with heap:=h',toks:=tk }
noncomputable def LEnd (ad : Ad) (g' : Act) (wi : Wd) (s₁ : Shared) (I L : Addr) (w2 : Wd) (st2 : St) (acc : List V) (h2 : Heap) (xs : List Value) (kk : Nat) : Prop :=
  wi.le w2 ∧ (∀ b o,wi.τ b = .free → b ≠ I → b ≠ L → s₁.heap.get? b = some o → h2.get? b = some o ∧ w2.τ b = .free) ∧ Rel g' w2 st2 h2 ∧ w2.τ L = .free ∧ h2.get? L = some (lstObj xs kk) ∧ RepVs ad w2 acc xs
theorem LInv.turn {g' : Act} {wi : Wd} {s₁ : Shared} {B : D → List V → St → (List V → St → Prop) → Prop} {Kf : List V → St → Prop} {Q : Nat → List V → Prop} {n : Nat} {s' : Shared} {x : X} {t : Nat} {p : Pos} {Kx : List V → (List V → St → Prop) → V → St → Prop} {R0 : Shared → Prop} {P : Value → Shared → Prop}
    (hn : LInv prog W A ad g' wi s₁ I L ds B Kf Q n s') (hx : XOk prog W A ad hT c x) (had : g'.ad = ad) (hhT : g'.hT = hT) (hF : ¬ c.F) (hIL : I ≠ L) (sI : g'.h0.objs.size ≤ I)
    (hB : ∀ d acc st k,B d acc st k = bif' (has st.loc t) (aX c x (setLoc st t (.d d)) (Kx acc k)) c.F)
    (h0 : ∀ w2 st2 acc h2 tk xs kk,LEnd ad g' wi s₁ I L w2 st2 acc h2 xs kk → Q ds.length acc → Kf acc st2 → R0 { s₁ with heap:=h2,toks:=tk })
    (h1 : ∀ i w3 st3 acc h3 tk3 xs kk av y,i < ds.length → n = ds.length + 1 - i → Q i acc → LoopAt prog W A ad g' wi s₁ I L ds (i + 1) w3 st3 acc h3 xs kk → RepV ad w3 av y → Kx acc (fun acc st=>loopC B (ds.drop (i + 1)) acc st Kf) av st3 → P y { s₁ with heap:=h3,toks:=tk3 }) :
    wpAny (model prog W) A (pyNext (.ref I)) (fun r s₁=>match r with
      | none=>R0 s₁
      | some v=>wpAny (model prog W) A (assign (.Name (nm t) p) g'.env v) (fun _ s₂=>wpAny (model prog W) A (eval (toE x) g'.env) P E s₂) E s₁) E s':=by
  obtain ⟨hi,T,hq,hrun⟩:=hn
  rename_i i w' st' acc h' tk xs kk
  have hR : ∀ h1,(∀ b o,b ≠ I → h'.get? b = some o → h1.get? b = some o) → Rel g' w' st' h1:=fun h1 hk=>T.rel.keeps fun b o q e=>hk b o (by
    rintro rfl
    rcases q with q | q
    · exact q T.fI
    · exact absurd q (Nat.not_lt.mpr sI)) e
  have it : Iter prog W A g'.ad w' I ds i h':=had ▸ T.iter
  cases hv : ds[i]? with
  | none =>
    have hsz : i = ds.length:=Nat.le_antisymm hi (List.getElem?_eq_none_iff.mp hv)
    refine it.done (g:=g') (s:={ s₁ with heap:=h',toks:=tk }) hsz fun h2 tk2 hk=>?_
    subst hsz
    rw [List.drop_length] at hrun
    exact h0 _ _ _ _ _ _ _ ⟨T.le,fun b o e p q z=>⟨hk b o p (T.kept b o e p q z).1,(T.kept b o e p q z).2⟩,hR h2 hk,T.fL,hk L _ hIL.symm T.tL,T.rv⟩ hq hrun
  | some d =>
    obtain ⟨hlt,e⟩:=List.getElem?_eq_some_iff.mp hv
    refine it.next (g:=g') (s:={ s₁ with heap:=h',toks:=tk }) hv T.rel.fro T.fI fun v h1' tk1 rx it1 hk1=>?_
    rw [List.drop_eq_getElem_cons hlt,e] at hrun
    obtain ⟨hhas,hrun⟩:=bif_prop ((hB _ _ _ _).mp hrun) hF
    obtain ⟨oI,nI,eI,_⟩:=it1.quiet
    refine (hR h1' hk1).setName (s:={ s₁ with heap:=h1',toks:=tk1 }) (v:=.d d) hhas rx fun h2 tk2 S2 R2 _=>?_
    refine hx (s:={ s₁ with heap:=h2,toks:=tk2 }) had hhT hrun R2 fun w3 av st3 h3 tk3 y S3 R3 ry hK=>?_
    exact h1 _ _ _ _ _ _ _ _ _ _ hlt rfl hq (T.next had (S2.trans S3) R3 (hR h1' hk1) (had ▸ it1) hk1 ⟨_,eI⟩ hIL) (had ▸ ry) hK
theorem LInv.app {g' : Act} {wi w3 : Wd} {s₁ : Shared} {B : D → List V → St → (List V → St → Prop) → Prop} {Kf : List V → St → Prop} {Q : Nat → List V → Prop} {st3 : St} {acc : List V} {h3 : Heap} {tk3 kk : Nat} {xs : List Value} {av : V} {y : Value}
    (had : g'.ad = ad) (hIL : I ≠ L) (sL : g'.h0.objs.size ≤ L) (hlt : i < ds.length) (T : LoopAt prog W A ad g' wi s₁ I L ds (i + 1) w3 st3 acc h3 xs kk) (ry : RepV ad w3 av y) (hl : acc.length ≤ 100000) (hq : Q (i + 1) (acc ++ [av])) (hK : loopC B (ds.drop (i + 1)) (acc ++ [av]) st3 Kf) :
    wpAny (model prog W) A (call (.builtin "list.append") [.ref L,y]) (fun _ s₄=>∃ m,m < ds.length + 1 - i ∧ LInv prog W A ad g' wi s₁ I L ds B Kf Q m s₄) E { s₁ with heap:=h3,toks:=tk3 }:=by
  rw [T.rv.length] at hl
  refine wpAny_list_append_plain (s:={ s₁ with heap:=h3,toks:=tk3 }) ⟨_,T.tL⟩ (fun h4 hp hs=>?_) (small_line (Nat.le_trans hl (by decide)))
  obtain ⟨n',ho⟩:=hp
  rw [show xs.toArray.push y = (xs ++ [y]).toArray by simp] at ho
  have R4 : Rel g' w3 st3 h4:=T.rel.extBut hs.extBut T.fL sL
  refine ⟨_,Nat.sub_lt_sub_left (Nat.lt_succ_of_lt hlt) (Nat.lt_succ_self i),.mk hlt ⟨T.le,fun b o e p q z=>⟨hs.extBut b o q (T.kept b o e p q z).1,(T.kept b o e p q z).2⟩,R4,?_,T.fI,?_,T.fL,ho,T.rv.app (.cons ry .nil)⟩ hq hK⟩
  · exact T.iter.move (had ▸ g'.ok) (fun o e=>hs.extBut I o hIL e) (fun a o e=>e) fun a o q o' e=>hs.extBut a o' (by rintro rfl; rw [T.fL] at q; cases q) e
  · obtain ⟨o,e⟩:=T.tI
    exact ⟨o,hs.extBut I o hIL e⟩
theorem loop_one {elt : X} {t : Nat} {tp p : Pos} {iter : Expr} {sc : Scope} {st0 : St} {Kf : List V → St → Prop} (hx : XOk prog W A ad hT c elt) (hh : A.handled = none) (hF : ¬ c.F) (hds : ds.length ≤ 1000)
    (hrun : loopC (fun x acc st k=>bif' (has st.loc t) (aX c elt (setLoc st t (.d x)) fun v st=>k (acc ++ [v]) st) c.F) ds [] st0 Kf) :
    LoopDoes prog W A ad hT (.ListComp (toE elt) [⟨.Name (nm t) tp,iter,[],0⟩] sc p) I L ds st0 Kf:=by
  intro g' wi s₁ RR had hhT R it fI tI fL tL hIL sI sL hRR
  refine codeAny_compLoop_list (LInv prog W A ad g' wi s₁ I L ds _ Kf fun i acc=>acc.length = i) (fun n s' hn=>?_) (ds.length + 1)
    (.mk (Nat.zero_le _) ⟨.refl _,fun b o e _ _ q=>⟨q,e⟩,R,it,fI,tI,fL,tL,.nil⟩ rfl hrun)
  refine hn.turn (Kx:=fun acc k v st=>k (acc ++ [v]) st) hx had hhT hF hIL sI (fun _ _ _ _=>rfl) (fun w2 st2 acc h2 tk xs kk z hq hK=>hRR w2 st2 acc h2 tk xs kk z.1 z.2.1 z.2.2.1 z.2.2.2.1 z.2.2.2.2.1 z.2.2.2.2.2 (hq ▸ Nat.le_trans hds (by decide)) hK) ?_
  rintro i w3 st3 acc h3 tk3 xs kk av y hlt rfl hq T ry hK
  exact LInv.app had hIL sL hlt T ry (hq ▸ Nat.le_trans (Nat.le_of_lt hlt) (Nat.le_trans hds (by decide))) (hq ▸ List.length_append) hK
end
end Mine
end
section
open PySem.Spec
namespace Mine
section
variable {prog : Program} {W : World} {A : Around} {E : Value → Shared → Prop} {s : Shared} {g : Act} {w : Wd} {st : St} {d : Nat} {I L : Addr} {ds es : List D} {i : Nat} {h h' hb : Heap} {env : Env} {ad : Ad} {hT : Heap} {c : Cfg Prop} {R : Result → Shared → Prop}
theorem compTurn_two (elt target iter u iu : Expr) (scope : Scope) (pos : Pos) (it acc : Value) (env : Env) :
    compTurn (.ListComp elt [⟨target,iter,[],0⟩,⟨u,iu,[],0⟩] scope pos) 0 it acc env = (standAt iter.pos >>= fun _=>pyNext it >>= fun r=>match r with
      | none=>pure (.done .next)
      | some v=>letOwnedTupleGo target it v >>= fun _=>assign target env v >>= fun _ =>
        (eval iu env >>= fun x=>standAt iu.pos >>= fun _=>foldedSetIterable iu env x >>= fun x=>holding [x] (pyIter x) >>= fun it2=>runOwn (.compStart (.ListComp elt [⟨target,iter,[],0⟩,⟨u,iu,[],0⟩] scope pos) 1 it2 acc env) env >>= fun _ =>
          again (.compLoop (.ListComp elt [⟨target,iter,[],0⟩,⟨u,iu,[],0⟩] scope pos) 0 it acc env))):=by rfl
theorem compTurn_two1 (elt target iter u iu : Expr) (scope : Scope) (pos : Pos) (it acc : Value) (env : Env) :
    compTurn (.ListComp elt [⟨target,iter,[],0⟩,⟨u,iu,[],0⟩] scope pos) 1 it acc env = (standAt iu.pos >>= fun _=>pyNext it >>= fun r=>match r with
      | none=>pure (.done .next)
      | some v=>letOwnedTupleGo u it v >>= fun _=>assign u env v >>= fun _ =>
        (eval elt env >>= fun x=>call (.builtin "list.append") [acc,x] >>= fun _=>pure ()) >>= fun _ =>
          again (.compLoop (.ListComp elt [⟨target,iter,[],0⟩,⟨u,iu,[],0⟩] scope pos) 1 it acc env)):=by rfl
theorem compStart_one {elt target iter u iu : Expr} {scope : Scope} {pos : Pos} {it acc : Value} {env : Env}
    (h0 : codeAny (model prog W) A (.compLoop (.ListComp elt [⟨target,iter,[],0⟩,⟨u,iu,[],0⟩] scope pos) 1 it acc env) R s)
    (h : wpAny (model prog W) A (pyIter it) (fun it' s'=>codeAny (model prog W) A (.compLoop (.ListComp elt [⟨target,iter,[],0⟩,⟨u,iu,[],0⟩] scope pos) 1 it' acc env) R s')
      (notedBy (model prog W) A env fun x s'=>R (.error x) s') s) :
    codeAny (model prog W) A (.compStart (.ListComp elt [⟨target,iter,[],0⟩,⟨u,iu,[],0⟩] scope pos) 1 it acc env) R s:=by
  refine codeAny_of_tree ?_
  show wpAny _ _ ((compStart (.ListComp elt [⟨target,iter,[],0⟩,⟨u,iu,[],0⟩] scope pos) 1 it acc env).onRaise (fun x=>do noteFrame x env; standAt theWindowsPlace)) _ _ s
  refine wpAny_notedAt ?_
  unfold compStart
  show wpAny _ _ (ask >>= _) _ _ s
  refine wpAny_bind (wpAny_askSetting (wpAny_ite ?_))
  split
  · first
      | exact wpAny_bind (wpAny_pure (wpAny_pure (And.intro rfl h0)))
      | exact wpAny_pure (And.intro rfl h0)
  · first
      | exact wpAny_bind (wpAny_rule (wpAny_bind (wpAny_standAt (wpAny_bind (wpAny_mono h (fun it' s' h'=>wpAny_pure (And.intro rfl h')) fun _ _ x=>x)))))
      | (refine wpAny_bind (wpAny_rule ?_); show wpAny _ _ (standAt iu.pos >>= _) _ _ s; exact wpAny_bind (wpAny_standAt (wpAny_bind (wpAny_mono h (fun it' s' h'=>wpAny_pure (And.intro rfl h')) fun _ _ x=>x))))
theorem compLoop_one {elt target iter u iu : Expr} {scope : Scope} {pos : Pos} {it acc : Value} {env : Env} (I : Nat → Shared → Prop)
    (turn : ∀ n s,I n s → wpAny (model prog W) A (pyNext it) (fun r s₁=>match r with
      | none=>R (.ok .next) s₁
      | some v=>wpAny (model prog W) A (assign u env v) (fun _ s₂=>wpAny (model prog W) A (eval elt env) (fun x s₃ =>
          wpAny (model prog W) A (call (.builtin "list.append") [acc,x]) (fun _ s₄=>∃ m,m < n ∧ I m s₄) (notedBy (model prog W) A env fun e s'=>R (.error e) s') s₃)
          (notedBy (model prog W) A env fun e s'=>R (.error e) s') s₂) (notedBy (model prog W) A env fun e s'=>R (.error e) s') s₁) (notedBy (model prog W) A env fun e s'=>R (.error e) s') s)
    (n : Nat) (h : I n s) (ht : ∀ v,letOwnedTupleGo u it v = pure ()) :
    codeAny (model prog W) A (.compLoop (.ListComp elt [⟨target,iter,[],0⟩,⟨u,iu,[],0⟩] scope pos) 1 it acc env) R s:=by
  refine codeAny_loop rfl I (fun n s hI=>?_) n h
  show wpAny _ _ ((compTurn (.ListComp elt [⟨target,iter,[],0⟩,⟨u,iu,[],0⟩] scope pos) 1 it acc env).onRaise (fun x=>do noteFrame x env; theTreesLotGoes x)) _ _ s
  refine wpAny_noted ?_
  rw [compTurn_two1]
  refine wpAny_bind (wpAny_standAt (wpAny_bind (wpAny_mono (turn n s hI) (fun r s₁ h₁=>?_) fun _ _ h'=>h')))
  cases r with
  | none=>exact wpAny_pure h₁
  | some v =>
    refine wpAny_bind (wpAny_of_eq (ht v) ?_)
    exact wpAny_bind (wpAny_mono h₁ (fun _ s₂ h₂=>wpAny_bind (wpAny_bind (wpAny_mono h₂ (fun x s₃ h₃=>wpAny_bind (wpAny_mono h₃
      (fun _ s₄ h₄=>wpAny_pure (wpAny_pure ⟨rfl,h₄⟩)) fun _ _ h'=>h')) fun _ _ h'=>h'))) fun _ _ h'=>h')
theorem compLoop_two {elt target iter u iu : Expr} {scope : Scope} {pos : Pos} {it acc : Value} {env : Env} (I : Nat → Shared → Prop)
    (turn : ∀ n s,I n s → wpAny (model prog W) A (pyNext it) (fun r s₁=>match r with
      | none=>R (.ok .next) s₁
      | some v=>wpAny (model prog W) A (assign target env v) (fun _ s₂=>wpAny (model prog W) A (eval iu env) (fun x s₃=>wpAny (model prog W) A (pyIter x) (fun it2 s₄ =>
          codeAny (model prog W) A (.compStart (.ListComp elt [⟨target,iter,[],0⟩,⟨u,iu,[],0⟩] scope pos) 1 it2 acc env) (fun r s'=>match r with
            | .ok _=>∃ m,m < n ∧ I m s'
            | .error e=>cameBackBy (model prog W) A env (notedBy (model prog W) A env fun e s'=>R (.error e) s') e s') s₄)
          (notedBy (model prog W) A env fun e s'=>R (.error e) s') s₃)
          (notedBy (model prog W) A env fun e s'=>R (.error e) s') s₂) (notedBy (model prog W) A env fun e s'=>R (.error e) s') s₁) (notedBy (model prog W) A env fun e s'=>R (.error e) s') s)
    (n : Nat) (h : I n s) (ht : ∀ v,letOwnedTupleGo target it v = pure ()) (hf : ∀ v,foldedSetIterable iu env v = pure v) :
    codeAny (model prog W) A (.compLoop (.ListComp elt [⟨target,iter,[],0⟩,⟨u,iu,[],0⟩] scope pos) 0 it acc env) R s:=by
  refine codeAny_loop rfl I (fun n s hI=>?_) n h
  show wpAny _ _ ((compTurn (.ListComp elt [⟨target,iter,[],0⟩,⟨u,iu,[],0⟩] scope pos) 0 it acc env).onRaise (fun x=>do noteFrame x env; theTreesLotGoes x)) _ _ s
  refine wpAny_noted ?_
  rw [compTurn_two]
  refine wpAny_bind (wpAny_standAt (wpAny_bind (wpAny_mono (turn n s hI) (fun r s₁ h₁=>?_) fun _ _ h'=>h')))
  cases r with
  | none=>exact wpAny_pure h₁
  | some v =>
    refine wpAny_bind (wpAny_of_eq (ht v) ?_)
    refine wpAny_bind (wpAny_mono h₁ (fun _ s₂ h₂=>?_) fun _ _ h'=>h')
    refine wpAny_bind (wpAny_mono h₂ (fun x s₃ h₃=>wpAny_bind (wpAny_standAt (wpAny_bind (wpAny_of_eq (hf x) (wpAny_bind (wpAny_holding (wpAny_mono h₃ (fun it2 s₄ h₄=>?_) fun _ _ h'=>h'))))))) fun _ _ h'=>h')
    refine wpAny_bind (wpAny_runOwn (codeAny_mono h₄ fun r s' z=>?_))
    rcases r with e | f
    · exact z
    · exact wpAny_pure ⟨rfl,z⟩
theorem loop_in {elt : X} {t u : Nat} {tp up p : Pos} {iter iu : Expr} {sc : Scope} {Kf : List V → St → Prop} {g' : Act} {wi : Wd} {s₁ : Shared} {RR : Result → Shared → Prop} {st0 : St} {acc0 : List V} {xs0 : List Value} {kk0 : Nat}
    (hx : XOk prog W A ad hT c elt) (hF : ¬ c.F) (had : g'.ad = ad) (hhT : g'.hT = hT) (T0 : LoopAt prog W A ad g' wi s₁ I L es 0 wi st0 acc0 s₁.heap xs0 kk0) (hIL : I ≠ L) (sI : g'.h0.objs.size ≤ I) (sL : g'.h0.objs.size ≤ L)
    (hrun : loopC (fun x acc st k=>bif' (has st.loc u) (aX c elt (setLoc st u (.d x)) fun v st=>bif' (decide (acc.length ≤ 100000)) (k (acc ++ [v]) st) c.F) c.F) es acc0 st0 Kf)
    (hRR : ∀ w2 st2 acc h2 tk xs kk,wi.le w2 → (∀ b o,wi.τ b = .free → b ≠ I → b ≠ L → s₁.heap.get? b = some o → h2.get? b = some o ∧ w2.τ b = .free) → Rel g' w2 st2 h2 → w2.τ L = .free → h2.get? L = some (lstObj xs kk) → RepVs ad w2 acc xs → Kf acc st2 → RR (.ok .next) { s₁ with heap:=h2,toks:=tk }) :
    codeAny (model prog W) A (.compLoop (.ListComp (toE elt) [⟨.Name (nm t) tp,iter,[],0⟩,⟨.Name (nm u) up,iu,[],0⟩] sc p) 1 (.ref I) (.ref L) g'.env) RR s₁:=by
  refine compLoop_one (LInv prog W A ad g' wi s₁ I L es _ Kf fun _ _=>True) (fun n s' hn=>?_) (es.length + 1) (.mk (Nat.zero_le _) T0 trivial hrun) (fun _=>rfl)
  refine hn.turn (Kx:=fun acc k v st=>bif' (decide (acc.length ≤ 100000)) (k (acc ++ [v]) st) c.F) hx had hhT hF hIL sI (fun _ _ _ _=>rfl) (fun w2 st2 acc h2 tk xs kk z _ hK=>hRR w2 st2 acc h2 tk xs kk z.1 z.2.1 z.2.2.1 z.2.2.2.1 z.2.2.2.2.1 z.2.2.2.2.2 hK) ?_
  rintro i w3 st3 acc h3 tk3 xs kk av y hlt rfl _ T ry hK
  obtain ⟨hz,hK⟩:=bif_prop hK hF
  exact LInv.app had hIL sL hlt T ry (of_decide_eq_true hz) trivial hK
end
end Mine
end
section
open PySem.Spec
namespace Mine
section
variable {prog : Program} {W : World} {A : Around} {E : Value → Shared → Prop} {s : Shared} {g : Act} {w : Wd} {st : St} {d : Nat} {I L : Addr} {ds es : List D} {i : Nat} {h h' hb : Heap} {env : Env} {ad : Ad} {hT : Heap} {c : Cfg Prop} {R : Result → Shared → Prop}
theorem loop_two_in {elt iu : X} {t u : Nat} {tp up p : Pos} {iter : Expr} {sc : Scope} {g' : Act} {wi w3 : Wd} {s₁ : Shared} {B : D → List V → St → (List V → St → Prop) → Prop} {Kf : List V → St → Prop} {st3 : St} {acc : List V} {h3 : Heap} {tk3 kk : Nat} {xs : List Value} {o2 : Obj} {RE : _ → Shared → Prop}
    (hx : XOk prog W A ad hT c elt) (hF : ¬ c.F) (had : g'.ad = ad) (hhT : g'.hT = hT) (hIL : I ≠ L) (sI : g'.h0.objs.size ≤ I) (sL : g'.h0.objs.size ≤ L) (hlt : i < ds.length) (T3 : LoopAt prog W A ad g' wi s₁ I L ds (i + 1) w3 st3 acc h3 xs kk)
    (it2 : Iter prog W A ad w3 h3.objs.size es 0 (h3.push o2))
    (hK : loopC (fun y acc st k=>bif' (has st.loc u) (aX c elt (setLoc st u (.d y)) fun v st=>bif' (decide (acc.length ≤ 100000)) (k (acc ++ [v]) st) c.F) c.F) es acc st3 fun acc st=>loopC B (ds.drop (i + 1)) acc st Kf) {n : Nat} (hn : n = ds.length + 1 - i) :
    codeAny (model prog W) A (.compStart (.ListComp (toE elt) [⟨.Name (nm t) tp,iter,[],0⟩,⟨.Name (nm u) up,toE iu,[],0⟩] sc p) 1 (.ref h3.objs.size) (.ref L) g'.env) (fun r s'=>match r with
      | .ok _=>∃ m,m < n ∧ LInv prog W A ad g' wi s₁ I L ds B Kf (fun _ _=>True) m s'
      | .error e=>RE e s') { s₁ with heap:=h3.push o2,toks:=tk3 }:=by
  subst hn
  have hlt3 : ∀ b o,h3.get? b = some o → b ≠ h3.objs.size:=fun b o e=>Nat.ne_of_lt (Heap.lt_size e)
  have f2 : w3.τ h3.objs.size = .free:=T3.rel.free (Nat.le_refl _)
  obtain ⟨o2',n2',e2',_⟩:=it2.quiet
  have fin : ∀ RR2 : Result → Shared → Prop,(∀ s',(∃ m,m < ds.length + 1 - i ∧ LInv prog W A ad g' wi s₁ I L ds B Kf (fun _ _=>True) m s') → RR2 (.ok .next) s') →
      codeAny (model prog W) A (.compLoop (.ListComp (toE elt) [⟨.Name (nm t) tp,iter,[],0⟩,⟨.Name (nm u) up,toE iu,[],0⟩] sc p) 1 (.ref h3.objs.size) (.ref L) g'.env) RR2 { s₁ with heap:=h3.push o2,toks:=tk3 }:=by
    intro RR2 hR2
    refine loop_in (wi:=w3) hx hF had hhT ⟨.refl _,fun b o e _ _ q=>⟨q,e⟩,T3.rel.push o2,it2,f2,⟨_,e2'⟩,T3.fL,Heap.get?_push_of_some _ T3.tL,T3.rv⟩ (hlt3 L _ T3.tL).symm T3.rel.size sL hK fun w4 st4 acc4 h4 tk4 xs4 kk4 le4 kept4 R4 fL4 tL4 rv4 K4=>?_
    have keep : ∀ b o,w3.τ b = .free → b ≠ L → h3.get? b = some o → h4.get? b = some o ∧ w4.τ b = .free:=fun b o e q z=>kept4 b o e (hlt3 b o z) q (Heap.get?_push_of_some _ z)
    obtain ⟨oI3,eI3⟩:=T3.tI
    have kI:=keep I _ T3.fI hIL eI3
    refine hR2 _ ⟨_,Nat.sub_lt_sub_left (Nat.lt_succ_of_lt hlt) (Nat.lt_succ_self i),.mk hlt ⟨T3.le.trans le4,fun b o e p q z=>?_,R4,?_,kI.2,⟨_,kI.1⟩,fL4,tL4,rv4⟩ trivial K4⟩
    · obtain ⟨z1,z2⟩:=T3.kept b o e p q z
      exact keep b o z2 q z1
    · refine T3.iter.move (had ▸ g'.ok) (fun o e=>(keep I o T3.fI hIL e).1) le4.one fun a o q o' e=>?_
      rw [T3.rel.fro a o q] at e; obtain rfl:=Option.some.inj e
      exact R4.fro a o (le4.one a o q)
  exact compStart_one (fin _ fun s' z=>z) (Iter.self (g:=g') (s:={ s₁ with heap:=h3.push o2,toks:=tk3 }) (had ▸ it2) (fin _ fun s' z=>z))
theorem loop_two {elt iu : X} {t u : Nat} {tp up p : Pos} {iter : Expr} {sc : Scope} {st0 : St} {Kf : List V → St → Prop} (hx : XOk prog W A ad hT c elt) (hu : XOk prog W A ad hT c iu) (hh : A.handled = none) (hF : ¬ c.F) (hds : ds.length ≤ 1000)
    (hrun : loopC (fun x acc st k => bif' (has st.loc t) (aX c iu (setLoc st t (.d x)) fun vu st => match vu with
          | .c _=>c.F
          | .d du=>match itemsV du with
            | none=>c.F
            | some es=>bif' (decide (es.length ≤ 1000)) (loopC (fun y acc st k=>bif' (has st.loc u) (aX c elt (setLoc st u (.d y)) fun v st=>bif' (decide (acc.length ≤ 100000)) (k (acc ++ [v]) st) c.F) c.F) es acc st k) c.F) c.F) ds [] st0 (fun acc st=>bif' (decide (acc.length ≤ 1000000)) (Kf acc st) c.F)) :
    LoopDoes prog W A ad hT (.ListComp (toE elt) [⟨.Name (nm t) tp,iter,[],0⟩,⟨.Name (nm u) up,toE iu,[],0⟩] sc p) I L ds st0 Kf:=by
  intro g' wi s₁ RR had hhT R it fI tI fL tL hIL sI sL hRR
  refine compLoop_two (LInv prog W A ad g' wi s₁ I L ds _ (fun acc st=>bif' (decide (acc.length ≤ 1000000)) (Kf acc st) c.F) fun _ _=>True) (fun n s' hn=>?_) (ds.length + 1)
    (.mk (Nat.zero_le _) ⟨.refl _,fun b o e _ _ q=>⟨q,e⟩,R,it,fI,tI,fL,tL,.nil⟩ trivial hrun) (fun _=>rfl) (fold_toE iu _)
  refine hn.turn (Kx := fun acc k vu st => match vu with
          | .c _=>c.F
          | .d du=>match itemsV du with
            | none=>c.F
            | some es=>bif' (decide (es.length ≤ 1000)) (loopC (fun y acc st k=>bif' (has st.loc u) (aX c elt (setLoc st u (.d y)) fun v st=>bif' (decide (acc.length ≤ 100000)) (k (acc ++ [v]) st) c.F) c.F) es acc st k) c.F) hu had hhT hF hIL sI (fun _ _ _ _=>rfl)
    (fun w2 st2 acc h2 tk xs kk z _ hK=>hRR w2 st2 acc h2 tk xs kk z.1 z.2.1 z.2.2.1 z.2.2.2.1 z.2.2.2.2.1 z.2.2.2.2.2 (of_decide_eq_true (bif_prop hK hF).1) (bif_prop hK hF).2) ?_
  rintro i w3 st3 acc h3 tk3 xs kk av y hlt rfl _ T3 ry hK
  cases av with
  | c _=>exact absurd hK hF
  | d du =>
    dsimp only at hK
    cases hes : itemsV du with
    | none=>rw [hes] at hK; exact absurd hK hF
    | some es =>
      rw [hes] at hK
      obtain ⟨hz,hK⟩:=bif_prop hK hF
      refine iter_start (g:=g') (s:={ s₁ with heap:=h3,toks:=tk3 }) hh hes T3.rel (had ▸ ry) fun o2 it2=>?_
      exact loop_two_in hx hF had hhT hIL sI sL hlt T3 (had ▸ it2) hK rfl
end
end Mine
end
section
open PySem.Spec
namespace Mine
noncomputable def PureV (prog : Program) (W : World) (ad : Ad) (hT : Heap) (d : Nat) (f : Value) (ds : List D) (r : D) : Prop :=
  ∀ {A : Around} {E : Value → Shared → Prop} {s : Shared} {Q : Value → Shared → Prop} {τ : Addr → Role} {vs : List Value},Rm A d → (∀ b o,hT.get? b = some o → s.heap.get? b = some o) → (∀ a o,τ a = .fro o → s.heap.get? a = some o) → RepL ad τ ds vs →
    (∀ h' tk τ' v,Grew s.heap τ h' τ' → Rep ad τ' r v → Q v { s with heap:=h',toks:=tk }) → wpAny (model prog W) A (call f vs) Q E s
noncomputable def CloV (prog : Program) (W : World) (ad : Ad) (hT : Heap) (d : Nat) (q : Nat) (v : Value) (cs ds : List D) (r : D) : Prop :=
  ∀ {A : Around} {E : Value → Shared → Prop} {s : Shared} {Q : Value → Shared → Prop} {τ : Addr → Role} {cvs vs : List Value},Rm A d → (∀ b o,hT.get? b = some o → s.heap.get? b = some o) → (∀ a o,τ a = .fro o → s.heap.get? a = some o) → ad.clo q v cvs τ → RepL ad τ cs cvs → RepL ad τ ds vs →
    (∀ h' tk τ' v,Grew s.heap τ h' τ' → Rep ad τ' r v → Q v { s with heap:=h',toks:=tk }) → Keeps prog W s.heap v ∧ wpAny (model prog W) A (call v vs) Q E s
noncomputable def EffV (prog : Program) (W : World) (ad : Ad) (hT : Heap) (d : Nat) (f : Value) (vs : List V) (hp : Hp) (K : V → Hp → Prop) : Prop :=
  ∀ {A : Around} {E : Value → Shared → Prop} {s : Shared} {Q : Value → Shared → Prop} {g : Act} {w : Wd} {st : St} {xs : List Value},Rm A d → g.ad = ad → g.hT = hT → st.hp = hp → Rel g w st s.heap → RepVs ad w vs xs →
    (∀ w' h' tk v rv hp',Stp w s.heap w' h' → Rel g w' { st with hp:=hp' } h' → RepV ad w' rv v → K rv hp' → Q v { s with heap:=h',toks:=tk }) → wpAny (model prog W) A (call f xs) Q E s
structure Lib (prog : Program) (W : World) (K : Frag) (ad : Ad) (hT : Heap) (mg mb : Str → Option Value) (c : Cfg Prop) (d : Nat) : Prop where
  F : ¬ c.F
  X : K.In hT
  cls : ∀ n,ClsOk K (ad.cls n)
  dk : DictOk prog W ad
  nsg : hT.Ns mainGlobals mg
  nsb : hT.Ns builtinsNs mb
  bi : ∀ b,mg (nm (biId b)) = none ∧ mb (nm (biId b)) = some (biV b)
  mods : ∃ a o,sysModules ≤ a ∧ hT.get? a = some o
  rng : mg (nm 193) = none ∧ mb (nm 193) = some (.type "range")
  con : ∀ n x,gconst n = some x → ∃ v,mg (nm n) = some v ∧ ∀ τ,Rep ad τ x v
  fns : ∀ f,isFn f = true → ∃ v,mg (nm f) = some v ∧ ∀ h : Heap,(∀ b o,hT.get? b = some o → h.get? b = some o) → Keeps prog W h v
  fn : ∀ f v ds r,mg (nm f) = some v → c.P f ds = some r → PureV prog W ad hT d v ds r
  eff : ∀ f v vs hp k,mg (nm f) = some v → c.I f vs hp k → EffV prog W ad hT d v vs hp k
  clo : ∀ q v cs ds r,c.M q (cs ++ ds) = some r → CloV prog W ad hT d q v cs ds r
section
variable {prog : Program} {W : World} {A : Around} {E : Value → Shared → Prop} {s : Shared} {g : Act} {w : Wd} {st : St} {d : Nat} {K : Frag} {h h' : Heap} {c : Cfg Prop} {mg mb : Str → Option Value}
theorem Rel.nsG (R : Rel g w st s.heap) (n : g.hT.Ns mainGlobals mg) : s.heap.Ns g.env.globals mg:=by rw [g.glob]; exact n.keeps R.top
theorem Rel.nsB (R : Rel g w st s.heap) (n : g.hT.Ns builtinsNs mb) : s.heap.Ns g.env.builtins mb:=by rw [g.bui]; exact n.keeps R.top
theorem glo_sound {n : Nat} {p : Pos} {v : Value} {Q : Value → Shared → Prop} (R : Rel g w st s.heap) (ng : g.hT.Ns mainGlobals mg) (hn : mem st.gl n = true) (hv : mg (nm n) = some v) (k : Q v s) :
    wpAny (model prog W) A (eval (.Name (nm n) p) g.env) Q E s:=Calls.Name_function_global g.kind (R.gl n hn) (Calls.loadGlobal_global (R.nsG ng) hv k) (nm_debug n)
theorem bui_sound {n : Nat} {p : Pos} {v : Value} {Q : Value → Shared → Prop} (R : Rel g w st s.heap) (ng : g.hT.Ns mainGlobals mg) (nb : g.hT.Ns builtinsNs mb) (hn : mem st.gl n = true) (hg : mg (nm n) = none) (hv : mb (nm n) = some v) (k : Q v s) :
    wpAny (model prog W) A (eval (.Name (nm n) p) g.env) Q E s:=Calls.Name_function_global g.kind (R.gl n hn) (Calls.loadGlobal_builtin (R.nsG ng) hg (R.nsB nb) hv k) (nm_debug n)
theorem call_toE {f : Nat} {fp p : Pos} {xs : XL} {v : Value} {Q : Value → Shared → Prop} (hf : wpAny (model prog W) A (eval (.Name (nm f) fp) g.env) (fun fv s₁=>fv = v ∧ s₁ = s) E s)
    (h : ArgsTo prog W A g.env p E xs (fun vs s₁=>Keeps prog W s₁.heap v ∧ wpAny (model prog W) A (call v vs) Q E s₁) s) :
    wpAny (model prog W) A (eval (.Call (.Name (nm f) fp) (toEs xs) [] p) g.env) Q E s:=by
  refine Call_ (wpAny_mono hf (fun fv s₁ e=>?_) fun _ _ x=>x)
  obtain ⟨rfl,rfl⟩:=e
  exact callWith_toEs (first:=[]) h
theorem Rel.pure {ds : List D} {r : D} {v : Value} {xs : List Value} {Q : Value → Shared → Prop} (rm : Rm A d) (P : PureV prog W g.ad g.hT d v ds r) (R : Rel g w st s.heap) (ra : RepL g.ad w.τ ds xs)
    (k : ∀ w' h' tk y,Stp w s.heap w' h' → Rel g w' st h' → Rep g.ad w'.τ r y → Q y { s with heap:=h',toks:=tk }) : wpAny (model prog W) A (call v xs) Q E s :=
  P rm R.top R.fro ra fun h' tk τ' y G ry=>by
    obtain ⟨S,R',hs⟩:=R.grew G
    exact k _ h' tk y S R' (ry.mono g.ok hs)
theorem ns_own (X : K.In g.hT) (C : ∀ c,ClsOk K (g.ad.cls c)) {a r : V} {n : Nat} {va : Value} {pl : Sem Bool} {Q : Value × List Value → Shared → Prop} (e : attV a n st.hp = some r) (R : Rel g w st s.heap) (ra : RepV g.ad w a va)
    (k : ∀ tk v,RepV g.ad w r v → Q (v,[]) { s with toks:=tk }) : wpAny (model prog W) A (getMethod va (nm n) pl) Q E s:=by
  have X' : K.In s.heap:=fun b o q=>R.top b o (X b o q)
  have hg:=attV_sound (prog:=prog) (W:=W) (A:=A) (E:=E) (s:=s) (ex:=false) (Q:=fun v s'=>Q (v,[]) s') X C e R ra fun tk v rv=>k tk v rv
  unfold attV at e
  split at e
  · rename_i c ns xs
    obtain ⟨hn,e⟩:=fld_of e
    cases ra with
    | inst a1 a2 a3 a4 a5 =>
      rename_i ax dx vs od m
      have I : InstAt s.heap ax (instObj (g.ad.cls c) dx) (g.ad.cls c) (some od):=⟨R.fro _ _ a1,rfl,rfl,R.fro _ _ a2⟩
      exact method_usual X' I (C c).ga (C c).gn ((C c).own _ hn) rfl hg
  · rename_i a
    split at e
    · rename_i c ns vs hc
      obtain ⟨hn,e⟩:=fld_of e
      obtain ⟨ax,b1,rfl⟩:=ra
      cases R.cells _ _ hc with
      | inst h1 h2 h3 h4 h5 h6 h7 h8 h9 =>
        rename_i a' dx xs od m
        rw [b1] at h1; obtain rfl:=Option.some.inj h1
        have I : InstAt s.heap ax (instObj (g.ad.cls c) dx) (g.ad.cls c) (some od):=⟨h3,rfl,rfl,h5⟩
        exact method_usual X' I (C c).ga (C c).gn ((C c).own _ hn) rfl hg
    · exact nope e
  · exact nope e
end
end Mine
end
section
open PySem.Spec
namespace Mine
section
variable {prog : Program} {W : World} {K : Frag} {ad : Ad} {hT : Heap} {mg mb : Str → Option Value} {c : Cfg Prop} {d : Nat} {A : Around}
noncomputable def XsOk (prog : Program) (W : World) (A : Around) (ad : Ad) (hT : Heap) (c : Cfg Prop) (xs : XL) : Prop :=
  ∀ {g : Act} {st : St} {w : Wd} {s : Shared} {E : Value → Shared → Prop} {pos : Pos} {Q : List Value → Shared → Prop} {Qa : List V → St → Prop},g.ad = ad → g.hT = hT → aXs c xs st Qa → Rel g w st s.heap →
    (∀ w' vs st' h' tk ys,Stp w s.heap w' h' → Rel g w' st' h' → RepVs g.ad w' vs ys → Qa vs st' → Q ys { s with heap:=h',toks:=tk }) → ArgsTo prog W A g.env pos E xs Q s
noncomputable def PsOk (prog : Program) (W : World) (A : Around) (ad : Ad) (hT : Heap) (c : Cfg Prop) (xs : XL) : Prop :=
  ∀ {g : Act} {st : St} {w : Wd} {s : Shared} {E : Value → Shared → Prop} {pos : Pos} {Q : List (Value × Value) → Shared → Prop} {Qa : List V → St → Prop} (ks : List (List Nat × Pos)),ks.length = xs.len → g.ad = ad → g.hT = hT → aXs c xs st Qa → Rel g w st s.heap →
    (∀ w' vs st' h' tk kvs,Stp w s.heap w' h' → Rel g w' st' h' → allStrKeys kvs = true → (strPairs kvs).map (·.1) = (ks.map (·.1)).map strOf → RepVs g.ad w' vs ((strPairs kvs).map (·.2)) → Qa vs st' → Q kvs { s with heap:=h',toks:=tk }) →
    wpAny (model prog W) A (evalPairs (pairTrees (ks.map fun k=>some (.Constant (.str (strOf k.1)) 0 k.2)) (toEs xs) g.env pos)) Q E s
noncomputable def TOk (prog : Program) (W : World) (A : Around) (ad : Ad) (hT : Heap) (c : Cfg Prop) (x : X) : Prop :=
  ∀ {g : Act} {st : St} {w : Wd} {s : Shared} {E : Value → Shared → Prop} {Q : Bool → Shared → Prop} {Qa : Bool → St → Prop},g.ad = ad → g.hT = hT → aT c x st Qa → Rel g w st s.heap →
    (∀ w' b st' h' tk,Stp w s.heap w' h' → Rel g w' st' h' → Qa b st' → Q b { s with heap:=h',toks:=tk }) → wpAny (model prog W) A (isTrue (toE x) g.env (eval (toE x) g.env)) Q E s
noncomputable def BsOk (prog : Program) (W : World) (A : Around) (ad : Ad) (hT : Heap) (c : Cfg Prop) (xs : XL) : Prop :=
  ∀ {g : Act} {st : St} {w : Wd} {s : Shared} {E : Value → Shared → Prop} {pos : Pos} {op : BoolOp} {Q : Value → Shared → Prop} {Qa : V → St → Prop},g.ad = ad → g.hT = hT → aB c op xs st Qa → Rel g w st s.heap → Post g w s Qa Q → wpAny (model prog W) A (boolOp pos op (evalEach (toEs xs) g.env)) Q E s
noncomputable def TsOk (prog : Program) (W : World) (A : Around) (ad : Ad) (hT : Heap) (c : Cfg Prop) (xs : XL) : Prop :=
  ∀ {g : Act} {st : St} {w : Wd} {s : Shared} {E : Value → Shared → Prop} {op : BoolOp} {Q : Bool → Shared → Prop} {Qa : Bool → St → Prop},g.ad = ad → g.hT = hT → aTs c op xs st Qa → Rel g w st s.heap →
    (∀ w' b st' h' tk,Stp w s.heap w' h' → Rel g w' st' h' → Qa b st' → Q b { s with heap:=h',toks:=tk }) → wpAny (model prog W) A (allTrue op (toEs xs) g.env) Q E s
noncomputable def OOk (prog : Program) (W : World) (A : Around) (ad : Ad) (hT : Heap) (c : Cfg Prop) (x : XO) : Prop :=
  ∀ {g : Act} {st : St} {w : Wd} {s : Shared} {E : Value → Shared → Prop} {Q : Value → Shared → Prop} {Qa : Option D → St → Prop},g.ad = ad → g.hT = hT → aO c x st Qa → Rel g w st s.heap →
    (∀ w' o st' h' tk v,Stp w s.heap w' h' → Rel g w' st' h' → RepO g.ad w'.τ o v → Qa o st' → Q v { s with heap:=h',toks:=tk }) → wpAny (model prog W) A (evalPart (toO x) g.env) Q E s
theorem RepO.mono {ad : Ad} {τ τ' : Addr → Role} (ok : AdOk ad) (hk : ∀ a o,τ a = .fro o → τ' a = .fro o) {o : Option D} {v : Value} (h : RepO ad τ o v) : RepO ad τ' o v:=by
  cases h with
  | none=>exact .none
  | some r=>exact .some (r.mono ok hk)
theorem cnone_ok {p : Pos} : XOk prog W A ad hT c (.cnone p):=by
  intro g st w s E Q Qa _ _ ha R k
  conv at ha=>whnf
  exact wpAny_Constant_none (k.same R (av:=.d .none) (tk:=s.toks) Rep.none ha)
theorem cbool_ok {b : Bool} {p : Pos} : XOk prog W A ad hT c (.cbool b p):=by
  intro g st w s E Q Qa _ _ ha R k
  conv at ha=>whnf
  exact wpAny_Constant_bool (k.same R (av:=.d (.bool b)) (tk:=s.toks) (Rep.bool b) ha)
theorem cint_ok {i : Int} {p : Pos} : XOk prog W A ad hT c (.cint i p):=by
  intro g st w s E Q Qa _ _ ha R k
  conv at ha=>whnf
  exact wpAny_Constant_int (k.same R (av:=.d (.int i)) (Rep.int i _) ha)
theorem cstr_ok {x : List Nat} {p : Pos} : XOk prog W A ad hT c (.cstr x p):=by
  intro g st w s E Q Qa _ _ ha R k
  conv at ha=>whnf
  exact wpAny_Constant_str (k.same R (av:=.d (.str x)) (Rep.str x _) ha)
theorem loc_ok (hF : ¬ c.F) {n : Nat} {p : Pos} : XOk prog W A ad hT c (.loc n p):=by
  intro g st w s E Q Qa _ _ ha R k
  conv at ha=>whnf
  split at ha
  · rename_i v e
    exact loc_sound R e fun x rx=>k.same R (tk:=s.toks) rx ha
  · exact absurd ha hF
theorem cel_ok (hF : ¬ c.F) {n : Nat} {p : Pos} : XOk prog W A ad hT c (.cel n p):=by
  intro g st w s E Q Qa _ _ ha R k
  conv at ha=>whnf
  split at ha
  · rename_i v e
    exact cel_sound R e fun x rx=>k.same R (tk:=s.toks) rx ha
  · exact absurd ha hF
theorem glo_ok (L : Lib prog W K ad hT mg mb c d) {n : Nat} {p : Pos} : XOk prog W A ad hT c (.glo n p):=by
  intro g st w s E Q Qa had hhT ha R k
  conv at ha=>whnf
  split at ha
  · rename_i dd e1 e2
    obtain ⟨v,hv,rv⟩:=L.con n dd e2
    exact glo_sound R (hhT ▸ L.nsg) e1 hv (k.same R (tk:=s.toks) (show RepV g.ad w (.d dd) v from had ▸ rv w.τ) ha)
  · exact absurd ha L.F
theorem frL_ok (hF : ¬ c.F) {n : Nat} {p : Pos} : XOk prog W A ad hT c (.frL n p):=by
  intro g st w s E Q Qa _ _ ha R k
  conv at ha=>whnf
  split at ha
  · rename_i v e
    split at ha
    · rename_i dd hp e2
      exact frL_sound R e e2 fun w' x S R' rx=>k w' (.d dd) _ s.heap s.toks x S R' rx ha
    · exact absurd ha hF
  · exact absurd ha hF
theorem frC_ok (hF : ¬ c.F) {n : Nat} {p : Pos} : XOk prog W A ad hT c (.frC n p):=by
  intro g st w s E Q Qa _ _ ha R k
  conv at ha=>whnf
  split at ha
  · rename_i v e
    split at ha
    · rename_i dd hp e2
      exact frC_sound R e e2 fun w' x S R' rx=>k w' (.d dd) _ s.heap s.toks x S R' rx ha
    · exact absurd ha hF
  · exact absurd ha hF
theorem frz_ok (hF : ¬ c.F) {x : X} (hx : XOk prog W A ad hT c x) : XOk prog W A ad hT c (.frz x):=by
  intro g st w s E Q Qa had hhT ha R k
  conv at ha=>whnf
  refine hx had hhT ha R fun w1 av st1 h1 tk1 v S1 R1 r1 q=>?_
  split at q
  · rename_i dd hp e2
    obtain ⟨w2,F,rd⟩:=frz_sound 4 e2 R1 r1
    exact k w2 (.d dd) _ h1 tk1 v (S1.trans F.stp) F.rel rd q
  · exact absurd q hF
theorem bin_ok (hF : ¬ c.F) {op : Operator} {a b : X} {p : Pos} (hx : XOk prog W A ad hT c a) (hy : XOk prog W A ad hT c b) : XOk prog W A ad hT c (.bin op a b p):=by
  intro g st w s E Q Qa had hhT ha R k
  conv at ha=>whnf
  refine wpAny_BinOp (hx had hhT ha R fun w1 va st1 h1 tk1 v1 S1 R1 r1 q1=>hy had hhT q1 R1 fun w2 vb st2 h2 tk2 v2 S2 R2 r2 q2=>?_)
  split at q2
  · rename_i x y
    split at q2
    · rename_i r e
      exact binD_sound e R2 (Rep.mono g.ok S2.le.one r1) r2 fun w3 h3 tk3 v S3 R3 r3=>k w3 (.d r) _ h3 tk3 v ((S1.trans S2).trans S3) R3 r3 q2
    · exact absurd q2 hF
  · exact absurd q2 hF
theorem rep_ok (hF : ¬ c.F) {a b : X} {p : Pos} (hx : XOk prog W A ad hT c a) (hy : XOk prog W A ad hT c b) : XOk prog W A ad hT c (.rep a b p):=by
  intro g st w s E Q Qa had hhT ha R k
  conv at ha=>whnf
  refine wpAny_BinOp (hx had hhT ha R fun w1 va st1 h1 tk1 v1 S1 R1 r1 q1=>hy had hhT q1 R1 fun w2 vb st2 h2 tk2 v2 S2 R2 r2 q2=>?_)
  split at q2
  · rename_i xs i
    split at q2
    · rename_i n e
      obtain ⟨hz,q2⟩:=bif_prop q2 hF
      have hz:=of_decide_eq_true hz
      obtain ⟨i0,i1,i2⟩:=ixI_some e
      have r1:=Rep.mono g.ok S2.le.one r1
      cases r1 with
      | lst a1 b1 =>
        cases r2 with
        | int _ t =>
          rw [b1.length] at hz
          refine mul_list' (s:={ s with heap:=h2,toks:=tk2 }) (R2.fro _ _ a1) i0 (by omega) hz ?_
          obtain ⟨w3,S3,R3,r3⟩:=R2.newLst (vs:=rep xs n) (xs:=(List.replicate n _).flatten) (repVs_rep b1 n)
          rw [i2]
          exact k w3 _ _ _ tk2 _ ((S1.trans S2).trans S3) R3 r3 q2
    · exact absurd q2 hF
  · exact absurd q2 hF
theorem cmp_ok (hF : ¬ c.F) (rm : Rm A d) {op : CmpOp} {a b : X} {p : Pos} (hx : XOk prog W A ad hT c a) (hy : XOk prog W A ad hT c b) : XOk prog W A ad hT c (.cmp op a b p):=by
  intro g st w s E Q Qa had hhT ha R k
  conv at ha=>whnf
  refine wpAny_Compare1 (hx had hhT ha R fun w1 va st1 h1 tk1 v1 S1 R1 r1 q1=>hy had hhT q1 R1 fun w2 vb st2 h2 tk2 v2 S2 R2 r2 q2=>?_) (toE_behind b op)
  have S:=S1.trans S2
  split at q2
  · rename_i x y
    split at q2
    · rename_i r e
      exact cmpD_sound (g:=g) rm e R2.fro (Rep.mono g.ok S2.le.one r1) r2 fun tk=>k w2 (.d (.bool r)) _ h2 tk _ S R2 (Rep.bool r) q2
    · exact absurd q2 hF
  · rename_i x n
    split at q2
    · rename_i vs hc
      split at q2
      · rename_i ds hd
        split at q2
        · split at q2
          · rename_i r e
            exact cmpC_sound (s:={ s with heap:=h2,toks:=tk2 }) rm hc hd e R2 (Rep.mono g.ok S2.le.one r1) r2 fun tk=>k w2 (.d (.bool r)) _ h2 tk _ S R2 (Rep.bool r) q2
          · exact absurd q2 hF
        · split at q2
          · rename_i r e
            exact cmpC_sound (s:={ s with heap:=h2,toks:=tk2 }) rm hc hd e R2 (Rep.mono g.ok S2.le.one r1) r2 fun tk=>k w2 (.d (.bool r)) _ h2 tk _ S R2 (Rep.bool r) q2
          · exact absurd q2 hF
        · exact absurd q2 hF
      · exact absurd q2 hF
    · exact absurd q2 hF
  · exact absurd q2 hF
theorem truV_sound {E : Value → Shared → Prop} {s : Shared} {g : Act} {w : Wd} {v : V} {b : Bool} {x : Value} {Q : Bool → Shared → Prop} (e : truV v = some b) (r : RepV g.ad w v x) (k : Q b s) : wpAny (model prog W) A (truthy x) Q E s:=by
  cases v with
  | d y=>exact truD_sound (g:=g) e r k
  | c _=>exact nope e
theorem not_ok (hF : ¬ c.F) {a : X} {p : Pos} (hx : XOk prog W A ad hT c a) : XOk prog W A ad hT c (.not a p):=by
  intro g st w s E Q Qa had hhT ha R k
  conv at ha=>whnf
  refine wpAny_UnaryOp (hx had hhT ha R fun w1 va st1 h1 tk1 v1 S1 R1 r1 q1=>?_)
  split at q1
  · rename_i b e
    exact not_value (truV_sound (s:={ s with heap:=h1,toks:=tk1 }) e r1 (k w1 (.d (.bool _)) _ h1 tk1 _ S1 R1 (Rep.bool _) q1))
  · exact absurd q1 hF
theorem neg_ok (hF : ¬ c.F) {a : X} {p : Pos} (hx : XOk prog W A ad hT c a) : XOk prog W A ad hT c (.neg a p):=by
  intro g st w s E Q Qa had hhT ha R k
  conv at ha=>whnf
  refine wpAny_UnaryOp (hx had hhT ha R fun w1 va st1 h1 tk1 v1 S1 R1 r1 q1=>?_)
  split at q1
  · cases r1 with
    | int i t=>exact PySem.P.neg_int (s:={ s with heap:=h1,toks:=tk1 }) (k w1 (.d (.int _)) _ h1 _ _ S1 R1 (Rep.int _ _) q1)
  · exact absurd q1 hF
theorem ite_ok {t a b : X} {p : Pos} (ht : TOk prog W A ad hT c t) (hx : XOk prog W A ad hT c a) (hy : XOk prog W A ad hT c b) : XOk prog W A ad hT c (.ite t a b p):=by
  intro g st w s E Q Qa had hhT ha R k
  conv at ha=>whnf
  refine wpAny_IfExp (ht had hhT ha R fun w1 r st1 h1 tk1 S1 R1 q1=>?_)
  cases r with
  | true=>exact hx had hhT q1 R1 (k.step S1)
  | false=>exact hy had hhT q1 R1 (k.step S1)
end
end Mine
end
section
open PySem.Spec
namespace Mine
section
variable {prog : Program} {W : World} {K : Frag} {ad : Ad} {hT : Heap} {mg mb : Str → Option Value} {c : Cfg Prop} {d : Nat} {A : Around}
theorem tup_ok (hF : ¬ c.F) {xs : XL} {p : Pos} (hx : XsOk prog W A ad hT c xs) : XOk prog W A ad hT c (.tup xs p):=by
  intro g st w s E Q Qa had hhT ha R k
  conv at ha=>whnf
  refine wpAny_Tuple (hx had hhT ha R fun w1 vs st1 h1 tk1 ys S1 R1 r1 q1=>?_).wp
  split at q1
  · rename_i ds e
    obtain ⟨hz,q1⟩:=bif_prop q1 hF
    have hz:=of_decide_eq_true hz
    have r2:=repL_of_allD e r1
    rw [r2.length] at hz
    refine ⟨small_line (by omega),?_⟩
    obtain ⟨S2,R2⟩:=R1.newFro (tupObj ys 0) rfl
    exact k _ (.d (.tup ds)) _ _ tk1 _ (S1.trans S2) R2 (Rep.tup Wd.setτ_eq (r2.mono g.ok S2.one)) q1
  · exact absurd q1 hF
theorem lstF_ok (hF : ¬ c.F) {xs : XL} {p : Pos} (hx : XsOk prog W A ad hT c xs) : XOk prog W A ad hT c (.lst false xs p):=by
  intro g st w s E Q Qa had hhT ha R k
  conv at ha=>whnf
  refine wpAny_List (hx had hhT ha R fun w1 vs st1 h1 tk1 ys S1 R1 r1 q1=>?_).wp
  split at q1
  · rename_i ds e
    obtain ⟨hz,q1⟩:=bif_prop q1 hF
    have hz:=of_decide_eq_true hz
    have r2:=repL_of_allD e r1
    rw [r2.length] at hz
    refine ⟨small_line (by omega),?_⟩
    obtain ⟨S2,R2⟩:=R1.newFro (lstObj ys 0) rfl
    exact k _ (.d (.lst ds)) _ _ tk1 _ (S1.trans S2) R2 (Rep.lst Wd.setτ_eq (r2.mono g.ok S2.one)) q1
  · exact absurd q1 hF
theorem lstT_ok (hF : ¬ c.F) {xs : XL} {p : Pos} (hx : XsOk prog W A ad hT c xs) : XOk prog W A ad hT c (.lst true xs p):=by
  intro g st w s E Q Qa had hhT ha R k
  conv at ha=>whnf
  refine wpAny_List (hx had hhT ha R fun w1 vs st1 h1 tk1 ys S1 R1 r1 q1=>?_).wp
  obtain ⟨hz,q1⟩:=bif_prop q1 hF
  have hz:=of_decide_eq_true hz
  rw [r1.length] at hz
  refine ⟨small_line (by omega),?_⟩
  obtain ⟨w2,S2,R2,r2⟩:=R1.newLst r1
  exact k w2 _ _ _ tk1 _ (S1.trans S2) R2 r2 q1
theorem strOf_inj {a b : List Nat} (h : strOf a = strOf b) : a = b:=by
  unfold strOf at h
  injection h with h
  have:=congrArg Array.toList h
  simpa using this
theorem nodup_strOf : ∀ {l : List (List Nat)},l.Nodup → (l.map strOf).Nodup
  | [],_=>by simp
  | x :: r,h=>by
    rw [List.nodup_cons] at h
    rw [List.map_cons,List.nodup_cons]
    refine ⟨fun m=>?_,nodup_strOf h.2⟩
    obtain ⟨y,hy,e⟩:=List.mem_map.mp m
    exact h.1 (strOf_inj e ▸ hy)
theorem dic_ok (L : Lib prog W K ad hT mg mb c d) {ks : List (List Nat × Pos)} {xs : XL} {p : Pos} (hx : PsOk prog W A ad hT c xs) : XOk prog W A ad hT c (.dic ks xs p):=by
  intro g st w s E Q Qa had hhT ha R k
  conv at ha=>whnf
  obtain ⟨hb,ha⟩:=bif_prop ha L.F
  rw [Bool.and_eq_true] at hb
  obtain ⟨b1,b3⟩:=hb
  rw [beq_is] at b1
  have b1:=of_decide_eq_true b1
  have b3:=Nat.le_of_ble_eq_true b3
  have lowS : (s.heap.objs.size == sysModules) = false:=by
    obtain ⟨a,om,hle,hm⟩:=L.mods
    exact beq_eq_false_iff_ne.mpr (Nat.ne_of_gt (Nat.lt_of_le_of_lt hle (Heap.lt_size (R.top _ _ (hhT ▸ hm)))))
  by_cases b0 : xs.len = 0
  · have hxs : xs = .nil:=by
      cases xs with
      | nil=>rfl
      | cons x r=>unfold XL.len at b0; omega
    subst hxs
    have hks : ks = []:=List.eq_nil_of_length_eq_zero (b1.trans b0)
    subst hks
    have q1 : Qa (V.d (D.dict [] [])) st:=ha
    obtain ⟨S2,R2⟩:=R.newFro { cls:=.type "dict",data:=.dict #[] } rfl
    refine wpAny_Dict_empty (k _ (.d (.dict [] [])) _ _ _ _ S2 R2 (Rep.dict (kvs:=[]) Wd.setτ_eq ?_ rfl lowS .nil) q1)
    rw [had]
    exact (L.dk.is _ _).mpr ⟨#[],0,⟨rfl,rfl,rfl⟩,rfl,fun _ he=>by simp at he,Pairs.nil,List.nodup_nil⟩
  have b2 : 1 ≤ xs.len:=Nat.one_le_iff_ne_zero.mpr b0
  have hR : Rel g w st (s.heap.push { cls:=.type "dict",data:=.dict #[] }):=R.push _
  have hfr : w.τ s.heap.objs.size = .free:=R.free (Nat.le_refl _)
  refine wpAny_Dict_walk (knd:=strKind prog W) (by simp) (by rw [List.length_map,toEs_len]; exact b1) (by intro z; rw [List.map_eq_nil_iff] at z; rw [z] at b1; simp at b1; omega) (by rw [List.length_map]; omega) ?_
  refine hx (s:={ s with heap:=s.heap.push { cls:=.type "dict",data:=.dict #[] } }) ks b1 had hhT ha hR fun w1 vs st1 h1 tk1 kvs S1 R1 hk hkeys r1 q1=>?_
  split at q1
  · rename_i ds e
    obtain ⟨hnd,q1⟩:=bif_prop q1 L.F
    have hnd:=of_decide_eq_true hnd
    have z:=S1.kept s.heap.objs.size _ hfr (Heap.get?_push_size _ rfl)
    refine display_done_str hk ?_ ⟨_,#[],0,z.1,⟨rfl,rfl,rfl⟩,rfl,fun _ he=>by simp at he,Pairs.nil,List.nodup_nil⟩ fun h' hd hs=>?_
    · rw [hkeys]
      exact nodup_strOf hnd
    · obtain ⟨o,ho,hio⟩:=Heap.dictOf_iff.mp hd
      have R2 : Rel g w1 st1 h':=R1.extBut hs.extBut z.2 R.size
      obtain ⟨l3,R3⟩:=R2.newFroAt z.2 R.size ho
      refine k _ (.d (.dict (ks.map (·.1)) ds)) _ h' _ _ ⟨S1.le.trans l3,fun b ob e1 e2=>?_⟩ R3 (Rep.dict (kvs:=strPairs kvs) Wd.setτ_eq ?_ hkeys ?_ ((repL_of_allD e r1).mono g.ok l3.one)) q1
      · have hb : b ≠ s.heap.objs.size:=Nat.ne_of_lt (Heap.lt_size e2)
        have y:=S1.kept b ob e1 (Heap.get?_push_of_some _ e2)
        exact ⟨hs.extBut b ob hb y.1,(Wd.setτ_ne hb).trans y.2⟩
      · rw [had]; exact (L.dk.is _ _).mpr hio
      · exact lowS
  · exact absurd q1 L.F
theorem sub_ok (L : Lib prog W K ad hT mg mb c d) {a i : X} {p : Pos} (hx : XOk prog W A ad hT c a) (hy : XOk prog W A ad hT c i) : XOk prog W A ad hT c (.sub a i p):=by
  intro g st w s E Q Qa had hhT ha R k
  conv at ha=>whnf
  refine Sub_ (hx had hhT ha R fun w1 va st1 h1 tk1 v1 S1 R1 r1 q1=>hy had hhT q1 R1 fun w2 vb st2 h2 tk2 v2 S2 R2 r2 q2=>?_)
  split at q2
  · split at q2
    · rename_i r e
      exact subV_sound (s:={ s with heap:=h2,toks:=tk2 }) (had ▸ L.dk) e R2 (r1.mono g.ok S2.le) r2 fun tk v rv=>k w2 _ _ h2 tk v (S1.trans S2) R2 rv q2
    · exact absurd q2 L.F
  · exact absurd q2 L.F
theorem slc_ok (hF : ¬ c.F) {a : X} {lo hi : XO} {q p : Pos} (hx : XOk prog W A ad hT c a) (hl : OOk prog W A ad hT c lo) (hu : OOk prog W A ad hT c hi) : XOk prog W A ad hT c (.slc a lo hi q p):=by
  intro g st w s E Q Qa had hhT ha R k
  conv at ha=>whnf
  refine Sub_ (hx had hhT ha R fun w1 va st1 h1 tk1 v1 S1 R1 r1 q1=>wpAny_Slice (hl had hhT q1 R1 fun w2 l st2 h2 tk2 v2 S2 R2 r2 q2=>hu had hhT q2 R2 fun w3 u st3 h3 tk3 v3 S3 R3 r3 q3=>?_))
  rw [evalPart_none]
  refine wpAny_pure ?_
  split at q3
  · split at q3
    · rename_i x r e
      have S:=(S1.trans S2).trans S3
      exact slcD_sound (s:={ s with heap:=h3.push (slObj v2 v3),toks:=tk3 }) e (R3.push _) (Rep.mono g.ok (S2.trans S3).one r1) (r2.mono g.ok S3.one) r3 (Heap.IsSliceOf.new h3 v2 v3 .none)
        fun w4 h4 tk4 v S4 R4 r4=>k w4 (.d r) _ h4 tk4 v ((S.trans (Stp.push w3 h3 _)).trans S4) R4 r4 q3
    · exact absurd q3 hF
  · exact absurd q3 hF
theorem att_ok (L : Lib prog W K ad hT mg mb c d) {a : X} {n : Nat} {p : Pos} (hx : XOk prog W A ad hT c a) : XOk prog W A ad hT c (.att a n p):=by
  intro g st w s E Q Qa had hhT ha R k
  conv at ha=>whnf
  have he : eval (.Attribute (toE a) (nm n) p) g.env = (do
      let o ← eval (toE a) g.env
      standAt p.atName
      let r ← holding [o] (getAttr o (nm n) true)
      letTemporaryGo (toE a) o r
      pure r):=by
    have e0 : eval (.Attribute (toE a) (nm n) p) g.env = (do
      let o ← attributeBase (toE a) (nm n) g.env (eval (toE a) g.env)
      standAt p.atName
      let r ← holding [o] (getAttr o (nm n) true)
      letTemporaryGo (toE a) o r
      pure r):=rfl
    rw [e0,toE_base]
  refine Attribute_any_ (hx had hhT ha R fun w1 va st1 h1 tk1 v1 S1 R1 r1 q1=>?_) he
  split at q1
  · rename_i r e
    exact attV_sound (s:={ s with heap:=h1,toks:=tk1 }) (hhT ▸ L.X) (fun n=>had ▸ L.cls n) e R1 r1 fun tk v rv=>k w1 _ _ h1 tk v S1 R1 rv q1
  · exact absurd q1 L.F
theorem callU_ok (L : Lib prog W K ad hT mg mb c d) (rm : Rm A d) {f : Nat} {fp p : Pos} {xs : XL} (hx : XsOk prog W A ad hT c xs) : XOk prog W A ad hT c (.callU f fp xs p):=by
  intro g st w s E Q Qa had hhT ha R k
  conv at ha=>whnf
  split at ha
  · rename_i hb
    rw [Bool.and_eq_true] at hb
    obtain ⟨v,hv,hk⟩:=L.fns f hb.2
    refine call_toE (glo_sound R (hhT ▸ L.nsg) hb.1 hv ⟨rfl,rfl⟩) (hx had hhT ha R fun w1 vs st1 h1 tk1 ys S1 R1 r1 q1=>⟨hk _ (hhT ▸ R1.top),?_⟩)
    have eff : ∀ {kk : V → Hp → Prop},c.I f vs st1.hp kk → (∀ v hp,kk v hp → Qa v { st1 with hp:=hp }) → wpAny (model prog W) A (call v ys) Q E { s with heap:=h1,toks:=tk1 }:=fun hI hK =>
      L.eff f v vs st1.hp _ hv hI rm had hhT rfl R1 (had ▸ r1) fun w2 h2 tk2 y rv hp' S2 R2 r2 q2=>k w2 rv _ h2 tk2 y (S1.trans S2) R2 (had ▸ r2) (hK _ _ q2)
    split at q1
    · rename_i ds e
      split at q1
      · rename_i r e2
        refine Rel.pure (s:={ s with heap:=h1,toks:=tk1 }) rm (had ▸ hhT ▸ L.fn f v ds r hv e2) R1 (repL_of_allD e r1) fun w2 h2 tk2 y S2 R2 r2=>k w2 (.d r) _ h2 tk2 y (S1.trans S2) R2 r2 q1
      · exact eff q1 fun _ _ z=>z
    · exact eff q1 fun _ _ z=>z
  · exact absurd ha L.F
theorem callB_ok (L : Lib prog W K ad hT mg mb c d) (rm : Rm A d) {b : BI} {f : Nat} {fp p : Pos} {xs : XL} (hx : XsOk prog W A ad hT c xs) : XOk prog W A ad hT c (.callB b f fp xs p):=by
  intro g st w s E Q Qa had hhT ha R k
  conv at ha=>whnf
  split at ha
  · rename_i hb
    rw [Bool.and_eq_true,beq_is] at hb
    have e1:=of_decide_eq_true hb.2
    subst e1
    refine call_toE (bui_sound R (hhT ▸ L.nsg) (hhT ▸ L.nsb) hb.1 (L.bi b).1 (L.bi b).2 ⟨rfl,rfl⟩) (hx had hhT ha R fun w1 vs st1 h1 tk1 ys S1 R1 r1 q1=>⟨?_,?_⟩)
    · cases b <;> first | exact keeps_builtin _ | exact keeps_type _
    · split at q1
      · rename_i r e
        exact callB_sound (s:={ s with heap:=h1,toks:=tk1 }) e R1 rm.hd r1 fun w2 h2 tk2 y S2 R2 r2=>k w2 (.d r) _ h2 tk2 y (S1.trans S2) R2 r2 q1
      · exact absurd q1 L.F
  · exact absurd ha L.F
theorem callM_ok (L : Lib prog W K ad hT mg mb c d) (rm : Rm A d) {o : X} {n : Nat} {op p : Pos} {xs : XL} (ho : XOk prog W A ad hT c o) (hx : XsOk prog W A ad hT c xs) : XOk prog W A ad hT c (.callM o n op xs p):=by
  intro g st w s E Q Qa had hhT ha R k
  conv at ha=>whnf
  obtain ⟨hb,ha⟩:=bif_prop ha L.F
  rw [Bool.and_eq_true] at hb
  refine method_toE hb.1 (Nat.lt_succ_of_le (Nat.le_of_ble_eq_true hb.2)) (ho had hhT ha R fun w1 vo st1 h1 tk1 v1 S1 R1 r1 q1 pl=>?_)
  split at q1
  · rename_i q cs e
    refine ns_own (s:={ s with heap:=h1,toks:=tk1 }) (hhT ▸ L.X) (fun n=>had ▸ L.cls n) e R1 r1 fun tk2 fv rv=>?_
    refine callWith_toEs (first:=[]) (hx (s:={ s with heap:=h1,toks:=tk2 }) had hhT q1 R1 fun w3 vs st3 h3 tk3 ys S3 R3 r3 q3=>?_)
    split at q3
    · rename_i ds e3
      split at q3
      · rename_i r e4
        have rv:=Rep.mono g.ok S3.one rv
        cases rv with
        | clo c1 c2 =>
          have S:=S1.trans S3
          have hd : ∀ h' tk τ' y,Grew h3 w3.τ h' τ' → Rep g.ad τ' r y → Q y { s with heap:=h',toks:=tk }:=fun h' tk τ' y G ry=>by
            obtain ⟨S4,R4,hs⟩:=R3.grew G
            exact k _ (.d r) _ h' tk y (S.trans S4) R4 (ry.mono g.ok hs) q3
          have C : CloV prog W g.ad g.hT d q fv cs ds r:=by rw [had,hhT]; exact L.clo q fv cs ds r e4
          unfold CloV at C
          exact C (s:={ s with heap:=h3,toks:=tk3 }) rm R3.top R3.fro c1 c2 (repL_of_allD e3 r3) hd
      · exact absurd q3 L.F
    · exact absurd q3 L.F
  · exact absurd q1 L.F
end
end Mine
end
section
open PySem.Spec
namespace Mine
section
variable {prog : Program} {W : World} {K : Frag} {ad : Ad} {hT : Heap} {mg mb : Str → Option Value} {c : Cfg Prop} {d : Nat} {A : Around} {env : Env}
theorem args1 {x : X} {pos : Pos} {E : Value → Shared → Prop} {s : Shared} {Q : List Value → Shared → Prop} (h : wpAny (model prog W) A (eval (toE x) env) (fun v s₁=>Q [v] s₁) E s) : ArgsTo prog W A env pos E (.cons x .nil) Q s :=
  spliced_toEs_cons (wpAny_mono h (fun _ _ z=>wpAny_items_nil z) fun _ _ z=>z)
theorem args2 {x y : X} {pos : Pos} {E : Value → Shared → Prop} {s : Shared} {Q : List Value → Shared → Prop} (h : wpAny (model prog W) A (eval (toE x) env) (fun v s₁=>wpAny (model prog W) A (eval (toE y) env) (fun u s₂=>Q [v,u] s₂) E s₁) E s) :
    ArgsTo prog W A env pos E (.cons x (.cons y .nil)) Q s :=
  spliced_toEs_cons (wpAny_mono h (fun _ _ z=>spliced_toEs_cons (wpAny_mono z (fun _ _ z=>wpAny_items_nil z) fun _ _ z=>z)) fun _ _ z=>z)
theorem app_ok (hF : ¬ c.F) {a v : X} {op p : Pos} (hx : XOk prog W A ad hT c a) (hy : XOk prog W A ad hT c v) : XOk prog W A ad hT c (.app a v op p):=by
  intro g st w s E Q Qa had hhT ha R k
  conv at ha=>whnf
  obtain ⟨hb,ha⟩:=bif_prop ha hF
  refine method_toE (xs:=.cons v .nil) hb (by simp [XL.len]) (hx had hhT ha R fun w1 va st1 h1 tk1 v1 S1 R1 r1 q1 pl=>?_)
  split at q1
  · rename_i n
    split at q1
    · rename_i vs0 hc
      refine append_method (s:={ s with heap:=h1,toks:=tk1 }) R1 hc r1 (callWith_toEs (first:=[v1]) (args1 (hy had hhT q1 R1 fun w2 u st2 h2 tk2 v2 S2 R2 r2 q2=>⟨keeps_builtin _,?_⟩)))
      split at q2
      · rename_i vs hc2
        obtain ⟨hz,q2⟩:=bif_prop q2 hF
        exact app_sound (s:={ s with heap:=h2,toks:=tk2 }) R2 hc2 (of_decide_eq_true hz) (r1.mono g.ok S2.le) r2 fun h3 S3 R3=>k w2 (.d .none) _ h3 tk2 _ ((S1.trans S2).trans S3) R3 Rep.none q2
      · exact absurd q2 hF
    · exact absurd q1 hF
  · exact absurd q1 hF
theorem pop_ok (hF : ¬ c.F) {a i : X} {op p : Pos} (hx : XOk prog W A ad hT c a) (hy : XOk prog W A ad hT c i) : XOk prog W A ad hT c (.pop a i op p):=by
  intro g st w s E Q Qa had hhT ha R k
  conv at ha=>whnf
  obtain ⟨hb,ha⟩:=bif_prop ha hF
  refine method_toE (xs:=.cons i .nil) hb (by simp [XL.len]) (hx had hhT ha R fun w1 va st1 h1 tk1 v1 S1 R1 r1 q1 pl=>?_)
  split at q1
  · rename_i n
    split at q1
    · rename_i vs0 hc
      refine pop_method (s:={ s with heap:=h1,toks:=tk1 }) R1 hc r1 (callWith_toEs (first:=[v1]) (args1 (hy had hhT q1 R1 fun w2 u st2 h2 tk2 v2 S2 R2 r2 q2=>⟨keeps_builtin _,?_⟩)))
      split at q2
      · rename_i ii
        split at q2
        · rename_i vs j hc2 hj
          split at q2
          · rename_i r hr
            obtain ⟨hz,q2⟩:=bif_prop q2 hF
            exact pop_sound (s:={ s with heap:=h2,toks:=tk2 }) R2 hc2 (of_decide_eq_true hz) hj hr (r1.mono g.ok S2.le) r2 fun h3 v S3 R3 rv=>k w2 r _ h3 tk2 v ((S1.trans S2).trans S3) R3 rv q2
          · exact absurd q2 hF
        · exact absurd q2 hF
      · exact absurd q2 hF
    · exact absurd q1 hF
  · exact absurd q1 hF
theorem get_ok (L : Lib prog W K ad hT mg mb c d) {a q e : X} {op p : Pos} (hx : XOk prog W A ad hT c a) (hq : XOk prog W A ad hT c q) (he : XOk prog W A ad hT c e) : XOk prog W A ad hT c (.get a q e op p):=by
  intro g st w s E Q Qa had hhT ha R k
  conv at ha=>whnf
  obtain ⟨hb,ha⟩:=bif_prop ha L.F
  refine method_toE (xs:=.cons q (.cons e .nil)) hb (by simp [XL.len]) (hx had hhT ha R fun w1 va st1 h1 tk1 v1 S1 R1 r1 q1 pl=>?_)
  split at q1
  · rename_i ks xs
    refine get_method (s:={ s with heap:=h1,toks:=tk1 }) (had ▸ L.dk) R1 r1 (callWith_toEs (first:=[v1]) (args2 (hq had hhT q1 R1 fun w2 u st2 h2 tk2 v2 S2 R2 r2 q2=>?_)))
    split at q2
    · rename_i x
      refine he (s:={ s with heap:=h2,toks:=tk2 }) had hhT q2 R2 fun w3 u st3 h3 tk3 v3 S3 R3 r3 q3=>⟨keeps_builtin _,?_⟩
      split at q3
      · rename_i dd
        have S:=S2.trans S3
        refine get_sound (s:={ s with heap:=h3,toks:=tk3 }) (had ▸ L.dk) R3 (Rep.mono g.ok S.one r1) (Rep.mono g.ok S3.one r2) r3 (r:=match kfind ks xs x with | some r=>r | none=>dd) ?_ fun tk v rv=>k w3 (.d _) _ h3 tk v (S1.trans S) R3 rv q3
        cases kfind ks xs x <;> rfl
      · exact absurd q3 L.F
    · exact absurd q2 L.F
  · exact absurd q1 L.F
theorem nil_ok : XsOk prog W A ad hT c .nil:=by
  intro g st w s E pos Q Qa had hhT ha R k
  conv at ha=>whnf
  exact k w [] st s.heap s.toks [] (.refl w _) R .nil ha
theorem cons_ok {x : X} {r : XL} (hx : XOk prog W A ad hT c x) (hr : XsOk prog W A ad hT c r) : XsOk prog W A ad hT c (.cons x r):=by
  intro g st w s E pos Q Qa had hhT ha R k
  conv at ha=>whnf
  refine spliced_toEs_cons (hx had hhT ha R fun w1 v st1 h1 tk1 y S1 R1 r1 q1=>?_)
  refine (hr (s:={ s with heap:=h1,toks:=tk1 }) (Q:=fun vs s₂=>Q (y :: vs) s₂) had hhT q1 R1 fun w2 vs st2 h2 tk2 ys S2 R2 r2 q2=>?_).wp
  exact k w2 _ st2 h2 tk2 _ (S1.trans S2) R2 (.cons (r1.mono g.ok S2.le) r2) q2
theorem pnil_ok : PsOk prog W A ad hT c .nil:=by
  intro g st w s E pos Q Qa ks hl had hhT ha R k
  conv at ha=>whnf
  cases ks with
  | nil=>exact pairTrees_nil_walk (k w [] st s.heap s.toks [] (.refl w _) R rfl rfl .nil ha)
  | cons _ _=>simp [XL.len] at hl
theorem pcons_ok {x : X} {r : XL} (hx : XOk prog W A ad hT c x) (hr : PsOk prog W A ad hT c r) : PsOk prog W A ad hT c (.cons x r):=by
  intro g st w s E pos Q Qa ks hl had hhT ha R k
  conv at ha=>whnf
  cases ks with
  | nil=>simp [XL.len] at hl
  | cons kk ks =>
    refine pairTrees_cons_walk (wpAny_Constant_str ?_)
    refine hx (s:={ s with toks:=s.toks + 1 }) had hhT ha R fun w1 v st1 h1 tk1 y S1 R1 r1 q1=>?_
    refine hr (s:={ s with heap:=h1,toks:=tk1 }) ks (by simpa [XL.len] using hl) had hhT q1 R1 fun w2 vs st2 h2 tk2 kvs S2 R2 e1 e2 r2 q2=>?_
    refine k w2 _ st2 h2 tk2 _ (S1.trans S2) R2 (by unfold allStrKeys; exact e1) ?_ ?_ q2
    · show strOf kk.1 :: (strPairs kvs).map (·.1) = _
      rw [e2]; rfl
    · exact .cons (r1.mono g.ok S2.le) r2
theorem bnil_ok (hF : ¬ c.F) : BsOk prog W A ad hT c .nil:=by
  intro g st w s E pos op Q Qa had hhT ha R k
  conv at ha=>whnf
  exact absurd ha hF
theorem bone_ok {x : X} (hx : XOk prog W A ad hT c x) : BsOk prog W A ad hT c (.cons x .nil):=by
  intro g st w s E pos op Q Qa had hhT ha R k
  conv at ha=>whnf
  exact hx had hhT ha R k
theorem bcons_ok (hF : ¬ c.F) {x y : X} {r : XL} (hx : XOk prog W A ad hT c x) (hr : BsOk prog W A ad hT c (.cons y r)) : BsOk prog W A ad hT c (.cons x (.cons y r)):=by
  intro g st w s E pos op Q Qa had hhT ha R k
  conv at ha=>whnf
  have e0 : boolOp pos op (evalEach (toEs (.cons x (.cons y r))) g.env) = (do
      let v ← eval (toE x) g.env
      standAt pos
      let t ← holding [v] (truthy v)
      match op,t with
      | .And,false | .Or,true=>pure v
      | _,_=>boolOp pos op (evalEach (toEs (.cons y r)) g.env)):=rfl
  rw [e0]
  refine wpAny_bind (hx had hhT ha R fun w1 v st1 h1 tk1 u S1 R1 r1 q1=>wpAny_bind (wpAny_standAt (wpAny_bind (wpAny_holding ?_))))
  split at q1
  · exact absurd q1 hF
  · rename_i b e
    refine truV_sound (s:={ s with heap:=h1,toks:=tk1 }) e r1 ?_
    cases op <;> cases b
    · exact wpAny_pure (k w1 v st1 h1 tk1 u S1 R1 r1 q1)
    · exact hr had hhT q1 R1 (k.step S1)
    · exact hr had hhT q1 R1 (k.step S1)
    · exact wpAny_pure (k w1 v st1 h1 tk1 u S1 R1 r1 q1)
theorem tnil_ok : TsOk prog W A ad hT c .nil:=by
  intro g st w s E op Q Qa had hhT ha R k
  conv at ha=>whnf
  cases op
  · exact wpAny_pure (k w true st s.heap s.toks (.refl w _) R ha)
  · exact wpAny_pure (k w false st s.heap s.toks (.refl w _) R ha)
theorem tcons_ok {x : X} {r : XL} (hx : TOk prog W A ad hT c x) (hr : TsOk prog W A ad hT c r) : TsOk prog W A ad hT c (.cons x r):=by
  intro g st w s E op Q Qa had hhT ha R k
  conv at ha=>whnf
  have go : ∀ {op : BoolOp} {w1 : Wd} {st1 : St} {h1 : Heap} {tk1 : Nat},aTs c op r st1 Qa → Stp w s.heap w1 h1 → Rel g w1 st1 h1 → wpAny (model prog W) A (allTrue op (toEs r) g.env) Q E { s with heap:=h1,toks:=tk1 }:=fun q S R1 =>
    hr (s:={ s with heap:=_,toks:=_ }) had hhT q R1 fun w2 b st2 h2 tk2 S2 R2 q2=>k w2 b st2 h2 tk2 (S.trans S2) R2 q2
  cases op
  · refine wpAny_allTrue_And_cons (hx had hhT ha R fun w1 b st1 h1 tk1 S1 R1 q1=>?_)
    cases b
    · exact k w1 false st1 h1 tk1 S1 R1 q1
    · exact go q1 S1 R1
  · refine wpAny_allTrue_Or_cons (hx had hhT ha R fun w1 b st1 h1 tk1 S1 R1 q1=>?_)
    cases b
    · exact go q1 S1 R1
    · exact k w1 true st1 h1 tk1 S1 R1 q1
theorem bop_ok {op : BoolOp} {xs : XL} {p : Pos} (hx : BsOk prog W A ad hT c xs) : XOk prog W A ad hT c (.bop op xs p):=by
  intro g st w s E Q Qa had hhT ha R k
  conv at ha=>whnf
  exact hx had hhT ha R k
theorem ono_ok : OOk prog W A ad hT c .no:=by
  intro g st w s E Q Qa had hhT ha R k
  conv at ha=>whnf
  exact wpAny_pure (k w none st s.heap s.toks .none (.refl w _) R .none ha)
theorem oyes_ok (hF : ¬ c.F) {x : X} (hx : XOk prog W A ad hT c x) : OOk prog W A ad hT c (.yes x):=by
  intro g st w s E Q Qa had hhT ha R k
  conv at ha=>whnf
  refine hx had hhT ha R fun w1 v st1 h1 tk1 u S1 R1 r1 q1=>?_
  split at q1
  · exact k w1 _ st1 h1 tk1 u S1 R1 (.some r1) q1
  · exact absurd q1 hF
theorem tbop_ok {op : BoolOp} {xs : XL} {p : Pos} (hx : TsOk prog W A ad hT c xs) : TOk prog W A ad hT c (.bop op xs p):=by
  intro g st w s E Q Qa had hhT ha R k
  conv at ha=>whnf
  exact wpAny_isTrue_BoolOp (hx had hhT ha R k)
theorem tnot_ok {a : X} {p : Pos} (hx : TOk prog W A ad hT c a) : TOk prog W A ad hT c (.not a p):=by
  intro g st w s E Q Qa had hhT ha R k
  conv at ha=>whnf
  exact wpAny_isTrue_Not (hx had hhT ha R fun w1 b st1 h1 tk1 S1 R1 q1=>k w1 (!b) st1 h1 tk1 S1 R1 q1)
theorem tcmp_ok (hF : ¬ c.F) (rm : Rm A d) {op : CmpOp} {a b : X} {p : Pos} (hx : XOk prog W A ad hT c a) (hy : XOk prog W A ad hT c b) : TOk prog W A ad hT c (.cmp op a b p):=by
  intro g st w s E Q Qa had hhT ha R k
  conv at ha=>whnf
  refine wpAny_isTrue_Compare1 (hx had hhT ha R fun w1 va st1 h1 tk1 v1 S1 R1 r1 q1=>hy had hhT q1 R1 fun w2 vb st2 h2 tk2 v2 S2 R2 r2 q2=>?_) (toE_behind b op)
  have S:=S1.trans S2
  split at q2
  · rename_i x y
    split at q2
    · rename_i r e
      exact cmpD_sound (g:=g) rm e R2.fro (Rep.mono g.ok S2.le.one r1) r2 fun tk=>wpAny_truthy_bool (k w2 r _ h2 tk S R2 q2)
    · exact absurd q2 hF
  · rename_i x n
    split at q2
    · rename_i vs hc
      split at q2
      · rename_i ds hd
        split at q2
        · split at q2
          · rename_i r e
            exact cmpC_sound (s:={ s with heap:=h2,toks:=tk2 }) rm hc hd e R2 (Rep.mono g.ok S2.le.one r1) r2 fun tk=>wpAny_truthy_bool (k w2 r _ h2 tk S R2 q2)
          · exact absurd q2 hF
        · split at q2
          · rename_i r e
            exact cmpC_sound (s:={ s with heap:=h2,toks:=tk2 }) rm hc hd e R2 (Rep.mono g.ok S2.le.one r1) r2 fun tk=>wpAny_truthy_bool (k w2 r _ h2 tk S R2 q2)
          · exact absurd q2 hF
        · exact absurd q2 hF
      · exact absurd q2 hF
    · exact absurd q2 hF
  · exact absurd q2 hF
theorem tval_ok {x : X} (hx : XOk prog W A ad hT c x) (hF : ¬ c.F) (hsame : ∀ (st : St) (Qa : Bool → St → Prop),aT c x st Qa → aX c x st fun v st=>match truV v with | some b=>Qa b st | none=>c.F) (he : ∀ env,isTrue (toE x) env (eval (toE x) env) = (do let v ← eval (toE x) env; standAt (toE x).pos; holding [v] (truthy v))) :
    TOk prog W A ad hT c x:=by
  intro g st w s E Q Qa had hhT ha R k
  refine wpAny_isTrue_value (hx had hhT (hsame _ _ ha) R fun w1 v st1 h1 tk1 u S1 R1 r1 q1=>?_) (he _)
  split at q1
  · rename_i b e
    exact truV_sound (s:={ s with heap:=h1,toks:=tk1 }) e r1 (k w1 b st1 h1 tk1 S1 R1 q1)
  · exact absurd q1 hF
theorem tloc_ok (hF : ¬ c.F) {n : Nat} {p : Pos} (hx : XOk prog W A ad hT c (.loc n p)) : TOk prog W A ad hT c (.loc n p):=by
  refine tval_ok hx hF (fun st Qa h=>?_) fun _=>rfl
  conv at h=>whnf
  conv=>whnf
  exact h
theorem tatt_ok (hF : ¬ c.F) {a : X} {n : Nat} {p : Pos} (hx : XOk prog W A ad hT c (.att a n p)) : TOk prog W A ad hT c (.att a n p):=by
  refine tval_ok hx hF (fun st Qa h=>?_) fun _=>rfl
  conv at h=>whnf
  conv=>whnf
  exact h
theorem tcallU_ok (hF : ¬ c.F) {f : Nat} {fp p : Pos} {xs : XL} (hx : XOk prog W A ad hT c (.callU f fp xs p)) : TOk prog W A ad hT c (.callU f fp xs p):=by
  refine tval_ok hx hF (fun st Qa h=>?_) fun _=>rfl
  conv at h=>whnf
  conv=>whnf
  exact h
end
end Mine
end
section
open PySem.Spec
namespace Mine
section
variable {prog : Program} {W : World} {K : Frag} {ad : Ad} {hT : Heap} {mg mb : Str → Option Value} {c : Cfg Prop} {d : Nat} {A : Around} {env : Env}
theorem push_alive {h : Heap} {o o' : Obj} (e : (h.push o).get? h.objs.size = some o') : o.isFreed = false:=by
  obtain ⟨a,b⟩:=Heap.get?_some_iff.mp e
  have : o = o':=by simpa [Heap.push] using a
  rw [this]; exact b
theorem nm_range : nm 193 = Str.ofString "range":=by decide +kernel
theorem it_ok (L : Lib prog W K ad hT mg mb c d) (rm : Rm A d) {r : Bool} {it : X} {fp ip : Pos} {g : Act} {st : St} {w : Wd} {s : Shared} {E : Value → Shared → Prop} {Q : Value → Shared → Prop} {Qa : List D → St → Prop} (hx : XOk prog W A ad hT c it) (had : g.ad = ad) (hhT : g.hT = hT)
    (hr : (!r || mem st.gl 193) = true)
    (ha : aX c it st fun vi st=>match vi with
      | .c _=>c.F
      | .d di=>match (match r with | true=>rngD di | false=>itemsV di) with
        | none=>c.F
        | some ds=>Qa ds st) (R : Rel g w st s.heap)
    (k : ∀ w' ds st' hb oI tk,Stp w s.heap w' hb → Rel g w' st' hb → oI.isFreed = false → Iter prog W A g.ad w' hb.objs.size ds 0 (hb.push oI) → Qa ds st' → Q (.ref hb.objs.size) { s with heap:=hb.push oI,toks:=tk }) :
    wpAny (model prog W) A (eval (itE r fp it ip) g.env) (fun x s₁=>wpAny (model prog W) A (pyIter x) Q E s₁) E s:=by
  cases r with
  | false =>
    refine hx had hhT ha R fun w1 v st1 h1 tk1 u S1 R1 r1 q1=>?_
    cases v with
    | c _=>exact absurd q1 L.F
    | d di =>
      dsimp only at q1
      cases e : itemsV di with
      | none=>rw [e] at q1; exact absurd q1 L.F
      | some ds =>
        rw [e] at q1
        refine iter_start (s:={ s with heap:=h1,toks:=tk1 }) rm.hd e R1 r1 fun o it2=>?_
        obtain ⟨o',_,e',_⟩:=it2.quiet
        exact k w1 ds st1 h1 o tk1 S1 R1 (push_alive e') it2 q1
  | true =>
    rw [show itE true fp it ip = .Call (.Name (nm 193) fp) (toEs (.cons it .nil)) [] ip by unfold itE; rw [nm_range]; rfl]
    refine call_toE (bui_sound R (hhT ▸ L.nsg) (hhT ▸ L.nsb) hr L.rng.1 L.rng.2 ⟨rfl,rfl⟩) (args1 (hx had hhT ha R fun w1 v st1 h1 tk1 u S1 R1 r1 q1=>⟨keeps_type _,?_⟩))
    cases v with
    | c _=>exact absurd q1 L.F
    | d di =>
      dsimp only at q1
      cases e : rngD di with
      | none=>rw [e] at q1; exact absurd q1 L.F
      | some ds =>
        rw [e] at q1
        refine range_start (s:={ s with heap:=h1,toks:=tk1 }) rm.hd e r1 fun o o' tk2 it2=>?_
        have sz : (h1.push o).objs.size = h1.objs.size + 1:=Heap.size_push ..
        obtain ⟨o'',_,e',_⟩:=it2.quiet
        dsimp only at it2 e' ⊢
        rw [← sz] at it2 e' ⊢
        exact k w1 ds st1 (h1.push o) o' tk2 (S1.trans (Stp.push w1 h1 o)) (R1.push o) (push_alive e') it2 q1
theorem clo_of {g : Act} {w : Wd} {st : St} {h : Heap} (R : Rel g w st h) {ci : CI} (ok : CIOk ci) (hf : frsIn ci.frs st.cel = true) :
    ∃ cl,closureFor (scOf ci.kinds []) g.env = pure cl ∧ ∀ n,(n,NameKind.free) ∈ (scOf ci.kinds []).names → cl.lookup n = g.env.cells.lookup n :=
  closureFor_is fun x hx e=>by
    obtain ⟨n,hn,e2⟩:=ok.fr' x hx e
    obtain ⟨c,_,b,_⟩:=R.cel n (frsIn_mem hf n hn)
    rw [e2]; exact ⟨c,b⟩
theorem comp_ok (L : Lib prog W K ad hT mg mb c d) (rm : Rm A d) {m r : Bool} {elt it : X} {t ci : Nat} {tp fp ip p : Pos} (hx : XOk prog W A ad hT c elt) (hi : XOk prog W A ad hT c it) : XOk prog W A ad hT c (.comp m elt t tp r fp it ip ci p):=by
  intro g st w s E Q Qa had hhT ha R k
  conv at ha=>whnf
  obtain ⟨hb,ha⟩:=bif_prop ha L.F
  rw [Bool.and_eq_true] at hb
  have ok:=CIOk.of (ci_ok ci)
  obtain ⟨cl,hcl,hcl'⟩:=clo_of R ok hb.1
  have e0 : toE (.comp m elt t tp r fp it ip ci p) = .ListComp (toE elt) [⟨.Name (nm t) tp,itE r fp it ip,[],0⟩] (scOf (ciOf ci).kinds []) p:=by cases r <;> rfl
  rw [e0,eval_ListComp]
  refine wpAny_comprehension_free (use:=none) rfl (fold_itE r fp it ip g.env) hcl rfl ok.loc ?_
  refine it_ok L rm (Qa:=fun ds st1=>_) hi had hhT hb.2 ha R fun w1 ds st1 hbb oI tk1 S1 R1 hfo it1 q1=>?_
  obtain ⟨hb2,q1⟩:=bif_prop q1 L.F
  rw [Bool.and_eq_true,Bool.and_eq_true] at hb2
  refine comp_frame (s:={ s with heap:=hbb.push oI,toks:=tk1 }) (elt:=toE elt) had hhT ok R1 hb2.1.2 hcl' rfl hfo it1 (loop_one hx rm.hd L.F (of_decide_eq_true hb2.2) q1) fun w3 st2 acc h3 tk3 xs kk S3 R3 f3 o3 rv hz hK=>?_
  have S:=S1.trans S3
  have hD : g.h0.objs.size ≤ hbb.objs.size + 1:=Nat.le_succ_of_le R1.size
  cases m with
  | true =>
    obtain ⟨w4,l4,out4,R4,r4⟩:=R3.newCt (as:=[hbb.objs.size + 1]) (a:=hbb.objs.size + 1) (c:=.lst acc) (fun b hb=>by rw [List.mem_singleton.mp hb]; exact ⟨f3,hD,_,o3⟩)
      fun w' l h1 h2=>.lst h2 (h1 _ (.head _)) o3 (rv.mono g.ok l)
    refine k w4 _ _ h3 tk3 _ ⟨S.le.trans l4,fun b o e q=>?_⟩ R4 r4 hK
    have z1:=S1.kept b o e q
    have z3:=S3.kept b o z1.2 z1.1
    exact ⟨z3.1,(out4 b (by rw [List.mem_singleton]; exact Nat.ne_of_lt (Nat.lt_succ_of_lt (Heap.lt_size z1.1)))).trans z3.2⟩
  | false =>
    dsimp only at hK
    split at hK
    · rename_i ds' e
      obtain ⟨l4,R4⟩:=R3.newFroAt f3 hD o3
      refine k _ (.d (.lst ds')) _ h3 tk3 _ ⟨S.le.trans l4,fun b o e q=>?_⟩ R4 (Rep.lst Wd.setτ_eq ((repL_of_allD e rv).mono g.ok l4.one)) hK
      have z1:=S1.kept b o e q
      have z3:=S3.kept b o z1.2 z1.1
      exact ⟨z3.1,(Wd.setτ_ne (Nat.ne_of_lt (Nat.lt_succ_of_lt (Heap.lt_size z1.1)))).trans z3.2⟩
    · exact absurd hK L.F
theorem comp2_ok (L : Lib prog W K ad hT mg mb c d) (rm : Rm A d) {elt it iu : X} {t u ci : Nat} {tp up p : Pos} (hx : XOk prog W A ad hT c elt) (hi : XOk prog W A ad hT c it) (hu : XOk prog W A ad hT c iu) : XOk prog W A ad hT c (.comp2 elt t tp it u up iu ci p):=by
  intro g st w s E Q Qa had hhT ha R k
  conv at ha=>whnf
  obtain ⟨hb,ha⟩:=bif_prop ha L.F
  have ok:=CIOk.of (ci_ok ci)
  obtain ⟨cl,hcl,hcl'⟩:=clo_of R ok hb
  have e0 : toE (.comp2 elt t tp it u up iu ci p) = .ListComp (toE elt) [⟨.Name (nm t) tp,toE it,[],0⟩,⟨.Name (nm u) up,toE iu,[],0⟩] (scOf (ciOf ci).kinds []) p:=rfl
  rw [e0,eval_ListComp]
  refine wpAny_comprehension_free (use:=none) rfl (fold_toE it g.env) hcl rfl ok.loc ?_
  refine it_ok L rm (r:=false) (fp:=p) (ip:=p) (Qa:=fun ds st1=>_) hi had hhT rfl ha R fun w1 ds st1 hbb oI tk1 S1 R1 hfo it1 q1=>?_
  obtain ⟨hb2,q1⟩:=bif_prop q1 L.F
  rw [Bool.and_eq_true,Bool.and_eq_true,Bool.and_eq_true] at hb2
  refine comp_frame (s:={ s with heap:=hbb.push oI,toks:=tk1 }) (elt:=toE elt) had hhT ok R1 hb2.1.2 hcl' rfl hfo it1 (loop_two hx hu rm.hd L.F (of_decide_eq_true hb2.2) q1) fun w3 st2 acc h3 tk3 xs kk S3 R3 f3 o3 rv hz hK=>?_
  have S:=S1.trans S3
  have hD : g.h0.objs.size ≤ hbb.objs.size + 1:=Nat.le_succ_of_le R1.size
  split at hK
  · rename_i ds' e
    obtain ⟨l4,R4⟩:=R3.newFroAt f3 hD o3
    refine k _ (.d (.lst ds')) _ h3 tk3 _ ⟨S.le.trans l4,fun b o e q=>?_⟩ R4 (Rep.lst Wd.setτ_eq ((repL_of_allD e rv).mono g.ok l4.one)) hK
    have z1:=S1.kept b o e q
    have z3:=S3.kept b o z1.2 z1.1
    exact ⟨z3.1,(Wd.setτ_ne (Nat.ne_of_lt (Nat.lt_succ_of_lt (Heap.lt_size z1.1)))).trans z3.2⟩
  · exact absurd hK L.F
end
end Mine
end
section
open PySem.Spec
namespace Mine
section
variable {prog : Program} {W : World} {K : Frag} {ad : Ad} {hT : Heap} {mg mb : Str → Option Value} {c : Cfg Prop} {d : Nat} {A : Around}
theorem tno_ok (hF : ¬ c.F) {x : X} (h : ∀ st (Qa : Bool → St → Prop),aT c x st Qa = c.F) : TOk prog W A ad hT c x:=by
  intro g st w s E Q Qa had hhT ha R k
  rw [h] at ha
  exact absurd ha hF
mutual
theorem aX_ok (L : Lib prog W K ad hT mg mb c d) (rm : Rm A d) : ∀ x : X,XOk prog W A ad hT c x
  | .cnone _=>cnone_ok
  | .cbool _ _=>cbool_ok
  | .cint _ _=>cint_ok
  | .cstr _ _=>cstr_ok
  | .loc _ _=>loc_ok L.F
  | .cel _ _=>cel_ok L.F
  | .glo _ _=>glo_ok L
  | .frL _ _=>frL_ok L.F
  | .frC _ _=>frC_ok L.F
  | .frz x=>frz_ok L.F (aX_ok L rm x)
  | .bin _ a b _=>bin_ok L.F (aX_ok L rm a) (aX_ok L rm b)
  | .rep a b _=>rep_ok L.F (aX_ok L rm a) (aX_ok L rm b)
  | .cmp _ a b _=>cmp_ok L.F rm (aX_ok L rm a) (aX_ok L rm b)
  | .bop _ xs _=>bop_ok (aB_ok L rm xs)
  | .not a _=>not_ok L.F (aX_ok L rm a)
  | .neg a _=>neg_ok L.F (aX_ok L rm a)
  | .ite t a b _=>ite_ok (aT_ok L rm t) (aX_ok L rm a) (aX_ok L rm b)
  | .tup xs _=>tup_ok L.F (aXs_ok L rm xs)
  | .lst false xs _=>lstF_ok L.F (aXs_ok L rm xs)
  | .lst true xs _=>lstT_ok L.F (aXs_ok L rm xs)
  | .dic _ xs _=>dic_ok L (aPs_ok L rm xs)
  | .sub a i _=>sub_ok L (aX_ok L rm a) (aX_ok L rm i)
  | .slc a lo hi _ _=>slc_ok L.F (aX_ok L rm a) (aO_ok L rm lo) (aO_ok L rm hi)
  | .att a _ _=>att_ok L (aX_ok L rm a)
  | .callU _ _ xs _=>callU_ok L rm (aXs_ok L rm xs)
  | .callB _ _ _ xs _=>callB_ok L rm (aXs_ok L rm xs)
  | .callM o _ _ xs _=>callM_ok L rm (aX_ok L rm o) (aXs_ok L rm xs)
  | .app a v _ _=>app_ok L.F (aX_ok L rm a) (aX_ok L rm v)
  | .pop a i _ _=>pop_ok L.F (aX_ok L rm a) (aX_ok L rm i)
  | .get a q e _ _=>get_ok L (aX_ok L rm a) (aX_ok L rm q) (aX_ok L rm e)
  | .comp _ elt _ _ _ _ it _ _ _=>comp_ok L rm (aX_ok L rm elt) (aX_ok L rm it)
  | .comp2 elt _ _ it _ _ iu _ _=>comp2_ok L rm (aX_ok L rm elt) (aX_ok L rm it) (aX_ok L rm iu)
theorem aO_ok (L : Lib prog W K ad hT mg mb c d) (rm : Rm A d) : ∀ x : XO,OOk prog W A ad hT c x
  | .no=>ono_ok
  | .yes x=>oyes_ok L.F (aX_ok L rm x)
theorem aXs_ok (L : Lib prog W K ad hT mg mb c d) (rm : Rm A d) : ∀ x : XL,XsOk prog W A ad hT c x
  | .nil=>nil_ok
  | .cons x r=>cons_ok (aX_ok L rm x) (aXs_ok L rm r)
theorem aPs_ok (L : Lib prog W K ad hT mg mb c d) (rm : Rm A d) : ∀ x : XL,PsOk prog W A ad hT c x
  | .nil=>pnil_ok
  | .cons x r=>pcons_ok (aX_ok L rm x) (aPs_ok L rm r)
theorem aB_ok (L : Lib prog W K ad hT mg mb c d) (rm : Rm A d) : ∀ x : XL,BsOk prog W A ad hT c x
  | .nil=>bnil_ok L.F
  | .cons x .nil=>bone_ok (aX_ok L rm x)
  | .cons x (.cons y r)=>bcons_ok L.F (aX_ok L rm x) (aB_ok L rm (.cons y r))
theorem aT_ok (L : Lib prog W K ad hT mg mb c d) (rm : Rm A d) : ∀ x : X,TOk prog W A ad hT c x
  | .bop _ xs _=>tbop_ok (aTs_ok L rm xs)
  | .not a _=>tnot_ok (aT_ok L rm a)
  | .cmp _ a b _=>tcmp_ok L.F rm (aX_ok L rm a) (aX_ok L rm b)
  | .loc n p=>tloc_ok L.F (loc_ok L.F)
  | .att a n p=>tatt_ok L.F (att_ok L (aX_ok L rm a))
  | .callU f fp xs p=>tcallU_ok L.F (callU_ok L rm (aXs_ok L rm xs))
  | .cnone _=>tno_ok L.F fun _ _=>rfl
  | .cbool _ _=>tno_ok L.F fun _ _=>rfl
  | .cint _ _=>tno_ok L.F fun _ _=>rfl
  | .cstr _ _=>tno_ok L.F fun _ _=>rfl
  | .cel _ _=>tno_ok L.F fun _ _=>rfl
  | .glo _ _=>tno_ok L.F fun _ _=>rfl
  | .frL _ _=>tno_ok L.F fun _ _=>rfl
  | .frC _ _=>tno_ok L.F fun _ _=>rfl
  | .frz _=>tno_ok L.F fun _ _=>rfl
  | .bin ..=>tno_ok L.F fun _ _=>rfl
  | .rep ..=>tno_ok L.F fun _ _=>rfl
  | .neg ..=>tno_ok L.F fun _ _=>rfl
  | .ite ..=>tno_ok L.F fun _ _=>rfl
  | .tup ..=>tno_ok L.F fun _ _=>rfl
  | .lst ..=>tno_ok L.F fun _ _=>rfl
  | .dic ..=>tno_ok L.F fun _ _=>rfl
  | .sub ..=>tno_ok L.F fun _ _=>rfl
  | .slc ..=>tno_ok L.F fun _ _=>rfl
  | .callB ..=>tno_ok L.F fun _ _=>rfl
  | .callM ..=>tno_ok L.F fun _ _=>rfl
  | .app ..=>tno_ok L.F fun _ _=>rfl
  | .pop ..=>tno_ok L.F fun _ _=>rfl
  | .get ..=>tno_ok L.F fun _ _=>rfl
  | .comp ..=>tno_ok L.F fun _ _=>rfl
  | .comp2 ..=>tno_ok L.F fun _ _=>rfl
theorem aTs_ok (L : Lib prog W K ad hT mg mb c d) (rm : Rm A d) : ∀ x : XL,TsOk prog W A ad hT c x
  | .nil=>tnil_ok
  | .cons x r=>tcons_ok (aT_ok L rm x) (aTs_ok L rm r)
end
end
end Mine
end
section
open PySem.Spec
namespace Mine
section
variable {prog : Program} {W : World} {A : Around} {E : Value → Shared → Prop} {s : Shared} {g : Act} {w w' : Wd} {st st' : St} {d : Nat} {I : Addr} {ds : List D} {i : Nat} {h h' hb : Heap} {env : Env} {K : Frag} {ad : Ad} {hT : Heap} {mg mb : Str → Option Value} {c : Cfg Prop}
theorem draw_iter (R : Rel g w st s.heap) (hI : w.τ I = .free) : ∀ (n i : Nat) (h : Heap) (tk : Nat) (Q : List Value → Shared → Prop),Iter prog W A g.ad w I ds i h → (∀ a o,w.τ a = .fro o → h.get? a = some o) → i + n ≤ ds.length →
    (∀ h' tk' vs,Iter prog W A g.ad w I ds (i + n) h' → (∀ b o,b ≠ I → h.get? b = some o → h'.get? b = some o) → RepL g.ad w.τ ((ds.drop i).take n) vs → Q vs { s with heap:=h',toks:=tk' }) → wpAny (model prog W) A (draw (.ref I) n) Q E { s with heap:=h,toks:=tk }
  | 0,i,h,tk,Q,it,hf,_,k=>by
    show wpAny _ _ (pure []) Q E _
    refine wpAny_pure (k h tk [] it (fun _ _ _ e=>e) ?_)
    rw [List.take_zero]; exact .nil
  | n + 1,i,h,tk,Q,it,hf,hle,k=>by
    have hlt : i < ds.length:=by omega
    show wpAny _ _ (pyNext (.ref I) >>= _) Q E _
    refine wpAny_bind (it.next (g:=g) (s:={ s with heap:=h,toks:=tk }) (List.getElem?_eq_getElem hlt) hf hI fun v h1 tk1 rv it1 k1=>?_)
    have hf1 : ∀ a o,w.τ a = .fro o → h1.get? a = some o:=fun a o e=>k1 a o (by rintro rfl; rw [hI] at e; cases e) (hf a o e)
    refine wpAny_bind (wpAny_holding (draw_iter R hI n (i + 1) h1 tk1 _ it1 hf1 (by omega) fun h2 tk2 vs it2 k2 rvs=>wpAny_pure ?_))
    refine k h2 tk2 (v :: vs) (by rw [show i + (n + 1) = i + 1 + n by omega]; exact it2) (fun b o q e=>k2 b o q (k1 b o q e)) ?_
    rw [List.drop_eq_getElem_cons hlt,List.take_succ_cons]
    exact .cons rv rvs
theorem unpack_items {di : D} {xv : Value} {n : Nat} {Q : List Value → Shared → Prop} (hh : A.handled = none) (e : itemsV di = some ds) (hn : ds.length = n) (R : Rel g w st s.heap) (rx : Rep g.ad w.τ di xv)
    (k : ∀ h' tk vs,Stp w s.heap w h' → Rel g w st h' → RepL g.ad w.τ ds vs → Q vs { s with heap:=h',toks:=tk }) : wpAny (model prog W) A (unpackItems xv n none) Q E s:=by
  have main : ∀ o,Iter prog W A g.ad w s.heap.objs.size ds 0 (s.heap.push o) → wpAny (model prog W) A (do
      let items ← holding [.ref s.heap.objs.size] (draw (.ref s.heap.objs.size) n)
      if items.length < n then
        rule "unpack.too-few"; raiseError "ValueError" s!"not enough values to unpack (expected {n}, got {items.length})"
      if (← holding items (pyNext (.ref s.heap.objs.size))).isSome then
        rule "unpack.too-many"; raiseError "ValueError" s!"too many values to unpack (expected {n})"
      return items) Q E { s with heap:=s.heap.push o }:=by
    intro o it
    have hI : w.τ s.heap.objs.size = .free:=R.free (Nat.le_refl _)
    have R0 : Rel g w st (s.heap.push o):=R.push o
    refine wpAny_bind (wpAny_holding (draw_iter (s:={ s with heap:=s.heap.push o }) R0 hI n 0 (s.heap.push o) s.toks _ it R0.fro (by omega) fun h1 tk1 vs it1 k1 rvs=>?_))
    rw [List.drop_zero,List.take_of_length_le (by omega)] at rvs
    have hlen:=rvs.length
    rw [if_neg (by omega)]
    refine wpAny_bind (wpAny_holding (it1.done (g:=g) (s:={ s with heap:=h1,toks:=tk1 }) (by omega) fun h2 tk2 k2=>?_))
    have kk : ∀ b o',b ≠ s.heap.objs.size → s.heap.get? b = some o' → h2.get? b = some o':=fun b o' q e=>k2 b o' q (k1 b o' q (Heap.get?_push_of_some _ e))
    rw [if_neg (by simp)]
    refine wpAny_pure (k h2 tk2 vs ⟨.refl w,fun b o' z1 z2=>⟨kk b o' (Nat.ne_of_lt (Heap.lt_size z2)) z2,z1⟩⟩ (R.keeps fun b o' _ z2=>kk b o' (Nat.ne_of_lt (Heap.lt_size z2)) z2) rvs)
  have tail : ∀ {T : String} {id : String},s.TypeIs xv T → typeLookup (.type T) "__iter__" = pure (some (.builtin id)) → wpAny (model prog W) A (unpackItems xv n none) Q E s:=by
    intro T id hT hl
    unfold unpackItems notIterableAtAll
    refine wpAny_bind (wpAny_bind (wpAny_specialOf hT hl ?_))
    refine wpAny_pure ?_
    simp only [Bool.false_eq_true,if_false]
    refine wpAny_bind (wpAny_holding (iter_start hh e R rx fun o it=>?_))
    exact main o it
  cases di <;> unfold itemsV at e <;> cases e
  · cases rx with
    | tup a1 b1=>exact tail ⟨_,R.fro _ _ a1,rfl⟩ PySem.F.slot_tuple_iter.lookup
  · cases rx with
    | lst a1 b1=>exact tail (isList_of (R.fro _ _ a1)).typeIs slot_list_iter.lookup
end
end Mine
end
section
open PySem.Spec
namespace Mine
section
variable {prog : Program} {W : World} {A : Around} {E : Value → Shared → Prop} {s : Shared} {g : Act} {w w' : Wd} {st st' : St} {d : Nat} {I : Addr} {ds : List D} {i : Nat} {h h' hb : Heap} {env : Env} {K : Frag} {ad : Ad} {hT : Heap} {mg mb : Str → Option Value} {c : Cfg Prop}
theorem Rel.setCell (R : Rel g w st s.heap) {n : Nat} {v : V} {x : Value} {p : Pos} {Q : Unit → Shared → Prop} (hown : st.own = true) (hh : has st.cel n = true) (rv : RepV g.ad w v x)
    (k : ∀ h' tk,Stp w s.heap w h' → Rel g w (Mine.setCel st n v) h' → Q () { s with heap:=h',toks:=tk }) : wpAny (model prog W) A (assign (.Name (nm n) p) g.env x) Q E s:=by
  obtain ⟨c,v0,hc,t,i,r⟩:=R.cel n hh
  rcases t with ⟨hk,hτ⟩ | ⟨z,_⟩
  · refine wpAny_assign_Name (wpAny_storeName_cell g.kind hk hc i fun h' i' hs=>?_)
    exact k h' s.toks ⟨.refl w,fun b o z1 z2=>⟨hs.extBut b o (by rintro rfl; rw [hτ] at z1; cases z1) z2,z1⟩⟩ (R.setCel hc hτ rv i' hs)
  · rw [hown] at z; cases z
noncomputable def GOk (prog : Program) (W : World) (A : Around) (ad : Ad) (hT : Heap) (c : Cfg Prop) (t : Tg) : Prop :=
  ∀ {g : Act} {st : St} {w : Wd} {s : Shared} {E : Value → Shared → Prop} {Q : Unit → Shared → Prop} {Qa : St → Prop} {v : V} {x : Value},g.ad = ad → g.hT = hT → aG c t v st Qa → Rel g w st s.heap → RepV g.ad w v x →
    (∀ w' st' h' tk,Stp w s.heap w' h' → Rel g w' st' h' → Qa st' → Q () { s with heap:=h',toks:=tk }) → wpAny (model prog W) A (assign (toT t) g.env x) Q E s
theorem gloc_ok (hF : ¬ c.F) {n : Nat} {p : Pos} : GOk prog W A ad hT c (.loc n p):=by
  intro g st w s E Q Qa v x had hhT ha R rv k
  conv at ha=>whnf
  obtain ⟨hb,ha⟩:=bif_prop ha hF
  exact R.setName hb rv fun h' tk S R' _=>k w _ h' tk S R' ha
theorem gcel_ok (hF : ¬ c.F) {n : Nat} {p : Pos} : GOk prog W A ad hT c (.cel n p):=by
  intro g st w s E Q Qa v x had hhT ha R rv k
  conv at ha=>whnf
  obtain ⟨hb,ha⟩:=bif_prop ha hF
  rw [Bool.and_eq_true] at hb
  exact R.setCell hb.1 hb.2 rv fun h' tk S R'=>k w _ h' tk S R' ha
theorem inOrder_ok (hF : ¬ c.F) : ∀ (ts : List (Bool × Nat × Pos)) {xs : List D} {vs : List Value} {st : St} {w : Wd} {s : Shared} {Q : Unit → Shared → Prop} {Qa : St → Prop},aTup c ts xs st Qa → Rel g w st s.heap → RepL g.ad w.τ xs vs →
    (∀ st' h' tk,Stp w s.heap w h' → Rel g w st' h' → Qa st' → Q () { s with heap:=h',toks:=tk }) → wpAny (model prog W) A (assignInOrder ((assignEach (ts.map fun t=>.Name (nm t.2.1) t.2.2) g.env).map (·.2)) vs) Q E s
  | [],[],vs,st,w,s,Q,Qa,ha,R,r,k=>by
    conv at ha=>whnf
    cases r
    exact wpAny_pure (k st s.heap s.toks (.refl w _) R ha)
  | [],x :: xs,vs,st,w,s,Q,Qa,ha,R,r,k=>absurd ha hF
  | t :: ts,[],vs,st,w,s,Q,Qa,ha,R,r,k=>absurd ha hF
  | (b,n,p) :: ts,x :: xs,vs,st,w,s,Q,Qa,ha,R,r,k=>by
    conv at ha=>whnf
    cases r with
    | cons r1 r2 =>
      rename_i y ys
      have e0 : assignInOrder ((assignEach (((b,n,p) :: ts).map fun t=>.Name (nm t.2.1) t.2.2) g.env).map (·.2)) (y :: ys) = (do holding ys (assign (.Name (nm n) p) g.env y); assignInOrder ((assignEach (ts.map fun t=>.Name (nm t.2.1) t.2.2) g.env).map (·.2)) ys):=rfl
      rw [e0]
      cases b with
      | true =>
        obtain ⟨hb,ha⟩:=bif_prop ha hF
        rw [Bool.and_eq_true] at hb
        refine wpAny_bind (wpAny_holding (R.setCell (v:=.d x) hb.1 hb.2 r1 fun h1 tk1 S1 R1=>?_))
        exact inOrder_ok hF ts (s:={ s with heap:=h1,toks:=tk1 }) ha R1 r2 fun st2 h2 tk2 S2 R2 q2=>k st2 h2 tk2 (S1.trans S2) R2 q2
      | false =>
        obtain ⟨hb,ha⟩:=bif_prop ha hF
        refine wpAny_bind (wpAny_holding (R.setName (v:=.d x) hb r1 fun h1 tk1 S1 R1 _=>?_))
        exact inOrder_ok hF ts (s:={ s with heap:=h1,toks:=tk1 }) ha R1 r2 fun st2 h2 tk2 S2 R2 q2=>k st2 h2 tk2 (S1.trans S2) R2 q2
theorem aTup_len (hF : ¬ c.F) : ∀ (ts : List (Bool × Nat × Pos)) {xs : List D} {st : St} {Qa : St → Prop},aTup c ts xs st Qa → xs.length = ts.length
  | [],[],st,Qa,ha=>rfl
  | [],x :: xs,st,Qa,ha=>absurd ha hF
  | t :: ts,[],st,Qa,ha=>absurd ha hF
  | (b,n,p) :: ts,x :: xs,st,Qa,ha=>by
    conv at ha=>whnf
    cases b with
    | true=>exact congrArg (· + 1) (aTup_len hF ts (bif_prop ha hF).2)
    | false=>exact congrArg (· + 1) (aTup_len hF ts (bif_prop ha hF).2)
theorem each_len (ts : List (Bool × Nat × Pos)) (env : Env) : (assignEach (ts.map fun t=>.Name (nm t.2.1) t.2.2) env).length = ts.length ∧ (assignEach (ts.map fun t=>.Name (nm t.2.1) t.2.2) env).findIdx? (·.1) = none:=by
  induction ts with
  | nil=>exact ⟨rfl,rfl⟩
  | cons t ts ih =>
    have e0 : assignEach ((t :: ts).map fun t=>.Name (nm t.2.1) t.2.2) env = (false,assign (.Name (nm t.2.1) t.2.2) env) :: assignEach (ts.map fun t=>.Name (nm t.2.1) t.2.2) env:=rfl
    rw [e0]
    refine ⟨by rw [List.length_cons,ih.1]; rfl,?_⟩
    rw [List.findIdx?_cons]
    simp [ih.2]
theorem gtup_ok (hF : ¬ c.F) (rm : Rm A d) {ts : List (Bool × Nat × Pos)} {p : Pos} : GOk prog W A ad hT c (.tup ts p):=by
  intro g st w s E Q Qa v x had hhT ha R rv k
  have go : ∀ {di : D} {xs : List D},itemsV di = some xs → aTup c ts xs st Qa → Rep g.ad w.τ di x → wpAny (model prog W) A (assign (toT (.tup ts p)) g.env x) Q E s:=by
    intro di xs e ha r
    have e0 : assign (toT (.tup ts p)) g.env x = (do standAt p; unpack x (assignEach (ts.map fun t=>.Name (nm t.2.1) t.2.2) g.env)):=rfl
    rw [e0]
    refine wpAny_bind (wpAny_standAt ?_)
    unfold unpack
    rw [(each_len ts g.env).1,(each_len ts g.env).2]
    refine wpAny_bind (wpAny_holding (unpack_items rm.hd e (aTup_len hF ts ha) R r fun h1 tk1 vs S1 R1 rvs=>?_))
    exact inOrder_ok hF ts (s:={ s with heap:=h1,toks:=tk1 }) ha R1 rvs fun st2 h2 tk2 S2 R2 q2=>k w st2 h2 tk2 (S1.trans S2) R2 q2
  cases v with
  | c _=>exact absurd ha hF
  | d di =>
    cases di with
    | tup xs=>exact go rfl ha rv
    | lst xs=>exact go rfl ha rv
    | _=>exact absurd ha hF
theorem gatt_ok (L : Lib prog W K ad hT mg mb c d) {o : X} {n : Nat} {p : Pos} (ho : XOk prog W A ad hT c o) : GOk prog W A ad hT c (.att o n p):=by
  intro g st w s E Q Qa v x had hhT ha R rv k
  conv at ha=>whnf
  have e0 : assign (toT (.att o n p)) g.env x = (do
    let ov ← holding [x] (eval (toE o) g.env)
    standAt p.atName
    holding [x,ov] (setAttr ov (nm n) x)
    release [x,ov] []):=rfl
  rw [e0]
  refine wpAny_bind (wpAny_holding (ho had hhT ha R fun w1 vo st1 h1 tk1 v1 S1 R1 r1 q1=>wpAny_bind (wpAny_standAt (wpAny_bind (wpAny_holding ?_)))))
  split at q1
  · rename_i a
    split at q1
    · rename_i q ns vs hc
      cases hp : fput ns vs n v with
      | mk ns' vs' =>
        rw [hp] at q1
        obtain ⟨hb,q1⟩:=bif_prop q1 L.F
        rw [Bool.and_eq_true] at hb
        exact setV_sound (s:={ s with heap:=h1,toks:=tk1 }) (hhT ▸ L.X) (fun n=>had ▸ L.cls n) hc hp (mem_is.mp hb.1) (of_decide_eq_true hb.2) R1 r1 (rv.mono g.ok S1.le) fun h2 tk2 S2 R2=>wpAny_release (k w1 _ h2 tk2 (S1.trans S2) R2 q1)
    · exact absurd q1 L.F
  · exact absurd q1 L.F
theorem setItem_lst {l : Addr} {xs : List Value} {n j : Nat} {i : Int} {t : Tok} {v : Value} {Q : Unit → Shared → Prop} (ho : s.heap.get? l = some (lstObj xs n)) (hi : ixI i = some j) (hj : j < xs.length)
    (hQ : ∀ h' n',h'.get? l = some (lstObj (xs.set j v) n') → Heap.SameBut l s.heap h' → Q () { s with heap:=h' }) : wpAny (model prog W) A (setItem (.ref l) (.int i t) v) Q E s:=by
  obtain ⟨h0,h1,h2⟩:=ixI_some hi
  have hl:=isList_of ho
  have hd : (lstObj xs n).data = .seq xs.toArray n:=rfl
  unfold setItem
  try with_reducible refine wpAny_holding ?_
  first | refine wpAny_bind (wpAny_pure ?_) | skip
  refine wpAny_bind (wpAny_sequenceKey hl.typeIs (by decide) ?_)
  refine wpAny_bind (wpAny_callSpecial?_slot (name:=Str.ofString "__setitem__") hl.typeIs slot_list_setitem
    (wpAny_call_entry slot_list_setitem hl.typeIs entry_list_setitem ?_ (args_list_setitem _ _ _)))
  show wpAny _ _ (Builtin.List.listSubscript? (.int i t) >>= _) _ _ s
  refine wpAny_bind (wpAny_listSubscript_int (fitsIndex_of h0 (by omega)) ?_)
  have ei : i = (j : Int):=by omega
  subst ei
  have hx' : xs.toArray[j]? = some xs[j]:=by simp [hj]
  show wpAny _ _ ((seqItemAt l j >>= fun r=>pure (r.map (j,·))) >>= _) _ _ s
  refine wpAny_bind (wpAny_bind (wpAny_seqItemAt ho hd (wpAny_pure ?_)))
  rw [hx']
  show wpAny _ _ (setSeqItemAt l j v >>= _) _ _ s
  have e : xs.toArray.setIfInBounds j v = (xs.set j v).toArray:=by simp
  obtain ⟨kk',hm⟩ : ∃ kk',Obj.mapSeq (fun ys : Array Value=>ys.setIfInBounds j v) (lstObj xs n) = lstObj (xs.set j v) kk':=by
    unfold Obj.mapSeq
    dsimp only
    rw [e]
    exact ⟨_,rfl⟩
  have hfin : (s.heap.update l (Obj.mapSeq fun ys : Array Value=>ys.setIfInBounds j v)).get? l = some (lstObj (xs.set j v) kk'):=by
    rw [Heap.get?_update_self _ ho (by rw [hm]; rfl),hm]
  refine wpAny_bind (wpAny_setSeqItemAt ho hd ?_)
  first
    | exact wpAny_bind (wpAny_pure (wpAny_pure ⟨.none,rfl,wpAny_pure (hQ _ _ hfin (Heap.SameBut.update ..))⟩))
    | exact wpAny_pure ⟨.none,rfl,wpAny_pure (hQ _ _ hfin (Heap.SameBut.update ..))⟩
theorem gsub_ok (hF : ¬ c.F) {o i : X} {p : Pos} (ho : XOk prog W A ad hT c o) (hi : XOk prog W A ad hT c i) : GOk prog W A ad hT c (.sub o i p):=by
  intro g st w s E Q Qa v x had hhT ha R rv k
  conv at ha=>whnf
  have e0 : ∃ rel : Value → Value → List Value,assign (toT (.sub o i p)) g.env x = (do
    let ov ← holding [x] (eval (toE o) g.env)
    let iv ← holding [x,ov] (eval (toE i) g.env)
    standAt p
    holding [x,ov,iv] (setItem ov iv x)
    release (rel ov iv) []):=⟨_,rfl⟩
  obtain ⟨rel,e0⟩:=e0
  rw [e0]
  refine wpAny_bind (wpAny_holding (ho had hhT ha R fun w1 vo st1 h1 tk1 v1 S1 R1 r1 q1=>wpAny_bind (wpAny_holding (hi (s:={ s with heap:=h1,toks:=tk1 }) had hhT q1 R1 fun w2 vi st2 h2 tk2 v2 S2 R2 r2 q2=>wpAny_bind (wpAny_standAt (wpAny_bind (wpAny_holding ?_)))))))
  split at q2
  · rename_i a ii
    split at q2
    · rename_i vs j hc hj
      obtain ⟨hz,q2⟩:=bif_prop q2 hF
      have hz:=of_decide_eq_true hz
      obtain ⟨ax,xs,kk,rfl,m1,m2,m3,m4⟩:=lstAt R2 hc (r1.mono g.ok S2.le)
      cases r2 with
      | int _ t =>
        rw [m4.length] at hz
        refine setItem_lst (s:={ s with heap:=h2,toks:=tk2 }) m3 hj hz fun h3 n' o3 s3=>wpAny_release ?_
        have S:=S1.trans S2
        exact k w2 _ h3 tk2 (S.trans ⟨.refl _,fun b ob z1 z2=>⟨s3.extBut b ob (by rintro rfl; rw [z1] at m2; cases m2) z2,z1⟩⟩) (R2.setCt hc m2 s3 ⟨_,o3⟩ (.lst m1 m2 o3 (m4.set (rv.mono g.ok S.le) j))) q2
    · exact absurd q2 hF
  · exact absurd q2 hF
theorem aG_ok (L : Lib prog W K ad hT mg mb c d) (rm : Rm A d) : ∀ t : Tg,GOk prog W A ad hT c t
  | .loc _ _=>gloc_ok L.F
  | .cel _ _=>gcel_ok L.F
  | .tup _ _=>gtup_ok L.F rm
  | .att o _ _=>gatt_ok L (aX_ok L rm o)
  | .sub o i _=>gsub_ok L.F (aX_ok L rm o) (aX_ok L rm i)
end
end Mine
end
section
open PySem.Spec
namespace Mine
section
variable {prog : Program} {W : World} {A : Around} {E : Value → Shared → Prop} {s : Shared} {g : Act} {w : Wd} {st : St} {d : Nat} {I : Addr} {ds : List D} {i : Nat} {h h' hb : Heap} {env : Env} {ad : Ad} {hT : Heap} {c : Cfg Prop} {K : Frag} {mg mb : Str → Option Value}
theorem comp_frame2 {use : Option (Value → Sem Unit)} {elt iter : Expr} {t : Nat} {tp p : Pos} {rest : List Comprehension} {ci : CI} {cl : List (Str × Addr)} {oI : Obj} {Q : Value → Shared → Prop} {Kf : List V → St → Prop} (had : g.ad = ad) (hhT : g.hT = hT) (ok : CIOk ci) (R : Rel g w st hb) (hfr : frsIn ci.frs st.cel = true)
    (hcl : ∀ n,(n,NameKind.free) ∈ (scOf ci.kinds []).names → cl.lookup n = g.env.cells.lookup n) (hs : s.heap = hb.push oI) (hoI : oI.isFreed = false) (it : Iter prog W A g.ad w hb.objs.size ds 0 s.heap)
    (loop : LoopDoes prog W A ad hT (.ListComp elt (⟨.Name (nm t) tp,iter,[],0⟩ :: rest) (scOf ci.kinds []) p) hb.objs.size (hb.objs.size + 1) ds (enterC ci st) Kf)
    (post : ∀ w3 st2 acc h3 tk xs kk C m,Stp w hb w3 h3 → Rel g w3 { st with hp:=st2.hp } h3 → w3.τ (hb.objs.size + 1) = .free → h3.get? (hb.objs.size + 1) = some (lstObj xs kk) → RepVs g.ad w3 acc xs → acc.length ≤ 1000000 → Kf acc st2 →
      w3.τ C = .free → hb.objs.size + 1 < C → h3.Ns C m → compPost (model prog W) A E use Q (.ref (hb.objs.size + 1)) C (.ok .next) { s with heap:=h3,toks:=tk }) :
    wpAny (model prog W) A (newList []) (fun acc s₃=>wpAny (model prog W) A (newFunctionEnv (scOf ci.kinds []) g.env.globals cl [] g.env.qual none .none (some g.env)) (fun cenv s₄ =>
      codeAny (model prog W) A (.compStart (.ListComp elt (⟨.Name (nm t) tp,iter,[],0⟩ :: rest) (scOf ci.kinds []) p) 0 (.ref hb.objs.size) acc { cenv with scope:=relabel (scOf ci.kinds []) g.env })
        (compPost (model prog W) A E use Q acc cenv.locals) s₄) E s₃) E s:=by
  have e1 : s.heap.objs.size = hb.objs.size + 1:=by rw [hs,Heap.size_push]
  refine wpAny_newObj_type (wpAny_newFunctionEnv ok.nocell (by intro y hy; simp at hy) (fun h₁ hns₁ hsb₁=>?_) rfl)
  dsimp only at hns₁ hsb₁ ⊢
  rw [e1]
  have e2 : (s.heap.push { cls:=.type "list",dict:=none,data:=.seq ([] : List Value).toArray }).objs.size = hb.objs.size + 2:=by rw [Heap.size_push,e1]
  rw [e2] at hns₁ hsb₁ ⊢
  have up0 : ∀ b o,b ≠ hb.objs.size + 2 → (s.heap.push { cls:=.type "list",dict:=none,data:=.seq ([] : List Value).toArray }).get? b = some o → h₁.get? b = some o:=fun b o q e=>hsb₁.extBut b o q (Heap.get?_push_of_some _ e)
  have upI : ∀ b o,s.heap.get? b = some o → h₁.get? b = some o:=fun b o e=>up0 b o (Nat.ne_of_lt (Nat.lt_of_lt_of_le (Heap.lt_size e) (by rw [e1]; exact Nat.le_succ _))) (Heap.get?_push_of_some _ e)
  have up : ∀ b o,hb.get? b = some o → h₁.get? b = some o:=fun b o e=>upI b o (by rw [hs]; exact Heap.get?_push_of_some _ e)
  have hI : h₁.get? hb.objs.size = some oI:=upI _ _ (by rw [hs]; exact Heap.get?_push_size _ hoI)
  have hD : h₁.get? (hb.objs.size + 1) = some (lstObj [] 0):=up0 _ _ (Nat.ne_of_lt (by omega)) (by rw [← e1]; exact Heap.get?_push_size _ rfl)
  obtain ⟨ha,hk,hg,hu,R1⟩:=enter_comp ok R hfr hcl (C:=hb.objs.size + 2) (by omega) hns₁ up
  have fI : w.τ hb.objs.size = .free:=R.free (Nat.le_refl _)
  have fD : w.τ (hb.objs.size + 1) = .free:=R.free (by omega)
  have wi : ∀ b,b ≠ hb.objs.size + 2 → w.τ b = .free → ((wIn w).setτ (hb.objs.size + 2) .loc).τ b = .free:=fun b q e=>(Wd.setτ_ne q).trans (by show (w.τ b).out = _; rw [e]; rfl)
  have it1 : Iter prog W A ad ((wIn w).setτ (hb.objs.size + 2) .loc) hb.objs.size ds 0 h₁:=by
    rw [← had]
    refine it.move g.ok (fun o e=>upI _ o e) (fun a o e=>?_) (fun a o e o' q=>upI a o' q)
    have : a ≠ hb.objs.size + 2:=Nat.ne_of_lt (Nat.lt_of_lt_of_le (R.there (a:=a) (by rw [e]; intro z; cases z)) (Nat.le_add_right _ 2))
    exact (Wd.setτ_ne this).trans (by show (w.τ a).out = _; rw [e]; rfl)
  have main : ∀ s₁ : Shared,s₁ = { s with heap:=h₁,toks:=s.toks + ([] : List (Str × Value)).length } →
      codeAny (model prog W) A (.compLoop (.ListComp elt (⟨.Name (nm t) tp,iter,[],0⟩ :: rest) (scOf ci.kinds []) p) 0 (.ref hb.objs.size) (.ref (hb.objs.size + 1)) (compEnvC (scOf ci.kinds []) cl (hb.objs.size + 2) g.env))
        (compPost (model prog W) A E use Q (.ref (hb.objs.size + 1)) (hb.objs.size + 2)) s₁:=by
    rintro s₁ rfl
    refine loop (g':=compAct g w hb _ R.topNot ha hk hg hu) had hhT R1 it1 (wi _ (Nat.ne_of_lt (by omega)) fI) ⟨_,hI⟩ (wi _ (Nat.ne_of_lt (by omega)) fD) hD (Nat.ne_of_lt (by omega)) (Nat.le_refl _) (Nat.le_succ _) fun w2 st2 acc h2 tk xs kk hle kept R2 f2 hD2 rv hz hK=>?_
    obtain ⟨m2,hn2,_⟩:=R2.loc
    have S:=leave R R2 rfl (fun b o e=>e) (Nat.le_refl _) (fun a z=>z) (fun a o z=>z) (fun b o q e=>?_) ⟨fun a o e=>?_,fun n a e=>hle.two n a e⟩ (h3:=h2) (fun b o _ e=>e)
    · obtain ⟨S1,S2,S3⟩:=S
      refine post _ _ _ _ _ xs kk (hb.objs.size + 2) m2 S1 S2 ?_ hD2 ((had ▸ rv).sub g.ok S3) hz hK ?_ (Nat.lt_succ_self _) hn2
      · rw [wOut_other (by rw [fD]; exact id),f2]; rfl
      · have hC2:=R2.locT
        rw [wOut_other (by rw [R.free (a:=hb.objs.size + 2) (by omega)]; exact id)]
        rw [show w2.τ (hb.objs.size + 2) = Role.loc from hC2]; rfl
    · have hlt:=Heap.lt_size e
      have : b ≠ hb.objs.size + 2:=Nat.ne_of_lt (Nat.lt_of_lt_of_le hlt (Nat.le_add_right _ 2))
      exact kept b o ((Wd.setτ_ne this).trans q) (Nat.ne_of_lt hlt) (Nat.ne_of_lt (Nat.lt_succ_of_lt hlt)) (up b o e)
    · have : a ≠ hb.objs.size + 2:=Nat.ne_of_lt (Nat.lt_of_lt_of_le (R.there (a:=a) (by rw [e]; intro z; cases z)) (Nat.le_add_right _ 2))
      exact hle.one a o ((Wd.setτ_ne this).trans (by show (w.τ a).out = _; rw [e]; rfl))
  exact codeAny_compStart_list (main _ rfl) (Iter.self (g:=compAct g w hb _ R.topNot ha hk hg hu) (had ▸ it1) (main _ rfl))
theorem use_post2 {t : Tg} {D : Addr} {C : Addr} {m : Str → Option Value} {w4 : Wd} {st4 : St} {av : V} {Qs : St → Prop} {tk : Nat} {Q : Value → Shared → Prop} (hg : GOk prog W A ad hT c t) (had : g.ad = ad) (hhT : g.hT = hT) (S4 : Stp w s.heap w4 h) (R4 : Rel g w4 st4 h) (rv : RepV g.ad w4 av (.ref D))
    (fC : w4.τ C = .free) (hC : g.h0.objs.size ≤ C) (hC2 : ∀ b o,w.τ b = .free → s.heap.get? b = some o → b ≠ C) (hn : h.Ns C m) (ha : aG c t av st4 Qs) (k : ∀ w' st' h' tk,Stp w s.heap w' h' → Rel g w' st' h' → Qs st' → Q .none { s with heap:=h',toks:=tk }) :
    compPost (model prog W) A E (some fun v=>assignAll v ((assignEach [toT t] g.env).map (·.2))) Q (.ref D) C (.ok .next) { s with heap:=h,toks:=tk }:=by
  have e0 : assignAll (.ref D) ((assignEach [toT t] g.env).map (·.2)) = assign (toT t) g.env (.ref D):=by cases t <;> rfl
  show wpAny (model prog W) A (assignAll (.ref D) ((assignEach [toT t] g.env).map (·.2))) _ E _
  rw [e0]
  refine hg (s:={ s with heap:=h,toks:=tk }) had hhT ha R4 rv fun w5 st5 h5 tk5 S5 R5 q5=>?_
  obtain ⟨oC,_,_,eC,_⟩:=id hn
  have kC:=S5.kept C oC fC eC
  refine ⟨m,hn.at' (fun o e=>by rw [eC] at e; cases e; exact kC.1),fun h6 hs6=>?_⟩
  refine k w5 st5 h6 tk5 ⟨S4.le.trans S5.le,fun b o e q=>?_⟩ (R5.extBut hs6.extBut kC.2 hC) q5
  have z:=S4.kept b o e q
  have z2:=S5.kept b o z.2 z.1
  exact ⟨hs6.extBut b o (hC2 b o e q) z2.1,z2.2⟩
theorem comp_use (L : Lib prog W K ad hT mg mb c d) (rm : Rm A d) {m r : Bool} {elt it : X} {t ci : Nat} {tp fp ip p : Pos} {tg : Tg} {Qs : St → Prop} {Q : Value → Shared → Prop} (hx : XOk prog W A ad hT c elt) (hi : XOk prog W A ad hT c it) (hg : GOk prog W A ad hT c tg) (had : g.ad = ad) (hhT : g.hT = hT)
    (ha : aX c (.comp m elt t tp r fp it ip ci p) st fun v st=>aG c tg v st Qs) (R : Rel g w st s.heap) (k : ∀ w' st' h' tk,Stp w s.heap w' h' → Rel g w' st' h' → Qs st' → Q .none { s with heap:=h',toks:=tk }) :
    wpAny (model prog W) A (comprehension (.ListComp (toE elt) [⟨.Name (nm t) tp,itE r fp it ip,[],0⟩] (scOf (ciOf ci).kinds []) p) (scOf (ciOf ci).kinds []) g.env (firstIterPos [⟨.Name (nm t) tp,itE r fp it ip,[],0⟩] p) (newList []) false (eval (itE r fp it ip) g.env)
      (some fun v=>assignAll v ((assignEach [toT tg] g.env).map (·.2)))) Q E s:=by
  conv at ha=>whnf
  obtain ⟨hb,ha⟩:=bif_prop ha L.F
  rw [Bool.and_eq_true] at hb
  have ok:=CIOk.of (ci_ok ci)
  obtain ⟨cl,hcl,hcl'⟩:=clo_of R ok hb.1
  refine wpAny_comprehension_free rfl (fold_itE r fp it ip g.env) hcl rfl ok.loc ?_
  refine it_ok L rm (Qa:=fun ds st1=>_) hi had hhT hb.2 ha R fun w1 ds st1 hbb oI tk1 S1 R1 hfo it1 q1=>?_
  obtain ⟨hb2,q1⟩:=bif_prop q1 L.F
  rw [Bool.and_eq_true,Bool.and_eq_true] at hb2
  refine comp_frame2 (s:={ s with heap:=hbb.push oI,toks:=tk1 }) (elt:=toE elt) had hhT ok R1 hb2.1.2 hcl' rfl hfo it1 (loop_one hx rm.hd L.F (of_decide_eq_true hb2.2) q1) fun w3 st2 acc h3 tk3 xs kk C mm S3 R3 f3 o3 rv hz hK fC hC nC=>?_
  have S:=S1.trans S3
  have hD : g.h0.objs.size ≤ hbb.objs.size + 1:=Nat.le_succ_of_le R1.size
  have hgC : g.h0.objs.size ≤ C:=Nat.le_trans hD (Nat.le_of_lt hC)
  have neC : C ≠ hbb.objs.size + 1:=Nat.ne_of_gt hC
  have hlow : ∀ b o,w.τ b = .free → s.heap.get? b = some o → b < hbb.objs.size:=fun b o e q=>Heap.lt_size (S1.kept b o e q).1
  cases m with
  | true =>
    obtain ⟨w4,l4,out4,R4,r4⟩:=R3.newCt (as:=[hbb.objs.size + 1]) (a:=hbb.objs.size + 1) (c:=.lst acc) (fun b hb=>by rw [List.mem_singleton.mp hb]; exact ⟨f3,hD,_,o3⟩)
      fun w' l h1 h2=>.lst h2 (h1 _ (.head _)) o3 (rv.mono g.ok l)
    have S4 : Stp w s.heap w4 h3:=⟨S.le.trans l4,fun b o e q=>by
      have z1:=S1.kept b o e q
      have z3:=S3.kept b o z1.2 z1.1
      exact ⟨z3.1,(out4 b (by rw [List.mem_singleton]; exact Nat.ne_of_lt (Nat.lt_succ_of_lt (Heap.lt_size z1.1)))).trans z3.2⟩⟩
    exact use_post2 (s:=s) hg had hhT S4 R4 r4 ((out4 C (by rw [List.mem_singleton]; exact neC)).trans fC) hgC (fun b o e q=>Nat.ne_of_lt (Nat.lt_trans (Nat.lt_succ_of_lt (hlow b o e q)) hC)) nC hK k
  | false =>
    dsimp only at hK
    split at hK
    · rename_i ds' e
      obtain ⟨l4,R4⟩:=R3.newFroAt f3 hD o3
      have S4 : Stp w s.heap (w3.setτ (hbb.objs.size + 1) (.fro (lstObj xs kk))) h3:=⟨S.le.trans l4,fun b o e q=>by
        have z1:=S1.kept b o e q
        have z3:=S3.kept b o z1.2 z1.1
        exact ⟨z3.1,(Wd.setτ_ne (Nat.ne_of_lt (Nat.lt_succ_of_lt (Heap.lt_size z1.1)))).trans z3.2⟩⟩
      exact use_post2 (s:=s) (av:=.d (.lst ds')) hg had hhT S4 R4 (Rep.lst Wd.setτ_eq ((repL_of_allD e rv).mono g.ok l4.one)) ((Wd.setτ_ne neC).trans fC) hgC (fun b o e q=>Nat.ne_of_lt (Nat.lt_trans (Nat.lt_succ_of_lt (hlow b o e q)) hC)) nC hK k
    · exact absurd hK L.F
end
end Mine
end
section
open PySem.Spec
namespace Mine
section
variable {prog : Program} {W : World} {A : Around} {E : Value → Shared → Prop} {s : Shared} {g : Act} {w : Wd} {st : St} {d : Nat} {I : Addr} {ds : List D} {i : Nat} {h h' hb : Heap} {env : Env} {ad : Ad} {hT : Heap} {c : Cfg Prop} {K : Frag} {mg mb : Str → Option Value}
theorem comp2_use (L : Lib prog W K ad hT mg mb c d) (rm : Rm A d) {elt it iu : X} {t u ci : Nat} {tp up p : Pos} {tg : Tg} {Qs : St → Prop} {Q : Value → Shared → Prop} (hx : XOk prog W A ad hT c elt) (hi : XOk prog W A ad hT c it) (hu : XOk prog W A ad hT c iu) (hg : GOk prog W A ad hT c tg) (had : g.ad = ad) (hhT : g.hT = hT)
    (ha : aX c (.comp2 elt t tp it u up iu ci p) st fun v st=>aG c tg v st Qs) (R : Rel g w st s.heap) (k : ∀ w' st' h' tk,Stp w s.heap w' h' → Rel g w' st' h' → Qs st' → Q .none { s with heap:=h',toks:=tk }) :
    wpAny (model prog W) A (comprehension (.ListComp (toE elt) [⟨.Name (nm t) tp,toE it,[],0⟩,⟨.Name (nm u) up,toE iu,[],0⟩] (scOf (ciOf ci).kinds []) p) (scOf (ciOf ci).kinds []) g.env (firstIterPos [⟨.Name (nm t) tp,toE it,[],0⟩,⟨.Name (nm u) up,toE iu,[],0⟩] p) (newList []) false (eval (toE it) g.env)
      (some fun v=>assignAll v ((assignEach [toT tg] g.env).map (·.2)))) Q E s:=by
  conv at ha=>whnf
  obtain ⟨hb,ha⟩:=bif_prop ha L.F
  have ok:=CIOk.of (ci_ok ci)
  obtain ⟨cl,hcl,hcl'⟩:=clo_of R ok hb
  refine wpAny_comprehension_free rfl (fold_toE it g.env) hcl rfl ok.loc ?_
  refine it_ok L rm (r:=false) (fp:=p) (ip:=p) (Qa:=fun ds st1=>_) hi had hhT rfl ha R fun w1 ds st1 hbb oI tk1 S1 R1 hfo it1 q1=>?_
  obtain ⟨hb2,q1⟩:=bif_prop q1 L.F
  rw [Bool.and_eq_true,Bool.and_eq_true,Bool.and_eq_true] at hb2
  refine comp_frame2 (s:={ s with heap:=hbb.push oI,toks:=tk1 }) (elt:=toE elt) had hhT ok R1 hb2.1.2 hcl' rfl hfo it1 (loop_two hx hu rm.hd L.F (of_decide_eq_true hb2.2) q1) fun w3 st2 acc h3 tk3 xs kk C mm S3 R3 f3 o3 rv hz hK fC hC nC=>?_
  have S:=S1.trans S3
  have hD : g.h0.objs.size ≤ hbb.objs.size + 1:=Nat.le_succ_of_le R1.size
  have hgC : g.h0.objs.size ≤ C:=Nat.le_trans hD (Nat.le_of_lt hC)
  have neC : C ≠ hbb.objs.size + 1:=Nat.ne_of_gt hC
  have hlow : ∀ b o,w.τ b = .free → s.heap.get? b = some o → b < hbb.objs.size:=fun b o e q=>Heap.lt_size (S1.kept b o e q).1
  split at hK
  · rename_i ds' e
    obtain ⟨l4,R4⟩:=R3.newFroAt f3 hD o3
    have S4 : Stp w s.heap (w3.setτ (hbb.objs.size + 1) (.fro (lstObj xs kk))) h3:=⟨S.le.trans l4,fun b o e q=>by
      have z1:=S1.kept b o e q
      have z3:=S3.kept b o z1.2 z1.1
      exact ⟨z3.1,(Wd.setτ_ne (Nat.ne_of_lt (Nat.lt_succ_of_lt (Heap.lt_size z1.1)))).trans z3.2⟩⟩
    exact use_post2 (s:=s) (av:=.d (.lst ds')) hg had hhT S4 R4 (Rep.lst Wd.setτ_eq ((repL_of_allD e rv).mono g.ok l4.one)) ((Wd.setτ_ne neC).trans fC) hgC (fun b o e q=>Nat.ne_of_lt (Nat.lt_trans (Nat.lt_succ_of_lt (hlow b o e q)) hC)) nC hK k
  · exact absurd hK L.F
inductive RepFl (ad : Ad) (w : Wd) : Fl → Flow → Prop
  | nxt : RepFl ad w .nxt .next
  | ret {v x} : RepV ad w v x → RepFl ad w (.ret v) (.ret x)
theorem RepFl.mono {ad : Ad} {w w' : Wd} (ok : AdOk ad) (l : w.le w') {f : Fl} {x : Flow} (h : RepFl ad w f x) : RepFl ad w' f x:=by
  cases h with
  | nxt=>exact .nxt
  | ret r=>exact .ret (r.mono ok l)
noncomputable abbrev PostF (g : Act) (w : Wd) (s : Shared) (Qa : Fl → St → Prop) (Q : Flow → Shared → Prop) : Prop :=
  ∀ w' fl st' h' tk f,Stp w s.heap w' h' → Rel g w' st' h' → RepFl g.ad w' fl f → Qa fl st' → Q f { s with heap:=h',toks:=tk }
noncomputable def SOk (prog : Program) (W : World) (A : Around) (ad : Ad) (hT : Heap) (c : Cfg Prop) (x : S) : Prop :=
  ∀ {g : Act} {st : St} {w : Wd} {s : Shared} {E : Value → Shared → Prop} {Q : Flow → Shared → Prop} {Qa : Fl → St → Prop},g.ad = ad → g.hT = hT → aS c x st Qa → Rel g w st s.heap → PostF g w s Qa Q → wpAny (model prog W) A (exec (toS x) g.env) Q E s
noncomputable def SsOk (prog : Program) (W : World) (A : Around) (ad : Ad) (hT : Heap) (c : Cfg Prop) (x : SL) : Prop :=
  ∀ {g : Act} {st : St} {w : Wd} {s : Shared} {E : Value → Shared → Prop} {Q : Flow → Shared → Prop} {Qa : Fl → St → Prop},g.ad = ad → g.hT = hT → aSL c x st Qa → Rel g w st s.heap → PostF g w s Qa Q → wpAny (model prog W) A (execs (toSs x) g.env) Q E s
theorem PostF.step {Qa : Fl → St → Prop} {Q : Flow → Shared → Prop} (k : PostF g w s Qa Q) {w' : Wd} {h' : Heap} {tk : Nat} (S : Stp w s.heap w' h') : PostF g w' { s with heap:=h',toks:=tk } Qa Q :=
  fun w'' fl st' h'' tk' f S' R r q=>k w'' fl st' h'' tk' f (S.trans S') R r q
theorem swaps_no : ∀ (x : X),isCmp x = false → ∀ (t : Option Expr) (line : Nat) (env : Env),swapsWith (toE x) t line env = pure false
  | .frz x,h,t,line,env=>swaps_no x h t line env
  | .comp ..,h,_,_,_=>by cases h
  | .comp2 ..,h,_,_,_=>by cases h
  | .cnone _,_,_,_,_ | .cbool _ _,_,_,_,_ | .cint _ _,_,_,_,_ | .cstr _ _,_,_,_,_ | .loc _ _,_,_,_,_ | .cel _ _,_,_,_,_ | .glo _ _,_,_,_,_ | .frL _ _,_,_,_,_ | .frC _ _,_,_,_,_ | .bin ..,_,_,_,_ | .rep ..,_,_,_,_ | .cmp ..,_,_,_,_ | .bop ..,_,_,_,_
  | .not ..,_,_,_,_ | .neg ..,_,_,_,_ | .ite ..,_,_,_,_ | .tup ..,_,_,_,_ | .lst ..,_,_,_,_ | .dic ..,_,_,_,_ | .sub ..,_,_,_,_ | .slc ..,_,_,_,_ | .att ..,_,_,_,_ | .callU ..,_,_,_,_ | .callB ..,_,_,_,_ | .callM ..,_,_,_,_ | .app ..,_,_,_,_ | .pop ..,_,_,_,_
  | .get ..,_,_,_,_=>rfl
theorem stores_no : ∀ (x : X) (t : Tg),(isTup x = false ∨ ∀ ts p,t ≠ .tup ts p) → ∀ (env : Env),swappedStores [toT t] (toE x) env = pure none
  | .frz x,t,h,env=>stores_no x t h env
  | .tup xs p,t,h,env=>by
    rcases h with h | h
    · cases h
    · cases t <;> first | rfl | exact absurd rfl (h _ _)
  | .cnone _,t,_,_ | .cbool _ _,t,_,_ | .cint _ _,t,_,_ | .cstr _ _,t,_,_ | .loc _ _,t,_,_ | .cel _ _,t,_,_ | .glo _ _,t,_,_ | .frL _ _,t,_,_ | .frC _ _,t,_,_ | .bin ..,t,_,_ | .rep ..,t,_,_ | .cmp ..,t,_,_ | .bop ..,t,_,_
  | .not ..,t,_,_ | .neg ..,t,_,_ | .ite ..,t,_,_ | .lst ..,t,_,_ | .dic ..,t,_,_ | .sub ..,t,_,_ | .slc ..,t,_,_ | .att ..,t,_,_ | .callU ..,t,_,_ | .callB ..,t,_,_ | .callM ..,t,_,_ | .app ..,t,_,_ | .pop ..,t,_,_
  | .get ..,t,_,_ | .comp ..,t,_,_ | .comp2 ..,t,_,_=>by cases t <;> rfl
theorem swaps_some (elt : Expr) (gens : List Comprehension) (sc : Scope) (p : Pos) (t : Tg) (line : Nat) (env : Env) : ∃ b,swapsWith (.ListComp elt gens sc p) (some (toT t)) line env = pure b:=by
  cases t <;> exact ⟨_,rfl⟩
theorem asg_plain {e : X} {t : Tg} {p : Pos} {Qa : Fl → St → Prop} {Q : Flow → Shared → Prop} (hx : XOk prog W A ad hT c e) (hg : GOk prog W A ad hT c t) (had : g.ad = ad) (hhT : g.hT = hT) (ha : aX c e st fun v st=>aG c t v st fun st=>Qa .nxt st) (R : Rel g w st s.heap) (k : PostF g w s Qa Q)
    (hs : swapsWith (toE e) (some (toT t)) p.line g.env = pure false) (hw : swappedStores [toT t] (toE e) g.env = pure none) : wpAny (model prog W) A (exec (.Assign [toT t] (toE e) p) g.env) Q E s:=by
  rw [arm_exec_Assign]
  refine wpAny_bind (wpAny_standAt (wpAny_bind (wpAny_of_eq hs ?_)))
  simp only [Bool.false_eq_true,if_false]
  refine wpAny_bind (hx had hhT ha R fun w1 v st1 h1 tk1 u S1 R1 r1 q1=>?_)
  refine wpAny_bind (wpAny_of_eq hw ?_)
  have e0 : assignStores g.env u none ((assignEach [toT t] g.env).map (·.2)) = (do assign (toT t) g.env u; pure .next):=by cases t <;> rfl
  rw [e0]
  refine wpAny_bind (hg (s:={ s with heap:=h1,toks:=tk1 }) had hhT q1 R1 r1 fun w2 st2 h2 tk2 S2 R2 q2=>wpAny_pure ?_)
  exact k w2 .nxt st2 h2 tk2 .next (S1.trans S2) R2 .nxt q2
theorem asg_swap {e : X} {t : Tg} {p : Pos} {elt : Expr} {gens : List Comprehension} {sc : Scope} {pp : Pos} {Qa : Fl → St → Prop} {Q : Flow → Shared → Prop} (he : toE e = .ListComp elt gens sc pp) (ha0 : firstAsync gens = false) (hx : XOk prog W A ad hT c e) (hg : GOk prog W A ad hT c t) (had : g.ad = ad) (hhT : g.hT = hT)
    (ha : aX c e st fun v st=>aG c t v st fun st=>Qa .nxt st) (R : Rel g w st s.heap) (k : PostF g w s Qa Q)
    (hu : ∀ Q' : Value → Shared → Prop,(∀ w' st' h' tk,Stp w s.heap w' h' → Rel g w' st' h' → Qa .nxt st' → Q' .none { s with heap:=h',toks:=tk }) → wpAny (model prog W) A (comprehension (.ListComp elt gens sc pp) sc g.env (firstIterPos gens pp) (newList []) false (firstIter gens g.env) (some fun v=>assignAll v ((assignEach [toT t] g.env).map (·.2)))) Q' E s)
    (hw : swappedStores [toT t] (toE e) g.env = pure none) : wpAny (model prog W) A (exec (.Assign [toT t] (toE e) p) g.env) Q E s:=by
  obtain ⟨b,hb⟩:=swaps_some elt gens sc pp t p.line g.env
  cases b with
  | false=>exact asg_plain hx hg had hhT ha R k (by rw [he]; exact hb) hw
  | true =>
    rw [arm_exec_Assign]
    refine wpAny_bind (wpAny_standAt (wpAny_bind (wpAny_of_eq (show swapsWithSole [toT t] (toE e) p.line g.env = pure true by rw [he]; exact hb) ?_)))
    simp only [if_true]
    rw [he]
    have e1 : evalThenUse (.ListComp elt gens sc pp) g.env (fun v=>assignAll v ((assignEach [toT t] g.env).map (·.2))) = (do
        let _ ← comprehension (.ListComp elt gens sc pp) sc g.env (firstIterPos gens pp) (newList []) (firstAsync gens) (firstIter gens g.env) (some fun v=>assignAll v ((assignEach [toT t] g.env).map (·.2)))
        pure ()):=rfl
    rw [e1,ha0]
    refine wpAny_bind (wpAny_bind (hu _ fun w1 st1 h1 tk1 S1 R1 q1=>wpAny_pure (wpAny_pure ?_)))
    exact k w1 .nxt st1 h1 tk1 .next S1 R1 .nxt q1
theorem isComp_cases {e : X} (h : isComp e = true) : (∃ m elt tt tp r fp it ip ci pp,e = .comp m elt tt tp r fp it ip ci pp) ∨ ∃ elt tt tp it u up iu ci pp,e = .comp2 elt tt tp it u up iu ci pp:=by
  cases e with
  | comp=>exact .inl ⟨_,_,_,_,_,_,_,_,_,_,rfl⟩
  | comp2=>exact .inr ⟨_,_,_,_,_,_,_,_,_,rfl⟩
  | _=>exact (Bool.false_ne_true h).elim
theorem asg_ok (L : Lib prog W K ad hT mg mb c d) (rm : Rm A d) {t : Tg} {e : X} {p : Pos} : SOk prog W A ad hT c (.asg t e p):=by
  intro g st w s E Q Qa had hhT ha R k
  conv at ha=>whnf
  obtain ⟨hb,ha⟩:=bif_prop ha L.F
  have hx : XOk prog W A ad hT c e:=aX_ok L rm e
  have hg : GOk prog W A ad hT c t:=aG_ok L rm t
  have plain : isCmp e = false → (isTup e = false ∨ ∀ ts p,t ≠ .tup ts p) → wpAny (model prog W) A (exec (toS (.asg t e p)) g.env) Q E s:=fun h1 h2 =>
    asg_plain hx hg had hhT ha R k (swaps_no e h1 _ _ _) (stores_no e t h2 _)
  unfold okA at hb
  cases hc : isComp e with
  | true =>
    rcases isComp_cases hc with ⟨m,elt,tt,tp,r,fp,it,ip,ci,pp,rfl⟩ | ⟨elt,tt,tp,it,u,up,iu,ci,pp,rfl⟩
    · have e0 : toE (.comp m elt tt tp r fp it ip ci pp) = .ListComp (toE elt) [⟨.Name (nm tt) tp,itE r fp it ip,[],0⟩] (scOf (ciOf ci).kinds []) pp:=by cases r <;> rfl
      exact asg_swap e0 rfl hx hg had hhT ha R k (fun Q' k'=>comp_use L rm (aX_ok L rm elt) (aX_ok L rm it) hg had hhT ha R k') (stores_no _ t (.inl rfl) _)
    · exact asg_swap rfl rfl hx hg had hhT ha R k (fun Q' k'=>comp2_use L rm (aX_ok L rm elt) (aX_ok L rm it) (aX_ok L rm iu) hg had hhT ha R k') (stores_no _ t (.inl rfl) _)
  | false =>
    rw [hc] at hb
    obtain ⟨h1,h2⟩:=Bool.and_eq_true_iff.mp (show (!isCmp e && (!isTgT t || !isTup e)) = true from hb)
    refine plain (by simpa using h1) ?_
    rcases (Bool.or_eq_true _ _).mp h2 with q | q
    · exact .inr fun ts p z=>by rw [z] at q; exact nof q
    · exact .inl (by simpa using q)
end
end Mine
end
section
open PySem.Spec
namespace Mine
section
variable {prog : Program} {W : World} {A : Around} {E : Value → Shared → Prop} {s : Shared} {g : Act} {w : Wd} {st : St} {d : Nat} {I : Addr} {ds : List D} {i : Nat} {h h' hb : Heap} {env : Env} {ad : Ad} {hT : Heap} {c : Cfg Prop} {K : Frag} {mg mb : Str → Option Value}
theorem aug_ok (L : Lib prog W K ad hT mg mb c d) (rm : Rm A d) {cell : Bool} {n : Nat} {np p : Pos} {op : Operator} {e : X} : SOk prog W A ad hT c (.aug cell n np op e p):=by
  intro g st w s E Q Qa had hhT ha R k
  conv at ha=>whnf
  split at ha
  · rename_i i e1
    obtain ⟨m,hn,r⟩:=R.loc
    obtain ⟨x,hx,rx⟩:=r n _ e1
    refine wpAny_AugAssign_Name (wpAny_loadName_local g.kind (R.lock n (has_of_look e1)) hn hx ?_)
    refine aX_ok L rm e had hhT ha R fun w1 v st1 h1 tk1 u S1 R1 r1 q1=>?_
    split at q1
    · rename_i j
      split at q1
      · rename_i rr hb e2
        have rx:=Rep.mono g.ok S1.le.one rx
        cases rx with
        | int _ t1 =>
          cases r1 with
          | int _ t2 =>
            obtain rfl:=Option.some.inj e2
            refine ior_int (s:={ s with heap:=h1,toks:=tk1 }) ?_
            obtain ⟨m1,hn1,rr1⟩:=R1.loc
            refine wpAny_storeName_local (s:={ s with heap:=h1,toks:=tk1 + 1 }) (R1.lock n hb) hn1 (fun h2 hn2 hs2=>?_) (by rw [g.kind]; rfl)
            refine k w1 .nxt _ h2 _ .next (S1.trans ⟨.refl _,fun b o z1 z2=>⟨hs2.extBut b o (by rintro rfl; rw [R1.locT] at z1; cases z1) z2,z1⟩⟩) (R1.setLoc (v:=.d _) rr1 (Rep.int _ _) hn2 hs2) .nxt q1
      · exact absurd q1 L.F
    · exact absurd q1 L.F
  · exact absurd ha L.F
theorem exp_ok (L : Lib prog W K ad hT mg mb c d) (rm : Rm A d) {e : X} {p : Pos} : SOk prog W A ad hT c (.exp e p):=by
  intro g st w s E Q Qa had hhT ha R k
  conv at ha=>whnf
  obtain ⟨hb,ha⟩:=bif_prop ha L.F
  refine wpAny_Expr (aX_ok L rm e had hhT ha R fun w1 v st1 h1 tk1 u S1 R1 r1 q1=>?_) (by unfold interactive; rw [g.kind]; rfl) (swaps_no e (by simpa using hb) _ _ _)
  split at q1
  · cases r1
    exact k w1 .nxt st1 h1 tk1 .next S1 R1 .nxt q1
  · exact absurd q1 L.F
theorem ret_ok (L : Lib prog W K ad hT mg mb c d) (rm : Rm A d) {e : X} {p : Pos} : SOk prog W A ad hT c (.ret e p):=by
  intro g st w s E Q Qa had hhT ha R k
  conv at ha=>whnf
  exact wpAny_Return_some (aX_ok L rm e had hhT ha R fun w1 v st1 h1 tk1 u S1 R1 r1 q1=>k w1 (.ret v) st1 h1 tk1 (.ret u) S1 R1 (.ret r1) q1)
theorem iff_ok (L : Lib prog W K ad hT mg mb c d) (rm : Rm A d) {t : X} {a b : SL} {p : Pos} (ha' : SsOk prog W A ad hT c a) (hb' : SsOk prog W A ad hT c b) : SOk prog W A ad hT c (.iff t a b p):=by
  intro g st w s E Q Qa had hhT ha R k
  conv at ha=>whnf
  refine wpAny_If (aT_ok L rm t had hhT ha R fun w1 r st1 h1 tk1 S1 R1 q1=>?_)
  cases r with
  | true=>exact ha' (s:={ s with heap:=h1,toks:=tk1 }) had hhT q1 R1 (k.step S1)
  | false=>exact hb' (s:={ s with heap:=h1,toks:=tk1 }) had hhT q1 R1 (k.step S1)
theorem raw_ok (hF : ¬ c.F) {x : Stmt} : SOk prog W A ad hT c (.raw x):=by
  intro g st w s E Q Qa had hhT ha R k
  conv at ha=>whnf
  exact absurd ha hF
theorem letGo_quiet {t : Tg} {v : Value} {Q : Unit → Shared → Prop} (q : QuietIt s.heap I) (k : Q () s) : wpAny (model prog W) A (letOwnedTupleGo (toT t) (.ref I) v) Q E s:=by
  cases t with
  | tup ts p =>
    obtain ⟨o,n,ho,hc,hq⟩:=q
    show wpAny _ _ (letOwnedTupleGo (.Tuple _ _ _) (.ref I) v) _ _ _
    unfold letOwnedTupleGo
    cases v with
    | ref a =>
      refine wpAny_bind (wpAny_load ho ?_)
      rw [hc]
      cases o.data with
      | fields vs =>
        dsimp only
        rw [show (["enumerate","zip","dict_itemiterator","dict_reverseitemiterator","odict_iterator","itertools.zip_longest","itertools.pairwise"].contains n) = false from hq]
        simp only [Bool.false_and,Bool.false_eq_true,if_false]
        exact wpAny_pure k
      | _=>exact wpAny_pure k
    | _=>exact wpAny_pure k
  | _=>exact wpAny_pure k
inductive FInv (prog : Program) (W : World) (A : Around) (g : Act) (s : Shared) (w1 : Wd) (hbb : Heap) (ds : List D) (B : D → St → (Fl → St → Prop) → Prop) (Qa : Fl → St → Prop) : Nat → Shared → Prop
  | mk {i : Nat} {w' : Wd} {st' : St} {h' : Heap} {tk : Nat} : i ≤ ds.length → Stp w1 hbb w' h' → Rel g w' st' h' → Iter prog W A g.ad w' hbb.objs.size ds i h' → w'.τ hbb.objs.size = .free → loopF B (ds.drop i) st' Qa →
    FInv prog W A g s w1 hbb ds B Qa (ds.length + 1 - i) { s with heap:=h',toks:=tk }
theorem for_ok (L : Lib prog W K ad hT mg mb c d) (rm : Rm A d) {t : Tg} {r : Bool} {fp ip p : Pos} {it : X} {b : SL} (hb' : SsOk prog W A ad hT c b) : SOk prog W A ad hT c (.for t r fp it ip b p):=by
  intro g st w s E Q Qa had hhT ha R k
  conv at ha=>whnf
  obtain ⟨hb,ha⟩:=bif_prop ha L.F
  have e0 : toS (.for t r fp it ip b p) = .For (toT t) (itE r fp it ip) (toSs b) [] p:=by cases r <;> rfl
  rw [e0]
  refine wpAny_For ?_ (fold_itE r fp it ip g.env)
  refine it_ok L rm (Qa:=fun ds st1=>loopF (fun x st k=>aG c t (.d x) st fun st=>aSL c b st k) ds st1 Qa) (aX_ok L rm it) had hhT hb ha R fun w1 ds st1 hbb oI tk1 S1 R1 hfo it1 q1=>?_
  have fI : w1.τ hbb.objs.size = .free:=R1.free (Nat.le_refl _)
  refine codeAny_forLoop_any (FInv prog W A g s w1 hbb ds (fun x st k=>aG c t (.d x) st fun st=>aSL c b st k) Qa) (fun n s' hn=>?_) (ds.length + 1) (.mk (Nat.zero_le _) (Stp.push _ _ _) (R1.push oI) it1 fI q1)
  obtain ⟨hi,S',R',it',fI',q'⟩:=hn
  rename_i i w' st' h' tk
  have sI : g.h0.objs.size ≤ hbb.objs.size:=R1.size
  have hR : ∀ h2,(∀ b o,b ≠ hbb.objs.size → h'.get? b = some o → h2.get? b = some o) → Rel g w' st' h2 ∧ Stp w1 hbb w' h2:=fun h2 hk=>⟨R'.keeps fun b o q e=>hk b o (by
      rintro rfl
      rcases q with q | q
      · exact q fI'
      · exact absurd q (Nat.not_lt.mpr sI)) e,S'.le,fun b o e q=>⟨hk b o (Nat.ne_of_lt (Heap.lt_size q)) (S'.kept b o e q).1,(S'.kept b o e q).2⟩⟩
  cases hv : ds[i]? with
  | none =>
    have hsz : i = ds.length:=Nat.le_antisymm hi (List.getElem?_eq_none_iff.mp hv)
    refine it'.done (g:=g) (s:={ s with heap:=h',toks:=tk }) hsz fun h2 tk2 hk=>wpAny_execs_nil ?_
    subst hsz
    rw [List.drop_length] at q'
    exact k w' .nxt _ h2 tk2 .next (S1.trans (hR h2 hk).2) (hR h2 hk).1 .nxt q'
  | some x =>
    obtain ⟨hlt,e⟩:=List.getElem?_eq_some_iff.mp hv
    refine it'.next (g:=g) (s:={ s with heap:=h',toks:=tk }) hv R'.fro fI' fun v h1 tk1 rx it1 hk1=>?_
    rw [List.drop_eq_getElem_cons hlt,e] at q'
    obtain ⟨R1',S1'⟩:=hR h1 hk1
    obtain ⟨oI',nI,eI,_⟩:=it1.quiet
    refine letGo_quiet (s:={ s with heap:=h1,toks:=tk1 }) it1.quiet ?_
    refine aG_ok L rm t (s:={ s with heap:=h1,toks:=tk1 }) (v:=.d x) had hhT q' R1' rx fun w2 st2 h2 tk2 S2 R2 q2=>?_
    refine hb' (s:={ s with heap:=h2,toks:=tk2 }) had hhT q2 R2 fun w3 fl st3 h3 tk3 f S3 R3 r3 q3=>?_
    have S23:=S2.trans S3
    cases r3 with
    | nxt=>exact ⟨_,Nat.sub_lt_sub_left (Nat.lt_succ_of_lt hlt) (Nat.lt_succ_self i),.mk hlt (S1'.trans S23) R3 (it1.step R1' R3 S23 fI') (S23.free fI' ⟨_,eI⟩) q3⟩
    | ret rv=>exact k w3 (.ret _) st3 h3 tk3 (.ret _) (S1.trans (S1'.trans S23)) R3 (.ret rv) q3
theorem snil_ok : SsOk prog W A ad hT c .nil:=by
  intro g st w s E Q Qa had hhT ha R k
  conv at ha=>whnf
  exact wpAny_execs_nil (k w .nxt st s.heap s.toks .next (.refl w _) R .nxt ha)
theorem scons_ok {x : S} {r : SL} (hx : SOk prog W A ad hT c x) (hr : SsOk prog W A ad hT c r) : SsOk prog W A ad hT c (.cons x r):=by
  intro g st w s E Q Qa had hhT ha R k
  conv at ha=>whnf
  refine wpAny_execs_cons (hx had hhT ha R fun w1 fl st1 h1 tk1 f S1 R1 r1 q1=>?_)
  cases r1 with
  | nxt=>exact hr (s:={ s with heap:=h1,toks:=tk1 }) had hhT q1 R1 (k.step S1)
  | ret rv=>exact k w1 (.ret _) st1 h1 tk1 (.ret _) S1 R1 (.ret rv) q1
mutual
theorem aS_ok (L : Lib prog W K ad hT mg mb c d) (rm : Rm A d) : ∀ x : S,SOk prog W A ad hT c x
  | .asg _ _ _=>asg_ok L rm
  | .aug _ _ _ _ _ _=>aug_ok L rm
  | .exp _ _=>exp_ok L rm
  | .iff _ a b _=>iff_ok L rm (aSL_ok L rm a) (aSL_ok L rm b)
  | .for _ _ _ _ _ b _=>for_ok L rm (aSL_ok L rm b)
  | .ret _ _=>ret_ok L rm
  | .raw _=>raw_ok L.F
theorem aSL_ok (L : Lib prog W K ad hT mg mb c d) (rm : Rm A d) : ∀ x : SL,SsOk prog W A ad hT c x
  | .nil=>snil_ok
  | .cons x r=>scons_ok (aS_ok L rm x) (aSL_ok L rm r)
end
end
end Mine
end
section
open PySem.Spec
namespace Mine
noncomputable def fiOkB (f : FI) : Bool :=
  f.locs.all (fun n=>klook f.kinds n == some .local) && f.cels.all (fun n=>klook f.kinds n == some .cell) && f.gls.all (fun n=>klook f.kinds n == some .globalImplicit) && decide f.pars.Nodup && f.pars.all fun n=>klook f.kinds n == some .local || klook f.kinds n == some .cell
structure FiOk (f : FI) : Prop where
  loc : ∀ n ∈ f.locs,(scOf f.kinds f.fast).names.lookup (nm n) = some .local
  cel : ∀ n ∈ f.cels,(scOf f.kinds f.fast).names.lookup (nm n) = some .cell
  gl : ∀ n ∈ f.gls,(scOf f.kinds f.fast).names.lookup (nm n) = some .globalImplicit
  nd : f.pars.Nodup
  par : ∀ n ∈ f.pars,(scOf f.kinds f.fast).names.lookup (nm n) = some .local ∨ (scOf f.kinds f.fast).names.lookup (nm n) = some .cell
theorem FiOk.of {f : FI} (h : fiOkB f = true) : FiOk f:=by
  unfold fiOkB at h
  rw [Bool.and_eq_true,Bool.and_eq_true,Bool.and_eq_true,Bool.and_eq_true] at h
  obtain ⟨⟨⟨⟨h1,h2⟩,h3⟩,h4⟩,h5⟩:=h
  refine ⟨fun n hn=>?_,fun n hn=>?_,fun n hn=>?_,of_decide_eq_true h4,fun n hn=>?_⟩
  · show ((f.kinds.map fun p=>(nm p.1,p.2)).lookup (nm n)) = _
    rw [klook_is]; simpa using List.all_eq_true.mp h1 n hn
  · show ((f.kinds.map fun p=>(nm p.1,p.2)).lookup (nm n)) = _
    rw [klook_is]; simpa using List.all_eq_true.mp h2 n hn
  · show ((f.kinds.map fun p=>(nm p.1,p.2)).lookup (nm n)) = _
    rw [klook_is]; simpa using List.all_eq_true.mp h3 n hn
  · show ((f.kinds.map fun p=>(nm p.1,p.2)).lookup (nm n)) = _ ∨ ((f.kinds.map fun p=>(nm p.1,p.2)).lookup (nm n)) = _
    rw [klook_is]; simpa using List.all_eq_true.mp h5 n hn
section
variable {ad : Ad} {w : Wd} {kindOf : Str → Option NameKind}
theorem bindL_other : ∀ (pars : List Nat) (xs : List Value) (m : Str → Option Value) (n : Nat),n ∉ pars → bindL kindOf ((pars.map nm).zip xs) m (nm n) = m (nm n)
  | [],xs,m,n,_=>by cases xs <;> rfl
  | p :: ps,[],m,n,_=>rfl
  | p :: ps,x :: xs,m,n,h=>by
    rw [List.map_cons,List.zip_cons_cons]
    unfold bindL
    rw [bindL_other ps xs _ n fun z=>h (.tail _ z)]
    split
    · exact if_neg fun z=>h (by rw [nm_inj z]; exact .head _)
    · rfl
theorem bindC_other : ∀ (pars : List Nat) (xs : List Value) (m : Str → Option Value) (n : Nat),n ∉ pars → bindC kindOf ((pars.map nm).zip xs) m (nm n) = m (nm n)
  | [],xs,m,n,_=>by cases xs <;> rfl
  | p :: ps,[],m,n,_=>rfl
  | p :: ps,x :: xs,m,n,h=>by
    rw [List.map_cons,List.zip_cons_cons]
    unfold bindC
    rw [bindC_other ps xs _ n fun z=>h (.tail _ z)]
    split
    · rfl
    · exact if_neg fun z=>h (by rw [nm_inj z]; exact .head _)
theorem RepVs.fget_ind {P : List Nat → List Value → Prop} {n : Nat} {v : V} {vs : List V} {xs : List Value} (rv : RepVs ad w vs xs) (h0 : ∀ ps x xs,RepV ad w v x → P (n :: ps) (x :: xs)) (h1 : ∀ p ps x xs,p ≠ n → P ps xs → P (p :: ps) (x :: xs)) : ∀ pars,fget pars vs n = some v → P pars xs:=by
  induction rv with
  | nil=>intro pars e; cases pars <;> exact nope e
  | @cons y _ _ _ a _ ih =>
    intro pars e
    cases pars with
    | nil=>exact nope e
    | cons k ps =>
      have e : (match Nat.beq k n with | true=>some y | false=>fget ps _ n) = some v:=e
      cases hk : Nat.beq k n with
      | true=>rw [hk] at e; cases e; cases Nat.eq_of_beq_eq_true hk; exact h0 _ _ _ a
      | false=>rw [hk] at e; exact h1 _ _ _ _ (Nat.ne_of_beq_eq_false hk) (ih _ e)
theorem bindL_get {pars : List Nat} {vs : List V} {xs : List Value} (m : Str → Option Value) {n : Nat} {v : V} (r : RepVs ad w vs xs) (nd : pars.Nodup) (e : fget pars vs n = some v) (hk : kindOf (nm n) = some .local) :
    ∃ x,bindL kindOf ((pars.map nm).zip xs) m (nm n) = some x ∧ RepV ad w v x :=
  r.fget_ind (P:=fun ps xs=>ps.Nodup → ∀ m,∃ x,bindL kindOf ((ps.map nm).zip xs) m (nm n) = some x ∧ RepV ad w v x) (fun ps x xs a nd m=>⟨x,(bindL_other ps xs _ n (List.nodup_cons.mp nd).1).trans (by rw [if_pos hk]; exact if_pos rfl),a⟩)
    (fun _ _ _ _ _ ih nd _=>ih (List.nodup_cons.mp nd).2 _) _ e nd m
theorem bindC_get {pars : List Nat} {vs : List V} {xs : List Value} (m : Str → Option Value) {n : Nat} {v : V} (r : RepVs ad w vs xs) (nd : pars.Nodup) (e : fget pars vs n = some v) (hk : kindOf (nm n) = some .cell) :
    ∃ x,bindC kindOf ((pars.map nm).zip xs) m (nm n) = some x ∧ RepV ad w v x :=
  r.fget_ind (P:=fun ps xs=>ps.Nodup → ∀ m,∃ x,bindC kindOf ((ps.map nm).zip xs) m (nm n) = some x ∧ RepV ad w v x) (fun ps x xs a nd m=>⟨x,(bindC_other ps xs _ n (List.nodup_cons.mp nd).1).trans (by rw [if_neg (by rw [hk]; intro z; cases z)]; exact if_pos rfl),a⟩)
    (fun _ _ _ _ _ ih nd _=>ih (List.nodup_cons.mp nd).2 _) _ e nd m
end
theorem cells_some : ∀ (names : List (Str × NameKind)) (k : Nat) (acc : List (Str × Addr)) (n : Str),((n,NameKind.cell) ∈ names ∨ (acc.lookup n).isSome = true) → ((cellsFrom k names acc).lookup n).isSome = true
  | [],k,acc,n,h=>h.resolve_left fun z=>nomatch z
  | (m,kind) :: r,k,acc,n,h=>by
    unfold cellsFrom
    have keep : ∀ a,(acc.lookup n).isSome = true → (((m,a) :: acc).lookup n).isSome = true:=fun a z=>by
      rw [List.lookup_cons]
      split
      · rfl
      · exact z
    split
    · rename_i hk
      refine cells_some r (k + 1) _ n ?_
      rcases h with h | h
      · rcases List.mem_cons.mp h with h | h
        · cases h; right; rw [List.lookup_cons]; simp
        · exact .inl h
      · exact .inr (keep _ h)
    · rename_i hk
      refine cells_some r k acc n ?_
      rcases h with h | h
      · rcases List.mem_cons.mp h with h | h
        · cases h; exact absurd rfl hk
        · exact .inl h
      · exact .inr h
theorem look_map {α : Type} (f : Nat → Option α) : ∀ (l : List Nat) (n : Nat) (v : α),look (l.map fun t=>(t,f t)) n = some v → f n = some v ∧ n ∈ l
  | [],n,v,h=>by exact nope h
  | a :: r,n,v,h=>by
    rw [List.map_cons] at h
    unfold look at h
    rw [beq_is] at h
    by_cases q : a = n
    · subst q; rw [decide_eq_true rfl] at h; exact ⟨h,.head _⟩
    · rw [decide_eq_false q] at h; exact ⟨(look_map f r n v h).1,.tail _ (look_map f r n v h).2⟩
structure FnAt (hT : Heap) (fa : Addr) (f : FI) : Prop where
  ok : FiOk f
  ex : ∃ o fd,hT.get? fa = some o ∧ o.data = .func fd ∧ fd.body = .stmts (toSs f.body) ∧ fd.scope = scOf f.kinds f.fast ∧ fd.closure = [] ∧ hT.CodeRec fd.code fd.qualname ∧ fd.globals = mainGlobals ∧ fd.builtins = builtinsNs ∧
    ∀ xs : List Value,xs.length = f.pars.length → bindArgs fd ⟨xs,[]⟩ = pure ((f.pars.map nm).zip xs)
section
variable {prog : Program} {W : World} {A : Around} {E : Value → Shared → Prop} {s : Shared} {g : Act} {w b : Wd} {st : St} {d : Nat} {h h' : Heap} {ad : Ad} {hT : Heap} {c : Cfg Prop} {K : Frag} {mg mb : Str → Option Value}
noncomputable def wFn (b : Wd) (L : Addr) (cs : List (Str × Addr)) (cels : List Nat) : Wd :=
  ⟨fun a=>if a = L then .loc else match cels.find? (fun n=>cs.lookup (nm n) == some a) with | some n=>.nce n | none=>b.τ a,b.mu⟩
theorem enter_fn {f : FI} (ok : FiOk f) (aok : AdOk ad) {env : Env} {L : Addr} {vs : List V} {xs : List Value} {hp : Hp} (hL : env.locals = L) (hsc : env.scope = scOf f.kinds f.fast) (hcs : env.cells = cellsFrom (L + 1) (scOf f.kinds f.fast).names [])
    (hg : env.globals = mainGlobals) (hu : env.builtins = builtinsNs) (hsz : s.heap.objs.size ≤ L) (top : ∀ b' o,hT.get? b' = some o → s.heap.get? b' = some o ∧ ¬ ∃ n,b.τ b' = .mut n) {s₁ : Shared}
    (x : InCallC s env.locals (bindL env.kindOf ((f.pars.map nm).zip xs) fun _=>none) env.cells (bindC env.kindOf ((f.pars.map nm).zip xs) fun _=>none) s₁)
    (bfr : ∀ a o,b.τ a = .fro o → s.heap.get? a = some o) (bmt : ∀ a n,b.τ a = .mut n → ∃ o,s.heap.get? a = some o) (bro : ∀ a,¬ (b.τ a).mine) (blen : b.mu.length = hp.length) (bcl : ∀ n c,hget hp n = some c → CtAt ad b n s.heap c)
    (rv : RepVs ad b vs xs) : ∃ g' : Act,g'.ad = ad ∧ g'.hT = hT ∧ g'.h0 = s.heap ∧ (g'.ps = fun a=>∃ n,b.τ a = .mut n) ∧ g'.τ0 = b.τ ∧ g'.env = env ∧ (∀ a,a < s.heap.objs.size → (wFn b L env.cells f.cels).τ a = b.τ a) ∧ Rel g' (wFn b L env.cells f.cels) (startOf f vs hp) s₁.heap:=by
  refine ⟨{ ad:=ad,hT:=hT,h0:=s.heap,ps:=fun a=>∃ n,b.τ a = .mut n,τ0:=b.τ,env:=env,ok:=aok,top:=top,above:=by rw [hL]; exact hsz,kind:=by rw [hsc]; rfl,glob:=hg,bui:=hu },rfl,rfl,rfl,rfl,rfl,rfl,?_⟩
  have kd : ∀ n,env.kindOf (nm n) = (scOf f.kinds f.fast).names.lookup (nm n):=fun n=>by unfold Env.kindOf; rw [hsc]
  have named : ∀ a,b.τ a ≠ .free → a < s.heap.objs.size:=fun a n=>by
    cases e : b.τ a with
    | free=>exact absurd e n
    | fro o=>exact Heap.lt_size (bfr a o e)
    | loc=>exact absurd (by rw [e]; trivial) (bro a)
    | nce k=>exact absurd (by rw [e]; trivial) (bro a)
    | «mut» k=>obtain ⟨o,q⟩:=bmt a k e; exact Heap.lt_size q
  have cab : ∀ n cc,env.cells.lookup (nm n) = some cc → L < cc:=fun n cc e=>hL ▸ x.above _ _ (mem_of_lookup e)
  have low : ∀ a,a < s.heap.objs.size → (wFn b L env.cells f.cels).τ a = b.τ a:=fun a ha=>by
    show (if a = L then Role.loc else _) = _
    rw [if_neg (Nat.ne_of_lt (Nat.lt_of_lt_of_le ha hsz))]
    cases q : f.cels.find? (fun n=>env.cells.lookup (nm n) == some a) with
    | none=>rfl
    | some n =>
      have:=List.find?_some q
      have:=cab n a (by simpa using this)
      exact absurd (Nat.lt_trans this (Nat.lt_of_lt_of_le ha hsz)) (Nat.lt_irrefl _)
  have celr : ∀ n ∈ f.cels,∀ cc,env.cells.lookup (nm n) = some cc → (wFn b L env.cells f.cels).τ cc = .nce n:=fun n hn cc e=>by
    show (if cc = L then Role.loc else _) = _
    rw [if_neg (Nat.ne_of_gt (cab n cc e))]
    cases q : f.cels.find? (fun n=>env.cells.lookup (nm n) == some cc) with
    | none =>
      have:=List.find?_eq_none.mp q n hn
      rw [e] at this; simp at this
    | some k =>
      have z:=List.find?_some q
      have z : env.cells.lookup (nm k) = some cc:=by simpa using z
      have:=nm_inj (name_of_addr x.apart (mem_of_lookup z) (mem_of_lookup e))
      rw [this]
  have sh : ∀ a,(wFn b L env.cells f.cels).τ a = b.τ a ∨ (wFn b L env.cells f.cels).τ a = .loc ∧ a = L ∨ ∃ n ∈ f.cels,(wFn b L env.cells f.cels).τ a = .nce n ∧ env.cells.lookup (nm n) = some a:=fun a=>by
    by_cases ha : a = L
    · exact .inr (.inl ⟨if_pos ha,ha⟩)
    · have e0 : (wFn b L env.cells f.cels).τ a = (match f.cels.find? (fun n=>env.cells.lookup (nm n) == some a) with | some n=>Role.nce n | none=>b.τ a):=if_neg ha
      rw [e0]
      cases q : f.cels.find? (fun n=>env.cells.lookup (nm n) == some a) with
      | none=>exact .inl rfl
      | some n=>exact .inr (.inr ⟨n,List.mem_of_find?_eq_some q,rfl,by simpa using List.find?_some q⟩)
  have keep:=x.toInCall.keep
  have sub : b.sub (wFn b L env.cells f.cels):=⟨fun a o e=>(low a (named a (by rw [e]; intro z; cases z))).trans e,fun _ _ e=>e⟩
  have rv':=rv.sub aok sub
  refine ⟨low,fun b' o _ e=>keep b' o e,fun a o e=>?_,fun a m=>?_,fun a o e=>?_,fun a m=>?_,blen,fun n cc e=>?_,?_,?_,fun n e=>?_,fun n e=>?_,fun n e=>?_⟩
  · rcases sh a with q | ⟨q,_⟩ | ⟨n,_,q,_⟩
    · exact keep a o (bfr a o (q.symm.trans e))
    · rw [q] at e; cases e
    · rw [q] at e; cases e
  · rcases sh a with q | ⟨q,rfl⟩ | ⟨n,_,q,e⟩
    · rw [q] at m
      cases e : b.τ a with
      | «mut» n=>exact .inl ⟨n,e⟩
      | loc=>exact absurd (by rw [e]; trivial) (bro a)
      | nce k=>exact absurd (by rw [e]; trivial) (bro a)
      | free=>rw [e] at m; exact m.elim
      | fro o=>rw [e] at m; exact m.elim
    · exact .inr hsz
    · exact .inr (Nat.le_of_lt (Nat.lt_of_le_of_lt hsz (cab n a e)))
  · rcases sh a with q | ⟨q,_⟩ | ⟨n,_,q,_⟩
    · exact .inl (q.symm.trans e)
    · rw [q] at e; cases e
    · rw [q] at e; cases e
  · rcases sh a with q | ⟨q,rfl⟩ | ⟨n,_,q,e⟩
    · rw [q] at m
      cases e : b.τ a with
      | «mut» n=>obtain ⟨o,z⟩:=bmt a n e; exact ⟨o,keep a o z⟩
      | loc=>exact absurd (by rw [e]; trivial) (bro a)
      | nce k=>exact absurd (by rw [e]; trivial) (bro a)
      | free=>rw [e] at m; exact m.elim
      | fro o=>rw [e] at m; exact m.elim
    · obtain ⟨o,_,_,z,_⟩:=x.toInCall.ns; exact ⟨o,hL ▸ z⟩
    · obtain ⟨o,z,_⟩:=x.cell _ _ e; exact ⟨o,z⟩
  · exact ((bcl n cc e).keeps fun b' o _ e=>keep b' o e).sub aok sub fun a z=>(low a (named a (by rw [z]; intro y; cases y))).trans z
  · show (wFn b L env.cells f.cels).τ env.locals = .loc
    rw [hL]; exact if_pos rfl
  · refine ⟨_,x.toInCall.ns,fun n v e=>?_⟩
    obtain ⟨e1,e2⟩:=look_map _ _ _ _ (show look (f.locs.map fun n=>(n,fget f.pars vs n)) n = some v from e)
    exact bindL_get _ rv' ok.nd e1 ((kd n).trans (ok.loc n e2))
  · have e : has (f.locs.map fun n=>(n,fget f.pars vs n)) n = true:=e
    rw [has_map (fun n=>fget f.pars vs n)] at e
    exact (kd n).trans (ok.loc n (mem_is.mp e))
  · have e : has (f.cels.map fun n=>(n,fget f.pars vs n)) n = true:=e
    rw [has_map (fun n=>fget f.pars vs n)] at e
    have hn:=mem_is.mp e
    have hk:=ok.cel n hn
    have hs:=cells_some (scOf f.kinds f.fast).names (L + 1) [] (nm n) (.inl (mem_of_lookup hk))
    rw [← hcs] at hs
    obtain ⟨cc,hc⟩:=Option.isSome_iff_exists.mp hs
    refine ⟨cc,_,hc,.inl ⟨(kd n).trans hk,celr n hn cc hc⟩,x.cell _ _ hc,fun v z=>?_⟩
    obtain ⟨e1,_⟩:=look_map _ _ _ _ (show look (f.cels.map fun n=>(n,fget f.pars vs n)) n = some v from z)
    exact bindC_get _ rv' ok.nd e1 ((kd n).trans hk)
  · exact (kd n).trans (ok.gl n (mem_is.mp e))
end
end Mine
end
section
open PySem.Spec
namespace Mine
section
variable {prog : Program} {W : World} {A : Around} {E : Value → Shared → Prop} {s : Shared} {g : Act} {w b : Wd} {st : St} {d : Nat} {h h' : Heap} {ad : Ad} {hT : Heap} {c : Cfg Prop} {K : Frag} {mg mb : Str → Option Value}
theorem call_fn {f : FI} {fa : Addr} (fn : FnAt hT fa f) (aok : AdOk ad) (lim : hT.NoLimit) (rm : Rm A (d + 1)) {vs : List V} {xs : List Value} {hp : Hp} {Q : Value → Shared → Prop} (hlen : xs.length = f.pars.length)
    (top : ∀ b' o,hT.get? b' = some o → s.heap.get? b' = some o ∧ ¬ ∃ n,b.τ b' = .mut n)
    (bfr : ∀ a o,b.τ a = .fro o → s.heap.get? a = some o) (bmt : ∀ a n,b.τ a = .mut n → ∃ o,s.heap.get? a = some o) (bro : ∀ a,¬ (b.τ a).mine) (blen : b.mu.length = hp.length) (bcl : ∀ n c,hget hp n = some c → CtAt ad b n s.heap c) (rv : RepVs ad b vs xs)
    (k : ∀ (A' : Around) (g' : Act) (wi : Wd) (h₁ : Heap) (tk : Nat) (E' : Value → Shared → Prop),Rm A' d → g'.ad = ad → g'.hT = hT → g'.h0 = s.heap → (g'.ps = fun a=>∃ n,b.τ a = .mut n) → g'.τ0 = b.τ → (∀ a,a < s.heap.objs.size → wi.τ a = b.τ a) → wi.mu = b.mu → (∀ b o,s.heap.get? b = some o → h₁.get? b = some o) →
      Rel g' wi (startOf f vs hp) h₁ → wpAny (model prog W) A' (execs (toSs f.body) g'.env) (fun fl s'=>Q (match fl with | .ret v=>v | _=>.none) s') E' { s with heap:=h₁,toks:=tk }) :
    wpAny (model prog W) A (call (.ref fa) xs) Q E s:=by
  obtain ⟨o,fd,ho,hd,hbody,hsc,hclo,hcd,hgl,hbu,hbind⟩:=fn.ex
  have T : ∀ b' o,hT.get? b' = some o → s.heap.get? b' = some o:=fun b' o e=>(top b' o e).1
  have ok:=fn.ok
  refine wpAny_call (codeAny_call_cells (binds:=(f.pars.map nm).zip xs) (Nat.lt_of_lt_of_le (Nat.lt_of_le_of_lt (Nat.le_add_right _ _) rm.dp) (by decide)) (T _ _ ho) hd (lim.keeps T) (hcd.keeps T) hbody (hbind xs hlen) hclo (fun x hx=>?_) (fun s₁ x=>?_) (by rw [hsc]; rfl) (by rw [hsc]; rfl) (by rw [hsc]; rfl))
  · have hp' : x.1 ∈ f.pars.map nm:=(List.of_mem_zip (show (x.1,x.2) ∈ _ from hx)).1
    obtain ⟨n,hn,e⟩:=List.mem_map.mp hp'
    rw [hsc,← e]
    rcases ok.par n hn with q | q
    · exact .inl q
    · exact .inr ⟨q,cells_some _ _ _ _ (.inl (mem_of_lookup q))⟩
  · obtain ⟨h₁,tk,e⟩:=x.toInCall.same
    have kp:=x.toInCall.keep
    obtain ⟨g',e1,e2,e3,e4,e5,e6,e7,R⟩:=enter_fn (s:=s) (b:=b) (hT:=hT) ok aok (L:=s.heap.objs.size) (env:=callEnvC fd s.heap.objs.size fa) rfl hsc (by show cellsFrom _ fd.scope.names [] = _; rw [hsc]) hgl hbu (Nat.le_refl _) top x bfr bmt bro blen bcl rv
    subst e
    rw [← e6]
    exact k _ g' _ h₁ tk _ rm.deeper e1 e2 e3 e4 e5 e7 rfl kp R
noncomputable def wPure (τ : Addr → Role) : Wd:=⟨fun a=>match τ a with | .fro o=>.fro o | _=>.free,[]⟩
theorem wPure_fro {τ : Addr → Role} {a : Addr} {o : Obj} : (wPure τ).τ a = .fro o ↔ τ a = .fro o:=by
  show (match τ a with | .fro o=>Role.fro o | _=>.free) = _ ↔ _
  cases τ a <;> simp
theorem pure_of {f : FI} {fa : Addr} (fn : FnAt hT fa f) (aok : AdOk ad) (lim : hT.NoLimit) (L : Lib prog W K ad hT mg mb c d) {ds : List D} {r : D} (hlen : ds.length = f.pars.length)
    (run : aSL c f.body (startOf f (ds.map .d) []) fun fl _=>fl = .ret (.d r)) : PureV prog W ad hT (d + 1) (.ref fa) ds r:=by
  intro A E s Q τ vs rm hk hfr rds k
  have np : ∀ a,¬ ∃ n,(wPure τ).τ a = .mut n:=fun a ⟨n,z⟩=>by
    have z : (match τ a with | .fro o=>Role.fro o | _=>.free) = .mut n:=z
    cases e : τ a <;> rw [e] at z <;> cases z
  have nmi : ∀ a,¬ ((wPure τ).τ a).mine:=fun a z=>by
    have z : Role.mine (match τ a with | .fro o=>Role.fro o | _=>.free):=z
    cases e : τ a <;> rw [e] at z <;> exact z
  have rv : RepVs ad (wPure τ) (ds.map .d) vs:=repVs_of_repL (w:=wPure τ) (rds.mono aok fun a o e=>wPure_fro.mpr e)
  refine call_fn (b:=wPure τ) (hp:=[]) fn aok lim rm (rds.length ▸ hlen) (fun b' o e=>⟨hk b' o e,np b'⟩) (fun a o e=>hfr a o (wPure_fro.mp e)) (fun a n z=>absurd ⟨n,z⟩ (np a)) nmi rfl (fun n c e=>by exact nope e) rv
    fun A' g' wi h₁ tk E' rm' e1 e2 e3 e4 e5 e6 e7 kp R=>?_
  refine aSL_ok L rm' f.body (s:={ s with heap:=h₁,toks:=tk }) e1 e2 run R fun w2 fl st2 h2 tk2 fv S2 R2 r2 q2=>?_
  subst q2
  cases r2 with
  | ret rr =>
    refine k h2 tk2 w2.τ _ ⟨fun b o e=>R2.ext b o (by rw [e4]; exact np b) (by rw [e3]; exact e),fun a o e=>S2.le.one a o ((e6 a (Heap.lt_size (hfr a o e))).trans (wPure_fro.mpr e)),fun a o e=>?_⟩ (e1 ▸ rr)
    rcases R2.frosh a o e with q | q | q
    · rw [e5] at q; exact .inl (wPure_fro.mp q)
    · rw [e3] at q; exact .inr ⟨q,R2.fro a o e⟩
    · rw [e4] at q; exact absurd q (np a)
theorem eff_of {f : FI} {fa : Addr} (fn : FnAt hT fa f) (aok : AdOk ad) (lim : hT.NoLimit) (L : Lib prog W K ad hT mg mb c d) {vs : List V} {hp : Hp} {KK : V → Hp → Prop} (hlen : vs.length = f.pars.length)
    (run : aSL c f.body (startOf f vs hp) fun fl st=>match fl with | .ret v=>KK v st.hp | .nxt=>KK (.d .none) st.hp) : EffV prog W ad hT (d + 1) (.ref fa) vs hp KK:=by
  intro A E s Q g w st xs rm had hhT hhp R rxs k
  subst hhp
  have lt : ∀ a,w.τ a ≠ .free → a < s.heap.objs.size:=fun a n=>R.there n
  have bs : w.sub (wIn w):=⟨fun a o e=>by show (w.τ a).out = _; rw [e]; rfl,fun _ _ e=>e⟩
  refine call_fn (b:=wIn w) (hp:=st.hp) fn aok lim rm (rxs.length ▸ hlen) (fun b' o e=>⟨R.top b' o (hhT ▸ e),fun ⟨n,z⟩=>(R.topNot b' o (hhT ▸ e)).2 ⟨n,Role.out_mut z⟩⟩) (fun a o e=>R.fro a o (Role.out_fro e)) (fun a n z=>R.mthere a (by rw [Role.out_mut z]; trivial))
    (fun a z=>by
      have z : ((w.τ a).out).mine:=z
      cases e : w.τ a <;> rw [e] at z <;> exact z) R.len (fun n cc e=>had ▸ (R.cells n cc e).sub g.ok bs fun b' z=>by show (w.τ b').out = _; rw [z]; rfl) (rxs.sub aok bs)
    fun A' g' wi h₁ tk E' rm' e1 e2 e3 e4 e5 e6 e7 kp R1=>?_
  refine aSL_ok L rm' f.body (s:={ s with heap:=h₁,toks:=tk }) e1 e2 run R1 fun w2 fl st2 h2 tk2 fv S2 R2 r2 q2=>?_
  have hl : w.sub w2:=⟨fun a o e=>S2.le.one a o ((e6 a (lt a (by rw [e]; intro z; cases z))).trans (bs.fr a o e)),fun n a e=>S2.le.two n a (e7 ▸ e)⟩
  obtain ⟨S3,R3,s3⟩:=leave (h3:=h2) R R2 (e1.trans had.symm) (fun b' o e=>by rw [e3]; exact e) (by rw [e3]; exact Nat.le_refl _) (fun a z=>by rw [e4] at z; obtain ⟨n,z⟩:=z; exact ⟨n,Role.out_mut z⟩) (fun a o z=>by rw [e5] at z; exact Role.out_fro z)
    (fun b' o q e=>by
      have:=S2.kept b' o ((e6 b' (Heap.lt_size e)).trans q) (kp b' o e)
      exact this) hl (fun b' o _ e=>e)
  cases r2 with
  | nxt=>exact k _ h2 tk2 _ (.d .none) _ S3 R3 Rep.none q2
  | ret rr=>exact k _ h2 tk2 _ _ _ S3 R3 ((show RepV ad w2 _ _ from e1 ▸ rr).sub aok s3) q2
end
end Mine
end
section
open PySem.Spec
namespace Mine
section
variable {R1 R2 : Type}
structure Hom (T : R1 → R2 → Prop) (c1 : Cfg R1) (c2 : Cfg R2) : Prop where
  F : T c1.F c2.F
  C : ∀ f vs ds hp k1 k2,allD vs = some ds → (∀ v hp,T (k1 v hp) (k2 v hp)) → T (match c1.P f ds with | some r=>k1 (.d r) hp | none=>c1.I f vs hp k1) (match c2.P f ds with | some r=>k2 (.d r) hp | none=>c2.I f vs hp k2)
  M : ∀ f ds,c1.M f ds = c2.M f ds
  I : ∀ f vs hp k1 k2,allD vs = none → (∀ v hp,T (k1 v hp) (k2 v hp)) → T (c1.I f vs hp k1) (c2.I f vs hp k2)
theorem Hom.of {T : R1 → R2 → Prop} {c1 : Cfg R1} {c2 : Cfg R2} (F : T c1.F c2.F) (P : ∀ f ds,c1.P f ds = c2.P f ds) (M : ∀ f ds,c1.M f ds = c2.M f ds) (I : ∀ f vs hp k1 k2,(∀ v hp,T (k1 v hp) (k2 v hp)) → T (c1.I f vs hp k1) (c2.I f vs hp k2)) : Hom T c1 c2 :=
  ⟨F,fun f vs ds hp k1 k2 _ hk=>by rw [P]; split <;> first | exact hk _ _ | exact I _ _ _ _ _ hk,M,fun f vs hp k1 k2 _ hk=>I _ _ _ _ _ hk⟩
variable {T : R1 → R2 → Prop} {c1 : Cfg R1} {c2 : Cfg R2}
noncomputable def XH (T : R1 → R2 → Prop) (c1 : Cfg R1) (c2 : Cfg R2) (x : X) : Prop:=∀ {st k1 k2},(∀ v st,T (k1 v st) (k2 v st)) → T (aX c1 x st k1) (aX c2 x st k2)
noncomputable def XsH (T : R1 → R2 → Prop) (c1 : Cfg R1) (c2 : Cfg R2) (x : XL) : Prop:=∀ {st k1 k2},(∀ v st,T (k1 v st) (k2 v st)) → T (aXs c1 x st k1) (aXs c2 x st k2)
noncomputable def BH (T : R1 → R2 → Prop) (c1 : Cfg R1) (c2 : Cfg R2) (x : XL) : Prop:=∀ {op st k1 k2},(∀ v st,T (k1 v st) (k2 v st)) → T (aB c1 op x st k1) (aB c2 op x st k2)
noncomputable def TH (T : R1 → R2 → Prop) (c1 : Cfg R1) (c2 : Cfg R2) (x : X) : Prop:=∀ {st k1 k2},(∀ v st,T (k1 v st) (k2 v st)) → T (aT c1 x st k1) (aT c2 x st k2)
noncomputable def TsH (T : R1 → R2 → Prop) (c1 : Cfg R1) (c2 : Cfg R2) (x : XL) : Prop:=∀ {op st k1 k2},(∀ v st,T (k1 v st) (k2 v st)) → T (aTs c1 op x st k1) (aTs c2 op x st k2)
noncomputable def OH (T : R1 → R2 → Prop) (c1 : Cfg R1) (c2 : Cfg R2) (x : XO) : Prop:=∀ {st k1 k2},(∀ v st,T (k1 v st) (k2 v st)) → T (aO c1 x st k1) (aO c2 x st k2)
theorem bif_h {b : Bool} {x1 : R1} {x2 : R2} {y1 : R1} {y2 : R2} (h : T x1 x2) (hf : T y1 y2) : T (bif' b x1 y1) (bif' b x2 y2):=by cases b <;> assumption
theorem oV_h {o : Option V} {f1 : V → R1} {f2 : V → R2} {a1 : R1} {a2 : R2} (h : ∀ x,T (f1 x) (f2 x)) (n : T a1 a2) : T (match o with | some x=>f1 x | none=>a1) (match o with | some x=>f2 x | none=>a2):=by
  cases o with
  | none=>exact n
  | some x=>exact h x
theorem oB_h {o : Option Bool} {f1 : Bool → R1} {f2 : Bool → R2} {a1 : R1} {a2 : R2} (h : ∀ x,T (f1 x) (f2 x)) (n : T a1 a2) : T (match o with | some x=>f1 x | none=>a1) (match o with | some x=>f2 x | none=>a2):=by
  cases o with
  | none=>exact n
  | some x=>exact h x
theorem oD_h {o : Option D} {f1 : D → R1} {f2 : D → R2} {a1 : R1} {a2 : R2} (h : ∀ x,T (f1 x) (f2 x)) (n : T a1 a2) : T (match o with | some x=>f1 x | none=>a1) (match o with | some x=>f2 x | none=>a2):=by
  cases o with
  | none=>exact n
  | some x=>exact h x
theorem oL_h {o : Option (List D)} {f1 : (List D) → R1} {f2 : (List D) → R2} {a1 : R1} {a2 : R2} (h : ∀ x,T (f1 x) (f2 x)) (n : T a1 a2) : T (match o with | some x=>f1 x | none=>a1) (match o with | some x=>f2 x | none=>a2):=by
  cases o with
  | none=>exact n
  | some x=>exact h x
theorem oP_h {o : Option (D × Hp)} {f1 : D → Hp → R1} {f2 : D → Hp → R2} {a1 : R1} {a2 : R2} (h : ∀ x y,T (f1 x y) (f2 x y)) (n : T a1 a2) : T (match o with | some (x,y)=>f1 x y | none=>a1) (match o with | some (x,y)=>f2 x y | none=>a2):=by
  cases o with
  | none=>exact n
  | some x=>exact h x.1 x.2
theorem d_h {v : V} {f1 : D → R1} {f2 : D → R2} {a1 : R1} {a2 : R2} (h : ∀ x,T (f1 x) (f2 x)) (n : T a1 a2) : T (match v with | .d x=>f1 x | .c _=>a1) (match v with | .d x=>f2 x | .c _=>a2):=by
  cases v with
  | d x=>exact h x
  | c _=>exact n
theorem c_h {v : V} {f1 : Nat → R1} {f2 : Nat → R2} {a1 : R1} {a2 : R2} (h : ∀ x,T (f1 x) (f2 x)) (n : T a1 a2) : T (match v with | .c x=>f1 x | .d _=>a1) (match v with | .c x=>f2 x | .d _=>a2):=by
  cases v with
  | c x=>exact h x
  | d _=>exact n
theorem dd_h {v u : V} {f1 : D → D → R1} {f2 : D → D → R2} {a1 : R1} {a2 : R2} (h : ∀ x y,T (f1 x y) (f2 x y)) (n : T a1 a2) : T (match v,u with | .d x,.d y=>f1 x y | _,_=>a1) (match v,u with | .d x,.d y=>f2 x y | _,_=>a2):=by
  cases v with
  | d x=>cases u with
    | d y=>exact h x y
    | c _=>exact n
  | c _=>exact n
theorem di_h {v : V} {f1 : Int → R1} {f2 : Int → R2} {a1 : R1} {a2 : R2} (h : ∀ x,T (f1 x) (f2 x)) (n : T a1 a2) : T (match v with | .d (.int x)=>f1 x | _=>a1) (match v with | .d (.int x)=>f2 x | _=>a2):=by
  cases v with
  | d x=>cases x <;> first | exact n | exact h _
  | c _=>exact n
theorem ol_h {o : Option Ct} {f1 : List V → R1} {f2 : List V → R2} {a1 : R1} {a2 : R2} (h : ∀ x,T (f1 x) (f2 x)) (n : T a1 a2) : T (match o with | some (.lst x)=>f1 x | _=>a1) (match o with | some (.lst x)=>f2 x | _=>a2):=by
  cases o with
  | none=>exact n
  | some x=>cases x <;> first | exact n | exact h _
theorem cnone_h {p} : XH T c1 c2 (.cnone p):=by
  intro st k1 k2 hk
  exact hk _ _
theorem cbool_h {b p} : XH T c1 c2 (.cbool b p):=by
  intro st k1 k2 hk
  exact hk _ _
theorem cint_h {i p} : XH T c1 c2 (.cint i p):=by
  intro st k1 k2 hk
  exact hk _ _
theorem cstr_h {s p} : XH T c1 c2 (.cstr s p):=by
  intro st k1 k2 hk
  exact hk _ _
theorem loc_h (H : Hom T c1 c2) {n p} : XH T c1 c2 (.loc n p):=by
  intro st k1 k2 hk
  conv=>arg 1; whnf
  conv=>arg 2; whnf
  repeat' split
  all_goals first | exact H.F | exact hk _ _
theorem cel_h (H : Hom T c1 c2) {n p} : XH T c1 c2 (.cel n p):=by
  intro st k1 k2 hk
  conv=>arg 1; whnf
  conv=>arg 2; whnf
  repeat' split
  all_goals first | exact H.F | exact hk _ _
theorem glo_h (H : Hom T c1 c2) {n p} : XH T c1 c2 (.glo n p):=by
  intro st k1 k2 hk
  conv=>arg 1; whnf
  conv=>arg 2; whnf
  repeat' split
  all_goals first | exact H.F | exact hk _ _
theorem frL_h (H : Hom T c1 c2) {n p} : XH T c1 c2 (.frL n p):=by
  intro st k1 k2 hk
  exact oV_h (fun _=>oP_h (fun _ _=>hk _ _) H.F) H.F
theorem frC_h (H : Hom T c1 c2) {n p} : XH T c1 c2 (.frC n p):=by
  intro st k1 k2 hk
  exact oV_h (fun _=>oP_h (fun _ _=>hk _ _) H.F) H.F
theorem frz_h (H : Hom T c1 c2) {x} (hx : XH T c1 c2 x) : XH T c1 c2 (.frz x):=by
  intro st k1 k2 hk
  refine hx fun v st1=>?_
  exact oP_h (fun _ _=>hk _ _) H.F
theorem bin_h (H : Hom T c1 c2) {op a b p} (ha : XH T c1 c2 a) (hb : XH T c1 c2 b) : XH T c1 c2 (.bin op a b p):=by
  intro st k1 k2 hk
  refine ha fun va st1=>hb fun vb st2=>?_
  exact dd_h (fun _ _=>oD_h (fun _=>hk _ _) H.F) H.F
theorem rep_h (H : Hom T c1 c2) {a b p} (ha : XH T c1 c2 a) (hb : XH T c1 c2 b) : XH T c1 c2 (.rep a b p):=by
  intro st k1 k2 hk
  refine ha fun va st1=>hb fun vb st2=>?_
  repeat' split
  all_goals first | exact H.F | exact hk _ _ | exact bif_h (hk _ _) H.F
theorem cmp_h (H : Hom T c1 c2) {op a b p} (ha : XH T c1 c2 a) (hb : XH T c1 c2 b) : XH T c1 c2 (.cmp op a b p):=by
  intro st k1 k2 hk
  refine ha fun va st1=>hb fun vb st2=>?_
  repeat' split
  all_goals first | exact H.F | exact hk _ _ | exact bif_h (hk _ _) H.F
theorem sub_h (H : Hom T c1 c2) {a b p} (ha : XH T c1 c2 a) (hb : XH T c1 c2 b) : XH T c1 c2 (.sub a b p):=by
  intro st k1 k2 hk
  refine ha fun va st1=>hb fun vb st2=>?_
  exact d_h (fun _=>oV_h (fun _=>hk _ _) H.F) H.F
theorem bop_h (H : Hom T c1 c2) {op xs p} (hx : BH T c1 c2 xs) : XH T c1 c2 (.bop op xs p):=by
  intro st k1 k2 hk
  exact hx hk
theorem not_h (H : Hom T c1 c2) {a p} (ha : XH T c1 c2 a) : XH T c1 c2 (.not a p):=by
  intro st k1 k2 hk
  refine ha fun va st1=>?_
  exact oB_h (fun _=>hk _ _) H.F
theorem neg_h (H : Hom T c1 c2) {a p} (ha : XH T c1 c2 a) : XH T c1 c2 (.neg a p):=by
  intro st k1 k2 hk
  refine ha fun va st1=>?_
  exact di_h (fun _=>hk _ _) H.F
theorem att_h (H : Hom T c1 c2) {a n p} (ha : XH T c1 c2 a) : XH T c1 c2 (.att a n p):=by
  intro st k1 k2 hk
  refine ha fun va st1=>?_
  exact oV_h (fun _=>hk _ _) H.F
theorem ite_h (H : Hom T c1 c2) {t a b p} (ht : TH T c1 c2 t) (ha : XH T c1 c2 a) (hb : XH T c1 c2 b) : XH T c1 c2 (.ite t a b p):=by
  intro st k1 k2 hk
  refine ht fun r st1=>?_
  cases r
  · exact hb hk
  · exact ha hk
theorem tup_h (H : Hom T c1 c2) {xs p} (hx : XsH T c1 c2 xs) : XH T c1 c2 (.tup xs p):=by
  intro st k1 k2 hk
  refine hx fun v st1=>?_
  exact oL_h (fun _=>bif_h (hk _ _) H.F) H.F
theorem lstF_h (H : Hom T c1 c2) {xs p} (hx : XsH T c1 c2 xs) : XH T c1 c2 (.lst false xs p):=by
  intro st k1 k2 hk
  refine hx fun v st1=>?_
  exact oL_h (fun _=>bif_h (hk _ _) H.F) H.F
theorem lstT_h (H : Hom T c1 c2) {xs p} (hx : XsH T c1 c2 xs) : XH T c1 c2 (.lst true xs p):=by
  intro st k1 k2 hk
  refine hx fun v st1=>?_
  exact bif_h (hk _ _) H.F
theorem dic_h (H : Hom T c1 c2) {ks xs p} (hx : XsH T c1 c2 xs) : XH T c1 c2 (.dic ks xs p):=by
  intro st k1 k2 hk
  refine bif_h (hx fun v st1=>?_) H.F
  repeat' split
  all_goals first | exact H.F | exact bif_h (hk _ _) H.F
theorem slc_h (H : Hom T c1 c2) {a lo hi q p} (ha : XH T c1 c2 a) (hl : OH T c1 c2 lo) (hu : OH T c1 c2 hi) : XH T c1 c2 (.slc a lo hi q p):=by
  intro st k1 k2 hk
  refine ha fun va st1=>hl fun l st2=>hu fun u st3=>?_
  repeat' split
  all_goals first | exact H.F | exact hk _ _
theorem callU_h (H : Hom T c1 c2) {f fp xs p} (hx : XsH T c1 c2 xs) : XH T c1 c2 (.callU f fp xs p):=by
  intro st k1 k2 hk
  conv=>arg 1; whnf
  conv=>arg 2; whnf
  split
  · refine hx fun vs st1=>?_
    split
    · rename_i ds e
      exact H.C f vs ds st1.hp (fun v hp=>k1 v { st1 with hp:=hp }) (fun v hp=>k2 v { st1 with hp:=hp }) e fun v hp=>hk _ _
    · rename_i e
      exact H.I _ _ _ _ _ e fun v hp=>hk _ _
  · exact H.F
theorem callB_h (H : Hom T c1 c2) {b f fp xs p} (hx : XsH T c1 c2 xs) : XH T c1 c2 (.callB b f fp xs p):=by
  intro st k1 k2 hk
  conv=>arg 1; whnf
  conv=>arg 2; whnf
  split
  · refine hx fun vs st1=>?_
    split
    · exact hk _ _
    · exact H.F
  · exact H.F
theorem callM_h (H : Hom T c1 c2) {o n op xs p} (ho : XH T c1 c2 o) (hx : XsH T c1 c2 xs) : XH T c1 c2 (.callM o n op xs p):=by
  intro st k1 k2 hk
  refine bif_h (ho fun vo st1=>?_) H.F
  split
  · refine hx fun vs st1=>?_
    split
    · rw [H.M]
      split
      · exact hk _ _
      · exact H.F
    · exact H.F
  · exact H.F
theorem app_h (H : Hom T c1 c2) {a v op p} (ha : XH T c1 c2 a) (hb : XH T c1 c2 v) : XH T c1 c2 (.app a v op p):=by
  intro st k1 k2 hk
  refine bif_h (ha fun va st1=>?_) H.F
  split
  · split
    · refine hb fun w st2=>?_
      split
      · exact bif_h (hk _ _) H.F
      · exact H.F
    · exact H.F
  · exact H.F
theorem pop_h (H : Hom T c1 c2) {a i op p} (ha : XH T c1 c2 a) (hb : XH T c1 c2 i) : XH T c1 c2 (.pop a i op p):=by
  intro st k1 k2 hk
  refine bif_h (ha fun va st1=>?_) H.F
  split
  · split
    · refine hb fun w st2=>?_
      repeat' split
      all_goals first | exact H.F | exact bif_h (hk _ _) H.F
    · exact H.F
  · exact H.F
theorem get_h (H : Hom T c1 c2) {a q e op p} (ha : XH T c1 c2 a) (hq : XH T c1 c2 q) (he : XH T c1 c2 e) : XH T c1 c2 (.get a q e op p):=by
  intro st k1 k2 hk
  refine bif_h (ha fun va st1=>?_) H.F
  split
  · refine hq fun vq st2=>?_
    split
    · refine he fun ve st3=>?_
      split
      · exact hk _ _
      · exact H.F
    · exact H.F
  · exact H.F
theorem loopC_h {f1 : D → List V → St → (List V → St → R1) → R1} {f2 : D → List V → St → (List V → St → R2) → R2} (hf : ∀ x acc st {k1 k2},(∀ acc st,T (k1 acc st) (k2 acc st)) → T (f1 x acc st k1) (f2 x acc st k2)) :
    ∀ (ds : List D) (acc : List V) (st : St) {k1 k2},(∀ acc st,T (k1 acc st) (k2 acc st)) → T (loopC f1 ds acc st k1) (loopC f2 ds acc st k2)
  | [],acc,st,k1,k2,hk=>hk acc st
  | x :: xs,acc,st,k1,k2,hk=>by
    unfold loopC
    exact hf x acc st fun acc' st'=>loopC_h hf xs acc' st' hk
theorem loopF_h {f1 : D → St → (Fl → St → R1) → R1} {f2 : D → St → (Fl → St → R2) → R2} (hf : ∀ x st {k1 k2},(∀ fl st,T (k1 fl st) (k2 fl st)) → T (f1 x st k1) (f2 x st k2)) :
    ∀ (ds : List D) (st : St) {k1 k2},(∀ fl st,T (k1 fl st) (k2 fl st)) → T (loopF f1 ds st k1) (loopF f2 ds st k2)
  | [],st,k1,k2,hk=>hk _ st
  | x :: xs,st,k1,k2,hk=>by
    unfold loopF
    refine hf x st fun fl st'=>?_
    cases fl with
    | nxt=>exact loopF_h hf xs st' hk
    | ret v=>exact hk _ _
theorem comp_h (H : Hom T c1 c2) {m elt t tp r fp it ip ci p} (hx : XH T c1 c2 elt) (hi : XH T c1 c2 it) : XH T c1 c2 (.comp m elt t tp r fp it ip ci p):=by
  intro st k1 k2 hk
  refine bif_h (hi fun vi st1=>?_) H.F
  split
  · exact H.F
  · split
    · exact H.F
    · refine bif_h (loopC_h ?_ _ _ _ ?_) H.F
      · intro x acc st k1 k2 hk
        exact bif_h (hx fun v st=>hk _ _) H.F
      · intro acc st'
        cases m with
        | true=>exact hk _ _
        | false =>
          dsimp only
          split
          · exact hk _ _
          · exact H.F
theorem comp2_h (H : Hom T c1 c2) {elt t tp it u up iu ci p} (hx : XH T c1 c2 elt) (hi : XH T c1 c2 it) (hu : XH T c1 c2 iu) : XH T c1 c2 (.comp2 elt t tp it u up iu ci p):=by
  intro st k1 k2 hk
  refine bif_h (hi fun vi st1=>?_) H.F
  split
  · exact H.F
  · split
    · exact H.F
    · refine bif_h (loopC_h ?_ _ _ _ ?_) H.F
      · intro x acc st k1 k2 hk
        refine bif_h (hu fun vu st=>?_) H.F
        split
        · exact H.F
        · split
          · exact H.F
          · refine bif_h (loopC_h ?_ _ _ _ hk) H.F
            intro y acc st k1 k2 hk
            exact bif_h (hx fun v st=>bif_h (hk _ _) H.F) H.F
      · intro acc st'
        refine bif_h ?_ H.F
        split
        · exact hk _ _
        · exact H.F
theorem ono_h (H : Hom T c1 c2)  : OH T c1 c2 .no:=by
  intro st k1 k2 hk
  exact hk _ _
theorem oyes_h (H : Hom T c1 c2) {x} (hx : XH T c1 c2 x) : OH T c1 c2 (.yes x):=by
  intro st k1 k2 hk
  refine hx fun v st1=>?_
  split
  · exact hk _ _
  · exact H.F
theorem nil_h (H : Hom T c1 c2)  : XsH T c1 c2 .nil:=by
  intro st k1 k2 hk
  exact hk _ _
theorem cons_h (H : Hom T c1 c2) {x r} (hx : XH T c1 c2 x) (hr : XsH T c1 c2 r) : XsH T c1 c2 (.cons x r):=by
  intro st k1 k2 hk
  exact hx fun v st1=>hr fun vs st2=>hk _ _
theorem bnil_h (H : Hom T c1 c2)  : BH T c1 c2 .nil:=by
  intro op st k1 k2 hk
  exact H.F
theorem bone_h (H : Hom T c1 c2) {x} (hx : XH T c1 c2 x) : BH T c1 c2 (.cons x .nil):=by
  intro op st k1 k2 hk
  exact hx hk
theorem bcons_h (H : Hom T c1 c2) {x y r} (hx : XH T c1 c2 x) (hr : BH T c1 c2 (.cons y r)) : BH T c1 c2 (.cons x (.cons y r)):=by
  intro op st k1 k2 hk
  refine hx fun v st1=>?_
  split
  · exact H.F
  · split
    · exact hk _ _
    · exact hk _ _
    · exact hr hk
theorem tsnil_h (H : Hom T c1 c2)  : TsH T c1 c2 .nil:=by
  intro op st k1 k2 hk
  exact hk _ _
theorem tscons_h (H : Hom T c1 c2) {x r} (hx : TH T c1 c2 x) (hr : TsH T c1 c2 r) : TsH T c1 c2 (.cons x r):=by
  intro op st k1 k2 hk
  refine hx fun b st1=>?_
  split
  · exact hk _ _
  · exact hk _ _
  · exact hr hk
theorem tbop_h (H : Hom T c1 c2) {op xs p} (hx : TsH T c1 c2 xs) : TH T c1 c2 (.bop op xs p):=by
  intro st k1 k2 hk
  exact hx hk
theorem tnot_h (H : Hom T c1 c2) {a p} (ha : TH T c1 c2 a) : TH T c1 c2 (.not a p):=by
  intro st k1 k2 hk
  exact ha fun b st=>hk _ _
theorem tcmp_h (H : Hom T c1 c2) {op a b p} (ha : XH T c1 c2 a) (hb : XH T c1 c2 b) : TH T c1 c2 (.cmp op a b p):=by
  intro st k1 k2 hk
  refine ha fun va st1=>hb fun vb st2=>?_
  repeat' split
  all_goals first | exact H.F | exact hk _ _
theorem tloc_h (H : Hom T c1 c2) {n p} : TH T c1 c2 (.loc n p):=by
  intro st k1 k2 hk
  conv=>arg 1; whnf
  conv=>arg 2; whnf
  repeat' split
  all_goals first | exact H.F | exact hk _ _
theorem tatt_h (H : Hom T c1 c2) {a n p} (ha : XH T c1 c2 a) : TH T c1 c2 (.att a n p):=by
  intro st k1 k2 hk
  refine ha fun va st1=>?_
  repeat' split
  all_goals first | exact H.F | exact hk _ _
theorem tcallU_h (H : Hom T c1 c2) {f fp xs p} (hx : XsH T c1 c2 xs) : TH T c1 c2 (.callU f fp xs p):=by
  intro st k1 k2 hk
  conv=>arg 1; whnf
  conv=>arg 2; whnf
  have go : ∀ (v : V) (st1 : St),T (match truV v with | some b=>k1 b st1 | none=>c1.F) (match truV v with | some b=>k2 b st1 | none=>c2.F):=fun v st1=>by
    cases truV v <;> first | exact H.F | exact hk _ _
  split
  · refine hx fun vs st1=>?_
    split
    · rename_i ds e
      exact H.C f vs ds st1.hp (fun v hp=>match truV v with | some b=>k1 b { st1 with hp:=hp } | none=>c1.F) (fun v hp=>match truV v with | some b=>k2 b { st1 with hp:=hp } | none=>c2.F) e fun v hp=>go v _
    · rename_i e
      exact H.I _ _ _ _ _ e fun v hp=>go v _
  · exact H.F
theorem tno_h (H : Hom T c1 c2) {x : X} (h1 : ∀ st k,aT c1 x st k = c1.F) (h2 : ∀ st k,aT c2 x st k = c2.F) : TH T c1 c2 x:=by
  intro st k1 k2 hk
  rw [h1,h2]
  exact H.F
mutual
theorem aX_h (H : Hom T c1 c2) : ∀ x : X,XH T c1 c2 x
  | .cnone _=>cnone_h
  | .cbool _ _=>cbool_h
  | .cint _ _=>cint_h
  | .cstr _ _=>cstr_h
  | .loc _ _=>loc_h H
  | .cel _ _=>cel_h H
  | .glo _ _=>glo_h H
  | .frL _ _=>frL_h H
  | .frC _ _=>frC_h H
  | .frz x=>frz_h H (aX_h H x)
  | .bin _ a b _=>bin_h H (aX_h H a) (aX_h H b)
  | .rep a b _=>rep_h H (aX_h H a) (aX_h H b)
  | .cmp _ a b _=>cmp_h H (aX_h H a) (aX_h H b)
  | .bop _ xs _=>bop_h H (aB_h H xs)
  | .not a _=>not_h H (aX_h H a)
  | .neg a _=>neg_h H (aX_h H a)
  | .ite t a b _=>ite_h H (aT_h H t) (aX_h H a) (aX_h H b)
  | .tup xs _=>tup_h H (aXs_h H xs)
  | .lst false xs _=>lstF_h H (aXs_h H xs)
  | .lst true xs _=>lstT_h H (aXs_h H xs)
  | .dic _ xs _=>dic_h H (aXs_h H xs)
  | .sub a i _=>sub_h H (aX_h H a) (aX_h H i)
  | .slc a lo hi _ _=>slc_h H (aX_h H a) (aO_h H lo) (aO_h H hi)
  | .att a _ _=>att_h H (aX_h H a)
  | .callU _ _ xs _=>callU_h H (aXs_h H xs)
  | .callB _ _ _ xs _=>callB_h H (aXs_h H xs)
  | .callM o _ _ xs _=>callM_h H (aX_h H o) (aXs_h H xs)
  | .app a v _ _=>app_h H (aX_h H a) (aX_h H v)
  | .pop a i _ _=>pop_h H (aX_h H a) (aX_h H i)
  | .get a q e _ _=>get_h H (aX_h H a) (aX_h H q) (aX_h H e)
  | .comp _ elt _ _ _ _ it _ _ _=>comp_h H (aX_h H elt) (aX_h H it)
  | .comp2 elt _ _ it _ _ iu _ _=>comp2_h H (aX_h H elt) (aX_h H it) (aX_h H iu)
theorem aO_h (H : Hom T c1 c2) : ∀ x : XO,OH T c1 c2 x
  | .no=>ono_h H
  | .yes x=>oyes_h H (aX_h H x)
theorem aXs_h (H : Hom T c1 c2) : ∀ x : XL,XsH T c1 c2 x
  | .nil=>nil_h H
  | .cons x r=>cons_h H (aX_h H x) (aXs_h H r)
theorem aB_h (H : Hom T c1 c2) : ∀ x : XL,BH T c1 c2 x
  | .nil=>bnil_h H
  | .cons x .nil=>bone_h H (aX_h H x)
  | .cons x (.cons y r)=>bcons_h H (aX_h H x) (aB_h H (.cons y r))
theorem aT_h (H : Hom T c1 c2) : ∀ x : X,TH T c1 c2 x
  | .bop _ xs _=>tbop_h H (aTs_h H xs)
  | .not a _=>tnot_h H (aT_h H a)
  | .cmp _ a b _=>tcmp_h H (aX_h H a) (aX_h H b)
  | .loc _ _=>tloc_h H
  | .att a _ _=>tatt_h H (aX_h H a)
  | .callU _ _ xs _=>tcallU_h H (aXs_h H xs)
  | .cnone _=>tno_h H (fun _ _=>rfl) fun _ _=>rfl
  | .cbool _ _=>tno_h H (fun _ _=>rfl) fun _ _=>rfl
  | .cint _ _=>tno_h H (fun _ _=>rfl) fun _ _=>rfl
  | .cstr _ _=>tno_h H (fun _ _=>rfl) fun _ _=>rfl
  | .cel _ _=>tno_h H (fun _ _=>rfl) fun _ _=>rfl
  | .glo _ _=>tno_h H (fun _ _=>rfl) fun _ _=>rfl
  | .frL _ _=>tno_h H (fun _ _=>rfl) fun _ _=>rfl
  | .frC _ _=>tno_h H (fun _ _=>rfl) fun _ _=>rfl
  | .frz _=>tno_h H (fun _ _=>rfl) fun _ _=>rfl
  | .bin ..=>tno_h H (fun _ _=>rfl) fun _ _=>rfl
  | .rep ..=>tno_h H (fun _ _=>rfl) fun _ _=>rfl
  | .neg ..=>tno_h H (fun _ _=>rfl) fun _ _=>rfl
  | .ite ..=>tno_h H (fun _ _=>rfl) fun _ _=>rfl
  | .tup ..=>tno_h H (fun _ _=>rfl) fun _ _=>rfl
  | .lst ..=>tno_h H (fun _ _=>rfl) fun _ _=>rfl
  | .dic ..=>tno_h H (fun _ _=>rfl) fun _ _=>rfl
  | .sub ..=>tno_h H (fun _ _=>rfl) fun _ _=>rfl
  | .slc ..=>tno_h H (fun _ _=>rfl) fun _ _=>rfl
  | .callB ..=>tno_h H (fun _ _=>rfl) fun _ _=>rfl
  | .callM ..=>tno_h H (fun _ _=>rfl) fun _ _=>rfl
  | .app ..=>tno_h H (fun _ _=>rfl) fun _ _=>rfl
  | .pop ..=>tno_h H (fun _ _=>rfl) fun _ _=>rfl
  | .get ..=>tno_h H (fun _ _=>rfl) fun _ _=>rfl
  | .comp ..=>tno_h H (fun _ _=>rfl) fun _ _=>rfl
  | .comp2 ..=>tno_h H (fun _ _=>rfl) fun _ _=>rfl
theorem aTs_h (H : Hom T c1 c2) : ∀ x : XL,TsH T c1 c2 x
  | .nil=>tsnil_h H
  | .cons x r=>tscons_h H (aT_h H x) (aTs_h H r)
end
theorem aTup_h (H : Hom T c1 c2) : ∀ (ts : List (Bool × Nat × Pos)) (xs : List D) (st : St) {k1 k2},(∀ st,T (k1 st) (k2 st)) → T (aTup c1 ts xs st k1) (aTup c2 ts xs st k2)
  | [],[],st,k1,k2,hk=>hk st
  | [],_ :: _,st,k1,k2,hk=>H.F
  | _ :: _,[],st,k1,k2,hk=>H.F
  | (b,n,p) :: ts,x :: xs,st,k1,k2,hk=>by
    conv=>arg 1; whnf
    conv=>arg 2; whnf
    cases b with
    | true=>exact bif_h (aTup_h H ts xs _ hk) H.F
    | false=>exact bif_h (aTup_h H ts xs _ hk) H.F
theorem aG_h (H : Hom T c1 c2) : ∀ (t : Tg) (v : V) (st : St) {k1 k2},(∀ st,T (k1 st) (k2 st)) → T (aG c1 t v st k1) (aG c2 t v st k2)
  | .loc n p,v,st,k1,k2,hk=>by exact bif_h (hk _) H.F
  | .cel n p,v,st,k1,k2,hk=>by exact bif_h (hk _) H.F
  | .tup ts p,.c _,st,k1,k2,hk=>by exact H.F
  | .tup ts p,.d x,st,k1,k2,hk=>by
    conv=>arg 1; whnf
    conv=>arg 2; whnf
    cases x <;> first | exact H.F | exact aTup_h H ts _ _ hk
  | .att o n p,v,st,k1,k2,hk=>by
    refine aX_h H o fun vo st1=>?_
    split
    · split
      · split
        exact bif_h (hk _) H.F
      · exact H.F
    · exact H.F
  | .sub o i p,v,st,k1,k2,hk=>by
    refine aX_h H o fun vo st1=>aX_h H i fun vi st2=>?_
    repeat' split
    all_goals first | exact H.F | exact bif_h (hk _) H.F
mutual
theorem aS_h (H : Hom T c1 c2) : ∀ (x : S) (st : St) {k1 k2},(∀ fl st,T (k1 fl st) (k2 fl st)) → T (aS c1 x st k1) (aS c2 x st k2)
  | .asg t e p,st,k1,k2,hk=>by
    exact bif_h (aX_h H e fun v st1=>aG_h H t v st1 fun st2=>hk _ _) H.F
  | .aug cell n np op e p,st,k1,k2,hk=>by
    conv=>arg 1; whnf
    conv=>arg 2; whnf
    split
    · refine aX_h H e fun v st1=>?_
      repeat' split
      all_goals first | exact H.F | exact hk _ _
    · exact H.F
  | .exp e p,st,k1,k2,hk=>by
    refine bif_h (aX_h H e fun v st1=>?_) H.F
    repeat' split
    all_goals first | exact H.F | exact hk _ _
  | .iff t a b p,st,k1,k2,hk=>by
    refine aT_h H t fun r st1=>?_
    cases r
    · exact aSL_h H b st1 hk
    · exact aSL_h H a st1 hk
  | .for t r fp it ip b p,st,k1,k2,hk=>by
    refine bif_h (aX_h H it fun vi st1=>?_) H.F
    split
    · exact H.F
    · split
      · exact H.F
      · exact loopF_h (fun x st _ _ hk=>aG_h H t (.d x) st fun st2=>aSL_h H b st2 hk) _ _ hk
  | .ret e p,st,k1,k2,hk=>by
    exact aX_h H e fun v st1=>hk _ _
  | .raw _,st,k1,k2,hk=>by
    exact H.F
theorem aSL_h (H : Hom T c1 c2) : ∀ (x : SL) (st : St) {k1 k2},(∀ fl st,T (k1 fl st) (k2 fl st)) → T (aSL c1 x st k1) (aSL c2 x st k2)
  | .nil,st,k1,k2,hk=>by exact hk _ _
  | .cons s r,st,k1,k2,hk=>by
    refine aS_h H s st fun fl st1=>?_
    cases fl with
    | nxt=>exact aSL_h H r st1 hk
    | ret v=>exact hk _ _
end
end
end Mine
end
section
open PySem.Spec
namespace Mine
noncomputable section
noncomputable def fiL : List FI:=[f_mask,f_code,f_from_codes,f_slice_vec,f_z_to_x,f_truth,f_bit_and,f_bit_or,f_bit_xor,f_choose,f_arithmetic,f_comparison,f_bitwise,f_binary,f_conditional,f_evaluate,f_drive_bit,f_drive,f_stronger,f_join,f_rest_drive,f_held_code,f_resolve_bits,f_pair_code,f_pairs_vec,f_opposite,f_and_codes,f_or_codes,f_xor_codes,f_logic_gate,f_is_three_state,f_opening_code,f_passed_code,f_three_state,f_gate_pair,f_level_codes,f_is_edge,f_out_code,f_plain,f_levels_match,f_next_level,f_primitive_code,f_element_pairs,f__law_bag,f__law_pull,f__law_signal,f__law_term,f__law_input,f__law_thing,f__law_element,f__law_row,f__law_either,f__law_gate,f__law_table,f__law_levels,f__law_rest,f__law_net,f_law]
theorem fi_all : fiL.all fiOkB = true:=by decide +kernel
noncomputable abbrev Tab:=Nat → List D → Option D
noncomputable def cO (P M : Tab) : Cfg (Option D):=⟨none,P,M,fun _ _ _ _=>none⟩
noncomputable def cP (P M : Tab) : Cfg Prop:=⟨False,P,M,fun _ _ _ _=>False⟩
noncomputable def endO (fl : Fl) : Option D:=match fl with
  | .ret (.d r)=>some r
  | _=>none
noncomputable def runO (P M : Tab) (f : FI) (ds : List D) : Option D:=bif' (Nat.beq ds.length f.pars.length) (aSL (cO P M) f.body (startOf f (ds.map .d) []) fun fl _=>endO fl) none
noncomputable def startC (f : FI) (caught ds : List D) : St :=
  { loc:=f.locs.map fun n=>(n,fget f.pars (ds.map .d) n),cel:=(f.cels.zip caught).map fun p=>(p.1,some (.d p.2)),gl:=f.gls,hp:=[],own:=false }
noncomputable def noTab : Tab:=fun _ _=>none
noncomputable def mTab : Tab:=fun q ds=>match Nat.beq q 60,ds with
  | true,[c,x]=>aSL (cO noTab noTab) f__law_context__law_get.body (startC f__law_context__law_get [c] [x]) fun fl _=>endO fl
  | _,_=>none
noncomputable def pk : Nat → Tab
  | 0=>noTab
  | k + 1=>fun f ds=>match nth fiL f with
    | some fi=>runO (pk k) mTab fi ds
    | none=>none
theorem cO_hom (P M : Tab) (r : D) : Hom (fun (o : Option D) (p : Prop)=>o = some r → p) (cO P M) (cP P M) :=
  .of (fun e=>(by exact nope e)) (fun _ _=>rfl) (fun _ _=>rfl) fun _ _ _ _ _ _ e=>(by exact nope e)
theorem runO_run {P M : Tab} {b : SL} {st : St} {r : D} (h : aSL (cO P M) b st (fun fl _=>endO fl) = some r) : aSL (cP P M) b st fun fl _=>fl = .ret (.d r):=by
  refine aSL_h (cO_hom P M r) b st (k1:=fun fl _=>endO fl) (fun fl st e=>?_) h
  cases fl with
  | nxt=>exact nope e
  | ret v =>
    cases v with
    | d x=>cases e; rfl
    | c _=>exact nope e
theorem PureV.up {prog : Program} {W : World} {ad : Ad} {hT : Heap} {d e : Nat} {f : Value} {ds : List D} {r : D} (h : PureV prog W ad hT d f ds r) (le : d ≤ e) : PureV prog W ad hT e f ds r:=fun rm=>h (rm.less le)
theorem CloV.up {prog : Program} {W : World} {ad : Ad} {hT : Heap} {d e : Nat} {q : Nat} {v : Value} {cs ds : List D} {r : D} (h : CloV prog W ad hT d q v cs ds r) (le : d ≤ e) : CloV prog W ad hT e q v cs ds r:=fun rm=>h (rm.less le)
structure Base (prog : Program) (W : World) (K : Frag) (ad : Ad) (hT : Heap) (mg mb : Str → Option Value) : Prop where
  aok : AdOk ad
  lim : hT.NoLimit
  X : K.In hT
  cls : ∀ n,ClsOk K (ad.cls n)
  dk : DictOk prog W ad
  nsg : hT.Ns mainGlobals mg
  nsb : hT.Ns builtinsNs mb
  bi : ∀ b,mg (nm (biId b)) = none ∧ mb (nm (biId b)) = some (biV b)
  mods : ∃ a o,sysModules ≤ a ∧ hT.get? a = some o
  rng : mg (nm 193) = none ∧ mb (nm 193) = some (.type "range")
  con : ∀ n x,gconst n = some x → ∃ v,mg (nm n) = some v ∧ ∀ τ,Rep ad τ x v
  fnAt : ∀ f fi,nth fiL f = some fi → ∃ fa,mg (nm f) = some (.ref fa) ∧ FnAt hT fa fi
  ctx : ∃ v,mg (nm 58) = some v ∧ ∀ h : Heap,(∀ b o,hT.get? b = some o → h.get? b = some o) → Keeps prog W h v
  cl : ∀ n,n = 61 ∨ n = 62 → mg (nm n) = some (.ref (ad.cls n)) ∧ ∀ h : Heap,(∀ b o,hT.get? b = some o → h.get? b = some o) → Keeps prog W h (.ref (ad.cls n))
  clo : ∀ q v cs ds r,mTab q (cs ++ ds) = some r → CloV prog W ad hT 1 q v cs ds r
section
variable {prog : Program} {W : World} {K : Frag} {ad : Ad} {hT : Heap} {mg mb : Str → Option Value}
theorem FnAt.keeps {fa : Addr} {f : FI} (fn : FnAt hT fa f) (h : Heap) (k : ∀ b o,hT.get? b = some o → h.get? b = some o) : Keeps prog W h (.ref fa):=by
  obtain ⟨o,fd,ho,hd,_⟩:=fn.ex
  exact keeps_fn (k _ _ ho) hd
theorem nth_lt {α : Type} : ∀ {l : List α} {n : Nat},n < l.length → ∃ x,nth l n = some x
  | [],n,h=>absurd h (Nat.not_lt_zero _)
  | x :: r,0,h=>⟨x,rfl⟩
  | x :: r,n + 1,h=>nth_lt (l:=r) (Nat.lt_of_succ_lt_succ h)
theorem Base.fns (B : Base prog W K ad hT mg mb) (f : Nat) (h : isFn f = true) : ∃ v,mg (nm f) = some v ∧ ∀ h : Heap,(∀ b o,hT.get? b = some o → h.get? b = some o) → Keeps prog W h v:=by
  unfold isFn at h
  rw [Bool.or_eq_true,Bool.or_eq_true,beq_is,beq_is] at h
  rcases h with (h | h) | h
  · have h : f < 59:=by
      have : f ≤ 58:=by simpa [Nat.blt] using h
      omega
    by_cases e : f = 58
    · subst e; exact B.ctx
    · obtain ⟨fi,q⟩:=nth_lt (l:=fiL) (n:=f) (by show f < 58; omega)
      obtain ⟨fa,a,b⟩:=B.fnAt f fi q
      exact ⟨_,a,fun h k=>b.keeps h k⟩
  · exact ⟨_,B.cl f (.inl (of_decide_eq_true h))⟩
  · exact ⟨_,B.cl f (.inr (of_decide_eq_true h))⟩
theorem Base.lib (B : Base prog W K ad hT mg mb) {c : Cfg Prop} {d : Nat} (hF : ¬ c.F) (hM : c.M = mTab) (hd : 1 ≤ d) (hP : ∀ f v ds r,mg (nm f) = some v → c.P f ds = some r → PureV prog W ad hT d v ds r)
    (hI : ∀ f v vs hp k,mg (nm f) = some v → c.I f vs hp k → EffV prog W ad hT d v vs hp k) : Lib prog W K ad hT mg mb c d :=
  ⟨hF,B.X,B.cls,B.dk,B.nsg,B.nsb,B.bi,B.mods,B.rng,B.con,B.fns,hP,hI,fun q v cs ds r e=>CloV.up (B.clo q v cs ds r (by rw [← hM]; exact e)) hd⟩
theorem pk_pure (B : Base prog W K ad hT mg mb) : ∀ (k : Nat) (f : Nat) (v : Value) (ds : List D) (r : D),mg (nm f) = some v → pk k f ds = some r → PureV prog W ad hT (k + 1) v ds r
  | 0,f,v,ds,r,hv,e=>by exact nope e
  | k + 1,f,v,ds,r,hv,e=>by
    unfold pk at e
    split at e
    · rename_i fi q
      obtain ⟨fa,a,b⟩:=B.fnAt f fi q
      rw [hv] at a; obtain rfl:=Option.some.inj a
      obtain ⟨hl,e⟩:=bif_some e rfl
      rw [beq_is] at hl
      have L : Lib prog W K ad hT mg mb (cP (pk k) mTab) (k + 1):=B.lib id rfl (Nat.succ_le_succ (Nat.zero_le _)) (fun f v ds r hv e=>pk_pure B k f v ds r hv e) fun _ _ _ _ _ _ z=>z.elim
      exact pure_of b B.aok B.lim L (of_decide_eq_true hl) (runO_run e)
    · exact nope e
end
end
end Mine
end
section
open PySem.Spec
namespace Mine
noncomputable section
inductive CloRec (τ : Addr → Role) : Value → List Value → Prop
  | mk {fa : Addr} {o : Obj} {fd : FuncData} {c : Addr} {oc : Obj} {x : Value} {cc : Addr} {oo : Obj} {fs : Array Value} {tk : Tok} (h2 : τ fa = .fro o) (h3 : o.data = .func fd) (h4 : fd.body = .stmts (toSs f__law_context__law_get.body)) (h5 : fd.scope = scOf f__law_context__law_get.kinds f__law_context__law_get.fast)
    (h6 : fd.closure = [(nm 172,c)]) (h7 : τ c = .fro oc) (h8 : oc.data = .cell (some x)) (h9 : fd.code = .ref cc) (h10 : τ cc = .fro oo) (h11 : oo.data = .fields fs) (h12 : fs[1]? = some (.str fd.qualname tk)) (h13 : fd.globals = mainGlobals) (h14 : fd.builtins = builtinsNs)
    (h15 : ∀ y : Value,bindArgs fd ⟨[y],[]⟩ = pure [(nm 189,y)]) : CloRec τ (.ref fa) [x]
noncomputable def cloR (q : Nat) (v : Value) (vs : List Value) (τ : Addr → Role) : Prop:=q = 60 ∧ CloRec τ v vs
theorem cloR_mono {q : Nat} {v : Value} {vs : List Value} {τ τ' : Addr → Role} (hk : ∀ a o,τ a = .fro o → τ' a = .fro o) (h : cloR q v vs τ) : cloR q v vs τ' :=
  ⟨h.1,CloRec.rec (motive:=fun v vs _=>CloRec τ' v vs) (fun h2 h3 h4 h5 h6 h7 h8 h9 h10=>.mk (hk _ _ h2) h3 h4 h5 h6 (hk _ _ h7) h8 h9 (hk _ _ h10)) h.2⟩
theorem cloR_handed {q : Nat} {v : Value} {vs : List Value} {τ : Addr → Role} (h : cloR q v vs τ) : handedIn v = true:=by
  cases h.2
  rfl
section
variable {prog : Program} {W : World} {A : Around} {E : Value → Shared → Prop} {s : Shared} {g : Act} {w b : Wd} {st : St} {d : Nat} {h h' : Heap} {ad : Ad} {hT : Heap} {c : Cfg Prop} {K : Frag} {mg mb : Str → Option Value}
theorem clo_loc : (scOf f__law_context__law_get.kinds f__law_context__law_get.fast).names.lookup (nm 189) = some .local:=by decide +kernel
theorem clo_kinds : (scOf f__law_context__law_get.kinds f__law_context__law_get.fast).names.lookup (nm 183) = some .local ∧ (scOf f__law_context__law_get.kinds f__law_context__law_get.fast).names.lookup (nm 184) = some .local ∧
    (scOf f__law_context__law_get.kinds f__law_context__law_get.fast).names.lookup (nm 172) = some .free ∧ (scOf f__law_context__law_get.kinds f__law_context__law_get.fast).names.lookup (nm 158) = some .globalImplicit:=by decide +kernel
theorem clo_ok (aok : AdOk ad) (lim : hT.NoLimit) (hclo : ad.clo = cloR) (L : Lib prog W K ad hT mg mb (cP noTab noTab) 0) {q : Nat} {v : Value} {cs ds : List D} {r : D} (e : mTab q (cs ++ ds) = some r) : CloV prog W ad hT 1 q v cs ds r:=by
  intro A E s Q τ cvs vs rm hk hfr hc rcs rds k
  rw [hclo] at hc
  obtain ⟨rfl,hc⟩:=hc
  obtain @⟨fa,o,fd,c,oc,x,cc,oo,fs,tk0,h2,hd,hbody,hsc,hclos,h7,hcx,hcode,h11,hoo,hq,hgl,hbu,hbind⟩:=hc
  have ho:=hfr _ _ h2
  refine ⟨keeps_fn ho hd,?_⟩
  cases rcs with
  | cons rx rnil =>
    cases rnil
    rename_i dx
    cases ds with
    | nil=>exact nope e
    | cons dk ds =>
      cases ds with
      | cons _ _=>exact nope e
      | nil =>
        cases rds with
        | cons ry rnil =>
          cases rnil
          rename_i y
          have e : aSL (cO noTab noTab) f__law_context__law_get.body (startC f__law_context__law_get [dx] [dk]) (fun fl _=>endO fl) = some r:=e
          have np : ∀ a,¬ ∃ n,(wPure τ).τ a = .mut n:=fun a ⟨n,z⟩=>by
            have z : (match τ a with | .fro o=>Role.fro o | _=>.free) = .mut n:=z
            cases e : τ a <;> rw [e] at z <;> cases z
          have pf : ∀ a,(wPure τ).τ a = .free ∨ ∃ o,(wPure τ).τ a = .fro o:=fun a=>by
            show (match τ a with | .fro o=>Role.fro o | _=>.free) = _ ∨ ∃ o,(match τ a with | .fro o=>Role.fro o | _=>.free) = _
            cases τ a <;> simp
          have hcd : s.heap.CodeRec fd.code fd.qualname:=⟨cc,oo,fs,tk0,hcode,hfr _ _ h11,hoo,hq⟩
          refine wpAny_call (codeAny_call_function (Nat.lt_of_lt_of_le (Nat.lt_of_le_of_lt (Nat.le_add_right _ _) rm.dp) (by decide)) ho hd (by rw [hsc]; rfl) (by rw [hsc]; rfl) hbody hcd ?_)
          rw [hbind,hclos,hsc,hgl,hbu]
          refine wpAny_pure (wpAny_newFunctionEnv (by intro x hx z; revert z; revert hx; revert x; decide +kernel) (by intro x hx; rw [List.mem_singleton.mp hx]; exact clo_loc) (fun h₁ hns hsb=>?_) rfl)
          have kp : ∀ b o,s.heap.get? b = some o → h₁.get? b = some o:=fun b o e=>hsb.extBut b o (Nat.ne_of_lt (Heap.lt_size e)) (Heap.get?_push_of_some _ e)
          refine ⟨lim.keeps fun b o e=>kp b o (hk b o e),codeAny_func ?_⟩
          let g' : Act:=⟨ad,hT,s.heap,fun _=>False,(wPure τ).τ,newEnv (scOf f__law_context__law_get.kinds f__law_context__law_get.fast) s.heap.objs.size mainGlobals [(nm 172,c)] (fd.qualname ++ ".<locals>.") (some fa) fd.code none builtinsNs,aok,fun b o e=>⟨hk b o e,id⟩,Nat.le_refl _,rfl,rfl,rfl⟩
          have hcobj : s.heap.get? c = some oc:=hfr _ _ h7
          have sub : ∀ a o,τ a = .fro o → ((wPure τ).setτ s.heap.objs.size .loc).τ a = .fro o:=fun a o e=>(Wd.setτ_ne (Nat.ne_of_lt (Heap.lt_size (hfr a o e)))).trans (wPure_fro.mpr e)
          have R : Rel g' ((wPure τ).setτ s.heap.objs.size .loc) (startC f__law_context__law_get [dx] [dk]) h₁:=by
            refine ⟨fun b o _ e=>kp b o e,fun a o e=>?_,fun a m=>?_,fun a o e=>?_,fun a m=>?_,rfl,fun n cc e=>(by exact nope e),Wd.setτ_eq,⟨_,hns,fun n v e=>?_⟩,fun n e=>?_,fun n e=>?_,fun n e=>?_⟩
            · by_cases ha : a = s.heap.objs.size
              · subst ha; rw [Wd.setτ_eq] at e; cases e
              · rw [Wd.setτ_ne ha] at e; exact kp a o (hfr a o (wPure_fro.mp e))
            · by_cases ha : a = s.heap.objs.size
              · exact .inr (ha ▸ Nat.le_refl _)
              · rw [Wd.setτ_ne ha] at m
                rcases pf a with z | ⟨o,z⟩ <;> rw [z] at m <;> exact m.elim
            · by_cases ha : a = s.heap.objs.size
              · subst ha; rw [Wd.setτ_eq] at e; cases e
              · rw [Wd.setτ_ne ha] at e; exact .inl e
            · by_cases ha : a = s.heap.objs.size
              · subst ha; obtain ⟨o,_,_,z,_⟩:=hns; exact ⟨o,z⟩
              · rw [Wd.setτ_ne ha] at m
                rcases pf a with z | ⟨o,z⟩ <;> rw [z] at m <;> exact m.elim
            · obtain ⟨e1,e2⟩:=look_map _ _ _ _ (show look (f__law_context__law_get.locs.map fun n=>(n,fget f__law_context__law_get.pars ([dk].map V.d) n)) n = some v from e)
              have e1 : (match Nat.beq 189 n with | true=>some (V.d dk) | false=>none) = some v:=e1
              cases hn : Nat.beq 189 n with
              | true=>rw [hn] at e1; cases e1; cases Nat.eq_of_beq_eq_true hn; exact ⟨y,by simp,ry.mono aok sub⟩
              | false=>rw [hn] at e1; exact nope e1
            · have e : has (f__law_context__law_get.locs.map fun n=>(n,fget f__law_context__law_get.pars ([dk].map V.d) n)) n = true:=e
              rw [has_map (fun n=>fget f__law_context__law_get.pars ([dk].map V.d) n)] at e
              have:=mem_is.mp e
              have : n = 189 ∨ n = 183 ∨ n = 184:=by simpa [f__law_context__law_get] using this
              rcases this with rfl | rfl | rfl
              · exact clo_loc
              · exact clo_kinds.1
              · exact clo_kinds.2.1
            · have e : has [(172,some (V.d dx))] n = true:=e
              unfold has at e
              rw [beq_is] at e
              by_cases hn : 172 = n
              · subst hn
                refine ⟨c,some x,by show List.lookup (nm 172) [(nm 172,c)] = some c; simp,.inr ⟨rfl,.inr clo_kinds.2.2.1,id,oc,hcobj⟩,⟨oc,kp _ _ hcobj,hcx⟩,fun v z=>?_⟩
                have z : look [(172,some (V.d dx))] 172 = some v:=z
                unfold look at z
                rw [beq_is] at z
                simp at z
                subst z
                exact ⟨x,rfl,rx.mono aok sub⟩
              · rw [decide_eq_false hn] at e; exact nof e
            · have e : mem [158] n = true:=e
              have:=mem_is.mp e
              rw [List.mem_singleton.mp this]; exact clo_kinds.2.2.2
          refine aSL_ok L rm.deeper f__law_context__law_get.body (g:=g') (s:={ s with heap:=h₁,toks:=_ }) rfl rfl (runO_run e) R fun w2 fl st2 h2 tk2 fv S2 R2 r2 q2=>?_
          subst q2
          cases r2 with
          | ret rr =>
            refine k h2 tk2 w2.τ _ ⟨fun b o e=>R2.ext b o id e,fun a o e=>S2.le.one a o (sub a o e),fun a o e=>?_⟩ rr
            rcases R2.frosh a o e with q | q | q
            · exact .inl (wPure_fro.mp q)
            · exact .inr ⟨q,R2.fro a o e⟩
            · exact q.elim
end
end
end Mine
end
section
open PySem.Spec
namespace Mine
section
variable {prog : Program} {W : World} {A : Around} {E : Value → Shared → Prop} {s : Shared} {g : Act} {w b : Wd} {st : St} {d : Nat} {h h' : Heap} {ad : Ad} {hT : Heap} {c : Cfg Prop} {K : Frag} {mg mb : Str → Option Value}
theorem code_fn {R0 : Result → Shared → Prop} {f : FI} {fa : Addr} (fn : FnAt hT fa f) (aok : AdOk ad) (lim : hT.NoLimit) (rm : Rm A (d + 1)) {vs : List V} {xs : List Value} {hp : Hp} (hlen : xs.length = f.pars.length)
    (top : ∀ b' o,hT.get? b' = some o → s.heap.get? b' = some o ∧ ¬ ∃ n,b.τ b' = .mut n)
    (bfr : ∀ a o,b.τ a = .fro o → s.heap.get? a = some o) (bmt : ∀ a n,b.τ a = .mut n → ∃ o,s.heap.get? a = some o) (bro : ∀ a,¬ (b.τ a).mine) (blen : b.mu.length = hp.length) (bcl : ∀ n c,hget hp n = some c → CtAt ad b n s.heap c) (rv : RepVs ad b vs xs)
    (k : ∀ (A' : Around) (g' : Act) (wi : Wd) (h₁ : Heap) (tk : Nat) (E' : Value → Shared → Prop),Rm A' d → g'.ad = ad → g'.hT = hT → g'.h0 = s.heap → (g'.ps = fun a=>∃ n,b.τ a = .mut n) → g'.τ0 = b.τ → (∀ a,a < s.heap.objs.size → wi.τ a = b.τ a) → wi.mu = b.mu → (∀ b o,s.heap.get? b = some o → h₁.get? b = some o) →
      (∃ o fd,hT.get? fa = some o ∧ o.data = .func fd ∧ g'.env = callEnvC fd s.heap.objs.size fa) → Rel g' wi (startOf f vs hp) h₁ → wpAny (model prog W) A' (execs (toSs f.body) g'.env) (fun fl s'=>R0 (.ok (.ret (match fl with | .ret v=>v | _=>.none))) s') E' { s with heap:=h₁,toks:=tk }) :
    codeAny (model prog W) A (.call (.ref fa) ⟨xs,[]⟩) R0 s:=by
  obtain ⟨o,fd,ho,hd,hbody,hsc,hclo,hcd,hgl,hbu,hbind⟩:=fn.ex
  have T : ∀ b' o,hT.get? b' = some o → s.heap.get? b' = some o:=fun b' o e=>(top b' o e).1
  have ok:=fn.ok
  refine codeAny_call_cells (binds:=(f.pars.map nm).zip xs) (Nat.lt_of_lt_of_le (Nat.lt_of_le_of_lt (Nat.le_add_right _ _) rm.dp) (by decide)) (T _ _ ho) hd (lim.keeps T) (hcd.keeps T) hbody (hbind xs hlen) hclo (fun x hx=>?_) (fun s₁ x=>?_) (by rw [hsc]; rfl) (by rw [hsc]; rfl) (by rw [hsc]; rfl)
  · have hp' : x.1 ∈ f.pars.map nm:=(List.of_mem_zip (show (x.1,x.2) ∈ _ from hx)).1
    obtain ⟨n,hn,e⟩:=List.mem_map.mp hp'
    rw [hsc,← e]
    rcases ok.par n hn with q | q
    · exact .inl q
    · exact .inr ⟨q,cells_some _ _ _ _ (.inl (mem_of_lookup q))⟩
  · obtain ⟨h₁,tk,e⟩:=x.toInCall.same
    have kp:=x.toInCall.keep
    obtain ⟨g',e1,e2,e3,e4,e5,e6,e7,R⟩:=enter_fn (s:=s) (b:=b) (hT:=hT) ok aok (L:=s.heap.objs.size) (env:=callEnvC fd s.heap.objs.size fa) rfl hsc (by show cellsFrom _ fd.scope.names [] = _; rw [hsc]) hgl hbu (Nat.le_refl _) top x bfr bmt bro blen bcl rv
    subst e
    rw [← e6]
    exact k _ g' _ h₁ tk _ rm.deeper e1 e2 e3 e4 e5 e7 rfl kp ⟨o,fd,ho,hd,e6⟩ R
structure MkAt (hT : Heap) (K : Frag) (C : Addr) (f : FI) : Prop where
  makes : makesIn K C = true
  ex : ∃ fI,findIn K (.ref C) "__init__" = some (some (.ref fI)) ∧ typeIn K (.ref fI) = some (.type "function") ∧ FnAt hT fI f
theorem eff_cls {f : FI} {cn : Nat} (cl : MkAt hT K (ad.cls cn) f) (aok : AdOk ad) (lim : hT.NoLimit) (L : Lib prog W K ad hT mg mb c d) {vs : List V} {hp : Hp} {KK : V → Hp → Prop} (hlen : vs.length + 1 = f.pars.length)
    (run : aSL c f.body (startOf f (.c hp.length :: vs) (hp ++ [some (.inst cn [] [])])) fun fl st=>match fl with | .ret (.d .none)=>KK (.c hp.length) st.hp | .nxt=>KK (.c hp.length) st.hp | _=>False) : EffV prog W ad hT (d + 2) (.ref (ad.cls cn)) vs hp KK:=by
  intro A E s Q g w st xs rm had hhT hhp R rxs k
  subst hhp
  obtain ⟨fI,hi,hf,fn⟩:=cl.ex
  have X : K.In s.heap:=fun a o e=>R.top a o (hhT ▸ L.X a o e)
  have z1 : ((s.heap.push emptyDict).push (instObj (ad.cls cn) s.heap.objs.size)).get? (s.heap.objs.size + 1) = some (instObj (ad.cls cn) s.heap.objs.size):=by
    have:=Heap.get?_push_size (s.heap.push emptyDict) (o:=instObj (ad.cls cn) s.heap.objs.size) rfl
    rwa [Heap.size_push] at this
  have z0 : ((s.heap.push emptyDict).push (instObj (ad.cls cn) s.heap.objs.size)).get? s.heap.objs.size = some emptyDict:=Heap.get?_push_of_some _ (Heap.get?_push_size _ rfl)
  have Rp : Rel g w st ((s.heap.push emptyDict).push (instObj (ad.cls cn) s.heap.objs.size)):=(R.push _).push _
  have f0 : w.τ s.heap.objs.size = .free:=R.free (Nat.le_refl _)
  have f1 : w.τ (s.heap.objs.size + 1) = .free:=R.free (Nat.le_succ _)
  obtain ⟨w4,l4,out4,R4,r4⟩:=Rp.newCt (as:=[s.heap.objs.size + 1,s.heap.objs.size]) (a:=s.heap.objs.size + 1) (c:=.inst cn [] []) (fun b hb=>by
      rcases List.mem_cons.mp hb with rfl | hb
      · exact ⟨f1,Nat.le_succ_of_le R.size,_,z1⟩
      · rw [List.mem_singleton.mp hb]; exact ⟨f0,R.size,_,z0⟩)
    fun w' l h1 h2=>.inst (od:=emptyDict) (m:=fun _=>none) (xs:=[]) h2 (h1 _ (.head _)) (had.symm ▸ z1) (h1 _ (.tail _ (.head _))) z0 ⟨#[],0,rfl,fun e he=>by simp at he,fun _=>rfl,Nat.le_refl _⟩ .nil rfl .nil
  have S4 : Stp w s.heap w4 ((s.heap.push emptyDict).push (instObj (ad.cls cn) s.heap.objs.size)):=⟨l4,fun b o e q=>⟨Heap.get?_push_of_some _ (Heap.get?_push_of_some _ q),(out4 b (by
    have lt:=Heap.lt_size q
    intro hm
    rcases List.mem_cons.mp hm with rfl | hm
    · exact absurd lt (Nat.not_lt.mpr (Nat.le_succ _))
    · rw [List.mem_singleton.mp hm] at lt; exact absurd lt (Nat.lt_irrefl _))).trans e⟩⟩
  have rxs4 : RepVs ad w4 (.c st.hp.length :: vs) (.ref (s.heap.objs.size + 1) :: xs):=.cons (had ▸ r4) (rxs.mono aok l4)
  have bs : w4.sub (wIn w4):=⟨fun a o e=>by show (w4.τ a).out = _; rw [e]; rfl,fun _ _ e=>e⟩
  have lt4 : ∀ a,w4.τ a ≠ .free → a < ((s.heap.push emptyDict).push (instObj (ad.cls cn) s.heap.objs.size)).objs.size:=fun a n=>R4.there n
  refine wpAny_call ?_
  obtain ⟨hh,gg,dd,tt,oo⟩:=s
  refine make_core (makes_of X cl.makes) (looks_findIn X hi) (fun self=>bind_fn X self hf) (.inl rfl) ?_
  have rm2 : Rm (A.under (.builtin "type.__call__" ⟨.ref (ad.cls cn) :: xs,[]⟩)) (d + 1):=⟨rm.hd,rmU (j:=1) (by decide) rm.un,rmD rm.dp⟩
  refine code_fn (s:=⟨(hh.push emptyDict).push (instObj (ad.cls cn) hh.objs.size),gg,dd,tt,oo⟩) (b:=wIn w4) (hp:=st.hp ++ [some (.inst cn [] [])]) fn aok lim rm2 (vs:=.c st.hp.length :: vs) (by have:=rxs.length; simp; omega) (fun b' o e=>⟨R4.top b' o (hhT ▸ e),fun ⟨n,z⟩=>(R4.topNot b' o (hhT ▸ e)).2 ⟨n,Role.out_mut z⟩⟩) (fun a o e=>R4.fro a o (Role.out_fro e)) (fun a n z=>R4.mthere a (by rw [Role.out_mut z]; trivial))
    (fun a z=>by
      have z : ((w4.τ a).out).mine:=z
      cases e : w4.τ a <;> rw [e] at z <;> exact z) R4.len (fun n cc e=>by
      have:=(R4.cells n cc e).sub g.ok bs fun b' z=>by show (w4.τ b').out = _; rw [z]; rfl
      rw [had] at this; exact this) (rxs4.sub aok bs)
    fun A' g' wi h₁ tk E' rm' e1 e2 e3 e4 e5 e6 e7 kp _ R1=>?_
  refine aSL_ok L rm' f.body (s:=⟨h₁,gg,dd,tk,oo⟩) e1 e2 run R1 fun w2 fl st2 h2 tk2 fv S2 R2 r2 q2=>?_
  have hl : w4.sub w2:=⟨fun a o e=>S2.le.one a o ((e6 a (lt4 a (by rw [e]; intro z; cases z))).trans (bs.fr a o e)),fun n a e=>S2.le.two n a (e7 ▸ e)⟩
  obtain ⟨S3,R3,s3⟩:=leave (h3:=h2) R4 R2 (e1.trans had.symm) (fun b' o e=>by rw [e3]; exact e) (by rw [e3]; exact Nat.le_refl _) (fun a z=>by rw [e4] at z; obtain ⟨n,z⟩:=z; exact ⟨n,Role.out_mut z⟩) (fun a o z=>by rw [e5] at z; exact Role.out_fro z)
    (fun b' o q e=>S2.kept b' o ((e6 b' (Heap.lt_size e)).trans q) (kp b' o e)) hl (fun b' o _ e=>e)
  have fin : KK (.c st.hp.length) st2.hp → Q (.ref (hh.objs.size + 1)) ⟨h2,gg,dd,tk2,oo⟩:=fun q=>k _ h2 tk2 _ (.c st.hp.length) st2.hp (S4.trans S3) R3 ((had ▸ r4 : RepV ad w4 _ _).mono aok S3.le) q
  cases r2 with
  | nxt=>exact ⟨rfl,fin q2⟩
  | ret rr =>
    rename_i v x
    cases v with
    | c n=>exact q2.elim
    | d y =>
      cases y <;> first | exact q2.elim | skip
      cases rr
      exact ⟨rfl,fin q2⟩
end
end Mine
end
section
open PySem.Spec
namespace Mine
noncomputable section
noncomputable def argsOf (f : FI) : Arguments:={ posonlyargs:=[],args:=(f.pars.zip f.apos).map fun p=>{ arg:=nm p.1,annotation:=none,pos:=p.2 },vararg:=none,kwonlyargs:=[],kw_defaults:=[],kwarg:=none,defaults:=[] }
noncomputable def defG : Stmt:=.FunctionDef (nm 60) (argsOf f__law_context__law_get) (toSs f__law_context__law_get.body) [] none [] (scOf f__law_context__law_get.kinds f__law_context__law_get.fast) none (nm 60) ⟨843,4,846,72⟩
noncomputable def restG : SL:=.cons (.asg (.loc 94 ⟨847,4,847,7⟩) (.callU 48 ⟨847,10,847,20⟩ .nil ⟨847,10,847,22⟩) ⟨847,4,847,22⟩)
  (.cons (.asg (.att (.loc 94 ⟨848,4,848,7⟩) 97 ⟨848,4,848,13⟩) (.callU 48 ⟨848,16,848,26⟩ .nil ⟨848,16,848,28⟩) ⟨848,4,848,28⟩)
  (.cons (.asg (.att (.att (.loc 94 ⟨849,4,849,7⟩) 97 ⟨849,4,849,13⟩) 98 ⟨849,4,849,17⟩) (.loc 60 ⟨849,20,849,28⟩) ⟨849,4,849,28⟩)
  (.cons (.ret (.loc 94 ⟨850,11,850,14⟩) ⟨850,4,850,14⟩) .nil)))
noncomputable def f__law_context : FI where
  name:=58
  pars:=[172]
  apos:=[⟨841,17,841,21⟩]
  kinds:=[(172,.cell),(60,.local),(94,.local),(48,.globalImplicit)]
  locs:=[60,94]
  cels:=[172]
  gls:=[48]
  fast:=[]
  body:=.cons (.raw defG) restG
noncomputable def tabR (ps : Array Value) (τ : Addr → Role) : Prop:=TriplesOk ps.toList ∧ (codeAmong ⟨843,4,846,72⟩ ps.toList = none ∨
  ∃ (cc : Addr) (oo : Obj) (fs : Array Value) (q : Str) (tk : Tok),codeAmong ⟨843,4,846,72⟩ ps.toList = some (.ref cc) ∧ τ cc = .fro oo ∧ oo.data = .fields fs ∧ fs[1]? = some (.str q tk) ∧ q = "_law_context.<locals>._law_get")
theorem tabR_mono {ps : Array Value} {τ τ' : Addr → Role} (hk : ∀ a o,τ a = .fro o → τ' a = .fro o) (h : tabR ps τ) : tabR ps τ':=by
  obtain ⟨a,h⟩:=h
  refine ⟨a,h.imp id ?_⟩
  rintro ⟨cc,oo,fs,q,tk,h1,h2,h3⟩
  exact ⟨cc,oo,fs,q,tk,h1,hk _ _ h2,h3⟩
theorem tabR_nil {τ : Addr → Role} : tabR #[] τ:=⟨by first | trivial | (unfold TriplesOk; simp),.inl rfl⟩
theorem fG_ok : FiOk f__law_context:=FiOk.of (by decide +kernel)
end
end Mine
end
section
open PySem.Spec
namespace Mine
theorem hset_hset : ∀ (hp : Hp) (n : Nat) (x y : Option Ct),hset (hset hp n x) n y = hset hp n y
  | [],_,_,_=>rfl
  | _ :: _,0,_,_=>rfl
  | a :: r,n + 1,x,y=>by show a :: hset (hset r n x) n y = a :: hset r n y; rw [hset_hset r n x y]
theorem hset_same : ∀ (hp : Hp) (n : Nat) (x : Ct),hget hp n = some x → hset hp n (some x) = hp
  | [],_,_,h=>by exact nope h
  | a :: r,0,x,h=>by
    have h : a = some x:=h
    rw [h]; rfl
  | a :: r,n + 1,x,h=>by show a :: hset r n (some x) = a :: r; rw [hset_same r n x h]
section
variable {g : Act} {w : Wd} {st : St} {h h' : Heap}
theorem Rel.dead (R : Rel g w st h) {n : Nat} {a : Addr} (ht : w.τ a = .mut n) (hd : hget st.hp n = none) (hs : Heap.ExtBut a h h') (ho : ∃ o,h'.get? a = some o) : Rel g w st h':=by
  have ne : ∀ {b : Addr} {r : Role},w.τ b = r → r ≠ .mut n → b ≠ a:=fun e q z=>by subst z; rw [ht] at e; exact q e.symm
  have ext' : ∀ b o,¬ g.ps b → g.h0.get? b = some o → h'.get? b = some o:=fun b o p e=>hs b o (by
    rintro rfl
    rcases R.mfresh b (by rw [ht]; trivial) with q | q
    · exact p q
    · exact absurd (Heap.lt_size e) (Nat.not_lt.mpr q)) (R.ext b o p e)
  refine ⟨ext',fun a o e=>hs a o (ne e fun q=>by cases q) (R.fro a o e),R.mfresh,R.frosh,fun b m=>?_,R.len,fun k q e=>?_,R.locT,?_,R.lock,fun k e=>?_,R.gl⟩
  · obtain ⟨o,q⟩:=R.mthere b m
    by_cases hb : b = a
    · subst hb; exact ho
    · exact ⟨o,hs b o hb q⟩
  · have hk : k ≠ n:=by rintro rfl; rw [hd] at e; exact nope e
    exact (R.cells k q e).keeps fun b o z=>hs b o (ne z fun q=>by cases q; exact hk rfl)
  · obtain ⟨m,hn',r⟩:=R.loc
    exact ⟨m,hn'.at' fun o=>hs _ o (ne R.locT fun q=>by cases q),r⟩
  · obtain ⟨c,v0,b,t,i,r⟩:=R.cel k e
    exact ⟨c,v0,b,t,t.keep i R.ext ext' fun q o=>hs c o (ne q fun z=>by cases z),r⟩
theorem Rel.revive (R : Rel g w st h) {n : Nat} {c : Ct} (hc : CtAt g.ad w n h c) : Rel g w { st with hp:=hset st.hp n (some c) } h:=by
  refine ⟨R.ext,R.fro,R.mfresh,R.frosh,R.mthere,by rw [hset_length]; exact R.len,fun k q e=>?_,R.locT,R.loc,R.lock,R.cel,R.gl⟩
  rw [hget_set] at e
  by_cases hk : k = n
  · subst hk
    rw [if_pos rfl] at e
    split at e
    · cases e; exact hc
    · exact nope e
  · rw [if_neg hk] at e; exact R.cells k q e
theorem Rel.noCel (R : Rel g w st h) : Rel g w { st with cel:=[] } h :=
  ⟨R.ext,R.fro,R.mfresh,R.frosh,R.mthere,R.len,R.cells,R.locT,R.loc,R.lock,fun n e=>(by exact nof e),R.gl⟩
theorem Rel.frCel (R : Rel g w st h) (hn : st.cel = []) {n : Nat} {a : Addr} {o : Obj} (ht : w.τ a = .nce n) (ho : h.get? a = some o) : Rel g (w.setτ a (.fro o)) st h ∧ (∀ b,b ≠ a → (w.setτ a (.fro o)).τ b = w.τ b) ∧ w.sub (w.setτ a (.fro o)):=by
  have ne : ∀ {b : Addr} {r : Role},w.τ b = r → r ≠ .nce n → b ≠ a:=fun e q z=>by subst z; rw [ht] at e; exact q e.symm
  have sub : w.sub (w.setτ a (.fro o)):=⟨fun b o' e=>(Wd.setτ_ne (ne e fun q=>by cases q)).trans e,fun _ _ e=>e⟩
  refine ⟨⟨R.ext,fun b o' e=>?_,fun b m=>?_,fun b o' e=>?_,fun b m=>?_,R.len,fun k q e=>?_,(Wd.setτ_ne (ne R.locT fun q=>by cases q)).trans R.locT,?_,R.lock,fun k e=>?_,R.gl⟩,fun b hb=>Wd.setτ_ne hb,sub⟩
  · by_cases hb : b = a
    · subst hb; rw [Wd.setτ_eq] at e; cases e; exact ho
    · rw [Wd.setτ_ne hb] at e; exact R.fro b o' e
  · by_cases hb : b = a
    · subst hb; rw [Wd.setτ_eq] at m; exact m.elim
    · rw [Wd.setτ_ne hb] at m; exact R.mfresh b m
  · by_cases hb : b = a
    · subst hb
      rcases R.mfresh b (by rw [ht]; trivial) with q | q
      · exact .inr (.inr q)
      · exact .inr (.inl q)
    · rw [Wd.setτ_ne hb] at e; exact R.frosh b o' e
  · by_cases hb : b = a
    · subst hb; rw [Wd.setτ_eq] at m; exact m.elim
    · rw [Wd.setτ_ne hb] at m; exact R.mthere b m
  · exact (R.cells k q e).sub g.ok sub fun b z=>(Wd.setτ_ne (ne z fun q=>by cases q)).trans z
  · obtain ⟨m,hn',r⟩:=R.loc
    exact ⟨m,hn',fun k u e=>let ⟨x,p,q⟩:=r k u e; ⟨x,p,q.sub g.ok sub⟩⟩
  · rw [hn] at e; exact nof e
end
end Mine
end
section
open PySem.Spec
namespace Mine
section
variable {prog : Program} {W : World} {A : Around} {E : Value → Shared → Prop} {s : Shared} {g : Act} {w b : Wd} {st : St} {d : Nat} {h h' : Heap} {ad : Ad} {hT : Heap} {c : Cfg Prop} {K : Frag} {mg mb : Str → Option Value} {P ca : Addr}
noncomputable abbrev qG : Str:="_law_context.<locals>._law_get"
noncomputable abbrev scG : Scope:=scOf f__law_context__law_get.kinds f__law_context__law_get.fast
theorem bindG {doc pm cdv ctv : Value} {cl : List (Str × Addr)} {q : Str} (y : Value) : bindArgs (fnX (nm 60) q (argsOf f__law_context__law_get) (toSs f__law_context__law_get.body) scG cl .none .none doc pm none cdv ctv) ⟨[y],[]⟩ = pure [(nm 189,y)]:=by rfl
theorem closG {env : Env} {cc : Addr} (hc : env.cells.lookup (nm 172) = some cc) : closureFor scG env = pure [(nm 172,cc)]:=by
  have e : cellOf env (nm 172) = pure cc:=by unfold cellOf; rw [hc]
  have hn : scG.names = [(nm 189,.local),(nm 183,.local),(nm 184,.local),(nm 172,.free),(nm 158,.globalImplicit)]:=rfl
  have n1 : (NameKind.local == NameKind.free) = false:=by decide
  have n2 : (NameKind.globalImplicit == NameKind.free) = false:=by decide
  unfold closureFor
  rw [hn]
  simp only [List.forIn_cons,List.forIn_nil,n1,n2,Bool.false_eq_true,if_false,beq_self_eq_true,if_true,e,pure_bind]
theorem def_tail {cc cA : Addr} {oc : Obj} {xv : Value} {oo : Obj} {fs : Array Value} {tk0 : Tok} {sD : D} {fo : Obj} {doc pm ctv : Value} {Q : Unit → Shared → Prop} (hclo : g.ad.clo = cloR) (R : Rel g w st s.heap) (hn : has st.loc 60 = true)
    (h1 : w.τ cc = .fro oc) (h2 : oc.data = .cell (some xv)) (h3 : w.τ cA = .fro oo) (h4 : oo.data = .fields fs) (h5 : fs[1]? = some (.str qG tk0)) (hfo : fo = { cls:=.type "function",data:=.func (fnX (nm 60) qG (argsOf f__law_context__law_get) (toSs f__law_context__law_get.body) scG [(nm 172,cc)] .none .none doc pm none (.ref cA) ctv) })
    (rs : Rep g.ad w.τ sD xv) (k : ∀ w' h' tk,Stp w s.heap w' h' → Rel g w' (Mine.setLoc st 60 (.d (.clo 60 [sD]))) h' → Q () { s with heap:=h',toks:=tk }) :
    wpAny (model prog W) A (storeName g.env (nm 60) (.ref s.heap.objs.size)) Q E { s with heap:=s.heap.push fo }:=by
  obtain ⟨S1,R1⟩:=R.newFro fo (by rw [hfo]; rfl)
  obtain ⟨m,hm,r⟩:=R1.loc
  refine wpAny_storeName_local (s:={ s with heap:=s.heap.push fo }) (R1.lock 60 hn) hm (fun h2' hn2 hs2=>?_) (by rw [g.kind]; rfl)
  refine k _ h2' _ (S1.trans ⟨.refl _,fun b o z1 z2=>⟨hs2.extBut b o (by rintro rfl; rw [R1.locT] at z1; cases z1) z2,z1⟩⟩) (R1.setLoc (v:=.d (.clo 60 [sD])) r ?_ hn2 hs2)
  refine Rep.clo (vs:=[xv]) ?_ (.cons (rs.mono g.ok S1.one) .nil)
  rw [hclo]
  subst hfo
  exact ⟨rfl,.mk (fd:=fnX (nm 60) qG (argsOf f__law_context__law_get) (toSs f__law_context__law_get.body) scG [(nm 172,cc)] .none .none doc pm none (.ref cA) ctv) Wd.setτ_eq rfl rfl rfl rfl (S1.one _ _ h1) h2 rfl (S1.one _ _ h3) h4 h5 rfl rfl fun y=>bindG y⟩
end
end Mine
end
section
open PySem.Spec
namespace Mine
noncomputable section
section
variable {prog : Program} {W : World} {A : Around} {E : Value → Shared → Prop} {s : Shared} {g : Act} {w b : Wd} {st : St} {d : Nat} {h h' : Heap} {ad : Ad} {hT : Heap} {c : Cfg Prop} {K : Frag} {mg mb : Str → Option Value} {P ca : Addr}
noncomputable def stG (sD : D) (hp : Hp) : St:={ loc:=[(60,some (.d (.clo 60 [sD]))),(94,none)],cel:=[],gl:=[48],hp:=hp }
theorem ctx_def {sD : D} {hp : Hp} {Q : Flow → Shared → Prop} (had : g.ad.tab = fun a ps τ=>a = P ∧ tabR ps τ) (hclo : g.ad.clo = cloR) (hg : g.hT.Ns mainGlobals mg) (C : CodeHd g.hT ca P) (hb : g.hT.BuiltinsAt mg P)
    (hcode : g.env.code = .ref ca) (hqual : g.env.qual = "_law_context.<locals>.") (hk60 : g.env.kindOf (nm 60) = some .local) (h0 : hget hp 0 = some .tab) (R : Rel g w (startOf f__law_context [.d sD] hp) s.heap)
    (k : ∀ w' h' tk,(∀ b o,w.τ b = .free → s.heap.get? b = some o → h'.get? b = some o ∧ w'.τ b = .free) → w.sub w' → Rel g w' (stG sD hp) h' → Q .next { s with heap:=h',toks:=tk }) :
    wpAny (model prog W) A (exec defG g.env) Q E s:=by
  refine nestDef_K rfl rfl rfl ?_
  have hqn : qualnameIn g.env (nm 60) (nm 60) = qG:=by
    unfold qualnameIn
    rw [hk60,hqual]
    rfl
  rw [hqn]
  obtain ⟨cc,v0,hcl,hok,hcell,hv0⟩:=R.cel 172 rfl
  obtain ⟨xv,rfl,rx⟩:=hv0 _ rfl
  have tc : w.τ cc = .nce 172:=by
    rcases hok with ⟨_,q⟩ | ⟨q,_⟩
    · exact q
    · cases q
  obtain ⟨oc,hoc,hocd⟩:=hcell
  have hT':=R.top
  have Ct:=R.cells 0 .tab h0
  obtain ⟨a0,ps,hmu,htau,hP,htab⟩ : ∃ a ps,w.mu[0]? = some a ∧ w.τ a = .mut 0 ∧ s.heap.get? a = some (tabObj ps) ∧ g.ad.tab a ps w.τ:=by
    cases Ct with
    | tab a b c d=>exact ⟨_,_,a,b,c,d⟩
  rw [had] at htab
  obtain ⟨rfl,htr,hcase⟩:=htab
  have hgs : s.heap.Ns mainGlobals mg:=hg.keeps hT'
  have hCs:=C.keeps hT'
  have hbs:=hb.keeps hT'
  have hgP : mainGlobals ≠ a0:=fun q=>by
    obtain ⟨o,es,ep,e,hd,_⟩:=hgs
    rw [q,hP] at e; cases e; cases hd
  have Rn:=R.noCel
  rcases hcase with hnone | ⟨cA,oo,fs,q,tk0,hsome,hfro,hfs,hf1,rfl⟩
  · refine makeFunction_K (closG hcl) g.glob hgs hcode hCs hP htr hnone hgP hbs fun c' ctv doc h' tk hx hge hlt hrec htb=>?_
    obtain ⟨c₂,oA,vs,t,e2,hoA,hdA,hvA⟩:=hrec
    cases e2
    have R1 : Rel g w _ h':=(Rn.drop 0).dead (n:=0) htau (by rw [hget_set,if_pos rfl]; split <;> rfl) hx ⟨_,htb⟩
    have hcP : cc ≠ a0:=fun q=>by rw [q,htau] at tc; cases tc
    obtain ⟨R2,out2,sub2⟩:=R1.frCel rfl tc (hx _ _ hcP hoc)
    have fc' : w.τ c' = .free:=R.free hge
    have c'cc : c' ≠ cc:=fun q=>by rw [q,tc] at fc'; cases fc'
    have f2 : (w.setτ cc (.fro oc)).τ c' = .free:=(out2 _ c'cc).trans fc'
    obtain ⟨l3,R3⟩:=R2.newFroAt f2 (Nat.le_trans R.size hge) hoA
    have c'P : a0 ≠ c':=fun q=>by rw [q,fc'] at htau; cases htau
    have t3 : ((w.setτ cc (.fro oc)).setτ c' (.fro oA)).τ a0 = .mut 0:=(Wd.setτ_ne c'P).trans ((out2 _ hcP.symm).trans htau)
    have R4:=R3.revive (n:=0) (c:=.tab) (.tab hmu t3 htb (by
      rw [had]
      refine ⟨rfl,?_,.inr ⟨c',oA,vs,qG,t,?_,Wd.setτ_eq,hdA,hvA,rfl⟩⟩
      · rw [Array.toList_append]; exact TriplesOk_snoc _ _ _ _ htr
      · rw [Array.toList_append]; exact codeAmong_snoc _ htr hnone))
    have e5 : hset (hset hp 0 none) 0 (some .tab) = hp:=by rw [hset_hset,hset_same _ _ _ h0]
    have R5 : Rel g ((w.setτ cc (.fro oc)).setτ c' (.fro oA)) { loc:=[(60,none),(94,none)],cel:=[],gl:=[48],hp:=hp } h':=by
      have:=R4
      dsimp only [startOf] at this
      rw [e5] at this
      exact this
    refine def_tail (s:={ s with heap:=h',toks:=tk }) (sD:=sD) hclo R5 rfl (cc:=cc) (oc:=oc) (xv:=xv) (cA:=c') (oo:=oA) (fs:=vs) (tk0:=t) (l3.one _ _ Wd.setτ_eq) hocd Wd.setτ_eq hdA hvA rfl (Rep.mono g.ok (fun a o e=>l3.one a o (sub2.fr a o e)) rx) fun w6 h6 tk6 S6 R6=>?_
    refine k w6 h6 tk6 (fun b o e z=>?_) (Wd.sub.trans sub2 (Wd.sub.trans l3.sub S6.le.sub)) R6
    have bne : b ≠ a0:=fun q=>by rw [q,htau] at e; cases e
    have bcc : b ≠ cc:=fun q=>by rw [q,tc] at e; cases e
    have bc' : b ≠ c':=fun q=>absurd (Heap.lt_size z) (Nat.not_lt.mpr (q ▸ hge))
    exact S6.kept b o ((Wd.setτ_ne bc').trans ((out2 _ bcc).trans e)) (hx b o bne z)
  · refine makeFunction_hit (closG hcl) g.glob hgs hcode hCs hP htr hsome hbs fun ctv doc h' tk hk hsz=>?_
    have R1 : Rel g w _ h':=Rn.keeps fun b o _ e=>hk b o e
    obtain ⟨R2,out2,sub2⟩:=R1.frCel rfl tc (hk _ _ hoc)
    have R5 : Rel g (w.setτ cc (.fro oc)) { loc:=[(60,none),(94,none)],cel:=[],gl:=[48],hp:=hp } h':=R2
    refine def_tail (s:={ s with heap:=h',toks:=tk }) (sD:=sD) hclo R5 rfl (cc:=cc) (oc:=oc) (xv:=xv) (cA:=cA) (oo:=oo) (fs:=fs) (tk0:=tk0) Wd.setτ_eq hocd (sub2.fr _ _ hfro) hfs hf1 rfl (Rep.mono g.ok sub2.fr rx) fun w6 h6 tk6 S6 R6=>?_
    refine k w6 h6 tk6 (fun b o e z=>?_) (Wd.sub.trans sub2 S6.le.sub) R6
    have bcc : b ≠ cc:=fun q=>by rw [q,tc] at e; cases e
    exact S6.kept b o ((out2 _ bcc).trans e) (hk b o z)
theorem eff_ctx {fa : Addr} (fn : FnAt hT fa f__law_context) (hq : ∀ o fd,hT.get? fa = some o → o.data = .func fd → fd.code = .ref ca ∧ fd.qualname = "_law_context") (C : CodeHd hT ca P) (hb : hT.BuiltinsAt mg P) (haT : ad.tab = fun a ps τ=>a = P ∧ tabR ps τ) (hclo : ad.clo = cloR)
    (aok : AdOk ad) (lim : hT.NoLimit) (L : Lib prog W K ad hT mg mb c d) {sD : D} {hp : Hp} {KK : V → Hp → Prop} (h0 : hget hp 0 = some .tab)
    (run : aSL c restG (stG sD hp) fun fl st=>match fl with | .ret v=>KK v st.hp | .nxt=>KK (.d .none) st.hp) : EffV prog W ad hT (d + 1) (.ref fa) [.d sD] hp KK:=by
  intro A E s Q g w st xs rm had hhT hhp R rxs k
  subst hhp
  have lt : ∀ a,w.τ a ≠ .free → a < s.heap.objs.size:=fun a n=>R.there n
  have bs : w.sub (wIn w):=⟨fun a o e=>by show (w.τ a).out = _; rw [e]; rfl,fun _ _ e=>e⟩
  refine wpAny_call (code_fn (b:=wIn w) (hp:=st.hp) fn aok lim rm (by rw [← rxs.length]; rfl) (fun b' o e=>⟨R.top b' o (hhT ▸ e),fun ⟨n,z⟩=>(R.topNot b' o (hhT ▸ e)).2 ⟨n,Role.out_mut z⟩⟩) (fun a o e=>R.fro a o (Role.out_fro e)) (fun a n z=>R.mthere a (by rw [Role.out_mut z]; trivial))
    (fun a z=>by
      have z : ((w.τ a).out).mine:=z
      cases e : w.τ a <;> rw [e] at z <;> exact z) R.len (fun n cc e=>had ▸ (R.cells n cc e).sub g.ok bs fun b' z=>by show (w.τ b').out = _; rw [z]; rfl) (rxs.sub aok bs)
    fun A' g' wi h₁ tk E' rm' e1 e2 e3 e4 e5 e6 e7 kp ex R1=>?_)
  obtain ⟨o,fd,ho,hd,henv⟩:=ex
  obtain ⟨hcd,hqn⟩:=hq o fd ho hd
  have kd : g'.env.kindOf (nm 60) = some .local:=R1.lock 60 rfl
  show wpAny _ _ (execs (defG :: toSs restG) g'.env) _ _ _
  refine wpAny_execs_cons (ctx_def (s:={ s with heap:=h₁,toks:=tk }) (P:=P) (ca:=ca) (mg:=mg) (by rw [e1,haT]) (by rw [e1,hclo]) (by rw [e2]; exact L.nsg) (by rw [e2]; exact C) (by rw [e2]; exact hb) (by rw [henv]; exact hcd) (by rw [henv]; show fd.qualname ++ ".<locals>." = _; rw [hqn]; rfl) kd h0 R1 fun wd hd' tkd keptD subD RD=>?_)
  refine aSL_ok L rm' restG (s:={ s with heap:=hd',toks:=tkd }) e1 e2 run RD fun w2 fl st2 h2 tk2 fv S2 R2 r2 q2=>?_
  have hl : w.sub w2:=⟨fun a o e=>S2.le.one a o (subD.fr a o ((e6 a (lt a (by rw [e]; intro z; cases z))).trans (bs.fr a o e))),fun n a e=>S2.le.two n a (subD.two n a (e7 ▸ e))⟩
  obtain ⟨S3,R3,s3⟩:=leave (h3:=h2) R R2 (e1.trans had.symm) (fun b' o e=>by rw [e3]; exact e) (by rw [e3]; exact Nat.le_refl _) (fun a z=>by rw [e4] at z; obtain ⟨n,z⟩:=z; exact ⟨n,Role.out_mut z⟩) (fun a o z=>by rw [e5] at z; exact Role.out_fro z)
    (fun b' o q e=>by
      have z:=keptD b' o ((e6 b' (Heap.lt_size e)).trans q) (kp b' o e)
      exact S2.kept b' o z.2 z.1) hl (fun b' o _ e=>e)
  cases r2 with
  | nxt=>exact k _ h2 tk2 _ (.d .none) _ S3 R3 Rep.none q2
  | ret rr=>exact k _ h2 tk2 _ _ _ S3 R3 ((show RepV ad w2 _ _ from e1 ▸ rr).sub aok s3) q2
end
end
end Mine
end
section
open PySem.Spec
namespace Mine
noncomputable section
noncomputable abbrev Note:=Nat × List D × D
noncomputable abbrev RL:=List D → Option (List Note × D)
noncomputable def cL : Cfg RL:=⟨fun _=>none,noTab,mTab,fun f vs hp k script=>match script with
  | []=>none
  | r :: rest=>match allD vs with
    | some ds=>match k (.d r) hp rest with
      | some (log,x)=>some ((f,ds,r) :: log,x)
      | none=>none
    | none=>none⟩
noncomputable def endL (fl : Fl) : RL:=fun script=>match fl,script with
  | .ret (.d x),[]=>some ([],x)
  | _,_=>none
noncomputable def runL (f : FI) (ds script : List D) : Option (List Note × D):=aSL cL f.body (startOf f (ds.map .d) []) (fun fl _=>endL fl) script
theorem mono_hom {P1 P2 : Tab} {M : Tab} (h : ∀ f ds r,P1 f ds = some r → P2 f ds = some r) : Hom (fun (a b : Option D)=>∀ r,a = some r → b = some r) (cO P1 M) (cO P2 M) :=
  ⟨fun r e=>(by exact nope e),fun f vs ds hp k1 k2 _ hk r e=>(by
    dsimp only [cO] at e ⊢
    split at e
    · rename_i x hx
      rw [h f ds x hx]
      exact hk _ _ r e
    · exact nope e),fun _ _=>rfl,fun _ _ _ _ _ _ _ _ e=>(by exact nope e)⟩
theorem pk_up : ∀ (k f : Nat) (ds : List D) (r : D),pk k f ds = some r → pk (k + 1) f ds = some r
  | 0,f,ds,r,h=>by exact nope h
  | k + 1,f,ds,r,h=>by
    unfold pk at h ⊢
    split at h
    · rename_i fi q
      unfold runO at h ⊢
      obtain ⟨hl,h⟩:=bif_some h rfl
      rw [hl]
      exact aSL_h (mono_hom (pk_up k)) fi.body _ (k1:=fun fl _=>endO fl) (k2:=fun fl _=>endO fl) (fun _ _ _ e=>e) r h
    · exact nope h
noncomputable def Ev (k f : Nat) (ds : List D) (r : D) : Prop:=pk k f ds = some r
theorem Ev.up {k f : Nat} {ds : List D} {r : D} (h : Ev k f ds r) : ∀ {j : Nat},k ≤ j → Ev j f ds r:=by
  intro j hj
  induction hj with
  | refl=>exact h
  | step _ ih=>exact pk_up _ _ _ _ ih
theorem log_hom (k : Nat) : Hom (fun (a : RL) (b : Option D)=>∀ script log x,a script = some (log,x) → (∀ q ∈ log,Ev k q.1 q.2.1 q.2.2) → b = some x) cL (cO (pk k) mTab) :=
  ⟨fun script log x e=>(by exact nope e),fun f vs ds hp k1 k2 hvs hk script log x e hl=>(by
    have e : (match (generalizing:=false) script with
      | []=>none
      | r :: rest=>match allD vs with
        | some ds=>match k1 (.d r) hp rest with
          | some (log,x)=>some ((f,ds,r) :: log,x)
          | none=>none
        | none=>none) = some (log,x):=e
    cases script with
    | nil=>exact nope e
    | cons r rest =>
      dsimp only at e
      rw [hvs] at e
      dsimp only at e
      split at e
      · rename_i log' x' h'
        cases e
        have h1:=hl _ (.head _)
        have h1 : pk k f ds = some r:=h1
        show (match pk k f ds with | some r=>k2 (.d r) hp | none=>none) = some x
        rw [h1]
        exact hk _ _ rest log' x h' fun q hq=>hl q (.tail _ hq)
      · exact nope e),fun _ _=>rfl,fun f vs hp k1 k2 hvs hk script log x e hl=>(by
    have e : (match (generalizing:=false) script with
      | []=>none
      | r :: rest=>match allD vs with
        | some ds=>match k1 (.d r) hp rest with
          | some (log,x)=>some ((f,ds,r) :: log,x)
          | none=>none
        | none=>none) = some (log,x):=e
    rw [hvs] at e
    cases script <;> exact nope e)⟩
theorem Ev.of {k f : Nat} {fi : FI} {ds script : List D} {log : List Note} {x : D} (hf : nth fiL f = some fi) (hl : Nat.beq ds.length fi.pars.length = true) (h : runL fi ds script = some (log,x)) (hlog : ∀ q ∈ log,Ev k q.1 q.2.1 q.2.2) : Ev (k + 1) f ds x:=by
  unfold Ev pk
  rw [hf]
  show runO (pk k) mTab fi ds = some x
  unfold runO
  rw [hl]
  refine aSL_h (log_hom k) fi.body (startOf fi (ds.map .d) []) (k1:=fun fl _=>endL fl) (k2:=fun fl _=>endO fl) (fun fl st script log x e _=>?_) script log x h hlog
  cases fl with
  | nxt=>exact nope e
  | ret v =>
    cases v with
    | c _=>exact nope e
    | d y =>
      cases script with
      | nil=>cases e; rfl
      | cons _ _=>exact nope e
end
end Mine
end
section
open PySem.Spec
namespace Mine
noncomputable section
noncomputable def faOf (K : Frag) (x : Str) : Addr:=match nsIn K mainGlobals x with
  | some (some (.ref a))=>a
  | _=>0
noncomputable def initOf (K : Frag) (C : Addr) : Addr:=match findIn K (.ref C) "__init__" with
  | some (some (.ref a))=>a
  | _=>0
noncomputable def funcD (d : Data) : Option FuncData:=match d with
  | .func fd=>some fd
  | _=>none
theorem funcD_some {d : Data} {fd : FuncData} (h : funcD d = some fd) : d = .func fd:=by
  cases d with
  | func x=>exact congrArg _ (Option.some.inj h)
  | _=>exact nope h
noncomputable abbrev FnV:=FuncBody × Scope × Arguments × List (Str × Addr) × Value × Value × Addr × Addr × Bool
noncomputable def fnView (K : Frag) (fa : Addr) : Option FnV:=((K.lookup fa).bind fun o=>funcD o.data).map fun fd=>(fd.body,fd.scope,fd.params,fd.closure,fd.defaults,fd.kwdefaults,fd.globals,fd.builtins,codeIn K fd.code fd.qualname)
noncomputable def fnV (fi : FI) : FnV:=(.stmts (toSs fi.body),scOf fi.kinds fi.fast,argsOf fi,[],.none,.none,mainGlobals,builtinsNs,true)
structure BW where
  n : Str
  q : Str
  b : FuncBody
  sc : Scope
  g : Addr
  cl : List (Str × Addr)
  dc : Value
  pm : Value
  an : Option Addr
  cd : Value
  ct : Value
  bu : Addr
noncomputable def bdL (fi : FI) (w : BW) (xs : List Value):=bindArgs ⟨w.n,w.q,argsOf fi,w.b,w.sc,w.g,w.cl,.none,.none,w.dc,w.pm,w.an,w.cd,w.ct,w.bu⟩ ⟨xs,[]⟩
noncomputable def bdR (fi : FI) (xs : List Value) : Sem (List (Str × Value)):=pure ((fi.pars.map nm).zip xs)
noncomputable def bindOk (fi : FI) : Prop:=∀ (w : BW) (xs : List Value),xs.length = fi.pars.length → bdL fi w xs = bdR fi xs
theorem fd_eq (fd : FuncData) {a : Arguments} (h1 : fd.params = a) (h2 : fd.defaults = .none) (h3 : fd.kwdefaults = .none) : fd = ⟨fd.name,fd.qualname,a,fd.body,fd.scope,fd.globals,fd.closure,.none,.none,fd.doc,fd.pyModule,fd.annotations,fd.code,fd.closureTuple,fd.builtins⟩:=by
  obtain ⟨n,q,ps,b,sc,g,cl,df,kd,dc,pm,an,c,ct,bu⟩:=fd
  dsimp only at h1 h2 h3
  subst h1 h2 h3
  rfl
theorem fnAt_mk {K : Frag} {h : Heap} (X : K.In h) {fa : Addr} {fi : FI} (ok : FiOk fi) (bd : bindOk fi) (e : fnView K fa = some (fnV fi)) : FnAt h fa fi:=by
  obtain ⟨fd,e1,e⟩:=Option.map_eq_some_iff.mp e
  obtain ⟨o,hk,hd⟩:=Option.bind_eq_some_iff.mp e1
  exact ⟨ok,o,fd,X _ _ hk,funcD_some hd,congrArg (fun x=>x.1) e,congrArg (fun x=>x.2.1) e,congrArg (fun x=>x.2.2.2.1) e,codeRec_of X (congrArg (fun x=>x.2.2.2.2.2.2.2.2) e),congrArg (fun x=>x.2.2.2.2.2.2.1) e,congrArg (fun x=>x.2.2.2.2.2.2.2.1) e,
    fun xs hx=>(congrArg (fun f=>bindArgs f ⟨xs,[]⟩) (fd_eq fd (congrArg (fun x=>x.2.2.1) e) (congrArg (fun x=>x.2.2.2.2.1) e) (congrArg (fun x=>x.2.2.2.2.2.1) e))).trans (bd ⟨_,_,_,_,_,_,_,_,_,_,_,_⟩ xs hx)⟩
theorem xs0 {α : Type} {l : List α} {P : List α → Prop} (h : l.length = 0) (k : P []) : P l:=List.eq_nil_of_length_eq_zero h ▸ k
theorem xs1 {α : Type} {l : List α} {P : List α → Prop} (h : l.length = 1) (k : ∀ a,P [a]) : P l:=match l,h with | [a],_=>k a
theorem xsS {α : Type} {l : List α} {P : List α → Prop} {n : Nat} (h : l.length = n + 1) (k : ∀ a r,r.length = n → P (a :: r)) : P l:=match l,h with | a :: r,h=>k a r (Nat.succ.inj h)
theorem xs2 {α : Type} {l : List α} {P : List α → Prop} (h : l.length = 2) (k : ∀ a b,P [a,b]) : P l:=xsS h fun a _ h=>xs1 (P:=fun r=>P (a :: r)) h (k a)
theorem xs3 {α : Type} {l : List α} {P : List α → Prop} (h : l.length = 3) (k : ∀ a b c,P [a,b,c]) : P l:=xsS h fun a _ h=>xs2 (P:=fun r=>P (a :: r)) h (k a)
theorem xs4 {α : Type} {l : List α} {P : List α → Prop} (h : l.length = 4) (k : ∀ a b c d,P [a,b,c,d]) : P l:=xsS h fun a _ h=>xs3 (P:=fun r=>P (a :: r)) h (k a)
theorem xs5 {α : Type} {l : List α} {P : List α → Prop} (h : l.length = 5) (k : ∀ a b c d e,P [a,b,c,d,e]) : P l:=xsS h fun a _ h=>xs4 (P:=fun r=>P (a :: r)) h (k a)
theorem xs6 {α : Type} {l : List α} {P : List α → Prop} (h : l.length = 6) (k : ∀ a b c d e f,P [a,b,c,d,e,f]) : P l:=xsS h fun a _ h=>xs5 (P:=fun r=>P (a :: r)) h (k a)
noncomputable def AllL (P : FI → Prop) : List FI → Prop
  | []=>True
  | x :: r=>P x ∧ AllL P r
theorem AllL.at {P : FI → Prop} : ∀ {l : List FI} {k : Nat} {x : FI},AllL P l → nth l k = some x → P x
  | _ :: _,0,_,h,e=>Option.some.inj e ▸ h.1
  | _ :: _,_ + 1,_,h,e=>AllL.at h.2 e
noncomputable abbrev bdP (fi : FI) (w : BW) (xs : List Value) : Prop:=bdL fi w xs = bdR fi xs
theorem bd_L : AllL bindOk (fiL ++ [f__law_context,f_Element___init__,f_Thread___init__]):=by
  repeat' (first | exact trivial | refine And.intro (fun w xs h=>?_) ?_)
  all_goals first
    | (refine xs1 (P:=bdP _ w) h fun _=>?_; kernel_rfl)
    | (refine xs2 (P:=bdP _ w) h fun _ _=>?_; kernel_rfl)
    | (refine xs3 (P:=bdP _ w) h fun _ _ _=>?_; kernel_rfl)
    | (refine xs0 (P:=bdP _ w) h ?_; kernel_rfl)
    | (refine xs4 (P:=bdP _ w) h fun _ _ _ _=>?_; kernel_rfl)
    | (refine xs5 (P:=bdP _ w) h fun _ _ _ _ _=>?_; kernel_rfl)
    | (refine xs6 (P:=bdP _ w) h fun _ _ _ _ _ _=>?_; kernel_rfl)
theorem bd_all (k : Nat) (fi : FI) (e : nth (fiL ++ [f__law_context,f_Element___init__,f_Thread___init__]) k = some fi) : bindOk fi:=bd_L.at e
noncomputable def fnAddr (K : Frag) (k : Nat) : Addr:=faOf K (nm k)
noncomputable def clsI (K : Frag) (n : Nat) : Addr:=initOf K (faOf K (nm n))
noncomputable def viewsK (K : Frag) : List (Option FnV):=(List.range 59).map (fun n=>fnView K (faOf K (nm n))) ++ [fnView K (clsI K 61),fnView K (clsI K 62)]
noncomputable def fisA : List FI:=fiL ++ [f__law_context,f_Element___init__,f_Thread___init__]
noncomputable def viewsG : List (Option FnV):=fisA.map fun f=>some (fnV f)
noncomputable def isR : Option (Option Value) → Bool
  | some (some (.ref _))=>true
  | _=>false
noncomputable def isB : Option (Option Value) → String → Bool
  | some (some (.builtin b)),s=>decide (b = s)
  | _,_=>false
noncomputable def isN : Option (Option Value) → Bool
  | some none=>true
  | _=>false
noncomputable def clsB (K : Frag) (C : Addr) : Bool:=isB (findIn K (.ref C) "__getattribute__") "object.__getattribute__" && isN (findIn K (.ref C) "__getattr__") && hasDictIn K C && (fldL.all fun n=>isN (findIn K (.ref C) (nm n))) &&
  isB (findIn K (.ref C) "__setattr__") "object.__setattr__" && plainOver K C && makesIn K C && isR (findIn K (.ref C) "__init__") && (match typeIn K (.ref (initOf K C)) with | some (.type t)=>decide (t = "function") | _=>false) && keepIn K (.ref C)
noncomputable def conB (K : Frag) (n : Nat) (i : Int) : Bool:=match nsIn K mainGlobals (nm n) with
  | some (some (.int j _))=>j == i
  | _=>false
noncomputable def conTab (K : Frag) : Bool:=(List.range gcL.length).all fun n=>match gconst n with
  | some (.int i)=>conB K n i
  | some _=>false
  | none=>true
noncomputable def codeB (K : Frag) : Bool:=((K.lookup (faOf K (nm 58))).bind fun o=>funcD o.data).any fun fd=>(match fd.code with | .ref a=>Nat.beq a 823 | _=>false) && decide (fd.qualname = ("_law_context" : Str))
noncomputable def tabB (K : Frag) : Bool:=match tabIn K (nm 58) with
  | some (c,P)=>Nat.beq c 823 && Nat.beq P 819
  | none=>false
noncomputable def biIds : List Nat:=[67,158,156,165,76,77,177,107,193]
noncomputable def goodB (K : Frag) : Bool:=(List.range 59).all (fun n=>isR (nsIn K mainGlobals (nm n))) && isR (nsIn K mainGlobals (nm 61)) && isR (nsIn K mainGlobals (nm 62)) && clsB K (faOf K (nm 61)) && clsB K (faOf K (nm 62)) &&
  biIds.all (fun n=>isN (nsIn K mainGlobals (nm n))) && conTab K && codeB K && tabB K
structure FragOk (K : Frag) : Prop where
  views : viewsK K = viewsG
  good : goodB K = true
  tabs : noTabs K = true
noncomputable def noTab1 (o : Obj) : Bool:=match o.cls,o.data with
  | .none,.fields _=>false
  | _,_=>true
noncomputable def fragA (s : SharedT) (a : Addr) : Option (Addr × Obj):=((bif' (Nat.blt a s.n) (s.tree.get a) none).bind alive).bind fun o=>bif' (noTab1 o) (some (a,o)) none
noncomputable def fragT (s : SharedT) : Frag:=(mainGlobals :: (List.range s.n).reverse).filterMap (fragA s)
theorem fragT_mem {s : SharedT} {a : Addr} {o : Obj} (e : (a,o) ∈ fragT s) : s.abs.heap.get? a = some o ∧ noTab1 o = true:=by
  obtain ⟨x,_,e⟩:=List.mem_filterMap.mp e
  obtain ⟨oy,e1,e⟩:=Option.bind_eq_some_iff.mp e
  obtain ⟨ox,e1,ha⟩:=Option.bind_eq_some_iff.mp e1
  obtain ⟨hn,hg⟩:=bif_some e1 rfl
  obtain ⟨ht,e⟩:=bif_some e rfl
  obtain ⟨rfl,rfl⟩:=Prod.mk.inj (Option.some.inj e)
  exact ⟨(abs_get (Nat.le_of_ble_eq_true hn) hg).trans ha,ht⟩
theorem fragT_in (s : SharedT) : (fragT s).In s.abs.heap:=fun _ _ e=>(fragT_mem (mem_of_lookupK e)).1
theorem fragT_noTabs (s : SharedT) : noTabs (fragT s) = true:=List.all_eq_true.mpr fun p hp=>(fragT_mem (a:=p.1) (o:=p.2) hp).2
noncomputable abbrev lw : OpenLaw:=PySem.Challenge.rw_sj0062_01
noncomputable abbrev pw : Program:=PySem.Challenge.pw_sj0062_01
theorem said1 : PySem.W.Fast.tw8377067652309620493 lw.row.prog = true:=by kernel_rfl
theorem said2 : PySem.W.Fast.tw17119622794617984870 lw.row.prog lw.row.prog.main.body (fun _ n=>PySem.W.Fast.tw17868728402115742887 n) = true:=by kernel_rfl
theorem said3 : PySem.W.Fast.tw8326940854005059898 { strict:=false,foot:=none } lw.row.prog.main.body = true:=by kernel_rfl
theorem and6 {a b c d e f : Bool} (ha : a = true) (hb : b = true) (hc : c = true) (hd : d = true) (he : e = true) (hf : f = true) : (((((a && b) && c) && d) && e) && f) = true:=by
  rw [ha,hb,hc,hd,he,hf]; rfl
theorem said4 : PySem.W.Fast.tw12908688711261696721 lw.row.prog = true:=by
  refine and6 ?_ ?_ said1 ?_ ((congrArg (fun l=>PySem.W.Fast.tw8326940854005059898 l lw.row.prog.main.body) ?_).trans said3) said2 <;> kernel_rfl
theorem said_row : PySem.W.Fast.tw17960256430627541270 lw.row = true:=by
  unfold PySem.W.Fast.tw17960256430627541270 PySem.W.Fast.tw2436336058641802641
  rw [said4]
  kernel_rfl
theorem said_law : lw.wellSaid = true:=by
  refine (congrFun PySem.W.Fast.te9446332074065402090 lw).trans ?_
  unfold PySem.W.Fast.tw9446332074065402090
  rw [(congrArg PySem.W.Fast.tw17960256430627541270 (congrFun PySem.W.Fast.te2368527892694137696 lw).symm).trans said_row]
  kernel_rfl
theorem whole : pw.tablesWhole = true:=by
  show TablesWhole.wProgram TablesWhole.holds pw = true
  unfold TablesWhole.wProgram
  rw [PySem.W.Fast.te6116379765354995101]
  kernel_rfl
noncomputable def runG {S T : Type} (thr : T → Bool) (ok : T → Bool) (stp : S → T → Option (S × T)) (n : Nat) : S → T → Option S :=
  Nat.rec (fun _ _=>none) (fun _ ih s t=>bif thr t then some s else bif ok t then (stp s t).bind fun r=>ih r.1 r.2 else none) n
theorem runG_of {tb : String → Option Builtin} {p : Program} {w : World} {n₀ : Nat} {ann : Option Value} {n : Nat} : ∀ {s s' : SharedT} {t : Thread},runG through (stepOk n₀ ann) (stepT (denote tb) p w) n s t = some s' → topRun tb p w n₀ ann n s.abs t = some s'.abs:=by
  induction n with
  | zero=>intro _ _ _ h; exact nope h
  | succ n ih =>
    intro s s' t h
    have h : (bif through t then some s else bif stepOk n₀ ann t then (stepT (denote tb) p w s t).bind fun r=>runG through (stepOk n₀ ann) (stepT (denote tb) p w) n r.1 r.2 else none) = some s':=h
    unfold topRun
    cases ht : through t with
    | true=>rw [ht] at h; rw [Option.some.inj h]
    | false =>
      rw [ht] at h
      cases hk : stepOk n₀ ann t with
      | false=>rw [hk] at h; exact nope h
      | true =>
        rw [hk] at h
        obtain ⟨r,hs,h⟩:=Option.bind_eq_some_iff.mp h
        dsimp only
        rw [stepT_spec hs]
        exact ih h
noncomputable def btOf : List Obj → Nat → BT → BT
  | [],_,t=>t
  | o :: r,n,t=>btOf r (n + 1) (t.ins n o)
noncomputable abbrev bh (w : World) : Heap:=boot_heap w.params
noncomputable def bS (w : World) (os : OsState) : Shared:=⟨bh w,#[],boot_drawn,boot_toks,os⟩
noncomputable def bT (w : World) (os : OsState) : SharedT:=⟨btOf (bh w).objs.toList 0 .nil,(bh w).objs.size,(bh w).life,#[],boot_drawn,boot_toks,os⟩
theorem bT_list (P : Params) : (btOf (boot_heap P).objs.toList 0 .nil).list (boot_heap P).objs.size = (boot_heap P).objs.toList:=by kernel_rfl
theorem bT_abs (w : World) (os : OsState) : (bT w os).abs = bS w os:=by
  have e : absHeap (btOf (bh w).objs.toList 0 .nil) (bh w).objs.size (bh w).life = bh w:=by
    unfold absHeap
    rw [bT_list]
  exact congrArg (fun H=>Shared.mk H #[] boot_drawn boot_toks os) e
noncomputable def qv : Program:=view pw [129,130]
noncomputable def lo : List Str:=pw.boundNames.filter fun n=>n != nm 57 && n != nm 58
noncomputable def xt (s : Shared) : Bool:=xlAt qv [] s && recOk lw.row.records s
noncomputable abbrev mods : List Str:=importedModules pw.main.body
noncomputable def isStrQ (v : Value) (n : Str) : Bool:=match v with
  | .str s _=>Fast.sEq s n
  | _=>false
theorem sEq_beq (a b : Str) : Fast.sEq a b = (a == b):=Bool.eq_iff_iff.mpr (Fast.sEq_iff.trans beq_iff_eq.symm)
theorem isStrQ_eq : Value.isStr = isStrQ:=by
  funext v n
  cases v with
  | str s _=>exact (sEq_beq s n).symm
  | _=>rfl
noncomputable def nsG (S : Value → Str → Bool) (K : Frag) (ns : Addr) (name : Str) : Option (Option Value):=match K.lookup ns with
  | some ⟨_,_,.dict es _,_⟩=>(match es.toList.find? (fun e=>S e.key name) with
      | some e=>some (some e.val)
      | none=>if es.toList.any (·.refKey) then none else some none)
  | _=>none
theorem nsG_eq : nsIn = nsG isStrQ:=by
  rw [← isStrQ_eq]; rfl
noncomputable abbrev NsF:=Frag → Addr → Str → Option (Option Value)
noncomputable def faG (N : NsF) (K : Frag) (x : Str) : Addr:=match N K mainGlobals x with
  | some (some (.ref a))=>a
  | _=>0
noncomputable def viewsG' (N : NsF) (K : Frag) : List (Option FnV):=(List.range 59).map (fun n=>fnView K (faG N K (nm n))) ++ [fnView K (initOf K (faG N K (nm 61))),fnView K (initOf K (faG N K (nm 62)))]
noncomputable def conG (N : NsF) (K : Frag) (n : Nat) (i : Int) : Bool:=match N K mainGlobals (nm n) with
  | some (some (.int j _))=>j == i
  | _=>false
noncomputable def conTabG (N : NsF) (K : Frag) : Bool:=(List.range gcL.length).all fun n=>match gconst n with
  | some (.int i)=>conG N K n i
  | some _=>false
  | none=>true
noncomputable def codeG (N : NsF) (K : Frag) : Bool:=((K.lookup (faG N K (nm 58))).bind fun o=>funcD o.data).any fun fd=>(match fd.code with | .ref a=>Nat.beq a 823 | _=>false) && decide (fd.qualname = ("_law_context" : Str))
noncomputable def goodG (N : NsF) (K : Frag) : Bool:=(List.range 59).all (fun n=>isR (N K mainGlobals (nm n))) && isR (N K mainGlobals (nm 61)) && isR (N K mainGlobals (nm 62)) && clsB K (faG N K (nm 61)) && clsB K (faG N K (nm 62)) &&
  biIds.all (fun n=>isN (N K mainGlobals (nm n))) && conTabG N K && codeG N K && tabB K
theorem viewsG_eq : viewsG' nsIn = viewsK:=rfl
theorem goodG_eq : goodG nsIn = goodB:=rfl
noncomputable def inQ (k : Str) (l : List Str) : Bool:=l.any (Fast.sEq k)
theorem inQ_eq (k : Str) (l : List Str) : l.contains k = inQ k l:=by
  refine Bool.eq_iff_iff.mpr (List.contains_iff_mem.trans ?_)
  unfold inQ
  rw [List.any_eq_true]
  exact ⟨fun h=>⟨k,h,Fast.sEq_iff.mpr rfl⟩,fun ⟨x,h,e⟩=>Fast.sEq_iff.mp e ▸ h⟩
noncomputable def namesG (bn : Program → List Str) (p : Program) (h : Heap) : Bool:=h.isNs mainGlobals && (h.nsKeys mainGlobals).all fun k=>inQ k startupNames || inQ k (bn p)
theorem namesG_eq (p : Program) (h : Heap) : namesBound p h = namesG PySem.W.Fast.tw18344453789297297638 p h:=by
  rw [← PySem.W.Fast.te18344453789297297638]
  unfold namesBound namesG
  simp only [inQ_eq]
noncomputable def bigR {σ : Type} (ok : Nat → Option Value → Thread → Bool) (stp : (Code → Sem Fin) → Program → World → SharedT → Thread → Option (SharedT × Thread)) (den : (String → Option Builtin) → Code → Sem Fin) (tb : String → Option Builtin) (F : SharedT → σ) (w : World) (os : OsState) :=
  (runG through (ok (bh w).objs.size ((bh w).nsMap mainGlobals "__annotations__")) (stp (den tb) pw w) 9016 (bT w os) (topStub pw)).map F
noncomputable def seeA {σ : Type} (nb : Heap → Bool) (seenF : Shared → σ) (w : World) (s : Shared):=((staticsOk mods (bh w) s.heap && nb s.heap && gensDone s && laidKept (bh w) s.heap),seenF s)
noncomputable def seeB (N : NsF) (K : Frag):=(viewsG' N K,goodG N K)
noncomputable def seeAll {σ : Type} (N : NsF) (nb : Heap → Bool) (seenF : Shared → σ) (w : World) (s : SharedT):=(seeA nb seenF w s.abs,seeB N (fragT s))
theorem big_fast (w : World) (os : OsState) : bigR PySem.W.Fast.tw6613529449190102663 PySem.W.Fast.tw10156331382660048174 PySem.W.Fast.tw11892475500146522536 PySem.W.Fast.tw14364793385576792824 (seeAll (nsG isStrQ) (namesG PySem.W.Fast.tw18344453789297297638 pw) (fun s=>PySem.W.Fast.tw4187177175401517315 qv lo mods xt true s) w) w os = some ((true,openGood qv lo),viewsG,true):=by kernel_rfl
theorem big_slow (w : World) (os : OsState) : bigR stepOk stepT denote treeTable (seeAll nsIn (namesBound pw) (fun s=>openSeen qv lo mods xt true s) w) w os = some ((true,openGood qv lo),viewsG,true):=by
  have:=big_fast w os
  rw [← PySem.W.Fast.te6613529449190102663,← PySem.W.Fast.te10156331382660048174,← PySem.W.Fast.te11892475500146522536,← PySem.W.Fast.te14364793385576792824,← PySem.W.Fast.te4187177175401517315,← nsG_eq,← (funext (namesG_eq pw) : namesBound pw = namesG PySem.W.Fast.tw18344453789297297638 pw)] at this
  exact this
theorem shared_is {s : Shared} {w : World} (e : (s.heap,s.gens,s.drawn,s.toks) = (boot_heap w.params,Array.mk [],boot_drawn,boot_toks)) : s = bS w s.os :=
  congrArg (fun x=>Shared.mk x.1 x.2.1 x.2.2.1 x.2.2.2 s.os) e
theorem leftO_of {p q : Program} {loose : List Str} {Xt : Shared → Bool} {N : Nat} {g0 : Bool} {F : Shared → Prop}
    (open_ : ∀ w : World,(fencedOpening treeTable p w N).map (fun s=>(s.heap,s.gens,s.drawn,s.toks)) = some (boot_heap w.params,Array.mk [],boot_drawn,boot_toks))
    (ns : ∀ (w : World) (os : OsState),((bS w os).heap.isNs mainGlobals && (bS w os).gens.size == 0) = true)
    (run : ∀ (w : World) (os : OsState),∃ s1 : Shared,topRun treeTable p w (bS w os).heap.objs.size ((bS w os).heap.nsMap mainGlobals "__annotations__") N (bS w os) (topStub p) = some s1 ∧
      (staticsOk (importedModules p.main.body) (bS w os).heap s1.heap && namesBound p s1.heap && gensDone s1 && laidKept (bS w os).heap s1.heap) = true ∧ openSeen q loose (importedModules p.main.body) Xt g0 s1 = openGood q loose ∧ F s1) :
    LeftO p q loose Xt F (fun _=>True) N g0:=fun w=>by
  obtain ⟨s,e,e'⟩:=Option.map_eq_some_iff.mp (open_ w)
  rw [shared_is e'] at e
  clear e'
  generalize s.os = os at e
  obtain ⟨s1,r,l1,l2,l3⟩:=run w os
  have t : topFrom treeTable p w N (bS w os) = some s1:=by
    unfold topFrom
    rw [ns w os,r]
    show (match staticsOk (importedModules p.main.body) (bS w os).heap s1.heap && namesBound p s1.heap && gensDone s1 && laidKept (bS w os).heap s1.heap with | true=>_ | false=>_) = _
    rw [l1]
  unfold openEnds
  rw [e]
  show (topFrom treeTable p w N (bS w os)).map _ = _
  rw [t]
  exact congrArg some (Prod.ext l2 (eq_true l3))
theorem bS_ns (w : World) (os : OsState) : ((bS w os).heap.isNs mainGlobals && (bS w os).gens.size == 0) = true:=by kernel_rfl
theorem opens : opening pw = plainProg pw.main.scope.names:=by kernel_rfl
theorem fences (s : Shared) : fenceModules? pw s = some s:=by kernel_rfl
theorem runs (w : World) (os : OsState) : ∃ s1 : Shared,topRun treeTable pw w (bS w os).heap.objs.size ((bS w os).heap.nsMap mainGlobals "__annotations__") 9016 (bS w os) (topStub pw) = some s1 ∧
    (staticsOk mods (bS w os).heap s1.heap && namesBound pw s1.heap && gensDone s1 && laidKept (bS w os).heap s1.heap) = true ∧ openSeen qv lo mods xt true s1 = openGood qv lo ∧ ∃ K : Frag,K.In s1.heap ∧ FragOk K:=by
  obtain ⟨s1,r1,r2⟩:=Option.map_eq_some_iff.mp (big_slow w os)
  have r3:=runG_of r1
  rw [bT_abs] at r3
  obtain ⟨la,lb⟩:=Prod.mk.inj r2
  obtain ⟨l1,l2⟩:=Prod.mk.inj la
  obtain ⟨l3,l4⟩:=Prod.mk.inj lb
  exact ⟨s1.abs,r3,l1,l2,fragT s1,fragT_in s1,l3,l4,fragT_noTabs s1⟩
theorem left : LeftO pw qv lo xt (fun s=>∃ K : Frag,K.In s.heap ∧ FragOk K) (fun _=>True) 9016:=leftO_of (boot_open opens (by rfl) fences) bS_ns runs
noncomputable def saysY (_ : World) (h : Heap) : Prop:=∃ K : Frag,K.In h ∧ FragOk K
noncomputable def dLaw : DefRec:={ name:=nm 57,params:=argsOf f_law,body:=toSs f_law.body,scope:=scOf f_law.kinds f_law.fast,pos:=⟨851,0,882,23⟩ }
theorem hd (call : WalkO qv lo (PySem.W.XL qv []) saysY lw.row.toRowW dLaw [] fun f vs=>PySem.call f vs) : PySem.Challenge.rw_sj0062_01.Holds:=by
  refine holds_law said_law fun said'=>?_
  refine PySem.W.holds_open (q:=qv) (loose:=lo) (Xt:=xt) (XP:=PySem.W.XL qv []) (YP:=saysY) (d:=dLaw) (kwd:=[]) (N:=9016) left
    ?_ ?_ (fun s e=>xl_of s (Bool.and_eq_true_iff.mp e).1) PySem.W.XL.keeps (by kernel_rfl) (by kernel_rfl) (by kernel_rfl) (fun s e=>recFacts_of (Bool.and_eq_true_iff.mp e).2) (by rfl) said' ?_ ⟨rfl,rfl,rfl,rfl,rfl,whole⟩ ?_ call
  · exact fun w s e=>of_eq_true e
  · exact fun w h h' ⟨K,x,e⟩ k=>⟨K,fun a o q=>k a o (x a o q),e⟩
  · decide +kernel
  · w_witness2
end
end Mine
end
section
open PySem.Spec
namespace Mine
noncomputable section
mutual
theorem D.beq_eq : ∀ (a b : D),D.beq a b = true → a = b
  | .none,b,h=>by cases b <;> first | rfl | exact (Bool.false_ne_true h).elim
  | .bool x,b,h=>by cases b <;> first | exact congrArg _ (eq_of_beq (show (x == _) = true from h)) | exact (Bool.false_ne_true h).elim
  | .int x,b,h=>by cases b <;> first | exact congrArg _ (eq_of_beq (show (x == _) = true from h)) | exact (Bool.false_ne_true h).elim
  | .str x,b,h=>by cases b <;> first | exact congrArg _ (eq_of_beq (show (x == _) = true from h)) | exact (Bool.false_ne_true h).elim
  | .tup x,b,h=>by cases b <;> first | exact congrArg _ (D.beqL_eq x _ h) | exact (Bool.false_ne_true h).elim
  | .lst x,b,h=>by cases b <;> first | exact congrArg _ (D.beqL_eq x _ h) | exact (Bool.false_ne_true h).elim
  | .dict k x,b,h=>by
    cases b <;> first
      | exact (Bool.false_ne_true h).elim
      | (obtain ⟨h1,h2⟩:=Bool.and_eq_true_iff.mp h; rw [eq_of_beq h1,D.beqL_eq x _ h2])
  | .inst c n x,b,h=>by
    cases b <;> first
      | exact (Bool.false_ne_true h).elim
      | (obtain ⟨h1,h2⟩:=Bool.and_eq_true_iff.mp h; obtain ⟨h3,h4⟩:=Bool.and_eq_true_iff.mp h1; rw [Nat.eq_of_beq_eq_true h3,eq_of_beq h4,D.beqL_eq x _ h2])
  | .clo c x,b,h=>by
    cases b <;> first
      | exact (Bool.false_ne_true h).elim
      | (obtain ⟨h1,h2⟩:=Bool.and_eq_true_iff.mp h; rw [Nat.eq_of_beq_eq_true h1,D.beqL_eq x _ h2])
  | .junk,b,h=>by cases b <;> first | rfl | exact (Bool.false_ne_true h).elim
theorem D.beqL_eq : ∀ (a b : List D),D.beqL a b = true → a = b
  | [],b,h=>by cases b <;> first | rfl | exact nof h
  | x :: xs,b,h=>by
    cases b with
    | nil=>exact nof h
    | cons y ys =>
      obtain ⟨h1,h2⟩:=Bool.and_eq_true_iff.mp h
      rw [D.beq_eq x _ h1,D.beqL_eq xs _ h2]
end
noncomputable def isEv (k f : Nat) (ds : List D) (r : D) : Bool:=match pk k f ds with
  | some x=>D.beq x r
  | none=>false
theorem isEv.ok {k f : Nat} {ds : List D} {r : D} (h : isEv k f ds r = true) : Ev k f ds r:=by
  unfold isEv at h
  unfold Ev
  split at h
  · rename_i x e
    rw [e,D.beq_eq _ _ h]
  · exact nof h
noncomputable def C4 : List Int:=[0,1,2,3]
noncomputable def Cd (c : Int) : Prop:=c = 0 ∨ c = 1 ∨ c = 2 ∨ c = 3
theorem Cd.mem {c : Int} (h : Cd c) : c ∈ C4:=by
  rcases h with rfl | rfl | rfl | rfl <;> simp [C4]
theorem all4 {p : Int → Bool} (h : C4.all p = true) {c : Int} (hc : Cd c) : p c = true:=List.all_eq_true.mp h c hc.mem
noncomputable def baseN : List Nat:=[139,1,153,152,151,150,149,148,147,146,145,135,144,143]
noncomputable def baseV : List D:=[.int 0,.lst [],.int 0,.lst [],.str [116,104,105,110,103],.lst [],.lst [],.int (-1),.dict [] [],.bool false,.none,.int 0,.bool false,.bool false]
noncomputable def thingD (ns : List Nat) (xs : List D) : D:=.inst 62 (baseN ++ ns) (baseV ++ xs)
noncomputable def ctxD (sg : D) : D:=thingD [97] [thingD [98] [.clo 60 [sg]]]
noncomputable def elD (n k df st : D) : D:=.inst 61 [139,110,138,137,121,136,135,134,127,133] [n,k,df,st,.none,.none,.int 0,.bool false,.int 3,.lst []]
noncomputable def vecD (c0 c1 : Int) : D:=.tup [.int 2,.int (c0.fmod 2 + 2 * (c1.fmod 2)),.int (c0.fdiv 2 + 2 * (c1.fdiv 2))]
noncomputable def vec1 (c : Int) : D:=.tup [.int 1,.int (c.fmod 2),.int (c.fdiv 2)]
noncomputable def rowD (c0 c1 : Int) : D:=.lst [.int c0,.int c1]
noncomputable def rowT (a : Int × Int) : D:=rowD a.1 a.2
noncomputable def sgD (s0 s1 s2 : Int × Int) : D:=.lst [rowT s0,rowT s1,rowT s2]
noncomputable def sigE (i : Int) : D:=.tup [.str [115,105,103],.int 2,.int i]
noncomputable def constE (a b : Int) : D:=.tup [.str [99,111,110,115,116],.int 2,.int a,.int b]
noncomputable def condE (x y z : D) : D:=.tup [.str [99,111,110,100],.int 2,x,y,z]
noncomputable def binE (op : Nat) (x y : D) : D:=.tup [.str [98,105,110],.int 2,.str [op],x,y,.bool false]
noncomputable def slcE (w : Int) (e : D) (lo : Int) : D:=.tup [.str [115,108,105,99,101],.int w,e,.int lo]
noncomputable def orC (c d : Int) : Int:=if c = 1 ∨ d = 1 then 1 else if c = 0 ∧ d = 0 then 0 else 3
noncomputable def andC (c d : Int) : Int:=if c = 0 ∨ d = 0 then 0 else if c = 1 ∧ d = 1 then 1 else 3
noncomputable def xorC (c d : Int) : Int:=if 2 ≤ c ∨ 2 ≤ d then 3 else if c = d then 0 else 1
noncomputable def pickC (c d : Int) : Int:=if c = d ∧ c < 2 then c else 3
noncomputable def truC (c d : Int) : Int:=if c = 1 ∨ d = 1 then 1 else if c = 0 ∧ d = 0 then 0 else 3
noncomputable def opC (op : Nat) : Int → Int → Int:=if op = 38 then andC else if op = 124 then orC else xorC
theorem Cd.fin {c : Int} (h : Cd c) : ∃ a : Fin 4,c = (a.val : Int):=by
  rcases h with rfl | rfl | rfl | rfl
  · exact ⟨0,rfl⟩
  · exact ⟨1,rfl⟩
  · exact ⟨2,rfl⟩
  · exact ⟨3,rfl⟩
theorem Cd.ops {c d : Int} (hc : Cd c) (hd : Cd d) : Cd (orC c d) ∧ Cd (andC c d) ∧ Cd (xorC c d) ∧ Cd (pickC c d):=by
  have all : ∀ a b : Fin 4,Cd (orC (a.val : Int) (b.val : Int)) ∧ Cd (andC (a.val : Int) (b.val : Int)) ∧ Cd (xorC (a.val : Int) (b.val : Int)) ∧ Cd (pickC (a.val : Int) (b.val : Int)):=by unfold Cd; decide +kernel
  obtain ⟨a,rfl⟩:=hc.fin
  obtain ⟨b,rfl⟩:=hd.fin
  exact all a b
theorem fi15 : nth fiL 15 = some f_evaluate:=rfl
theorem code_B : (C4.all fun a=>C4.all fun b=>isEv 1 1 [vecD a b,.int 0] (.int a) && isEv 1 1 [vecD a b,.int 1] (.int b)) = true:=by kernel_rfl
theorem code1_B : (C4.all fun a=>isEv 1 1 [vec1 a,.int 0] (.int a)) = true:=by kernel_rfl
theorem truth_B : (C4.all fun a=>C4.all fun b=>isEv 2 5 [vecD a b] (.int (truC a b))) = true:=by kernel_rfl
end
end Mine
end
section
open PySem.Spec
namespace Mine
noncomputable section
section
variable {prog : Program} {W : World} {A : Around} {E : Value → Shared → Prop} {s : Shared} {g : Act} {w w' b : Wd} {st : St} {d : Nat} {h h' : Heap} {ad : Ad} {hT : Heap} {c : Cfg Prop} {K : Frag} {mg mb : Str → Option Value}
noncomputable def back (hp hp' : Hp) : Prop:=hp'.take hp.length = hp
theorem hget_take : ∀ (hp : Hp) (k n : Nat),n < k → hget (hp.take k) n = hget hp n
  | [],k,n,_=>by cases k <;> rfl
  | x :: r,0,n,h=>absurd h (Nat.not_lt_zero _)
  | x :: r,k + 1,0,_=>rfl
  | x :: r,k + 1,n + 1,h=>hget_take r k n (Nat.lt_of_succ_lt_succ h)
theorem hget_lt0 : ∀ (hp : Hp) (n : Nat) (c : Ct),hget hp n = some c → n < hp.length
  | [],_,_,h=>by exact nope h
  | _ :: r,0,_,_=>Nat.zero_lt_succ _
  | _ :: r,n + 1,c,h=>Nat.succ_lt_succ (hget_lt0 r n c h)
theorem RepV.trim (l : w.le w') {x : V} {v v0 : Value} (h0 : RepV ad w x v0) (h1 : RepV ad w' x v) : RepV ad ⟨w'.τ,w.mu⟩ x v:=by
  cases x with
  | d x=>exact h1
  | c n =>
    obtain ⟨a0,e0,_⟩:=h0
    obtain ⟨a,e,rfl⟩:=h1
    have:=l.two n a0 e0
    rw [e] at this; obtain rfl:=Option.some.inj this
    exact ⟨_,e0,rfl⟩
theorem RepVs.trim (l : w.le w') {x : List V} {v v0 : List Value} (r : RepVs ad w x v0) (q : RepVs ad w' x v) : RepVs ad ⟨w'.τ,w.mu⟩ x v:=by
  induction r generalizing v with
  | nil=>cases q; exact .nil
  | cons p _ ih=>cases q with
    | cons q t=>exact .cons (RepV.trim l p q) (ih t)
theorem Rel.trim {hp' : Hp} (R : Rel g w st h) (S : Stp w h w' h') (R' : Rel g w' { st with hp:=hp' } h') (hb : back st.hp hp') : Stp w h ⟨w'.τ,w.mu⟩ h' ∧ Rel g ⟨w'.τ,w.mu⟩ st h':=by
  have mu' : ∀ n a,n < st.hp.length → w'.mu[n]? = some a → w.mu[n]? = some a:=fun n a hn e=>by
    have hn : n < w.mu.length:=by rw [R.len]; exact hn
    have e0 : w.mu[n]? = some w.mu[n]:=List.getElem?_eq_getElem hn
    have:=S.le.two n _ e0
    rw [e] at this; cases this; exact e0
  refine ⟨⟨⟨S.le.st,fun _ _ e=>e⟩,S.kept⟩,⟨R'.ext,R'.fro,R'.mfresh,R'.frosh,R'.mthere,R.len,fun n c he=>?_,R'.locT,?_,R'.lock,fun n e=>?_,R'.gl⟩⟩
  · have hn:=hget_lt0 _ _ _ he
    have e' : hget hp' n = some c:=by
      rw [← hget_take hp' st.hp.length n hn,hb]; exact he
    have C0:=R.cells n c he
    have C1:=R'.cells n c e'
    cases C1 with
    | lst a b c d =>
      cases C0 with
      | lst a0 b0 c0 d0=>exact .lst (mu' _ _ hn a) b c (d0.trim S.le d)
    | inst a b c d e f f1 f2 f3 =>
      cases C0 with
      | inst a0 b0 c0 d0 e0 f0 f10 f20 f30=>exact .inst (mu' _ _ hn a) b c d e f f1 f2 (f30.trim S.le f3)
    | tab a b c d=>exact .tab (mu' _ _ hn a) b c d
    | bag a b c d f =>
      obtain ⟨q,l,r,rfl,hq⟩:=f
      refine .bag (xs:=.d (.int q) :: .d (.int l) :: r.map (fun i=>.d (.int i))) (mu' _ _ hn a) b c ?_ ⟨q,l,r,rfl,hq⟩
      have go : ∀ (xs : List V) (vs : List Value),(∀ x ∈ xs,∃ y,x = .d y) → RepVs g.ad w' xs vs → RepVs g.ad ⟨w'.τ,w.mu⟩ xs vs:=by
        intro xs vs hx hr
        induction hr with
        | nil=>exact .nil
        | cons p q ih =>
          refine .cons ?_ (ih fun x hm=>hx x (.tail _ hm))
          obtain ⟨y,rfl⟩:=hx _ (.head _)
          exact p
      refine go _ _ (fun x hx=>?_) d
      rcases List.mem_cons.mp hx with rfl | hx
      · exact ⟨_,rfl⟩
      · rcases List.mem_cons.mp hx with rfl | hx
        · exact ⟨_,rfl⟩
        · obtain ⟨i,_,rfl⟩:=List.mem_map.mp hx
          exact ⟨_,rfl⟩
  · obtain ⟨m0,hn0,r0⟩:=R.loc
    obtain ⟨m,hn,r⟩:=R'.loc
    refine ⟨m,hn,fun n v e=>?_⟩
    obtain ⟨x0,_,y0⟩:=r0 n v e
    obtain ⟨x,z,y⟩:=r n v e
    exact ⟨x,z,y0.trim S.le y⟩
  · obtain ⟨c0,v0,b0,t0,i0,r0⟩:=R.cel n e
    obtain ⟨c,v1,b1,t1,i1,r1⟩:=R'.cel n e
    refine ⟨c,v1,b1,t1,i1,fun v z=>?_⟩
    obtain ⟨x0,_,y0⟩:=r0 v z
    obtain ⟨x,q,y⟩:=r1 v z
    exact ⟨x,q,y0.trim S.le y⟩
theorem eff_back {f : Value} {vs : List V} {hp : Hp} {k : V → Hp → Prop} (x : EffV prog W ad hT d f vs hp fun v hp'=>∃ y,v = .d y ∧ back hp hp' ∧ k (.d y) hp) : EffV prog W ad hT d f vs hp k:=by
  intro A E s Q g w st xs rm had hhT hhp R rxs kk
  refine x rm had hhT hhp R rxs fun w' h' tk v rv hp' S' R' r' q=>?_
  obtain ⟨y,rfl,hb,q⟩:=q
  subst hhp
  obtain ⟨S2,R2⟩:=R.trim S' R' hb
  exact kk _ h' tk v (.d y) st.hp S2 R2 r' q
theorem EffV.mono {f : Value} {vs : List V} {hp : Hp} {k k' : V → Hp → Prop} (x : EffV prog W ad hT d f vs hp k) (hk : ∀ v hp,k v hp → k' v hp) : EffV prog W ad hT d f vs hp k':=by
  intro A E s Q g w st xs rm had hhT hhp R rxs kk
  exact x rm had hhT hhp R rxs fun w' h' tk v rv hp' S' R' r' q=>kk w' h' tk v rv hp' S' R' r' (hk _ _ q)
theorem EffV.up {e : Nat} {f : Value} {vs : List V} {hp : Hp} {k : V → Hp → Prop} (x : EffV prog W ad hT d f vs hp k) (le : d ≤ e) : EffV prog W ad hT e f vs hp k:=by
  intro A E s Q g w st xs rm had hhT hhp R rxs kk
  exact x (rm.less le) had hhT hhp R rxs kk
theorem Rel.unbag (R : Rel g w st h) {n : Nat} (hn : hget st.hp n = some .bag) : ∃ xs,BagOk xs ∧ Rel g w { st with hp:=hset st.hp n (some (.lst xs)) } h:=by
  cases R.cells n _ hn with
  | bag a b c d e=>exact ⟨_,e,R.revive (.lst a b c d)⟩
theorem Rel.rebag {xs : List V} {hp : Hp} (R : Rel g w { st with hp:=hset hp n (some (.lst xs)) } h) (hn : hget hp n = some .bag) (hb : BagOk xs) : Rel g w { st with hp:=hp } h:=by
  have hx : hget (hset hp n (some (.lst xs))) n = some (.lst xs):=by
    rw [hget_set,if_pos rfl,if_pos (hget_lt0 _ _ _ hn)]
  cases R.cells n _ hx with
  | lst a b c d =>
    have:=R.revive (n:=n) (c:=.bag) (.bag a b c d hb)
    dsimp only at this
    rw [hset_hset,hset_same _ _ _ hn] at this
    exact this
theorem eff_bag {f : Value} {n : Nat} {vs : List V} {hp : Hp} {k : V → Hp → Prop} (hn : hget hp n = some .bag)
    (x : ∀ xs,BagOk xs → EffV prog W ad hT d f vs (hset hp n (some (.lst xs))) fun v hp'=>∃ y xs',v = .d y ∧ BagOk xs' ∧ hp' = hset hp n (some (.lst xs')) ∧ k (.d y) hp) : EffV prog W ad hT d f vs hp k:=by
  intro A E s Q g w st xs rm had hhT hhp R rxs kk
  subst hhp
  obtain ⟨bs,hbs,R1⟩:=R.unbag hn
  refine x bs hbs (st:={ st with hp:=hset st.hp n (some (.lst bs)) }) rm had hhT rfl R1 rxs fun w' h' tk v rv hp' S' R' r' q=>?_
  obtain ⟨y,xs',rfl,hb',rfl,q⟩:=q
  exact kk w' h' tk v (.d y) st.hp S' (R'.rebag (st:=st) hn hb') r' q
theorem hset_app : ∀ (hp : Hp) (x y : Option Ct),hset (hp ++ [x]) hp.length y = hp ++ [y]
  | [],_,_=>rfl
  | a :: r,x,y=>congrArg (a :: ·) (hset_app r x y)
theorem eff_newbag {f : Value} {vs : List V} {hp : Hp} {k : V → Hp → Prop}
    (x : EffV prog W ad hT d f vs hp fun v hp'=>∃ xs,v = .c hp.length ∧ BagOk xs ∧ hp' = hp ++ [some (.lst xs)] ∧ k (.c hp.length) (hp ++ [some .bag])) : EffV prog W ad hT d f vs hp k:=by
  intro A E s Q g w st xs rm had hhT hhp R rxs kk
  refine x rm had hhT hhp R rxs fun w' h' tk v rv hp' S' R' r' q=>?_
  obtain ⟨xs',rfl,hb',rfl,q⟩:=q
  have e1 : hset (hp ++ [some .bag]) hp.length (some (.lst xs')) = hp ++ [some (.lst xs')]:=by
    exact hset_app hp _ _
  have hn : hget (hp ++ [some Ct.bag]) hp.length = some .bag:=by rw [hget_app,if_pos rfl]
  rw [← e1] at R'
  exact kk w' h' tk v (.c hp.length) _ S' (R'.rebag (st:=st) hn hb') r' q
end
theorem bif_t {R : Type} {b : Bool} {x y : R} (h : b = true) : bif' b x y = x:=by rw [h]; rfl
section
variable {R : Type} {c : Cfg R}
theorem qX_cnone {k} {st} {u1} : aX c (.cnone u1) st k = k (.d .none) st:=rfl
theorem qX_cbool {b} {k} {st} {u1} : aX c (.cbool b u1) st k = k (.d (.bool b)) st:=rfl
theorem qX_cint {i} {k} {st} {u1} : aX c (.cint i u1) st k = k (.d (.int i)) st:=rfl
theorem qX_cstr {k} {s} {st} {u1} : aX c (.cstr s u1) st k = k (.d (.str s)) st:=rfl
theorem qX_loc {k} {n} {st} {u1} : aX c (.loc n u1) st k = match look st.loc n with
  | some v=>k v st
  | none=>c.F:=rfl
theorem qX_cel {k} {n} {st} {u1} : aX c (.cel n u1) st k = match look st.cel n with
  | some v=>k v st
  | none=>c.F:=rfl
theorem qX_frL {k} {n} {st} {u1} : aX c (.frL n u1) st k = match look st.loc n with
  | some v=>match frz 4 st.hp v with
    | some (d,hp)=>k (.d d) { st with loc:=put st.loc n (.d d),hp:=hp }
    | none=>c.F
  | none=>c.F:=rfl
theorem qX_frz {k} {st} {x} : aX c (.frz x) st k = aX c x st fun v st=>match frz 4 st.hp v with
  | some (d,hp)=>k (.d d) { st with hp:=hp }
  | none=>c.F:=rfl
theorem qX_bin {a} {b} {k} {op} {st} {u1} : aX c (.bin op a b u1) st k = aX c a st fun va st=>aX c b st fun vb st=>match va,vb with
  | .d x,.d y=>match binD op x y with
    | some r=>k (.d r) st
    | none=>c.F
  | _,_=>c.F:=rfl
theorem qX_cmp {a} {b} {k} {op} {st} {u1} : aX c (.cmp op a b u1) st k = aX c a st fun va st=>aX c b st fun vb st=>match va,vb with
  | .d x,.d y=>match cmpD op x y with
    | some r=>k (.d (.bool r)) st
    | none=>c.F
  | .d x,.c n=>match hget st.hp n with
    | some (.lst vs)=>match allD vs with
      | some ds=>match op with
        | .In=>match cmpD .In x (.lst ds) with
          | some r=>k (.d (.bool r)) st
          | none=>c.F
        | .NotIn=>match cmpD .NotIn x (.lst ds) with
          | some r=>k (.d (.bool r)) st
          | none=>c.F
        | _=>c.F
      | none=>c.F
    | _=>c.F
  | _,_=>c.F:=rfl
theorem qX_neg {a} {k} {st} {u1} : aX c (.neg a u1) st k = aX c a st fun v st=>match v with
  | .d (.int i)=>k (.d (.int (-i))) st
  | _=>c.F:=rfl
theorem qX_ite {a} {b} {k} {st} {t} {u1} : aX c (.ite t a b u1) st k = aT c t st fun r st=>match r with
  | true=>aX c a st k
  | false=>aX c b st k:=rfl
theorem qT_bop {op} {xs} {u1} {st} {k} : aT c (.bop op xs u1) st k = aTs c op xs st k:=rfl
theorem qTs_nil {op} {st} {k : Bool → St → R} : aTs c op .nil st k = k (match op with | .And=>true | .Or=>false) st:=rfl
theorem qTs_cons {op} {x} {r} {st} {k} : aTs c op (.cons x r) st k = aT c x st fun b st=>match op,b with
  | .And,false=>k false st
  | .Or,true=>k true st
  | _,_=>aTs c op r st k:=rfl
theorem qX_tup {k} {st} {u1} {xs} : aX c (.tup xs u1) st k = aXs c xs st fun vs st=>match allD vs with
  | some ds=>bif' (decide (ds.length ≤ 1000)) (k (.d (.tup ds)) st) c.F
  | none=>c.F:=rfl
theorem qX_sub {a} {i} {k} {st} {u1} : aX c (.sub a i u1) st k = aX c a st fun va st=>aX c i st fun vi st=>match vi with
  | .d i=>match subV va i st.hp with
    | some r=>k r st
    | none=>c.F
  | .c _=>c.F:=rfl
theorem qX_slc {a} {hi} {k} {lo} {st} {u1} {u2} : aX c (.slc a lo hi u1 u2) st k = aX c a st fun va st=>aO c lo st fun l st=>aO c hi st fun h st=>match va with
  | .d x=>match slcD x l h with
    | some r=>k (.d r) st
    | none=>c.F
  | .c _=>c.F:=rfl
theorem qX_att {a} {k} {n} {st} {u1} : aX c (.att a n u1) st k = aX c a st fun va st=>match attV va n st.hp with
  | some r=>k r st
  | none=>c.F:=rfl
theorem qX_callU {f} {k} {st} {u1} {u2} {xs} : aX c (.callU f u1 xs u2) st k = match mem st.gl f && isFn f with
  | true=>aXs c xs st fun vs st=>match allD vs with
    | some ds=>match c.P f ds with
      | some r=>k (.d r) st
      | none=>c.I f vs st.hp fun v hp=>k v { st with hp:=hp }
    | none=>c.I f vs st.hp fun v hp=>k v { st with hp:=hp }
  | false=>c.F:=rfl
theorem qX_callB {b} {f} {k} {st} {u1} {u2} {xs} : aX c (.callB b f u1 xs u2) st k = match mem st.gl f && Nat.beq (biId b) f with
  | true=>aXs c xs st fun vs st=>match callB b vs st.hp with
    | some r=>k (.d r) st
    | none=>c.F
  | false=>c.F:=rfl
theorem qX_app {a} {k} {op} {p} {st} {v} : aX c (.app a v op p) st k = bif' (Nat.beq op.endLine p.line) (aX c a st fun va st=>match va with
  | .c n=>match hget st.hp n with
    | some (.lst _)=>aX c v st fun w st=>match hget st.hp n with
      | some (.lst vs)=>bif' (decide (vs.length ≤ 1000)) (k (.d .none) { st with hp:=hset st.hp n (some (.lst (vs ++ [w]))) }) c.F
      | _=>c.F
    | _=>c.F
  | .d _=>c.F) c.F:=rfl
theorem qX_pop {a} {i} {k} {op} {p} {st} : aX c (.pop a i op p) st k = bif' (Nat.beq op.endLine p.line) (aX c a st fun va st=>match va with
  | .c n=>match hget st.hp n with
    | some (.lst _)=>aX c i st fun vi st=>match vi with
      | .d (.int i)=>match hget st.hp n,ixI i with
        | some (.lst vs),some j=>match nth vs j with
          | some r=>bif' (decide (vs.length ≤ 1000)) (k r { st with hp:=hset st.hp n (some (.lst (vs.eraseIdx j))) }) c.F
          | none=>c.F
        | _,_=>c.F
      | _=>c.F
    | _=>c.F
  | .d _=>c.F) c.F:=rfl
theorem qXs_nil {k} {st} : aXs c .nil st k = k [] st:=rfl
theorem qXs_cons {k} {r} {st} {x} : aXs c (.cons x r) st k = aX c x st fun v st=>aXs c r st fun vs st=>k (v :: vs) st:=rfl
theorem qO_no {k} {st} : aO c .no st k = k none st:=rfl
theorem qO_yes {k} {st} {x} : aO c (.yes x) st k = aX c x st fun v st=>match v with
  | .d d=>k (some d) st
  | .c _=>c.F:=rfl
theorem qT_cmp {a} {b} {k} {op} {st} {u1} : aT c (.cmp op a b u1) st k = aX c a st fun va st=>aX c b st fun vb st=>match va,vb with
  | .d x,.d y=>match cmpD op x y with
    | some r=>k r st
    | none=>c.F
  | .d x,.c n=>match hget st.hp n with
    | some (.lst vs)=>match allD vs with
      | some ds=>match op with
        | .In=>match cmpD .In x (.lst ds) with
          | some r=>k r st
          | none=>c.F
        | .NotIn=>match cmpD .NotIn x (.lst ds) with
          | some r=>k r st
          | none=>c.F
        | _=>c.F
      | none=>c.F
    | _=>c.F
  | _,_=>c.F:=rfl
theorem qS_asg {e} {k} {st} {t} {u1} : aS c (.asg t e u1) st k = bif' (okA t e) (aX c e st fun v st=>aG c t v st fun st=>k .nxt st) c.F:=rfl
theorem qS_exp {e} {k} {st} {u1} : aS c (.exp e u1) st k = bif' (!isCmp e) (aX c e st fun v st=>match v with
  | .d .none=>k .nxt st
  | _=>c.F) c.F:=rfl
theorem qS_iff {a} {b} {k} {st} {t} {u1} : aS c (.iff t a b u1) st k = aT c t st fun r st=>match r with
  | true=>aSL c a st k
  | false=>aSL c b st k:=rfl
theorem qS_for {b} {it} {k} {r} {st} {t} {u1} {u2} {u3} : aS c (.for t r u1 it u2 b u3) st k = bif' (!r || mem st.gl 193) (aX c it st fun vi st=>match vi with
  | .c _=>c.F
  | .d di=>match (match r with | true=>rngD di | false=>itemsV di) with
    | none=>c.F
    | some ds=>loopF (fun x st k=>aG c t (.d x) st fun st=>aSL c b st k) ds st k) c.F:=rfl
theorem qS_ret {e} {k} {st} {u1} : aS c (.ret e u1) st k = aX c e st fun v st=>k (.ret v) st:=rfl
theorem qSL_nil {k} {st} : aSL c .nil st k = k .nxt st:=rfl
theorem qSL_cons {k} {r} {s} {st} : aSL c (.cons s r) st k = aS c s st fun fl st=>match fl with
  | .nxt=>aSL c r st k
  | .ret v=>k (.ret v) st:=rfl
theorem qG_loc {k} {n} {st} {u1} {v} : aG c (.loc n u1) v st k = bif' (has st.loc n) (k (setLoc st n v)) c.F:=rfl
theorem qG_cel {k} {n} {st} {u1} {v} : aG c (.cel n u1) v st k = bif' (st.own && has st.cel n) (k (setCel st n v)) c.F:=rfl
theorem qG_att {k} {n} {o} {st} {u1} {v} : aG c (.att o n u1) v st k = aX c o st fun vo st=>match vo with
  | .c a=>match hget st.hp a with
    | some (.inst q ns vs)=>match fput ns vs n v with
      | (ns',vs')=>bif' (mem fldL n && decide (ns.length ≤ 100)) (k { st with hp:=hset st.hp a (some (.inst q ns' vs')) }) c.F
    | _=>c.F
  | .d _=>c.F:=rfl
theorem qG_sub {i} {k} {o} {st} {u1} {v} : aG c (.sub o i u1) v st k = aX c o st fun vo st=>aX c i st fun vi st=>match vo,vi with
  | .c a,.d (.int i)=>match hget st.hp a,ixI i with
    | some (.lst vs),some j=>bif' (decide (j < vs.length)) (k { st with hp:=hset st.hp a (some (.lst (vs.set j v))) }) c.F
    | _,_=>c.F
  | _,_=>c.F:=rfl
end
section
variable {c : Cfg Prop} {st st1 st2 : St}
noncomputable def EX (c : Cfg Prop) (e : X) (st : St) (v : V) (st' : St) : Prop:=∀ KK : V → St → Prop,KK v st' → aX c e st KK
noncomputable def TX (c : Cfg Prop) (e : X) (st : St) (b : Bool) (st' : St) : Prop:=∀ KK : Bool → St → Prop,KK b st' → aT c e st KK
theorem EX.cint {i : Int} {p : Pos} : EX c (.cint i p) st (.d (.int i)) st:=fun _ h=>h
theorem EX.loc {n : Nat} {v : V} {p : Pos} (h : look st.loc n = some v) : EX c (.loc n p) st v st:=fun KK k=>by
  rw [qX_loc,h]
  exact k
theorem EX.bin {op : Operator} {a b : X} {x y r : D} {p : Pos} (ha : EX c a st (.d x) st1) (hb : EX c b st1 (.d y) st2) (hr : binD op x y = some r) : EX c (.bin op a b p) st (.d r) st2:=fun KK h=>by
  rw [qX_bin]
  refine ha _ (hb _ ?_)
  try dsimp only
  rw [hr]
  exact h
theorem EX.sub {a i : X} {va r : V} {di : D} {p : Pos} (ha : EX c a st va st1) (hi : EX c i st1 (.d di) st2) (hs : subV va di st2.hp = some r) : EX c (.sub a i p) st r st2:=fun KK h=>by
  rw [qX_sub]
  refine ha _ (hi _ ?_)
  try dsimp only
  rw [hs]
  exact h
theorem EX.neg {a : X} {i : Int} {p : Pos} (ha : EX c a st (.d (.int i)) st1) : EX c (.neg a p) st (.d (.int (-i))) st1:=fun KK h=>by
  rw [qX_neg]
  exact ha _ h
theorem EX.ite {t a b : X} {v : V} {g : Bool} {p : Pos} (ht : TX c t st g st1) (ha : g = true → EX c a st1 v st2) (hb : g = false → EX c b st1 v st2) : EX c (.ite t a b p) st v st2:=fun KK h=>by
  rw [qX_ite]
  refine ht _ ?_
  cases g with
  | true=>exact ha rfl _ h
  | false=>exact hb rfl _ h
theorem EX.callB1 {b : BI} {f : Nat} {fp p : Pos} {x : X} {v : V} {r : D} (hg : (mem st.gl f && Nat.beq (biId b) f) = true) (hx : EX c x st v st1) (hr : callB b [v] st1.hp = some r) : EX c (.callB b f fp (.cons x .nil) p) st (.d r) st1:=fun KK h=>by
  rw [qX_callB,hg]
  refine hx _ ?_
  show (match callB b [v] st1.hp with | some r=>KK (.d r) st1 | none=>c.F)
  rw [hr]
  exact h
theorem TX.cmp {op : CmpOp} {a b : X} {x y : D} {r : Bool} {p : Pos} (ha : EX c a st (.d x) st1) (hb : EX c b st1 (.d y) st2) (hr : cmpD op x y = some r) : TX c (.cmp op a b p) st r st2:=fun KK h=>by
  rw [qT_cmp]
  refine ha _ (hb _ ?_)
  try dsimp only
  rw [hr]
  exact h
theorem EX.pop {a i : X} {op p : Pos} {m j : Nat} {k : Int} {vs : List V} {r : V} {hp' : Hp} (hl : Nat.beq op.endLine p.line = true) (ha : EX c a st (.c m) st1) (hi : EX c i st1 (.d (.int k)) st2) (h0 : hget st1.hp m = some (.lst vs)) (hm : hget st2.hp m = some (.lst vs)) (hk : ixI k = some j) (hr : nth vs j = some r) (hz : vs.length ≤ 1000)
    (hh : hset st2.hp m (some (.lst (vs.eraseIdx j))) = hp') : EX c (.pop a i op p) st r { st2 with hp:=hp' }:=fun KK h=>by
  subst hh
  rw [qX_pop,bif_t hl]
  refine ha _ ?_
  try dsimp only
  rw [h0]
  refine hi _ ?_
  try dsimp only
  rw [hm,hk]
  try dsimp only
  rw [hr]
  try dsimp only
  rw [bif_t (decide_eq_true hz)]
  exact h
variable {r : SL} {K : Fl → St → Prop}
theorem sl_loc {n : Nat} {v : V} {e : X} {p q : Pos} (ho : okA (.loc n p) e = true) (he : EX c e st v st1) (hh : has st1.loc n = true) (h : aSL c r (setLoc st1 n v) K) : aSL c (.cons (.asg (.loc n p) e q) r) st K:=by
  rw [qSL_cons,qS_asg,bif_t ho]
  refine he _ ?_
  rw [qG_loc,bif_t hh]
  exact h
theorem sl_sub {o i : X} {n j : Nat} {k : Int} {v : V} {e : X} {p q : Pos} {vs : List V} {hp' : Hp} (ho : okA (.sub o i p) e = true) (he : EX c e st v st1) (h1 : EX c o st1 (.c n) st1) (h2 : EX c i st1 (.d (.int k)) st1) (hm : hget st1.hp n = some (.lst vs)) (hk : ixI k = some j) (hj : j < vs.length)
    (hh : hset st1.hp n (some (.lst (vs.set j v))) = hp') (h : aSL c r { st1 with hp:=hp' } K) : aSL c (.cons (.asg (.sub o i p) e q) r) st K:=by
  subst hh
  rw [qSL_cons,qS_asg,bif_t ho]
  refine he _ ?_
  rw [qG_sub]
  refine h1 _ (h2 _ ?_)
  try dsimp only
  rw [hm,hk]
  try dsimp only
  rw [bif_t (decide_eq_true hj)]
  exact h
theorem sl_iff {t : X} {a b : SL} {g : Bool} {p : Pos} (ht : TX c t st g st1) (h : aSL c (bif' g a b) st1 fun fl st=>match fl with
    | .nxt=>aSL c r st K
    | .ret v=>K (.ret v) st) : aSL c (.cons (.iff t a b p) r) st K:=by
  rw [qSL_cons,qS_iff]
  refine ht _ ?_
  cases g <;> exact h
theorem sl_app {a v : X} {m : Nat} {w : V} {vs0 vs : List V} {p2 p3 p4 : Pos} (hl : Nat.beq p2.endLine p3.line = true) (ha : EX c a st (.c m) st1) (hm0 : hget st1.hp m = some (.lst vs0)) (hv : EX c v st1 w st2) (hm : hget st2.hp m = some (.lst vs))
    (hz : vs.length ≤ 1000) {hp' : Hp} (hh : hset st2.hp m (some (.lst (vs ++ [w]))) = hp') (h : aSL c r { st2 with hp:=hp' } K) : aSL c (.cons (.exp (.app a v p2 p3) p4) r) st K:=by
  subst hh
  rw [qSL_cons,qS_exp,bif_t (b:=!isCmp (X.app a v p2 p3)) rfl,qX_app,bif_t hl]
  refine ha _ ?_
  try dsimp only
  rw [hm0]
  refine hv _ ?_
  try dsimp only
  rw [hm]
  try dsimp only
  rw [bif_t (decide_eq_true hz)]
  exact h
theorem sl_ret {e : X} {v : V} {p : Pos} (he : EX c e st v st1) (h : K (.ret v) st1) : aSL c (.cons (.ret e p) r) st K:=by
  rw [qSL_cons,qS_ret]
  exact he _ h
end
end
end Mine
end
section
open PySem.Spec
namespace Mine
noncomputable section
noncomputable def bagL (q l : Int) (r : List Int) : List V:=.d (.int q) :: .d (.int l) :: r.map (fun i=>.d (.int i))
theorem bagL_ok {q l : Int} {r : List Int} (hq : 0 ≤ q) (hr : r.length ≤ 900) : BagOk (bagL q l r):=⟨q,l,r,rfl,hq,hr⟩
theorem ixI0 : ixI 0 = some 0:=rfl
theorem ixI1 : ixI 1 = some 1:=rfl
theorem ixI2 : ixI 2 = some 2:=rfl
theorem hget_hset {hp : Hp} {n : Nat} {y : Ct} (hn : n < hp.length) : hget (hset hp n (some y)) n = some y:=by rw [hget_set,if_pos rfl,if_pos hn]
noncomputable def dropSL : Nat → SL → SL
  | 0,x=>x
  | _ + 1,.nil=>.nil
  | n + 1,.cons _ r=>dropSL n r
noncomputable def nthS : SL → Nat → S
  | .nil,_=>.raw (.Pass ⟨0,0,0,0⟩)
  | .cons x _,0=>x
  | .cons _ r,n + 1=>nthS r n
theorem subV_c {hp : Hp} {a j : Nat} {i : Int} {vs : List V} {v : V} (h : hget hp a = some (.lst vs)) (hi : ixI i = some j) (hv : nth vs j = some v) : subV (.c a) (.int i) hp = some v:=by
  unfold subV; simp only [hi]; unfold subI; simp only [h,hv]
theorem callB_int (i : Int) (hp : Hp) : callB .int [.d (.int i)] hp = some (.int i):=rfl
theorem callB_len {hp : Hp} {a : Nat} {vs : List V} (h : hget hp a = some (.lst vs)) (hl : vs.length < 1000) : callB .len [.c a] hp = some (.int vs.length):=by
  show (match hget hp a with | some (.lst xs)=>bif' (decide (xs.length < 1000)) (some (D.int xs.length)) none | _=>none) = _
  rw [h]; exact bif_t (decide_eq_true hl)
theorem binD_mod {a m : Int} (h : 0 < m) : binD .Mod (.int a) (.int m) = some (.int (a.fmod m)):=by
  show bif' (decide (m ≠ 0)) _ _ = _
  rw [bif_t (decide_eq_true (by omega))]
theorem binD_div {a m : Int} (h : 0 < m) (h2 : m < 1073741824) : binD .FloorDiv (.int a) (.int m) = some (.int (a.fdiv m)):=by
  show bif' (decide (m ≠ 0) && decide (m.natAbs < 1073741824)) _ _ = _
  rw [bif_t (by rw [Bool.and_eq_true]; exact ⟨decide_eq_true (by omega),decide_eq_true (by omega)⟩)]
theorem binD_mulL {a b : Int} (h : a.natAbs < 2 ^ 60) : binD .Mult (.int a) (.int b) = some (.int (a * b)):=by
  show bif' (decide (a.natAbs < 2 ^ 60) || decide (b.natAbs < 2 ^ 60)) _ _ = _
  rw [bif_t (by rw [Bool.or_eq_true]; exact .inl (decide_eq_true h))]
theorem binD_mulR {a b : Int} (h : b.natAbs < 2 ^ 60) : binD .Mult (.int a) (.int b) = some (.int (a * b)):=by
  show bif' (decide (a.natAbs < 2 ^ 60) || decide (b.natAbs < 2 ^ 60)) _ _ = _
  rw [bif_t (by rw [Bool.or_eq_true]; exact .inr (decide_eq_true h))]
theorem binD_add (a b : Int) : binD .Add (.int a) (.int b) = some (.int (a + b)):=rfl
theorem binD_sub (a b : Int) : binD .Sub (.int a) (.int b) = some (.int (a - b)):=rfl
theorem cmpD_gt (a b : Int) : cmpD .Gt (.int a) (.int b) = some (decide (b < a)):=rfl
theorem cmpD_ge (a b : Int) : cmpD .GtE (.int a) (.int b) = some (decide (b ≤ a)):=rfl
theorem cmpD_eqI (a b : Int) : cmpD .Eq (.int a) (.int b) = some (a == b):=rfl
theorem bag0 (q l : Int) (r : List Int) : nth (bagL q l r) 0 = some (.d (.int q)):=rfl
theorem bag1 (q l : Int) (r : List Int) : nth (bagL q l r) 1 = some (.d (.int l)):=rfl
theorem bag2 (q l x : Int) (r : List Int) : nth (bagL q l (x :: r)) 2 = some (.d (.int x)):=rfl
theorem bagS0 (q l y : Int) (r : List Int) : (bagL q l r).set 0 (.d (.int y)) = bagL y l r:=rfl
theorem bagS1 (q l y : Int) (r : List Int) : (bagL q l r).set 1 (.d (.int y)) = bagL q y r:=rfl
theorem bagE2 (q l x : Int) (r : List Int) : (bagL q l (x :: r)).eraseIdx 2 = bagL q l r:=rfl
theorem bagLen (q l : Int) (r : List Int) : (bagL q l r).length = r.length + 2:=by simp [bagL]
section
variable {c : Cfg Prop} {hp : Hp} {n : Nat} {m : Int} {K : Fl → St → Prop}
noncomputable def pSt (hp : Hp) (n : Nat) (m : Int) (x g : Option V) (q l : Int) (r : List Int) : St:={ loc:=[(154,some (.c n)),(160,some (.d (.int m))),(157,x),(159,g)],cel:=[],gl:=[67,158],hp:=hset hp n (some (.lst (bagL q l r))) }
noncomputable def pB (k : Nat) : SL:=dropSL k f__law_pull.body
theorem pl_at (hn : n < hp.length) (q l : Int) (r : List Int) : hget (hset hp n (some (.lst (bagL q l r)))) n = some (.lst (bagL q l r)):=hget_hset hn
theorem rd0 (hn : n < hp.length) {x g : Option V} {q l : Int} {r : List Int} {p1 p2 p3 : Pos} : EX c (.sub (.loc 154 p1) (.cint 0 p2) p3) (pSt hp n m x g q l r) (.d (.int q)) (pSt hp n m x g q l r):=.sub (.loc rfl) .cint (subV_c (pl_at hn q l r) ixI0 (bag0 q l r))
theorem rd1 (hn : n < hp.length) {x g : Option V} {q l : Int} {r : List Int} {p1 p2 p3 : Pos} : EX c (.sub (.loc 154 p1) (.cint 1 p2) p3) (pSt hp n m x g q l r) (.d (.int l)) (pSt hp n m x g q l r):=.sub (.loc rfl) .cint (subV_c (pl_at hn q l r) ixI1 (bag1 q l r))
theorem bagLt (q l : Int) (r : List Int) : 1 < (bagL q l r).length:=by rw [bagLen]; omega
theorem st0 (hn : n < hp.length) {x g : Option V} {q q' l : Int} {r : List Int} {e : X} {R : SL} {p1 p2 p3 p4 : Pos} (ho : okA (.sub (.loc 154 p1) (.cint 0 p2) p3) e = true) (he : EX c e (pSt hp n m x g q l r) (.d (.int q')) (pSt hp n m x g q l r)) (h : aSL c R (pSt hp n m x g q' l r) K) :
    aSL c (.cons (.asg (.sub (.loc 154 p1) (.cint 0 p2) p3) e p4) R) (pSt hp n m x g q l r) K :=
  sl_sub ho he (.loc rfl) .cint (pl_at hn q l r) ixI0 (Nat.lt_of_succ_lt (bagLt q l r)) (by rw [bagS0]; exact hset_hset _ _ _ _) h
theorem st1 (hn : n < hp.length) {x g : Option V} {q l l' : Int} {r : List Int} {e : X} {R : SL} {p1 p2 p3 p4 : Pos} (ho : okA (.sub (.loc 154 p1) (.cint 1 p2) p3) e = true) (he : EX c e (pSt hp n m x g q l r) (.d (.int l')) (pSt hp n m x g q l r)) (h : aSL c R (pSt hp n m x g q l' r) K) :
    aSL c (.cons (.asg (.sub (.loc 154 p1) (.cint 1 p2) p3) e p4) R) (pSt hp n m x g q l r) K :=
  sl_sub ho he (.loc rfl) .cint (pl_at hn q l r) ixI1 (bagLt q l r) (by rw [bagS1]; exact hset_hset _ _ _ _) h
theorem pl_end (hn : n < hp.length) (hm : 0 < m) (hm2 : m < 1073741824) {x : Option V} {q l : Int} {r : List Int} (h : K (.ret (.d (.int (q.fmod m)))) (pSt hp n m x (some (.d (.int (q.fmod m)))) (q.fdiv m) l r)) : aSL c (pB 1) (pSt hp n m x none q l r) K:=by
  refine sl_loc (v:=.d (.int (q.fmod m))) (st1:=pSt hp n m x none q l r) rfl (.bin (.callB1 rfl (rd0 hn) rfl) (.loc rfl) (binD_mod hm)) rfl ?_
  show aSL c (pB 2) (pSt hp n m x (some (.d (.int (q.fmod m)))) q l r) K
  refine st0 hn rfl (.bin (rd0 hn) (.loc rfl) (binD_div hm hm2)) ?_
  exact sl_ret (.loc rfl) h
theorem pull_run {xs : List V} (hn : n < hp.length) (hb : BagOk xs) (hm : 0 < m) (hm2 : m < 1073741824)
    (hK : ∀ got xs' st,0 ≤ got → got < m → BagOk xs' → st.hp = hset hp n (some (.lst xs')) → K (.ret (.d (.int got))) st) :
    aSL c f__law_pull.body (startOf f__law_pull [.c n,.d (.int m)] (hset hp n (some (.lst xs)))) K:=by
  obtain ⟨q,l,r,rfl,hq,hr⟩:=hb
  have fin : ∀ (q l : Int) (r : List Int) (x : Option V),0 ≤ q → r.length ≤ 900 → aSL c (pB 1) (pSt hp n m x none q l r) K:=fun q l r x hq hr =>
    pl_end hn hm hm2 (hK _ _ _ (Int.fmod_nonneg_of_pos _ hm) (Int.fmod_lt_of_pos _ hm) (bagL_ok (Int.fdiv_nonneg hq (Int.le_of_lt hm)) hr) rfl)
  show aSL c (pB 0) (pSt hp n m none none q l r) K
  refine sl_iff (g:=q == 0) (st1:=pSt hp n m none none q l r) (.cmp (rd0 hn) .cint rfl) ?_
  cases h0 : q == 0 with
  | false=>exact fin q l r none hq hr
  | true =>
    obtain rfl:=eq_of_beq h0
    have hc : cmpD .Gt (.int (bagL 0 l r).length) (.int 2) = some (decide (2 < ((bagL 0 l r).length : Int))):=rfl
    have hz : (bagL 0 l r).length ≤ 902:=by rw [bagLen]; omega
    refine sl_iff (g:=decide (2 < ((bagL 0 l r).length : Int))) (st1:=pSt hp n m none none 0 l r) (.cmp (.callB1 rfl (.loc rfl) (callB_len (pl_at hn 0 l r) (by omega))) .cint hc) ?_
    cases r with
    | nil =>
      refine st1 hn rfl (.bin (.bin (.bin (rd1 hn) .cint (binD_mulR (by decide))) .cint rfl) .cint (binD_mod (by decide))) ?_
      refine st0 hn rfl (.bin (rd1 hn) .cint (binD_div (by decide) (by decide))) ?_
      exact fin _ _ [] none (Int.fdiv_nonneg (Int.fmod_nonneg_of_pos _ (by decide)) (by decide)) (Nat.zero_le _)
    | cons y r =>
      rw [show decide (2 < ((bagL 0 l (y :: r)).length : Int)) = true from decide_eq_true (by rw [bagLen,List.length_cons]; omega)]
      rw [List.length_cons] at hr
      refine sl_loc (v:=.d (.int y)) rfl (.pop rfl (.loc rfl) .cint (pl_at hn 0 l (y :: r)) (pl_at hn 0 l (y :: r)) ixI2 (bag2 0 l y r) (by omega) (congrArg (fun z=>hset _ _ (some (Ct.lst z))) (bagE2 0 l y r))) rfl ?_
      have go : ∀ z : Int,0 ≤ z → aSL c (pB 1) (pSt hp n m (some (.d (.int y))) none z l r) K:=fun z hz=>fin z l r _ hz (by omega)
      let S:=pSt hp n m (some (.d (.int y))) none 0 l r
      have lv : ∀ {p : Pos},EX c (.loc 157 p) S (.d (.int y)) S:=fun {p}=>.loc rfl
      have hs : S = { pSt hp n m none none 0 l (y :: r) with loc:=put (pSt hp n m none none 0 l (y :: r)).loc 157 (.d (.int y)),hp:=hset (hset hp n (some (.lst (bagL 0 l (y :: r))))) n (some (.lst (bagL 0 l r))) }:=congrArg (fun h=>({ loc:=[(154,some (.c n)),(160,some (.d (.int m))),(157,some (.d (.int y))),(159,none)],cel:=[],gl:=[67,158],hp:=h } : St)) (hset_hset _ _ _ _).symm
      show aSL c _ { pSt hp n m none none 0 l (y :: r) with loc:=put (pSt hp n m none none 0 l (y :: r)).loc 157 (.d (.int y)),hp:=hset (hset hp n (some (.lst (bagL 0 l (y :: r))))) n (some (.lst (bagL 0 l r))) } _
      rw [← hs]
      have hc : cmpD .GtE (.int y) (.int 0) = some (decide (0 ≤ y)):=rfl
      by_cases hy : 0 ≤ y
      · rw [decide_eq_true hy] at hc
        exact st0 hn rfl (.ite (st1:=S) (.cmp lv .cint hc) (fun _=>.bin .cint lv (binD_mulL (by decide))) fun e=>by cases e) (go (2 * y) (by omega))
      · rw [decide_eq_false hy] at hc
        exact st0 hn rfl (.ite (st1:=S) (.cmp lv .cint hc) (fun e=>by exact nof e) fun _=>.bin (.bin (.neg .cint) lv (binD_mulL (by decide))) .cint rfl) (go (-2 * y - 1) (by omega))
end
noncomputable def bagSt (v : Option V) (hp : Hp) (l : Int) (r : List Int) (sc : D) : St:={ loc:=[(155,some (.d sc)),(154,some (.c hp.length)),(157,v)],cel:=[],gl:=[156,158],hp:=hp ++ [some (.lst (bagL 0 l r))] }
noncomputable def bagBody : SL:=match nthS f__law_bag.body 1 with
  | .for _ _ _ _ _ b _=>b
  | _=>.nil
theorem bag_turn {c : Cfg Prop} {hp : Hp} {l : Int} {r : List Int} {sc : D} {i : Int} {v : Option V} (hr : r.length < 900) {k : Fl → St → Prop} (hk : ∀ l',k .nxt (bagSt (some (.d (.int i))) hp l' (r ++ [i]) sc)) :
    aG c (.loc 157 ⟨678,8,678,12⟩) (.d (.int i)) (bagSt v hp l r sc) fun st=>aSL c (match nthS f__law_bag.body 1 with | .for _ _ _ _ _ b _=>b | _=>.nil) st k:=by
  have e1 : ∀ l r,hget (hp ++ [some (.lst (bagL 0 l r))]) hp.length = some (.lst (bagL 0 l r)):=fun l r=>by rw [hget_app,if_pos rfl]
  let v' : Option V:=some (.d (.int i))
  show aSL c bagBody (bagSt v' hp l r sc) k
  have hz : (bagL 0 l r).length ≤ 1000:=by rw [bagLen]; omega
  refine sl_app (st1:=bagSt v' hp l r sc) (st2:=bagSt v' hp l r sc) (w:=.d (.int i)) rfl (.loc rfl) (e1 l r) (.callB1 rfl (.loc rfl) rfl) (e1 l r) hz (hp':=hp ++ [some (.lst (bagL 0 l (r ++ [i])))]) (by
    show hset (hp ++ [some (.lst (bagL 0 l r))]) hp.length _ = _
    rw [hset_app]
    unfold bagL
    rw [List.map_append]
    rfl) ?_
  have s1 : EX c (.sub (.loc 154 ⟨680,18,680,21⟩) (.cint 1 ⟨680,22,680,23⟩) ⟨680,18,680,24⟩) (bagSt v' hp l (r ++ [i]) sc) (.d (.int l)) (bagSt v' hp l (r ++ [i]) sc):=.sub (.loc rfl) .cint (subV_c (e1 l (r ++ [i])) ixI1 (bag1 0 l _))
  refine sl_sub (st1:=bagSt v' hp l (r ++ [i]) sc) rfl (.bin (.bin (.bin (.bin s1 .cint (binD_mulR (by decide))) (.bin (.callB1 rfl (.loc rfl) rfl) .cint (binD_mod (by decide))) rfl) .cint rfl) .cint (binD_mod (by decide))) (.loc rfl) .cint (e1 l _) ixI1 (bagLt 0 l _) (hp':=hp ++ [some (.lst (bagL 0 ((l * 31 + i.fmod 9973 + 1).fmod 1000003) (r ++ [i])))]) (by exact hset_app hp _ _) ?_
  exact hk _
theorem bag_loop {c : Cfg Prop} {hp : Hp} {sc : D} : ∀ (js : List Int) {l : Int} {r : List Int} {v : Option V} {k : Fl → St → Prop},r.length + js.length ≤ 900 → (∀ v l',k .nxt (bagSt v hp l' (r ++ js) sc)) →
    loopF (fun x st k=>aG c (.loc 157 ⟨678,8,678,12⟩) (.d x) st fun st=>aSL c bagBody st k) (js.map .int) (bagSt v hp l r sc) k
  | [],l,r,v,k,_,hk=>by simpa [loopF] using hk v l
  | i :: js,l,r,v,k,hr,hk=>by
    rw [List.map_cons]
    unfold loopF
    rw [List.length_cons] at hr
    refine bag_turn (by omega) fun l'=>?_
    exact bag_loop js (by rw [List.length_append]; simp; omega) fun v l''=>by
      have:=hk v l''
      rwa [List.append_assoc]
theorem bag_run {c : Cfg Prop} {hp : Hp} {ns : List Int} (hn : ns.length ≤ 63) {K : Fl → St → Prop} (hK : ∀ xs st,BagOk xs → st.hp = hp ++ [some (.lst xs)] → K (.ret (.c hp.length)) st) :
    aSL c f__law_bag.body (startOf f__law_bag [.d (.lst (ns.map .int))] hp) K:=by
  have h1 : callB .list [.d (.lst (ns.map D.int))] (hp ++ [some (.lst (bagL 0 1 []))]) = some (.lst (ns.map .int)):=bif_t (decide_eq_true (by rw [List.length_map]; omega))
  have h2 : slcD (.lst (ns.map D.int)) none (some (.int 20)) = some (.lst ((ns.take 20).map .int)):=by
    show bif' (decide ((ns.map D.int).length ≤ 1000)) _ _ = _
    rw [bif_t (decide_eq_true (by rw [List.length_map]; omega)),List.map_take]
    rfl
  have go:=bag_loop (c:=c) (hp:=hp) (sc:=.lst (ns.map .int)) (ns.take 20) (l:=1) (r:=[]) (v:=none) (k:=fun fl st=>match fl with
    | .nxt=>aSL c (dropSL 2 f__law_bag.body) st K
    | .ret v=>K (.ret v) st) (by simp; omega) fun v l'=>by
      have f:=hK (bagL 0 l' (ns.take 20)) (bagSt v hp l' (ns.take 20) (.lst (ns.map .int))) (bagL_ok (Int.le_refl _) (by simp; omega)) rfl
      exact f
  have e0 : aSL c f__law_bag.body (startOf f__law_bag [.d (.lst (ns.map .int))] hp) K = aSL c (dropSL 1 f__law_bag.body) { loc:=[(155,some (.d (.lst (ns.map .int)))),(154,some (.c hp.length)),(157,none)],cel:=[],gl:=[156,158],hp:=hp ++ [some (.lst (bagL 0 1 []))] } K:=by rfl
  rw [e0]
  show aSL c (.cons (nthS f__law_bag.body 1) (dropSL 2 f__law_bag.body)) _ K
  have e1 : nthS f__law_bag.body 1 = .for (.loc 157 ⟨678,8,678,12⟩) false ⟨0,0,0,0⟩ (.slc (.callB .list 156 ⟨678,16,678,20⟩ (.cons (.loc 155 ⟨678,21,678,27⟩) .nil) ⟨678,16,678,28⟩) .no (.yes (.cint 20 ⟨678,30,678,32⟩)) ⟨678,29,678,32⟩ ⟨678,16,678,33⟩) ⟨678,16,678,33⟩ bagBody ⟨678,4,680,63⟩:=rfl
  rw [e1]
  rw [qSL_cons,qS_for,bif_t (b:=!false || mem _ 193) rfl,qX_slc]
  refine EX.callB1 rfl (.loc rfl) h1 _ ?_
  show (match slcD (.lst (ns.map D.int)) none (some (.int 20)) with | some r=>_ | none=>c.F)
  rw [h2]
  rw [List.map_take] at go
  have go : loopF _ ((ns.map D.int).take 20) { loc:=[(155,some (.d (.lst (ns.map .int)))),(154,some (.c hp.length)),(157,none)],cel:=[],gl:=[156,158],hp:=hp ++ [some (.lst (bagL 0 1 []))] } _:=go
  simp
  exact go
end
end Mine
end
section
open PySem.Spec
namespace Mine
noncomputable section
noncomputable def effL : List Nat:=[43,44,45,46,47,48,49,58,61,62]
noncomputable def Pm (N : Nat) : Tab:=fun f ds=>match mem effL f with
  | true=>none
  | false=>pk N f ds
theorem Pm_ev {N f : Nat} {ds : List D} {r : D} (h : Ev N f ds r) (hf : mem effL f = false) : Pm N f ds = some r:=by
  unfold Pm; rw [hf]; exact h
noncomputable def endB (hp : Hp) (k : V → Hp → Prop) (fl : Fl) (st : St) : Prop:=match fl with
  | .ret (.d x)=>back hp st.hp ∧ k (.d x) hp
  | _=>False
noncomputable def endI (k : V → Hp → Prop) (fl : Fl) (st : St) : Prop:=match fl with
  | .ret v=>k v st.hp
  | .nxt=>k (.d .none) st.hp
noncomputable def endC (n : Nat) (k : V → Hp → Prop) (fl : Fl) (st : St) : Prop:=match fl with
  | .ret (.d .none)=>k (.c n) st.hp
  | .nxt=>k (.c n) st.hp
  | _=>False
noncomputable def runI (c : Cfg Prop) (f : Nat) (vs : List V) (hp : Hp) (k : V → Hp → Prop) : Prop:=match f with
  | 43=>∃ ns : List Int,vs = [.d (.lst (ns.map .int))] ∧ ns.length ≤ 63 ∧ k (.c hp.length) (hp ++ [some .bag])
  | 44=>∃ (n : Nat) (m : Int),vs = [.c n,.d (.int m)] ∧ hget hp n = some .bag ∧ 0 < m ∧ m < 1073741824 ∧ ∀ got,0 ≤ got → got < m → k (.d (.int got)) hp
  | 45=>vs.length = 1 ∧ aSL c f__law_signal.body (startOf f__law_signal vs hp) (endB hp k)
  | 46=>vs.length = 1 ∧ aSL c f__law_term.body (startOf f__law_term vs hp) (endB hp k)
  | 47=>vs.length = 1 ∧ aSL c f__law_input.body (startOf f__law_input vs hp) (endB hp k)
  | 48=>vs.length = 0 ∧ aSL c f__law_thing.body (startOf f__law_thing vs hp) (endI k)
  | 49=>vs.length = 3 ∧ aSL c f__law_element.body (startOf f__law_element vs hp) (endB hp k)
  | 58=>∃ sD,vs = [.d sD] ∧ hget hp 0 = some .tab ∧ aSL c restG (stG sD hp) (endI k)
  | 61=>vs.length = 4 ∧ aSL c f_Element___init__.body (startOf f_Element___init__ (.c hp.length :: vs) (hp ++ [some (.inst 61 [] [])])) (endC hp.length k)
  | 62=>vs.length = 5 ∧ aSL c f_Thread___init__.body (startOf f_Thread___init__ (.c hp.length :: vs) (hp ++ [some (.inst 62 [] [])])) (endC hp.length k)
  | _=>False
noncomputable def cI (N : Nat) : Nat → Cfg Prop
  | 0=>⟨False,Pm N,mTab,fun _ _ _ _=>False⟩
  | n + 1=>⟨False,Pm N,mTab,runI (cI N n)⟩
noncomputable def MonoI (c : Cfg Prop) : Prop:=∀ f vs hp (k1 k2 : V → Hp → Prop),(∀ v hp,k1 v hp → k2 v hp) → c.I f vs hp k1 → c.I f vs hp k2
theorem MonoI.hom {c : Cfg Prop} (h : MonoI c) : Hom (fun (a b : Prop)=>a → b) c c:=.of id (fun _ _=>rfl) (fun _ _=>rfl) h
theorem aSL_mono {c : Cfg Prop} (h : MonoI c) {b : SL} {st : St} {K1 K2 : Fl → St → Prop} (hk : ∀ fl st,K1 fl st → K2 fl st) (x : aSL c b st K1) : aSL c b st K2:=aSL_h h.hom b st hk x
theorem endB_mono {hp : Hp} {k1 k2 : V → Hp → Prop} (hk : ∀ v hp,k1 v hp → k2 v hp) (fl : Fl) (st : St) (x : endB hp k1 fl st) : endB hp k2 fl st:=by
  cases fl with
  | nxt=>exact x
  | ret v =>
    cases v with
    | c n=>exact x
    | d y=>exact ⟨x.1,hk _ _ x.2⟩
theorem endI_mono {k1 k2 : V → Hp → Prop} (hk : ∀ v hp,k1 v hp → k2 v hp) (fl : Fl) (st : St) (x : endI k1 fl st) : endI k2 fl st:=by
  cases fl <;> exact hk _ _ x
theorem endC_mono {n : Nat} {k1 k2 : V → Hp → Prop} (hk : ∀ v hp,k1 v hp → k2 v hp) (fl : Fl) (st : St) (x : endC n k1 fl st) : endC n k2 fl st:=by
  cases fl with
  | nxt=>exact hk _ _ x
  | ret v =>
    cases v with
    | c n=>exact x
    | d y=>cases y <;> first | exact x | exact hk _ _ x
theorem runI_mono {c : Cfg Prop} (h : MonoI c) (f : Nat) (vs : List V) (hp : Hp) (k1 k2 : V → Hp → Prop) (hk : ∀ v hp,k1 v hp → k2 v hp) (x : runI c f vs hp k1) : runI c f vs hp k2:=by
  unfold runI at x ⊢
  split at x
  · obtain ⟨ns,a,b,q⟩:=x; exact ⟨ns,a,b,hk _ _ q⟩
  · obtain ⟨n,m,a,b,e,l,q⟩:=x; exact ⟨n,m,a,b,e,l,fun got h1 h2=>hk _ _ (q got h1 h2)⟩
  · exact ⟨x.1,aSL_mono h (endB_mono hk) x.2⟩
  · exact ⟨x.1,aSL_mono h (endB_mono hk) x.2⟩
  · exact ⟨x.1,aSL_mono h (endB_mono hk) x.2⟩
  · exact ⟨x.1,aSL_mono h (endI_mono hk) x.2⟩
  · exact ⟨x.1,aSL_mono h (endB_mono hk) x.2⟩
  · obtain ⟨sD,a,b,q⟩:=x; exact ⟨sD,a,b,aSL_mono h (endI_mono hk) q⟩
  · exact ⟨x.1,aSL_mono h (endC_mono hk) x.2⟩
  · exact ⟨x.1,aSL_mono h (endC_mono hk) x.2⟩
  · exact x.elim
theorem cI_mono (N : Nat) : ∀ n,MonoI (cI N n)
  | 0=>fun _ _ _ _ _ _ x=>x.elim
  | n + 1=>fun f vs hp k1 k2 hk x=>runI_mono (cI_mono N n) f vs hp k1 k2 hk x
structure Ground2 (prog : Program) (W : World) (K : Frag) (ad : Ad) (hT : Heap) (mg mb : Str → Option Value) (P ca : Addr) : Prop where
  B : Base prog W K ad hT mg mb
  k61 : MkAt hT K (ad.cls 61) f_Element___init__
  k62 : MkAt hT K (ad.cls 62) f_Thread___init__
  f58 : ∃ fa,mg (nm 58) = some (.ref fa) ∧ FnAt hT fa f__law_context ∧ ∀ o fd,hT.get? fa = some o → o.data = .func fd → fd.code = .ref ca ∧ fd.qualname = "_law_context"
  C : CodeHd hT ca P
  bm : hT.BuiltinsAt mg P
  tabE : ad.tab = fun a ps τ=>a = P ∧ tabR ps τ
  cloE : ad.clo = cloR
section
variable {prog : Program} {W : World} {d : Nat} {ad : Ad} {hT : Heap} {c : Cfg Prop} {K : Frag} {mg mb : Str → Option Value} {P ca : Addr}
theorem eff_gen {f : Nat} {fi : FI} {v : Value} {vs : List V} {hp : Hp} {k : V → Hp → Prop} (G : Ground2 prog W K ad hT mg mb P ca) (L : Lib prog W K ad hT mg mb c d) (hm : MonoI c) (hf : nth fiL f = some fi) (hv : mg (nm f) = some v) (hl : vs.length = fi.pars.length)
    (run : aSL c fi.body (startOf fi vs hp) (endB hp k)) : EffV prog W ad hT (d + 2) v vs hp k:=by
  obtain ⟨fa,a,fn⟩:=G.B.fnAt f fi hf
  rw [hv] at a; obtain rfl:=Option.some.inj a
  refine EffV.up (eff_back (eff_of fn G.B.aok G.B.lim L hl (aSL_mono hm (fun fl st x=>?_) run))) (Nat.le_succ _)
  cases fl with
  | nxt=>exact x.elim
  | ret v =>
    cases v with
    | c n=>exact x.elim
    | d y=>exact ⟨y,rfl,x.1,x.2⟩
theorem runI_ok (G : Ground2 prog W K ad hT mg mb P ca) (L : Lib prog W K ad hT mg mb c d) (hm : MonoI c) (f : Nat) (v : Value) (vs : List V) (hp : Hp) (k : V → Hp → Prop) (hv : mg (nm f) = some v) (x : runI c f vs hp k) : EffV prog W ad hT (d + 2) v vs hp k:=by
  unfold runI at x
  split at x
  · obtain ⟨ns,rfl,hn,q⟩:=x
    obtain ⟨fa,a,fn⟩:=G.B.fnAt 43 f__law_bag rfl
    rw [hv] at a; obtain rfl:=Option.some.inj a
    refine EffV.up (eff_newbag (eff_of fn G.B.aok G.B.lim L rfl (bag_run hn fun xs st hb e=>?_))) (Nat.le_succ _)
    exact ⟨xs,rfl,hb,e,q⟩
  · obtain ⟨n,m,rfl,hg,h0,h1,q⟩:=x
    obtain ⟨fa,a,fn⟩:=G.B.fnAt 44 f__law_pull rfl
    rw [hv] at a; obtain rfl:=Option.some.inj a
    refine EffV.up (eff_bag hg fun xs hb=>eff_of fn G.B.aok G.B.lim L rfl (pull_run (hget_lt0 _ _ _ hg) hb h0 h1 fun got xs' st p1 p2 p3 p4=>?_)) (Nat.le_succ _)
    exact ⟨_,xs',rfl,p3,p4,q got p1 p2⟩
  · exact eff_gen G L hm (fi:=f__law_signal) rfl hv x.1 x.2
  · exact eff_gen G L hm (fi:=f__law_term) rfl hv x.1 x.2
  · exact eff_gen G L hm (fi:=f__law_input) rfl hv x.1 x.2
  · obtain ⟨fa,a,fn⟩:=G.B.fnAt 48 f__law_thing rfl
    rw [hv] at a; obtain rfl:=Option.some.inj a
    refine EffV.up (eff_of fn G.B.aok G.B.lim L x.1 (aSL_mono hm (fun fl st q=>?_) x.2)) (Nat.le_succ _)
    cases fl <;> exact q
  · exact eff_gen G L hm (fi:=f__law_element) rfl hv x.1 x.2
  · obtain ⟨sD,rfl,h0,q⟩:=x
    obtain ⟨fa,a,fn,hc⟩:=G.f58
    rw [hv] at a; obtain rfl:=Option.some.inj a
    refine EffV.up (eff_ctx fn hc G.C G.bm G.tabE G.cloE G.B.aok G.B.lim L h0 (aSL_mono hm (fun fl st q=>?_) q)) (Nat.le_succ _)
    cases fl <;> exact q
  · have e:=(G.B.cl 61 (.inl rfl)).1
    rw [hv] at e; obtain rfl:=Option.some.inj e
    refine fun {A E s Q g w st xs}=>eff_cls (KK:=k) G.k61 G.B.aok G.B.lim L (congrArg (· + 1) x.1) (aSL_mono hm (fun fl st q=>?_) x.2)
    cases fl with
    | nxt=>exact q
    | ret v =>
      cases v with
      | c n=>exact q.elim
      | d y=>cases y <;> exact q
  · have e:=(G.B.cl 62 (.inr rfl)).1
    rw [hv] at e; obtain rfl:=Option.some.inj e
    refine fun {A E s Q g w st xs}=>eff_cls (KK:=k) G.k62 G.B.aok G.B.lim L (congrArg (· + 1) x.1) (aSL_mono hm (fun fl st q=>?_) x.2)
    cases fl with
    | nxt=>exact q
    | ret v =>
      cases v with
      | c n=>exact q.elim
      | d y=>cases y <;> exact q
  · exact x.elim
theorem cI_lib (G : Ground2 prog W K ad hT mg mb P ca) (N : Nat) : ∀ n,Lib prog W K ad hT mg mb (cI N n) (N + 1 + 2 * n)
  | 0=>G.B.lib id rfl (by omega) (fun f v ds r hv e=>by
      unfold cI Pm at e
      dsimp only at e
      split at e
      · exact nope e
      · exact PureV.up (pk_pure G.B N f v ds r hv e) (by omega)) fun _ _ _ _ _ _ z=>z.elim
  | n + 1=>G.B.lib id rfl (by omega) (fun f v ds r hv e=>by
      unfold cI Pm at e
      dsimp only at e
      split at e
      · exact nope e
      · exact PureV.up (pk_pure G.B N f v ds r hv e) (by omega)) fun f v vs hp k hv z=>runI_ok G (cI_lib G N n) (cI_mono N n) f v vs hp k hv z
end
end
end Mine
end
section
open PySem.Spec
namespace Mine
noncomputable section
noncomputable def IsSig (e : D) : Prop:=∃ i : Int,(i = 0 ∨ i = 1 ∨ i = 2) ∧ e = sigE i
inductive IsTerm : D → Prop
  | con {a b : Int} : Cd a → Cd b → IsTerm (constE a b)
  | sig {e : D} : IsSig e → IsTerm e
  | cond {x y z : D} : IsSig x → IsSig y → IsSig z → IsTerm (condE x y z)
  | bin {op : Nat} {x y : D} : op = 38 ∨ op = 124 ∨ op = 94 → IsSig x → IsSig y → IsTerm (binE op x y)
noncomputable def IsInput (e : D) : Prop:=IsTerm e ∨ ∃ t k,IsTerm t ∧ (k = 0 ∨ k = 1) ∧ e = slcE 1 t k
theorem fin_or {P : Int → Prop} (n : Nat) (h : ∀ i : Fin n,P (i.val : Int)) {k : Int} (h0 : 0 ≤ k) (h1 : k < n) : P k:=by
  obtain ⟨m,rfl⟩:=Int.eq_ofNat_of_zero_le h0
  exact h ⟨m,Int.ofNat_lt.mp h1⟩
theorem cd_of {g : Int} (h0 : 0 ≤ g) (h1 : g < 4) : Cd g:=fin_or (P:=fun g=>g = 0 ∨ g = 1 ∨ g = 2 ∨ g = 3) 4 (by decide) h0 h1
theorem or2 {g : Int} (h0 : 0 ≤ g) (h1 : g < 2) : g = 0 ∨ g = 1:=fin_or (P:=fun g=>g = 0 ∨ g = 1) 2 (by decide) h0 h1
theorem in3 {g : Int} (h0 : 0 ≤ g) (h1 : g < 3) : g = 0 ∨ g = 1 ∨ g = 2:=fin_or (P:=fun g=>g = 0 ∨ g = 1 ∨ g = 2) 3 (by decide) h0 h1
theorem in5 {g : Int} (h0 : 0 ≤ g) (h1 : g < 5) : g = 0 ∨ g = 1 ∨ g = 2 ∨ g = 3 ∨ g = 4:=fin_or (P:=fun g=>g = 0 ∨ g = 1 ∨ g = 2 ∨ g = 3 ∨ g = 4) 5 (by decide) h0 h1
theorem back_refl (hp : Hp) : back hp hp:=List.take_length
section
variable {N n b : Nat} {hp : Hp} {k : V → Hp → Prop}
theorem pull_c (hb : hget hp b = some .bag) {m : Int} (h0 : 0 < m) (h1 : m < 1073741824) (h : ∀ got,0 ≤ got → got < m → k (.d (.int got)) hp) : (cI N (n + 1)).I 44 [.c b,.d (.int m)] hp k:=⟨b,m,rfl,hb,h0,h1,h⟩
theorem allD_c (b : Nat) (r : List V) : allD (.c b :: r) = none:=rfl
theorem sig_c (hb : hget hp b = some .bag) (h : ∀ e,IsSig e → k (.d e) hp) : (cI N (n + 2)).I 45 [.c b] hp k:=by
  refine ⟨rfl,?_⟩
  refine pull_c hb (by decide) (by decide) fun got h0 h1=>?_
  refine ⟨back_refl hp,h _ ⟨got,by omega,rfl⟩⟩
theorem term_c (hb : hget hp b = some .bag) (h : ∀ e,IsTerm e → k (.d e) hp) : (cI N (n + 3)).I 46 [.c b] hp k:=by
  refine ⟨rfl,?_⟩
  have S : ∀ {k : V → Hp → Prop},(∀ e,IsSig e → k (.d e) hp) → (cI N (n + 2)).I 45 [.c b] hp k:=fun h=>sig_c hb h
  have P : ∀ {m : Int} {k : V → Hp → Prop},0 < m → m < 1073741824 → (∀ got,0 ≤ got → got < m → k (.d (.int got)) hp) → (cI N (n + 2)).I 44 [.c b,.d (.int m)] hp k:=fun h0 h1 h=>pull_c hb h0 h1 h
  refine P (by decide) (by decide) fun got h0 h1=>?_
  have hc : got = 0 ∨ got = 1 ∨ got = 2 ∨ got = 3 ∨ got = 4:=in5 h0 h1
  rcases hc with rfl | rfl | rfl | rfl | rfl
  · refine P (by decide) (by decide) fun a a0 a1=>?_
    refine P (by decide) (by decide) fun c c0 c1=>?_
    exact ⟨back_refl hp,h _ (.con (cd_of a0 a1) (cd_of c0 c1))⟩
  · exact S fun e he=>⟨back_refl hp,h _ (.sig he)⟩
  · exact S fun e he=>⟨back_refl hp,h _ (.sig he)⟩
  · exact S fun x hx=>S fun y hy=>S fun z hz=>⟨back_refl hp,h _ (.cond hx hy hz)⟩
  · refine P (by decide) (by decide) fun g g0 g1=>?_
    have hc : g = 0 ∨ g = 1 ∨ g = 2:=in3 g0 g1
    rcases hc with rfl | rfl | rfl
    · exact S fun x hx=>S fun y hy=>⟨back_refl hp,h _ (.bin (.inl rfl) hx hy)⟩
    · exact S fun x hx=>S fun y hy=>⟨back_refl hp,h _ (.bin (.inr (.inl rfl)) hx hy)⟩
    · exact S fun x hx=>S fun y hy=>⟨back_refl hp,h _ (.bin (.inr (.inr rfl)) hx hy)⟩
theorem input_c (hb : hget hp b = some .bag) (h : ∀ e,IsInput e → k (.d e) hp) : (cI N (n + 4)).I 47 [.c b] hp k:=by
  refine ⟨rfl,?_⟩
  have P : ∀ {m : Int} {k : V → Hp → Prop},0 < m → m < 1073741824 → (∀ got,0 ≤ got → got < m → k (.d (.int got)) hp) → (cI N (n + 3)).I 44 [.c b,.d (.int m)] hp k:=fun h0 h1 h=>pull_c hb h0 h1 h
  refine term_c hb fun t ht=>?_
  refine P (by decide) (by decide) fun got h0 h1=>?_
  have hc : got = 0 ∨ got = 1:=or2 h0 h1
  rcases hc with rfl | rfl
  · exact P (by decide) (by decide) fun g g0 g1=>⟨back_refl hp,h _ (.inr ⟨t,g,ht,by omega,rfl⟩)⟩
  · exact ⟨back_refl hp,h _ (.inl ht)⟩
end
end
end Mine
end
section
open PySem.Spec
namespace Mine
noncomputable section
noncomputable def IsS8 (s : Int) : Prop:=0 ≤ s ∧ s < 8
noncomputable def symC : List Nat:=[48,49,120,63,98]
noncomputable def IsRow (r : D) : Prop:=∃ a b o : Nat,a ∈ symC ∧ b ∈ symC ∧ (o = 48 ∨ o = 49 ∨ o = 120) ∧ r = .tup [.lst [.str [a],.str [b]],.none,.str [o]]
noncomputable def kindsL : List (List Nat):=[[97,110,100],[110,97,110,100],[111,114],[110,111,114],[120,111,114],[120,110,111,114],[98,117,102],[110,111,116],[98,117,102,105,102,48],[98,117,102,105,102,49],[110,111,116,105,102,48],[110,111,116,105,102,49],[110,109,111,115],[112,109,111,115],[112,117,108,108,117,112],[112,117,108,108,100,111,119,110]]
inductive IsElem (nu : D) (wide : Int) : D → Int → Prop
  | asg {t : D} {sp s0 s1 : Int} : IsTerm t → 0 ≤ sp → sp < wide → IsS8 s0 → IsS8 s1 → IsElem nu wide (elD nu (.str [97,115,115,105,103,110]) (thingD [169,90] [.int sp,slcE wide t 0]) (.tup [.int s0,.int s1])) 0
  | udp {rows : List D} {x y : D} {sp : Int} : (∀ r ∈ rows,IsRow r) → rows.length ≤ 4 → IsInput x → IsInput y → 0 ≤ sp → sp < wide → IsElem nu wide (elD nu (.str [117,100,112]) (thingD [169,140,128] [.int sp,thingD [141,130] [.bool false,.lst rows],.tup [x,y]]) (.tup [.int 6,.int 6])) sp
  | gate {w : Nat} {ks : List Nat} {ins : List D} {sp s0 s1 : Int} : nth kindsL w = some ks → (∀ e ∈ ins,IsInput e) → (w < 6 ∧ (ins.length = 2 ∨ ins.length = 3) ∨ (w = 6 ∨ w = 7) ∧ ins.length = 1 ∨ (8 ≤ w ∧ w ≤ 13) ∧ ins.length = 2 ∨ 14 ≤ w ∧ ins.length = 0) → 0 ≤ sp → sp < wide → IsS8 s0 → IsS8 s1 →
      IsElem nu wide (elD nu (.str [103,97,116,101]) (thingD [169,110,128] [.int sp,.str ks,.tup ins]) (.tup [.int s0,.int s1])) sp
section
variable {N n : Nat} {k : V → Hp → Prop} {hp : Hp}
theorem hget_app1 (hp : Hp) (x : Ct) : hget (hp ++ [some x]) hp.length = some x:=by rw [hget_app,if_pos rfl]
theorem att_step {c : Cfg Prop} {st : St} {x m f q : Nat} {e : X} {v : V} {r : SL} {ns ns' : List Nat} {vs vs' : List V} {p1 p2 p3 : Pos} {K : Fl → St → Prop} (hx : look st.loc x = some (.c m)) (hm : hget st.hp m = some (.inst q ns vs)) (he : ∀ k,aX c e st k = k v st)
    (ho : isCmp e = false) (hf : mem fldL f = true) (hl : ns.length ≤ 100) (hp : fput ns vs f v = (ns',vs')) (h : aSL c r { st with hp:=hset st.hp m (some (.inst q ns' vs')) } K) : aSL c (.cons (.asg (.att (.loc x p1) f p2) e p3) r) st K:=by
  have e1 : okA (.att (.loc x p1) f p2) e = true:=by
    unfold okA
    rw [ho]
    cases isComp e <;> rfl
  rw [qSL_cons,qS_asg,bif_t e1,he]
  simp only [qG_loc,qG_sub,qG_att,qX_cint,qX_loc,qX_bin,qX_sub,qX_callB,qX_app,qX_pop,qX_cmp,qX_neg,hx,hm,hp]
  rw [bif_t (by rw [hf,decide_eq_true hl]; rfl)]
  exact h
theorem thread_c {nu co pc fr pa : D} (h : k (.c hp.length) (hp ++ [some (.inst 62 baseN ([nu,co,pc,fr,pa,.lst [],.lst [],.int (-1),.dict [] [],.bool false,.none,.int 0,.bool false,.bool false].map .d))])) :
    (cI N (n + 1)).I 62 [.d nu,.d co,.d pc,.d fr,.d pa] hp k:=by
  refine ⟨rfl,?_⟩
  show aSL _ b_Thread___init__ { loc:=[(132,some (.c hp.length)),(139,some (.d nu)),(1,some (.d co)),(153,some (.d pc)),(152,some (.d fr)),(151,some (.d pa))],cel:=[],gl:=[],hp:=hp ++ [some (.inst 62 [] [])] } _
  unfold b_Thread___init__
  iterate 14
    refine att_step rfl (hget_app1 hp _) (fun _=>rfl) rfl rfl (by decide) rfl ?_
    simp only [hset_app]
  exact h
theorem thing_c (h : k (.c hp.length) (hp ++ [some (.inst 62 baseN (baseV.map .d))])) : (cI N (n + 2)).I 48 [] hp k:=by
  refine ⟨rfl,?_⟩
  exact thread_c h
theorem el_c {nu co pc fr : D} (h : k (.c hp.length) (hp ++ [some (.inst 61 [139,110,138,137,121,136,135,134,127,133] ([nu,co,pc,fr,.none,.none,.int 0,.bool false,.int 3,.lst []].map .d))])) :
    (cI N (n + 1)).I 61 [.d nu,.d co,.d pc,.d fr] hp k:=by
  refine ⟨rfl,?_⟩
  show aSL _ b_Element___init__ { loc:=[(132,some (.c hp.length)),(139,some (.d nu)),(110,some (.d co)),(138,some (.d pc)),(137,some (.d fr))],cel:=[],gl:=[],hp:=hp ++ [some (.inst 61 [] [])] } _
  unfold b_Element___init__
  iterate 10
    refine att_step rfl (hget_app1 hp _) (fun _=>rfl) rfl rfl (by decide) rfl ?_
    simp only [hset_app]
  exact h
end
end
end Mine
end
section
open PySem.Spec
set_option maxHeartbeats 2000000
namespace Mine
noncomputable section
theorem go_d (k : Nat) (hp : Hp) : ∀ xs : List D,frz.go (frz k) hp (xs.map .d) = some (xs,hp)
  | []=>rfl
  | x :: r=>by
    show (match frz k hp (.d x) with | some (d,hp')=>(match frz.go (frz k) hp' (r.map .d) with | some (ds,hp'')=>some (d :: ds,hp'') | none=>none) | none=>none) = _
    have : frz k hp (.d x) = some (x,hp):=by cases k <;> rfl
    rw [this]
    dsimp only
    rw [go_d k hp r]
theorem frz_lst {k : Nat} {hp : Hp} {m : Nat} {xs : List D} (h : hget hp m = some (.lst (xs.map .d))) : frz (k + 1) hp (.c m) = some (.lst xs,hset hp m none):=by
  unfold frz
  rw [h]
  dsimp only
  rw [go_d]
theorem app_step {c : Cfg Prop} {st : St} {x m : Nat} {e : X} {v : V} {r : SL} {vs : List V} {p1 p2 p3 p4 : Pos} {K : Fl → St → Prop} (hl : Nat.beq p2.endLine p3.line = true) (hx : look st.loc x = some (.c m)) (hm : hget st.hp m = some (.lst vs)) (he : ∀ k,aX c e st k = k v st)
    (hz : vs.length ≤ 1000) {hp' : Hp} (hh : hset st.hp m (some (.lst (vs ++ [v]))) = hp') (h : aSL c r { st with hp:=hp' } K) : aSL c (.cons (.exp (.app (.loc x p1) e p2 p3) p4) r) st K:=by
  subst hh
  rw [qSL_cons,qS_exp,bif_t (b:=!isCmp ((X.loc x p1).app e p2 p3)) rfl]
  rw [qX_app,qX_loc,bif_t hl]
  simp only [hx,hm,he]
  rw [bif_t (decide_eq_true hz)]
  exact h
theorem asg_frL {c : Cfg Prop} {st : St} {x : Nat} {t : Tg} {v : V} {d : D} {r : SL} {p1 p2 : Pos} {K : Fl → St → Prop} {hp' : Hp} (hx : look st.loc x = some v) (hf : frz 4 st.hp v = some (d,hp')) (ho : okA t (.frL x p1) = true)
    (h : aG c t (.d d) { st with loc:=put st.loc x (.d d),hp:=hp' } fun st=>aSL c r st K) : aSL c (.cons (.asg t (.frL x p1) p2) r) st K:=by
  rw [qSL_cons,qS_asg,bif_t ho]
  simp only [qX_frL,hx,hf]
  exact h
noncomputable def elSt (nu : D) (wide : Int) (th pick rows turn ins names which many : Option V) (hp : Hp) : St:={ loc:=[(139,some (.d nu)),(168,some (.d (.int wide))),(163,th),(162,pick),(130,rows),(164,turn),(128,ins),(167,names),(166,which),(160,many)],cel:=[(154,some (.c 1))],gl:=[48,44,46,61,193,47,165],hp:=hp }
noncomputable abbrev elT (ns : List Nat) (xs : List D) : Option Ct:=some (.inst 62 (baseN ++ ns) ((baseV ++ xs).map .d))
noncomputable def rowFor : S:=nthS (match nthS f__law_element.body 4 with | .iff _ a _ _=>a | _=>.nil) 1
noncomputable def rowBody : SL:=match rowFor with | .for _ _ _ _ _ b _=>b | _=>.nil
noncomputable def rowS1 (s : List Nat) : S:=match nthS rowBody 0 with
  | .asg t (.lst b (.cons _ r) p) q=>.asg t (.lst b (.cons (.cstr s p) r) p) q
  | s=>s
noncomputable def rowS2 (s : List Nat) : S:=match nthS rowBody 1 with
  | .exp (.app a (.tup (.cons i (.cons j (.cons _ r))) p) x y) q=>.exp (.app a (.tup (.cons i (.cons j (.cons (.cstr s p) r))) p) x y) q
  | s=>s
theorem in16 {g : Int} (h0 : 0 ≤ g) (h1 : g < 16) : g = 0 ∨ g = 1 ∨ g = 2 ∨ g = 3 ∨ g = 4 ∨ g = 5 ∨ g = 6 ∨ g = 7 ∨ g = 8 ∨ g = 9 ∨ g = 10 ∨ g = 11 ∨ g = 12 ∨ g = 13 ∨ g = 14 ∨ g = 15:=by
  obtain ⟨n,rfl⟩:=Int.eq_ofNat_of_zero_le h0
  exact (by decide +kernel : ∀ n : Fin 16,(n.val : Int) = 0 ∨ (n.val : Int) = 1 ∨ (n.val : Int) = 2 ∨ (n.val : Int) = 3 ∨ (n.val : Int) = 4 ∨ (n.val : Int) = 5 ∨ (n.val : Int) = 6 ∨ (n.val : Int) = 7 ∨ (n.val : Int) = 8 ∨ (n.val : Int) = 9 ∨ (n.val : Int) = 10 ∨ (n.val : Int) = 11 ∨ (n.val : Int) = 12 ∨ (n.val : Int) = 13 ∨ (n.val : Int) = 14 ∨ (n.val : Int) = 15) ⟨n,Int.ofNat_lt.mp h1⟩
theorem symC_mem : 48 ∈ symC ∧ 49 ∈ symC ∧ 120 ∈ symC ∧ 63 ∈ symC ∧ 98 ∈ symC:=by simp [symC]
inductive Shp : Nat → (Hp → Hp) → Prop
  | a {x0 x2 x3 x4 x5 x6 x7 x8 x9 : Option Ct} : Shp 10 (fun e=>x0 :: some .bag :: x2 :: x3 :: x4 :: x5 :: x6 :: x7 :: x8 :: x9 :: e)
  | b {x0 x2 x3 x4 x5 x6 x7 x8 x9 y : Option Ct} : Shp 11 (fun e=>x0 :: some .bag :: x2 :: x3 :: x4 :: x5 :: x6 :: x7 :: x8 :: x9 :: y :: e)
  | c {x0 x2 x3 x4 x5 x6 x7 x8 x9 : Option Ct} : Shp 13 (fun e=>x0 :: some .bag :: x2 :: x3 :: x4 :: x5 :: x6 :: x7 :: x8 :: x9 :: none :: none :: none :: e)
  | d {x0 x2 x3 x4 x5 x6 x7 x8 x9 y : Option Ct} : Shp 14 (fun e=>x0 :: some .bag :: x2 :: x3 :: x4 :: x5 :: x6 :: x7 :: x8 :: x9 :: y :: none :: none :: none :: e)
  | e {x0 x2 x3 x4 x5 x6 x7 x8 x9 : Option Ct} : Shp 16 (fun e=>x0 :: some .bag :: x2 :: x3 :: x4 :: x5 :: x6 :: x7 :: x8 :: x9 :: none :: none :: none :: none :: none :: none :: e)
  | f {x0 x2 x3 x4 x5 x6 x7 x8 x9 y : Option Ct} : Shp 17 (fun e=>x0 :: some .bag :: x2 :: x3 :: x4 :: x5 :: x6 :: x7 :: x8 :: x9 :: y :: none :: none :: none :: none :: none :: none :: e)
theorem Shp.go {P : Nat → (Hp → Hp) → Prop}
    (ha : ∀ x0 x2 x3 x4 x5 x6 x7 x8 x9 y : Option Ct,let L:=10; let R : Hp → Hp:=fun e=>x0 :: some .bag :: x2 :: x3 :: x4 :: x5 :: x6 :: x7 :: x8 :: x9 :: e; Shp L R → P L R)
    (hb : ∀ x0 x2 x3 x4 x5 x6 x7 x8 x9 y : Option Ct,let L:=11; let R : Hp → Hp:=fun e=>x0 :: some .bag :: x2 :: x3 :: x4 :: x5 :: x6 :: x7 :: x8 :: x9 :: y :: e; Shp L R → P L R)
    (hc : ∀ x0 x2 x3 x4 x5 x6 x7 x8 x9 y : Option Ct,let L:=13; let R : Hp → Hp:=fun e=>x0 :: some .bag :: x2 :: x3 :: x4 :: x5 :: x6 :: x7 :: x8 :: x9 :: none :: none :: none :: e; Shp L R → P L R)
    (hd : ∀ x0 x2 x3 x4 x5 x6 x7 x8 x9 y : Option Ct,let L:=14; let R : Hp → Hp:=fun e=>x0 :: some .bag :: x2 :: x3 :: x4 :: x5 :: x6 :: x7 :: x8 :: x9 :: y :: none :: none :: none :: e; Shp L R → P L R)
    (he : ∀ x0 x2 x3 x4 x5 x6 x7 x8 x9 y : Option Ct,let L:=16; let R : Hp → Hp:=fun e=>x0 :: some .bag :: x2 :: x3 :: x4 :: x5 :: x6 :: x7 :: x8 :: x9 :: none :: none :: none :: none :: none :: none :: e; Shp L R → P L R)
    (hf : ∀ x0 x2 x3 x4 x5 x6 x7 x8 x9 y : Option Ct,let L:=17; let R : Hp → Hp:=fun e=>x0 :: some .bag :: x2 :: x3 :: x4 :: x5 :: x6 :: x7 :: x8 :: x9 :: y :: none :: none :: none :: none :: none :: none :: e; Shp L R → P L R) {L : Nat} {R : Hp → Hp} (hS : Shp L R) : P L R:=by
  cases hS
  · exact ha _ _ _ _ _ _ _ _ _ none .a
  · exact hb _ _ _ _ _ _ _ _ _ _ .b
  · exact hc _ _ _ _ _ _ _ _ _ none .c
  · exact hd _ _ _ _ _ _ _ _ _ _ .d
  · exact he _ _ _ _ _ _ _ _ _ none .e
  · exact hf _ _ _ _ _ _ _ _ _ _ .f
noncomputable def kindT : D:=.tup (kindsL.map .str)
section
variable {N n : Nat} {nu : D} {wide : Int}
theorem pull1 {hp : Hp} {m : Int} {k : V → Hp → Prop} (hb : hget hp 1 = some .bag) (h0 : 0 < m) (h1 : m < 1073741824) (h : ∀ got,0 ≤ got → got < m → k (.d (.int got)) hp) : (cI N (n + 4)).I 44 [.c 1,.d (.int m)] hp k:=pull_c hb h0 h1 h
theorem term1 {hp : Hp} {k : V → Hp → Prop} (hb : hget hp 1 = some .bag) (h : ∀ e,IsTerm e → k (.d e) hp) : (cI N (n + 4)).I 46 [.c 1] hp k:=term_c hb h
theorem input1 {hp : Hp} {k : V → Hp → Prop} (hb : hget hp 1 = some .bag) (h : ∀ e,IsInput e → k (.d e) hp) : (cI N (n + 4)).I 47 [.c 1] hp k:=input_c hb h
theorem el1 {hp : Hp} {co pc fr : D} {k : V → Hp → Prop} (h : k (.c hp.length) (hp ++ [some (.inst 61 [139,110,138,137,121,136,135,134,127,133] ([nu,co,pc,fr,.none,.none,.int 0,.bool false,.int 3,.lst []].map .d))])) : (cI N (n + 4)).I 61 [.d nu,.d co,.d pc,.d fr] hp k:=el_c h
end
section
variable {N n : Nat} {k : V → Hp → Prop} {nu : D} {wide : Int} {L : Nat} {R : Hp → Hp}
theorem row_turn (hS : Shp L R) {sp : Int} {x : D} {turn ins : Option V} {xs : List D} (hl : xs.length ≤ 100) {K : Fl → St → Prop} (hK : ∀ ins r,IsRow r → K .nxt (elSt nu wide (some (.c L)) (some (.d (.int 2))) (some (.c (L + 1))) (some (.d x)) ins none none none (R [elT [169] [.int sp],some (.lst ((xs ++ [r]).map .d))]))) :
    aG (cI N (n + 4)) (.loc 164 ⟨724,12,724,16⟩) (.d x) (elSt nu wide (some (.c L)) (some (.d (.int 2))) (some (.c (L + 1))) turn ins none none none (R [elT [169] [.int sp],some (.lst (xs.map .d))])) fun st=>aSL (cI N (n + 4)) rowBody st K:=by
  revert hK
  apply Shp.go (hS:=hS) <;> clear hS <;> intro x0 x2 x3 x4 x5 x6 x7 x8 x9 y L R hS hK
  all_goals
    let H1 : List Nat → Prop:=fun s=>aSL (cI N (n + 4)) (.cons (rowS1 s) (dropSL 1 rowBody)) (elSt nu wide (some (.c L)) (some (.d (.int 2))) (some (.c (L + 1))) (some (.d x)) ins none none none (R [elT [169] [.int sp],some (.lst (xs.map .d))])) K
    let H2 : List Nat → List Nat → Prop:=fun s t=>aSL (cI N (n + 4)) (dropSL 1 rowBody) (elSt nu wide (some (.c L)) (some (.d (.int 2))) (some (.c (L + 1))) (some (.d x)) (some (.d (.lst [.str s,.str t]))) none none none (R [elT [169] [.int sp],some (.lst (xs.map .d))])) K
    let H3 : List Nat → List Nat → List Nat → Prop:=fun s t u=>aSL (cI N (n + 4)) (.cons (rowS2 u) .nil) (elSt nu wide (some (.c L)) (some (.d (.int 2))) (some (.c (L + 1))) (some (.d x)) (some (.d (.lst [.str s,.str t]))) none none none (R [elT [169] [.int sp],some (.lst (xs.map .d))])) K
    have h3 : ∀ a b o : Nat,a ∈ symC → b ∈ symC → (o = 48 ∨ o = 49 ∨ o = 120) → H3 [a] [b] [o]:=fun a b o ha hb ho=>by
      refine app_step (v:=.d (.tup [.lst [.str [a],.str [b]],.none,.str [o]])) rfl rfl rfl (fun _=>rfl) (by rw [List.length_map]; omega) (hp':=(R [elT [169] [.int sp],some (.lst ((xs ++ [D.tup [.lst [.str [a],.str [b]],.none,.str [o]]]).map .d))])) (by rw [List.map_append]; rfl) ?_
      exact hK _ _ ⟨a,b,o,ha,hb,ho,rfl⟩
    have h2 : ∀ a b : Nat,a ∈ symC → b ∈ symC → H2 [a] [b]:=fun a b ha hb=>by
      refine pull1 rfl (by decide) (by decide) fun g g0 g1=>?_
      rcases in3 g0 g1 with rfl | rfl | rfl
      · exact Eq.mpr (β:=H3 [a] [b] [48]) (by kernel_rfl) (h3 a b 48 ha hb (.inl rfl))
      · exact Eq.mpr (β:=H3 [a] [b] [49]) (by kernel_rfl) (h3 a b 49 ha hb (.inr (.inl rfl)))
      · exact Eq.mpr (β:=H3 [a] [b] [120]) (by kernel_rfl) (h3 a b 120 ha hb (.inr (.inr rfl)))
    have h1 : ∀ a : Nat,a ∈ symC → H1 [a]:=fun a ha=>by
      refine pull1 rfl (by decide) (by decide) fun g g0 g1=>?_
      rcases in5 g0 g1 with rfl | rfl | rfl | rfl | rfl
      · exact Eq.mpr (β:=H2 [a] [48]) (by kernel_rfl) (h2 a 48 ha symC_mem.1)
      · exact Eq.mpr (β:=H2 [a] [49]) (by kernel_rfl) (h2 a 49 ha symC_mem.2.1)
      · exact Eq.mpr (β:=H2 [a] [120]) (by kernel_rfl) (h2 a 120 ha symC_mem.2.2.1)
      · exact Eq.mpr (β:=H2 [a] [63]) (by kernel_rfl) (h2 a 63 ha symC_mem.2.2.2.1)
      · exact Eq.mpr (β:=H2 [a] [98]) (by kernel_rfl) (h2 a 98 ha symC_mem.2.2.2.2)
    refine pull1 rfl (by decide) (by decide) fun g g0 g1=>?_
    rcases in5 g0 g1 with rfl | rfl | rfl | rfl | rfl
    · exact Eq.mpr (β:=H1 [48]) (by kernel_rfl) (h1 48 symC_mem.1)
    · exact Eq.mpr (β:=H1 [49]) (by kernel_rfl) (h1 49 symC_mem.2.1)
    · exact Eq.mpr (β:=H1 [120]) (by kernel_rfl) (h1 120 symC_mem.2.2.1)
    · exact Eq.mpr (β:=H1 [63]) (by kernel_rfl) (h1 63 symC_mem.2.2.2.1)
    · exact Eq.mpr (β:=H1 [98]) (by kernel_rfl) (h1 98 symC_mem.2.2.2.2)
theorem row_loop (hS : Shp L R) {sp : Int} : ∀ (ds : List D) {turn ins : Option V} {xs : List D} {K : Fl → St → Prop},xs.length + ds.length ≤ 100 → (∀ r ∈ xs,IsRow r) → (∀ turn ins (xs' : List D),(∀ r ∈ xs',IsRow r) → xs'.length = xs.length + ds.length → K .nxt (elSt nu wide (some (.c L)) (some (.d (.int 2))) (some (.c (L + 1))) turn ins none none none (R [elT [169] [.int sp],some (.lst (xs'.map .d))]))) →
    loopF (fun x st k=>aG (cI N (n + 4)) (.loc 164 ⟨724,12,724,16⟩) (.d x) st fun st=>aSL (cI N (n + 4)) rowBody st k) ds (elSt nu wide (some (.c L)) (some (.d (.int 2))) (some (.c (L + 1))) turn ins none none none (R [elT [169] [.int sp],some (.lst (xs.map .d))])) K
  | [],turn,ins,xs,K,_,hx,hK=>hK turn ins xs hx rfl
  | d :: ds,turn,ins,xs,K,hl,hx,hK=>by
    unfold loopF
    rw [List.length_cons] at hl
    refine row_turn hS (by omega) fun ins' r hr=>?_
    exact row_loop hS ds (by rw [List.length_append]; simp; omega) (fun r' hr'=>(List.mem_append.mp hr').elim (hx r') fun q=>by rw [List.mem_singleton.mp q]; exact hr) fun t i xs' h1 h2=>hK t i xs' h1 (by rw [h2,List.length_append,List.length_cons]; simp; omega)
theorem elem_udp (hS : Shp L R) (h : ∀ e sp,IsElem nu wide e sp → k (.d e) (R [])) {sp : Int} (sp0 : 0 ≤ sp) (sp1 : sp < wide) :
    aSL (cI N (n + 4)) (dropSL 3 f__law_element.body) (elSt nu wide (some (.c L)) (some (.d (.int 2))) none none none none none none (R [elT [169] [.int sp]])) (endB (R []) k):=by
  revert h
  apply Shp.go (hS:=hS) <;> clear hS <;> intro x0 x2 x3 x4 x5 x6 x7 x8 x9 y L R hS h
  all_goals
    have fin : ∀ turn ins (xs : List D),(∀ r ∈ xs,IsRow r) → xs.length ≤ 4 → aSL (cI N (n + 4)) (dropSL 2 (match nthS f__law_element.body 4 with | .iff _ a _ _=>a | _=>.nil)) (elSt nu wide (some (.c L)) (some (.d (.int 2))) (some (.c (L + 1))) turn ins none none none (R [elT [169] [.int sp],some (.lst (xs.map .d))])) (fun fl st=>match fl with | .nxt=>aSL (cI N (n + 4)) (dropSL 5 f__law_element.body) st (endB (R []) k) | .ret v=>endB (R []) k (.ret v) st):=fun turn ins xs hx hl=>by
      refine thing_c ?_
      refine Eq.mpr (β:=aSL (cI N (n + 4)) (dropSL 4 (match nthS f__law_element.body 4 with | .iff _ a _ _=>a | _=>.nil)) (elSt nu wide (some (.c L)) (some (.d (.int 2))) (some (.c (L + 1))) turn ins none none none (R [some (.inst 62 (baseN ++ [169,140]) ((baseV ++ [D.int sp]).map V.d ++ [.c (L + 2)])),some (.lst (xs.map .d)),elT [141] [.bool false]])) (fun fl st=>match fl with | .nxt=>aSL (cI N (n + 4)) (dropSL 5 f__law_element.body) st (endB (R []) k) | .ret v=>endB (R []) k (.ret v) st)) (by kernel_rfl) ?_
      refine asg_frL rfl (frz_lst (xs:=xs) rfl) rfl ?_
      refine Eq.mpr (β:=aSL (cI N (n + 4)) (dropSL 5 (match nthS f__law_element.body 4 with | .iff _ a _ _=>a | _=>.nil)) (elSt nu wide (some (.c L)) (some (.d (.int 2))) (some (.d (.lst xs))) turn ins none none none (R [some (.inst 62 (baseN ++ [169,140]) ((baseV ++ [D.int sp]).map V.d ++ [.c (L + 2)])),none,elT [141,130] [.bool false,.lst xs]])) (fun fl st=>match fl with | .nxt=>aSL (cI N (n + 4)) (dropSL 5 f__law_element.body) st (endB (R []) k) | .ret v=>endB (R []) k (.ret v) st)) (by kernel_rfl) ?_
      refine input1 rfl fun a ha=>?_
      refine input1 rfl fun b hb=>?_
      refine Eq.mpr (β:=aSL (cI N (n + 4)) (dropSL 6 (match nthS f__law_element.body 4 with | .iff _ a _ _=>a | _=>.nil)) (elSt nu wide (some (.c L)) (some (.d (.int 2))) (some (.d (.lst xs))) turn ins none none none (R [some (.inst 62 (baseN ++ [169,140,128]) ((baseV ++ [D.int sp]).map V.d ++ [.c (L + 2),.d (.tup [a,b])])),none,elT [141,130] [.bool false,.lst xs]])) (fun fl st=>match fl with | .nxt=>aSL (cI N (n + 4)) (dropSL 5 f__law_element.body) st (endB (R []) k) | .ret v=>endB (R []) k (.ret v) st)) (by kernel_rfl) ?_
      refine el1 ?_
      exact Eq.mpr (β:=(R []) = (R []) ∧ k (.d (elD nu (.str [117,100,112]) (thingD [169,140,128] [.int sp,thingD [141,130] [.bool false,.lst xs],.tup [a,b]]) (.tup [.int 6,.int 6]))) (R [])) (by kernel_rfl) ⟨rfl,h _ _ (.udp hx hl ha hb sp0 sp1)⟩
    have hrow : ∀ g : Int,(g = 0 ∨ g = 1 ∨ g = 2 ∨ g = 3 ∨ g = 4) → loopF (fun x st k=>aG (cI N (n + 4)) (.loc 164 ⟨724,12,724,16⟩) (.d x) st fun st=>aSL (cI N (n + 4)) rowBody st k) ((List.range g.toNat).map fun (i : Nat)=>D.int i) (elSt nu wide (some (.c L)) (some (.d (.int 2))) (some (.c (L + 1))) none none none none none (R [elT [169] [.int sp],some (.lst [])])) (fun fl st=>match fl with
        | .nxt=>aSL (cI N (n + 4)) (dropSL 2 (match nthS f__law_element.body 4 with | .iff _ a _ _=>a | _=>.nil)) st (fun fl st=>match fl with | .nxt=>aSL (cI N (n + 4)) (dropSL 5 f__law_element.body) st (endB (R []) k) | .ret v=>endB (R []) k (.ret v) st)
        | .ret v=>(match Fl.ret v with | .nxt=>aSL (cI N (n + 4)) (dropSL 5 f__law_element.body) st (endB (R []) k) | .ret v=>endB (R []) k (.ret v) st)):=fun g hg=>by
      refine row_loop hS (xs:=[]) _ (by rcases hg with rfl | rfl | rfl | rfl | rfl <;> decide) (fun _ q=>nomatch q) fun t i xs' h1 h2=>fin t i xs' h1 (by rw [h2]; rcases hg with rfl | rfl | rfl | rfl | rfl <;> decide)
    refine Eq.mpr (β:=(cI N (n + 4)).I 44 [.c 1,.d (.int 5)] (R [elT [169] [.int sp],some (.lst [])]) fun v hp=>match v with
      | .d di=>match rngD di with
        | none=>False
        | some ds=>loopF (fun x st k=>aG (cI N (n + 4)) (.loc 164 ⟨724,12,724,16⟩) (.d x) st fun st=>aSL (cI N (n + 4)) rowBody st k) ds (elSt nu wide (some (.c L)) (some (.d (.int 2))) (some (.c (L + 1))) none none none none none hp) (fun fl st=>match fl with
          | .nxt=>aSL (cI N (n + 4)) (dropSL 2 (match nthS f__law_element.body 4 with | .iff _ a _ _=>a | _=>.nil)) st (fun fl st=>match fl with | .nxt=>aSL (cI N (n + 4)) (dropSL 5 f__law_element.body) st (endB (R []) k) | .ret v=>endB (R []) k (.ret v) st)
          | .ret v=>(match Fl.ret v with | .nxt=>aSL (cI N (n + 4)) (dropSL 5 f__law_element.body) st (endB (R []) k) | .ret v=>endB (R []) k (.ret v) st))
      | .c _=>False) (by kernel_rfl) ?_
    refine pull1 rfl (by decide) (by decide) fun g g0 g1=>?_
    rcases in5 g0 g1 with rfl | rfl | rfl | rfl | rfl
    · exact hrow 0 (by simp)
    · exact hrow 1 (by simp)
    · exact hrow 2 (by simp)
    · exact hrow 3 (by simp)
    · exact hrow 4 (by simp)
theorem elem_gate (hS : Shp L R) (h : ∀ e sp,IsElem nu wide e sp → k (.d e) (R [])) {sp : Int} (sp0 : 0 ≤ sp) (sp1 : sp < wide) {pv : Option V} :
    aSL (cI N (n + 4)) (dropSL 6 f__law_element.body) (elSt nu wide (some (.c L)) pv none none none (some (.d kindT)) none none (R [elT [169] [.int sp]])) (endB (R []) k):=by
  revert h
  apply Shp.go (hS:=hS) <;> clear hS <;> intro x0 x2 x3 x4 x5 x6 x7 x8 x9 y L R hS h
  all_goals
    have h4 : ∀ (ins : List D) (w : Nat) (ks : List Nat) (m : Int),nth kindsL w = some ks → (∀ e ∈ ins,IsInput e) → (w < 6 ∧ (ins.length = 2 ∨ ins.length = 3) ∨ (w = 6 ∨ w = 7) ∧ ins.length = 1 ∨ (8 ≤ w ∧ w ≤ 13) ∧ ins.length = 2 ∨ 14 ≤ w ∧ ins.length = 0) →
        aSL (cI N (n + 4)) (dropSL 12 f__law_element.body) (elSt nu wide (some (.c L)) pv none none none (some (.d kindT)) (some (.d (.int w))) (some (.d (.int m))) (R [elT [169,110,128] [.int sp,.str ks,.tup ins]])) (endB (R []) k):=fun ins w ks m hw hi hl=>by
      refine pull1 rfl (by decide) (by decide) fun s0 s00 s01=>?_
      refine pull1 rfl (by decide) (by decide) fun s1 s10 s11=>?_
      refine el1 ?_
      exact Eq.mpr (β:=(R []) = (R []) ∧ k (.d (elD nu (.str [103,97,116,101]) (thingD [169,110,128] [.int sp,.str ks,.tup ins]) (.tup [.int s0,.int s1]))) (R [])) (by kernel_rfl) ⟨rfl,h _ _ (.gate hw hi hl sp0 sp1 ⟨s00,s01⟩ ⟨s10,s11⟩)⟩
    let B3 : Nat → List Nat → Int → Prop:=fun w ks m=>aSL (cI N (n + 4)) (dropSL 11 f__law_element.body) (elSt nu wide (some (.c L)) pv none none none (some (.d kindT)) (some (.d (.int w))) (some (.d (.int m))) (R [elT [169,110] [.int sp,.str ks]])) (endB (R []) k)
    let B4 : Nat → List Nat → Int → List D → Prop:=fun w ks m ins=>aSL (cI N (n + 4)) (dropSL 12 f__law_element.body) (elSt nu wide (some (.c L)) pv none none none (some (.d kindT)) (some (.d (.int w))) (some (.d (.int m))) (R [elT [169,110,128] [.int sp,.str ks,.tup ins]])) (endB (R []) k)
    have b0 : ∀ (w : Nat) (ks : List Nat),nth kindsL w = some ks → 14 ≤ w → B3 w ks 0:=fun w ks hw hl=>by
      exact Eq.mpr (β:=B4 w ks 0 []) (by kernel_rfl) (h4 [] w ks 0 hw (fun _ q=>nomatch q) (.inr (.inr (.inr ⟨hl,rfl⟩))))
    have b1 : ∀ (w : Nat) (ks : List Nat),nth kindsL w = some ks → (w = 6 ∨ w = 7) → B3 w ks 1:=fun w ks hw hl=>by
      refine input1 rfl fun a ha=>?_
      exact Eq.mpr (β:=B4 w ks 1 [a]) (by kernel_rfl) (h4 [a] w ks 1 hw (by simpa using ha) (.inr (.inl ⟨hl,rfl⟩)))
    have b2 : ∀ (w : Nat) (ks : List Nat),nth kindsL w = some ks → (w < 6 ∨ 8 ≤ w ∧ w ≤ 13) → B3 w ks 2:=fun w ks hw hl=>by
      refine input1 rfl fun a ha=>?_
      refine input1 rfl fun b hb=>?_
      exact Eq.mpr (β:=B4 w ks 2 [a,b]) (by kernel_rfl) (h4 [a,b] w ks 2 hw (by simpa using ⟨ha,hb⟩) (hl.elim (fun q=>.inl ⟨q,.inl rfl⟩) fun q=>.inr (.inr (.inl ⟨q,rfl⟩))))
    have b3 : ∀ (w : Nat) (ks : List Nat),nth kindsL w = some ks → w < 6 → B3 w ks 3:=fun w ks hw hl=>by
      refine input1 rfl fun a ha=>?_
      refine input1 rfl fun b hb=>?_
      refine input1 rfl fun c hc=>?_
      exact Eq.mpr (β:=B4 w ks 3 [a,b,c]) (by kernel_rfl) (h4 [a,b,c] w ks 3 hw (by simpa using ⟨ha,hb,hc⟩) (.inl ⟨hl,.inr rfl⟩))
    have b5 : ∀ (w : Nat) (ks : List Nat),nth kindsL w = some ks → w < 6 → (cI N (n + 4)).I 44 [.c 1,.d (.int 2)] (R [elT [169,110] [.int sp,.str ks]]) fun v hp=>match v with
        | .d (.int g)=>aSL (cI N (n + 4)) (dropSL 11 f__law_element.body) (elSt nu wide (some (.c L)) pv none none none (some (.d kindT)) (some (.d (.int w))) (some (.d (.int (2 + g)))) hp) (endB (R []) k)
        | _=>False:=fun w ks hw hl=>by
      refine pull1 rfl (by decide) (by decide) fun g g0 g1=>?_
      have : g = 0 ∨ g = 1:=or2 g0 g1
      rcases this with rfl | rfl
      · exact b2 w ks hw (.inl hl)
      · exact b3 w ks hw hl
    let B5 : Nat → List Nat → Prop:=fun w ks=>(cI N (n + 4)).I 44 [.c 1,.d (.int 2)] (R [elT [169,110] [.int sp,.str ks]]) fun v hp=>match v with
        | .d (.int g)=>aSL (cI N (n + 4)) (dropSL 11 f__law_element.body) (elSt nu wide (some (.c L)) pv none none none (some (.d kindT)) (some (.d (.int w))) (some (.d (.int (2 + g)))) hp) (endB (R []) k)
        | _=>False
    refine pull1 rfl (by decide) (by decide) fun g g0 g1=>?_
    rcases in16 g0 g1 with rfl | rfl | rfl | rfl | rfl | rfl | rfl | rfl | rfl | rfl | rfl | rfl | rfl | rfl | rfl | rfl
    · exact Eq.mpr (β:=B5 0 [97,110,100]) (by kernel_rfl) (b5 0 _ rfl (by decide))
    · exact Eq.mpr (β:=B5 1 [110,97,110,100]) (by kernel_rfl) (b5 1 _ rfl (by decide))
    · exact Eq.mpr (β:=B5 2 [111,114]) (by kernel_rfl) (b5 2 _ rfl (by decide))
    · exact Eq.mpr (β:=B5 3 [110,111,114]) (by kernel_rfl) (b5 3 _ rfl (by decide))
    · exact Eq.mpr (β:=B5 4 [120,111,114]) (by kernel_rfl) (b5 4 _ rfl (by decide))
    · exact Eq.mpr (β:=B5 5 [120,110,111,114]) (by kernel_rfl) (b5 5 _ rfl (by decide))
    · exact Eq.mpr (β:=B3 6 [98,117,102] 1) (by kernel_rfl) (b1 6 _ rfl (by decide))
    · exact Eq.mpr (β:=B3 7 [110,111,116] 1) (by kernel_rfl) (b1 7 _ rfl (by decide))
    · exact Eq.mpr (β:=B3 8 [98,117,102,105,102,48] 2) (by kernel_rfl) (b2 8 _ rfl (by decide))
    · exact Eq.mpr (β:=B3 9 [98,117,102,105,102,49] 2) (by kernel_rfl) (b2 9 _ rfl (by decide))
    · exact Eq.mpr (β:=B3 10 [110,111,116,105,102,48] 2) (by kernel_rfl) (b2 10 _ rfl (by decide))
    · exact Eq.mpr (β:=B3 11 [110,111,116,105,102,49] 2) (by kernel_rfl) (b2 11 _ rfl (by decide))
    · exact Eq.mpr (β:=B3 12 [110,109,111,115] 2) (by kernel_rfl) (b2 12 _ rfl (by decide))
    · exact Eq.mpr (β:=B3 13 [112,109,111,115] 2) (by kernel_rfl) (b2 13 _ rfl (by decide))
    · exact Eq.mpr (β:=B3 14 [112,117,108,108,117,112] 0) (by kernel_rfl) (b0 14 _ rfl (by decide))
    · exact Eq.mpr (β:=B3 15 [112,117,108,108,100,111,119,110] 0) (by kernel_rfl) (b0 15 _ rfl (by decide))
theorem elem_c (hS : Shp L R) (hw : wide = 1 ∨ wide = 2) (h : ∀ e sp,IsElem nu wide e sp → k (.d e) (R [])) : (cI N (n + 5)).I 49 [.c 1,.d nu,.d (.int wide)] (R []) k:=by
  revert h
  apply Shp.go (hS:=hS) <;> clear hS <;> intro x0 x2 x3 x4 x5 x6 x7 x8 x9 y L R hS h
  all_goals
    refine ⟨rfl,?_⟩
    refine thing_c ?_
    refine pull1 rfl (by omega) (by omega) fun sp sp0 sp1=>?_
    refine Eq.mpr (β:=aSL (cI N (n + 4)) (dropSL 2 f__law_element.body) (elSt nu wide (some (.c L)) none none none none none none none (R [elT [169] [.int sp]])) (endB (R []) k)) (by kernel_rfl) ?_
    refine pull1 rfl (by decide) (by decide) fun pick p0 p1=>?_
    have hc : (pick = 0 ∨ pick = 1) ∨ pick = 2 ∨ (pick = 3 ∨ pick = 4 ∨ pick = 5):=fin_or (P:=fun p=>(p = 0 ∨ p = 1) ∨ p = 2 ∨ (p = 3 ∨ p = 4 ∨ p = 5)) 6 (by decide) p0 p1
    rcases hc with (rfl | rfl) | rfl | (rfl | rfl | rfl)
    · refine term1 rfl fun t ht=>?_
      refine pull1 rfl (by decide) (by decide) fun s0 s00 s01=>?_
      refine pull1 rfl (by decide) (by decide) fun s1 s10 s11=>?_
      refine el1 ?_
      exact Eq.mpr (β:=(R []) = (R []) ∧ k (.d (elD nu (.str [97,115,115,105,103,110]) (thingD [169,90] [.int sp,slcE wide t 0]) (.tup [.int s0,.int s1]))) (R [])) (by kernel_rfl) ⟨rfl,h _ _ (.asg ht sp0 sp1 ⟨s00,s01⟩ ⟨s10,s11⟩)⟩
    · refine term1 rfl fun t ht=>?_
      refine pull1 rfl (by decide) (by decide) fun s0 s00 s01=>?_
      refine pull1 rfl (by decide) (by decide) fun s1 s10 s11=>?_
      refine el1 ?_
      exact Eq.mpr (β:=(R []) = (R []) ∧ k (.d (elD nu (.str [97,115,115,105,103,110]) (thingD [169,90] [.int sp,slcE wide t 0]) (.tup [.int s0,.int s1]))) (R [])) (by kernel_rfl) ⟨rfl,h _ _ (.asg ht sp0 sp1 ⟨s00,s01⟩ ⟨s10,s11⟩)⟩
    · exact elem_udp hS h sp0 sp1
    · exact Eq.mpr (β:=aSL (cI N (n + 4)) (dropSL 6 f__law_element.body) (elSt nu wide (some (.c L)) (some (.d (.int 3))) none none none (some (.d kindT)) none none (R [elT [169] [.int sp]])) (endB (R []) k)) (by kernel_rfl) (elem_gate hS h sp0 sp1)
    · exact Eq.mpr (β:=aSL (cI N (n + 4)) (dropSL 6 f__law_element.body) (elSt nu wide (some (.c L)) (some (.d (.int 4))) none none none (some (.d kindT)) none none (R [elT [169] [.int sp]])) (endB (R []) k)) (by kernel_rfl) (elem_gate hS h sp0 sp1)
    · exact Eq.mpr (β:=aSL (cI N (n + 4)) (dropSL 6 f__law_element.body) (elSt nu wide (some (.c L)) (some (.d (.int 5))) none none none (some (.d kindT)) none none (R [elT [169] [.int sp]])) (endB (R []) k)) (by kernel_rfl) (elem_gate hS h sp0 sp1)
end
end
end Mine
end
section
open PySem.Spec
set_option maxHeartbeats 1000000
namespace Mine
noncomputable section
noncomputable def cE (k : Nat) : Cfg Prop:=⟨False,noTab,mTab,fun f vs hp K=>∃ ds r,allD vs = some ds ∧ Ev k f ds r ∧ K (.d r) hp⟩
theorem stepE {k j f : Nat} {ds : List D} {r : D} {vs : List V} {hp : Hp} {K : V → Hp → Prop} (h : Ev j f ds r) (hj : j ≤ k) (he : allD vs = some ds) (q : K (.d r) hp) : (cE k).I f vs hp K:=⟨ds,r,he,h.up hj,q⟩
theorem ev_hom (k : Nat) (x : D) : Hom (fun (p : Prop) (o : Option D)=>p → o = some x) (cE k) (cO (pk k) mTab) :=
  ⟨fun e=>e.elim,fun f vs ds hp k1 k2 hvs hk e=>(by
    obtain ⟨ds',r,he,hr,q⟩:=(show ∃ ds r,allD vs = some ds ∧ Ev k f ds r ∧ k1 (.d r) hp from e)
    rw [hvs] at he; obtain rfl:=Option.some.inj he
    have hr : pk k f ds = some r:=hr
    show (match pk k f ds with | some r=>k2 (.d r) hp | none=>none) = some x
    rw [hr]
    exact hk _ _ q),fun _ _=>rfl,fun f vs hp k1 k2 hvs hk e=>(by
    obtain ⟨ds',r,he,_⟩:=(show ∃ ds r,allD vs = some ds ∧ Ev k f ds r ∧ k1 (.d r) hp from e)
    rw [hvs] at he; exact nope he)⟩
theorem Ev.ofP {k f : Nat} {fi : FI} {ds : List D} {x : D} (hf : nth fiL f = some fi) (hl : Nat.beq ds.length fi.pars.length = true) (h : aSL (cE k) fi.body (startOf fi (ds.map .d) []) fun fl _=>fl = .ret (.d x)) : Ev (k + 1) f ds x:=by
  unfold Ev pk
  rw [hf]
  show runO (pk k) mTab fi ds = some x
  unfold runO
  rw [hl]
  refine aSL_h (ev_hom k x) fi.body (startOf fi (ds.map .d) []) (k1:=fun fl _=>fl = .ret (.d x)) (k2:=fun fl _=>endO fl) (fun fl st e=>?_) h
  subst e; rfl
theorem map_at {α β : Type} {l : List α} {f g : α → β} (h : l.map f = l.map g) {a : α} (ha : a ∈ l) : f a = g a:=List.map_inj_left.mp h a ha
inductive Facts (k : Nat) : List Note → Prop
  | nil : Facts k []
  | cons {j f : Nat} {ds : List D} {r : D} {l : List Note} (h : Ev j f ds r) (hj : j ≤ k) (t : Facts k l) : Facts k ((f,ds,r) :: l)
theorem Facts.all {k : Nat} {l : List Note} (h : Facts k l) : ∀ q ∈ l,Ev k q.1 q.2.1 q.2.2:=by
  induction h with
  | nil=>exact fun _ q=>nomatch q
  | cons h hj _ ih =>
    intro q hq
    rcases List.mem_cons.mp hq with rfl | hq
    · exact h.up hj
    · exact ih q hq
noncomputable abbrev RF:=List D → Option (List Note × Fl × St)
noncomputable def cF : Cfg RF:=⟨fun _=>none,noTab,mTab,fun f vs hp k script=>match script with
  | []=>none
  | r :: rest=>match allD vs with
    | some ds=>match k (.d r) hp rest with
      | some (log,x)=>some ((f,ds,r) :: log,x)
      | none=>none
    | none=>none⟩
noncomputable def endF (fl : Fl) (st : St) : RF:=fun script=>match script with
  | []=>some ([],fl,st)
  | _ :: _=>none
theorem cF_hom (k : Nat) (K : Fl → St → Prop) : Hom (fun (a : RF) (P : Prop)=>∀ script log fl st,a script = some (log,fl,st) → (∀ q ∈ log,Ev k q.1 q.2.1 q.2.2) → K fl st → P) cF (cE k) :=
  ⟨fun script log fl st e=>(by exact nope e),fun f vs ds hp k1 k2 hvs hk script log fl st e hl hK=>(by
    have e : (match (generalizing:=false) script with
      | []=>none
      | r :: rest=>match allD vs with
        | some ds=>match k1 (.d r) hp rest with
          | some (log,x)=>some ((f,ds,r) :: log,x)
          | none=>none
        | none=>none) = some (log,fl,st):=e
    show ∃ ds r,allD vs = some ds ∧ Ev k f ds r ∧ k2 (.d r) hp
    cases script with
    | nil=>exact nope e
    | cons r rest =>
      dsimp only at e
      rw [hvs] at e
      dsimp only at e
      split at e
      · rename_i log' x' h'
        cases e
        exact ⟨ds,r,hvs,hl _ (.head _),hk _ _ rest log' fl st h' (fun q hq=>hl q (.tail _ hq)) hK⟩
      · exact nope e),fun _ _=>rfl,fun f vs hp k1 k2 hvs hk script log fl st e hl hK=>(by
    have e : (match (generalizing:=false) script with
      | []=>none
      | r :: rest=>match allD vs with
        | some ds=>match k1 (.d r) hp rest with
          | some (log,x)=>some ((f,ds,r) :: log,x)
          | none=>none
        | none=>none) = some (log,fl,st):=e
    rw [hvs] at e
    cases script <;> exact nope e)⟩
theorem log_to {k : Nat} {b : SL} {st st' : St} {fl : Fl} {log : List Note} {K : Fl → St → Prop} (F : Facts k log) (h : aSL cF b st endF (log.map fun q=>q.2.2) = some (log,fl,st')) (hK : K fl st') : aSL (cE k) b st K :=
  aSL_h (cF_hom k K) b st (k1:=endF) (k2:=K) (fun fl st script log fl' st' e _ hK=>by
    cases script with
    | nil=>cases e; exact hK
    | cons _ _=>exact nope e) _ log fl st' h F.all hK
theorem Ev.ofL {k f : Nat} {fi : FI} {ds : List D} {log : List Note} {x : D} (hf : nth fiL f = some fi) (hl : Nat.beq ds.length fi.pars.length = true) (F : Facts k log) (h : runL fi ds (log.map fun q=>q.2.2) = some (log,x)) : Ev (k + 1) f ds x:=Ev.of hf hl h F.all
theorem Ev.of0 {k f : Nat} {fi : FI} {ds : List D} {x : D} (hf : nth fiL f = some fi) (hl : Nat.beq ds.length fi.pars.length = true) (h : runL fi ds [] = some ([],x)) : Ev (k + 1) f ds x:=Ev.of hf hl h fun _ q=>nomatch q
theorem mask1 : Ev 1 0 [.int 1] (.int 1):=.of0 (fi:=f_mask) rfl rfl (by kernel_rfl)
theorem mask2 : Ev 1 0 [.int 2] (.int 3):=.of0 (fi:=f_mask) rfl rfl (by kernel_rfl)
theorem zx (w a b : Int) : Ev 1 4 [.tup [.int w,.int a,.int b]] (.tup [.int w,.int (Builtin.bitOr a b),.int b]):=.of0 (fi:=f_z_to_x) rfl rfl (by kernel_rfl)
theorem and_ev (a b c d : Int) : Ev 2 6 [.tup [.int 2,.int a,.int b],.tup [.int 2,.int c,.int d]] (.tup [.int 2,.int (Builtin.bitAnd (Builtin.bitOr a b) (Builtin.bitOr c d)),.int (Builtin.bitAnd (Builtin.bitAnd (Builtin.bitOr a b) (Builtin.bitOr c d)) (Builtin.bitOr b d))]):=by
  refine Ev.ofP (k:=1) (fi:=f_bit_and) rfl rfl ?_
  refine stepE (zx 2 a b) (Nat.le_refl _) rfl ?_
  refine stepE (zx 2 c d) (Nat.le_refl _) rfl ?_
  exact Eq.mpr (β:=(Fl.ret (.d (.tup [.int 2,.int (Builtin.bitAnd (Builtin.bitOr a b) (Builtin.bitOr c d)),.int (Builtin.bitAnd (Builtin.bitAnd (Builtin.bitOr a b) (Builtin.bitOr c d)) (Builtin.bitOr b d))])) = .ret (.d (.tup [.int 2,.int (Builtin.bitAnd (Builtin.bitOr a b) (Builtin.bitOr c d)),.int (Builtin.bitAnd (Builtin.bitAnd (Builtin.bitOr a b) (Builtin.bitOr c d)) (Builtin.bitOr b d))])))) (by kernel_rfl) rfl
theorem or_ev (a b c d : Int) : Ev 2 7 [.tup [.int 2,.int a,.int b],.tup [.int 2,.int c,.int d]] (.tup [.int 2,.int (Builtin.bitOr (Builtin.bitOr a b) (Builtin.bitOr c d)),.int (Builtin.bitXor (Builtin.bitOr (Builtin.bitOr a b) (Builtin.bitOr c d)) (Builtin.bitOr (Builtin.bitAnd (Builtin.bitOr a b) (Builtin.bitXor b 3)) (Builtin.bitAnd (Builtin.bitOr c d) (Builtin.bitXor d 3))))]):=by
  refine Ev.ofP (k:=1) (fi:=f_bit_or) rfl rfl ?_
  refine stepE (zx 2 a b) (Nat.le_refl _) rfl ?_
  refine stepE (zx 2 c d) (Nat.le_refl _) rfl ?_
  refine stepE mask2 (Nat.le_refl _) rfl ?_
  refine stepE mask2 (Nat.le_refl _) rfl ?_
  exact rfl
theorem xor_ev (a b c d : Int) : Ev 2 8 [.tup [.int 2,.int a,.int b],.tup [.int 2,.int c,.int d]] (.tup [.int 2,.int (Builtin.bitOr (Builtin.bitXor a c) (Builtin.bitOr b d)),.int (Builtin.bitOr b d)]):=.of0 (fi:=f_bit_xor) rfl rfl (by kernel_rfl)
noncomputable def eqI2 (x y z w : Int) : Bool:=x == z && y == w
theorem eqI2_ok {x y z w : Int} (h : eqI2 x y z w = true) : D.tup [.int 2,.int x,.int y] = .tup [.int 2,.int z,.int w]:=by
  unfold eqI2 at h
  rw [Bool.and_eq_true] at h
  rw [beq_iff_eq.mp h.1,beq_iff_eq.mp h.2]
noncomputable def vA (c0 c1 : Int) : Int:=c0.fmod 2 + 2 * (c1.fmod 2)
noncomputable def vB (c0 c1 : Int) : Int:=c0.fdiv 2 + 2 * (c1.fdiv 2)
theorem op_B : (C4.all fun p=>C4.all fun q=>C4.all fun r=>C4.all fun s =>
    eqI2 (Builtin.bitAnd (Builtin.bitOr (vA p q) (vB p q)) (Builtin.bitOr (vA r s) (vB r s))) (Builtin.bitAnd (Builtin.bitAnd (Builtin.bitOr (vA p q) (vB p q)) (Builtin.bitOr (vA r s) (vB r s))) (Builtin.bitOr (vB p q) (vB r s))) (vA (andC p r) (andC q s)) (vB (andC p r) (andC q s)) &&
    eqI2 (Builtin.bitOr (Builtin.bitOr (vA p q) (vB p q)) (Builtin.bitOr (vA r s) (vB r s))) (Builtin.bitXor (Builtin.bitOr (Builtin.bitOr (vA p q) (vB p q)) (Builtin.bitOr (vA r s) (vB r s))) (Builtin.bitOr (Builtin.bitAnd (Builtin.bitOr (vA p q) (vB p q)) (Builtin.bitXor (vB p q) 3)) (Builtin.bitAnd (Builtin.bitOr (vA r s) (vB r s)) (Builtin.bitXor (vB r s) 3)))) (vA (orC p r) (orC q s)) (vB (orC p r) (orC q s)) &&
    eqI2 (Builtin.bitOr (Builtin.bitXor (vA p q) (vA r s)) (Builtin.bitOr (vB p q) (vB r s))) (Builtin.bitOr (vB p q) (vB r s)) (vA (xorC p r) (xorC q s)) (vB (xorC p r) (xorC q s))) = true:=by kernel_rfl
theorem op_row {op f : Nat} (hf : op = 38 ∧ f = 6 ∨ op = 124 ∧ f = 7 ∨ op = 94 ∧ f = 8) {p q r s : Int} (hp : Cd p) (hq : Cd q) (hr : Cd r) (hs : Cd s) : Ev 2 f [vecD p q,vecD r s] (vecD (opC op p r) (opC op q s)):=by
  have h:=all4 (all4 (all4 (all4 op_B hp) hq) hr) hs
  rw [Bool.and_eq_true,Bool.and_eq_true] at h
  rcases hf with ⟨rfl,rfl⟩ | ⟨rfl,rfl⟩ | ⟨rfl,rfl⟩
  · have:=and_ev (vA p q) (vB p q) (vA r s) (vB r s)
    rw [eqI2_ok h.1.1] at this
    exact this
  · have:=or_ev (vA p q) (vB p q) (vA r s) (vB r s)
    rw [eqI2_ok h.1.2] at this
    exact this
  · have:=xor_ev (vA p q) (vB p q) (vA r s) (vB r s)
    rw [eqI2_ok h.2] at this
    exact this
theorem arith_none {op : Nat} (hf : op = 38 ∨ op = 124 ∨ op = 94) (u v : D) : Ev 1 10 [.str [op],u,v,.bool false] .none:=by
  rcases hf with rfl | rfl | rfl <;> exact .of0 (fi:=f_arithmetic) rfl rfl (by kernel_rfl)
theorem compar_none {op : Nat} (hf : op = 38 ∨ op = 124 ∨ op = 94) (u v : D) : Ev 1 11 [.str [op],u,v,.bool false] .none:=by
  rcases hf with rfl | rfl | rfl <;> exact .of0 (fi:=f_comparison) rfl rfl (by kernel_rfl)
theorem bitwise_ev {op f : Nat} (hf : op = 38 ∧ f = 6 ∨ op = 124 ∧ f = 7 ∨ op = 94 ∧ f = 8) {u v r : D} (h : Ev 2 f [u,v] r) : Ev 3 12 [.str [op],u,v] r:=by
  rcases hf with ⟨rfl,rfl⟩ | ⟨rfl,rfl⟩ | ⟨rfl,rfl⟩ <;>
  · refine Ev.ofP (k:=2) (fi:=f_bitwise) rfl rfl ?_
    refine stepE h (Nat.le_refl _) rfl ?_
    exact rfl
theorem op3 {op f : Nat} (hf : op = 38 ∧ f = 6 ∨ op = 124 ∧ f = 7 ∨ op = 94 ∧ f = 8) : op = 38 ∨ op = 124 ∨ op = 94:=hf.imp And.left (Or.imp And.left And.left)
theorem binary_ev {op f : Nat} (hf : op = 38 ∧ f = 6 ∨ op = 124 ∧ f = 7 ∨ op = 94 ∧ f = 8) {p q : Int} {u v : D} (h : Ev 2 f [u,v] (vecD p q)) : Ev 4 13 [.str [op],u,v,.bool false] (vecD p q):=by
  exact Ev.ofL (k:=3) (fi:=f_binary) rfl rfl (.cons (arith_none (op3 hf) u v) (by decide) (.cons (compar_none (op3 hf) u v) (by decide) (.cons (bitwise_ev hf h) (by decide) .nil))) (by kernel_rfl)
theorem truth_row {p q : Int} (hp : Cd p) (hq : Cd q) : Ev 2 5 [vecD p q] (.int (truC p q)):=(all4 (all4 truth_B hp) hq |> isEv.ok)
theorem choose_ev {u : D} (h : Ev 2 5 [u] (.int 3)) (a b c d : Int) : Ev 3 9 [u,.tup [.int 2,.int a,.int b],.tup [.int 2,.int c,.int d]]
    (.tup [.int 2,.int (Builtin.bitOr (Builtin.bitAnd a (Builtin.bitXor 3 (Builtin.bitOr (Builtin.bitOr (Builtin.bitXor a c) b) d))) (Builtin.bitXor 3 (Builtin.bitXor 3 (Builtin.bitOr (Builtin.bitOr (Builtin.bitXor a c) b) d)))),.int (Builtin.bitXor 3 (Builtin.bitXor 3 (Builtin.bitOr (Builtin.bitOr (Builtin.bitXor a c) b) d)))]):=by
  refine Ev.ofP (k:=2) (fi:=f_choose) rfl rfl ?_
  refine stepE h (Nat.le_refl _) rfl ?_
  refine stepE mask2 (by decide) rfl ?_
  refine stepE mask2 (by decide) rfl ?_
  exact rfl
theorem pick_B : (C4.all fun p=>C4.all fun q=>C4.all fun r=>C4.all fun s =>
    eqI2 (Builtin.bitOr (Builtin.bitAnd (vA p q) (Builtin.bitXor 3 (Builtin.bitOr (Builtin.bitOr (Builtin.bitXor (vA p q) (vA r s)) (vB p q)) (vB r s)))) (Builtin.bitXor 3 (Builtin.bitXor 3 (Builtin.bitOr (Builtin.bitOr (Builtin.bitXor (vA p q) (vA r s)) (vB p q)) (vB r s))))) (Builtin.bitXor 3 (Builtin.bitXor 3 (Builtin.bitOr (Builtin.bitOr (Builtin.bitXor (vA p q) (vA r s)) (vB p q)) (vB r s)))) (vA (pickC p r) (pickC q s)) (vB (pickC p r) (pickC q s))) = true:=by kernel_rfl
theorem choose_row {u : D} (h : Ev 2 5 [u] (.int 3)) {p q r s : Int} (hp : Cd p) (hq : Cd q) (hr : Cd r) (hs : Cd s) : Ev 3 9 [u,vecD p q,vecD r s] (vecD (pickC p r) (pickC q s)):=by
  have h2:=all4 (all4 (all4 (all4 pick_B hp) hq) hr) hs
  have:=choose_ev h (vA p q) (vB p q) (vA r s) (vB r s)
  rw [eqI2_ok h2] at this
  exact this
theorem slice_B : (C4.all fun p=>C4.all fun q=>isEv 2 3 [vecD p q,.int 0,.int 1] (vec1 p) && isEv 2 3 [vecD p q,.int 1,.int 1] (vec1 q) && isEv 2 3 [vecD p q,.int 0,.int 2] (vecD p q)) = true:=by kernel_rfl
end
end Mine
end
section
open PySem.Spec
set_option maxHeartbeats 2000000
namespace Mine
noncomputable section
theorem o2p_hom (k : Nat) (x : D) : Hom (fun (o : Option D) (p : Prop)=>o = some x → p) (cO noTab mTab) (cE k) :=
  ⟨fun e=>(by exact nope e),fun f vs ds hp k1 k2 _ _ e=>(by exact nope e),fun _ _=>rfl,fun f vs hp k1 k2 _ _ e=>(by exact nope e)⟩
theorem o2p {k : Nat} {b : SL} {st : St} {x : D} {K : Fl → St → Prop} (h : aSL (cO noTab mTab) b st (fun fl _=>endO fl) = some x) (hK : ∀ st,K (.ret (.d x)) st) : aSL (cE k) b st K:=by
  refine aSL_h (o2p_hom k x) b st (k1:=fun fl _=>endO fl) (fun fl st e=>?_) h
  cases fl with
  | nxt=>exact nope e
  | ret v =>
    cases v with
    | d y=>cases e; exact hK st
    | c _=>exact nope e
noncomputable def isO (o : Option D) (r : D) : Bool:=match o with
  | some x=>D.beq x r
  | none=>false
theorem isO.ok {o : Option D} {r : D} (h : isO o r = true) : o = some r:=by
  unfold isO at h
  split at h
  · rw [D.beq_eq _ _ h]
  · exact nof h
theorem cd4 {c : Int} (h : Cd c) : c = 0 ∨ c = 1 ∨ c = 2 ∨ c = 3:=h
noncomputable def SgOk (s0 s1 s2 : Int × Int) : Prop:=(Cd s0.1 ∧ Cd s0.2) ∧ (Cd s1.1 ∧ Cd s1.2) ∧ Cd s2.1 ∧ Cd s2.2
section
variable {s0 s1 s2 : Int × Int}
theorem sig_ev {e : D} (h : IsSig e) (hs : SgOk s0 s1 s2) : ∃ p q,Cd p ∧ Cd q ∧ Ev 1 15 [e,ctxD (sgD s0 s1 s2)] (vecD p q) ∧ Ev 1 50 [e,sgD s0 s1 s2] (rowD p q):=by
  obtain ⟨i,hi,rfl⟩:=h
  obtain ⟨⟨h1,h2⟩,⟨h3,h4⟩,h5,h6⟩:=hs
  rcases hi with rfl | rfl | rfl
  · exact ⟨_,_,h1,h2,.of0 (fi:=f_evaluate) rfl rfl (by kernel_rfl),.of0 (fi:=f__law_row) rfl rfl (by kernel_rfl)⟩
  · exact ⟨_,_,h3,h4,.of0 (fi:=f_evaluate) rfl rfl (by kernel_rfl),.of0 (fi:=f__law_row) rfl rfl (by kernel_rfl)⟩
  · exact ⟨_,_,h5,h6,.of0 (fi:=f_evaluate) rfl rfl (by kernel_rfl),.of0 (fi:=f__law_row) rfl rfl (by kernel_rfl)⟩
theorem con_ev {a b : Int} (ha : Cd a) (hb : Cd b) (ctx sg : D) : ∃ p q,Cd p ∧ Cd q ∧ Ev 1 15 [constE a b,ctx] (vecD p q) ∧ Ev 1 50 [constE a b,sg] (rowD p q):=by
  rcases cd4 ha with rfl | rfl | rfl | rfl <;> rcases cd4 hb with rfl | rfl | rfl | rfl
  · exact ⟨0,0,by simp [Cd],by simp [Cd],.of0 (fi:=f_evaluate) rfl rfl (by kernel_rfl),.of0 (fi:=f__law_row) rfl rfl (by kernel_rfl)⟩
  · exact ⟨2,0,by simp [Cd],by simp [Cd],.of0 (fi:=f_evaluate) rfl rfl (by kernel_rfl),.of0 (fi:=f__law_row) rfl rfl (by kernel_rfl)⟩
  · exact ⟨0,2,by simp [Cd],by simp [Cd],.of0 (fi:=f_evaluate) rfl rfl (by kernel_rfl),.of0 (fi:=f__law_row) rfl rfl (by kernel_rfl)⟩
  · exact ⟨2,2,by simp [Cd],by simp [Cd],.of0 (fi:=f_evaluate) rfl rfl (by kernel_rfl),.of0 (fi:=f__law_row) rfl rfl (by kernel_rfl)⟩
  · exact ⟨1,0,by simp [Cd],by simp [Cd],.of0 (fi:=f_evaluate) rfl rfl (by kernel_rfl),.of0 (fi:=f__law_row) rfl rfl (by kernel_rfl)⟩
  · exact ⟨3,0,by simp [Cd],by simp [Cd],.of0 (fi:=f_evaluate) rfl rfl (by kernel_rfl),.of0 (fi:=f__law_row) rfl rfl (by kernel_rfl)⟩
  · exact ⟨1,2,by simp [Cd],by simp [Cd],.of0 (fi:=f_evaluate) rfl rfl (by kernel_rfl),.of0 (fi:=f__law_row) rfl rfl (by kernel_rfl)⟩
  · exact ⟨3,2,by simp [Cd],by simp [Cd],.of0 (fi:=f_evaluate) rfl rfl (by kernel_rfl),.of0 (fi:=f__law_row) rfl rfl (by kernel_rfl)⟩
  · exact ⟨0,1,by simp [Cd],by simp [Cd],.of0 (fi:=f_evaluate) rfl rfl (by kernel_rfl),.of0 (fi:=f__law_row) rfl rfl (by kernel_rfl)⟩
  · exact ⟨2,1,by simp [Cd],by simp [Cd],.of0 (fi:=f_evaluate) rfl rfl (by kernel_rfl),.of0 (fi:=f__law_row) rfl rfl (by kernel_rfl)⟩
  · exact ⟨0,3,by simp [Cd],by simp [Cd],.of0 (fi:=f_evaluate) rfl rfl (by kernel_rfl),.of0 (fi:=f__law_row) rfl rfl (by kernel_rfl)⟩
  · exact ⟨2,3,by simp [Cd],by simp [Cd],.of0 (fi:=f_evaluate) rfl rfl (by kernel_rfl),.of0 (fi:=f__law_row) rfl rfl (by kernel_rfl)⟩
  · exact ⟨1,1,by simp [Cd],by simp [Cd],.of0 (fi:=f_evaluate) rfl rfl (by kernel_rfl),.of0 (fi:=f__law_row) rfl rfl (by kernel_rfl)⟩
  · exact ⟨3,1,by simp [Cd],by simp [Cd],.of0 (fi:=f_evaluate) rfl rfl (by kernel_rfl),.of0 (fi:=f__law_row) rfl rfl (by kernel_rfl)⟩
  · exact ⟨1,3,by simp [Cd],by simp [Cd],.of0 (fi:=f_evaluate) rfl rfl (by kernel_rfl),.of0 (fi:=f__law_row) rfl rfl (by kernel_rfl)⟩
  · exact ⟨3,3,by simp [Cd],by simp [Cd],.of0 (fi:=f_evaluate) rfl rfl (by kernel_rfl),.of0 (fi:=f__law_row) rfl rfl (by kernel_rfl)⟩
noncomputable def rwSt (e first second : Option V) (sg : D) (i known found seen a b : Option V) (hp : Hp) : St:={ loc:=[(172,some (.d sg)),(65,i),(95,known),(88,found),(170,seen),(68,a),(69,b)],cel:=[(93,e),(71,first),(171,second)],gl:=[193,156,50,51,76,77],hp:=hp }
noncomputable def condB : SL:=match nthS f__law_row.body 3 with | .iff _ a _ _=>a | _=>.nil
theorem pick_O (e sg kn : D) : (C4.all fun f0=>C4.all fun f1=>C4.all fun s0=>C4.all fun s1=>isO (aSL (cO noTab mTab) (dropSL 5 condB) (rwSt (some (.d e)) (some (.d (rowD f0 f1))) (some (.d (rowD s0 s1))) sg none (some (.d kn)) none none none none []) fun fl _=>endO fl) (rowD (pickC f0 s0) (pickC f1 s1))) = true:=by kernel_rfl
noncomputable def takeSL : Nat → SL → SL
  | 0,_=>.nil
  | _ + 1,.nil=>.nil
  | n + 1,.cons x r=>.cons x (takeSL n r)
theorem cE_mono (k : Nat) : MonoI (cE k):=fun _ _ _ _ _ hk ⟨ds,r,a,b,q⟩=>⟨ds,r,a,b,hk _ _ q⟩
theorem aSL_split {c : Cfg Prop} (hm : MonoI c) : ∀ (n : Nat) (b : SL) {st : St} {K : Fl → St → Prop},aSL c (takeSL n b) st (fun fl st=>match fl with
    | .nxt=>aSL c (dropSL n b) st K
    | .ret v=>K (.ret v) st) → aSL c b st K
  | 0,_,_,_,h=>h
  | _ + 1,.nil,_,_,h=>h
  | n + 1,.cons x r,st,K,h=>by
    have h : aSL c (.cons x (takeSL n r)) st (fun fl st=>match fl with
      | .nxt=>aSL c (dropSL n r) st K
      | .ret v=>K (.ret v) st):=h
    rw [qSL_cons] at h ⊢
    refine aS_h hm.hom x st (fun fl st' h=>?_) h
    cases fl with
    | nxt=>exact aSL_split hm n r h
    | ret v=>exact h
noncomputable abbrev cdL (x y z sg : D) (p q a b c d : Int) : List Note:=[(50,[x,sg],rowD p q),(50,[y,sg],rowD a b),(50,[z,sg],rowD c d)]
theorem cond_row {x y z sg : D} {p q a b c d : Int} (hp : Cd p) (hq : Cd q) (ha : Cd a) (hb : Cd b) (hc : Cd c) (hd : Cd d) (hx : Ev 1 50 [x,sg] (rowD p q)) (hy : Ev 1 50 [y,sg] (rowD a b)) (hz : Ev 1 50 [z,sg] (rowD c d)) :
    Ev 2 50 [condE x y z,sg] (if truC p q = 1 then rowD a b else if truC p q = 0 then rowD c d else rowD (pickC a c) (pickC b d)):=by
  have F : Facts 1 (cdL x y z sg p q a b c d):=.cons hx (by decide) (.cons hy (by decide) (.cons hz (by decide) .nil))
  have fin : aSL cF (takeSL 5 condB) (rwSt (some (.d (condE x y z))) none none sg none none none none none none []) endF ((cdL x y z sg p q a b c d).map fun z=>z.2.2) = some (cdL x y z sg p q a b c d,.nxt,rwSt (some (.d (condE x y z))) (some (.d (rowD a b))) (some (.d (rowD c d))) sg none (some (.d (rowD p q))) none none none none []) → Ev 2 50 [condE x y z,sg] (rowD (pickC a c) (pickC b d)):=fun h=>by
    refine Ev.ofP (k:=1) (fi:=f__law_row) rfl rfl ?_
    refine Eq.mpr (β:=aSL (cE 1) condB (rwSt (some (.d (condE x y z))) none none sg none none none none none none []) (fun fl st=>match fl with | .nxt=>aSL (cE 1) (dropSL 4 f__law_row.body) st (fun fl _=>fl = .ret (.d (rowD (pickC a c) (pickC b d)))) | .ret v=>(Fl.ret v) = .ret (.d (rowD (pickC a c) (pickC b d))))) (by kernel_rfl) ?_
    refine aSL_split (cE_mono 1) 5 condB (log_to F h ?_)
    exact o2p (isO.ok (all4 (all4 (all4 (all4 (pick_O (condE x y z) sg (rowD p q)) ha) hb) hc) hd)) fun _=>rfl
  rcases cd4 hp with rfl | rfl | rfl | rfl <;> rcases cd4 hq with rfl | rfl | rfl | rfl
  · exact Ev.ofL (fi:=f__law_row) rfl rfl F (by kernel_rfl)
  · exact Ev.ofL (fi:=f__law_row) rfl rfl F (by kernel_rfl)
  · exact fin (by kernel_rfl)
  · exact fin (by kernel_rfl)
  · exact Ev.ofL (fi:=f__law_row) rfl rfl F (by kernel_rfl)
  · exact Ev.ofL (fi:=f__law_row) rfl rfl F (by kernel_rfl)
  · exact Ev.ofL (fi:=f__law_row) rfl rfl F (by kernel_rfl)
  · exact Ev.ofL (fi:=f__law_row) rfl rfl F (by kernel_rfl)
  · exact fin (by kernel_rfl)
  · exact Ev.ofL (fi:=f__law_row) rfl rfl F (by kernel_rfl)
  · exact fin (by kernel_rfl)
  · exact fin (by kernel_rfl)
  · exact fin (by kernel_rfl)
  · exact Ev.ofL (fi:=f__law_row) rfl rfl F (by kernel_rfl)
  · exact fin (by kernel_rfl)
  · exact fin (by kernel_rfl)
theorem cond_ev {x y z ctx : D} {p q a b c d : Int} (hp : Cd p) (hq : Cd q) (ha : Cd a) (hb : Cd b) (hc : Cd c) (hd : Cd d) (hx : Ev 1 15 [x,ctx] (vecD p q)) (hy : Ev 1 15 [y,ctx] (vecD a b)) (hz : Ev 1 15 [z,ctx] (vecD c d)) :
    Ev 5 15 [condE x y z,ctx] (if truC p q = 1 then vecD a b else if truC p q = 0 then vecD c d else vecD (pickC a c) (pickC b d)):=by
  have h14 : Ev 4 14 [condE x y z,ctx] (if truC p q = 1 then vecD a b else if truC p q = 0 then vecD c d else vecD (pickC a c) (pickC b d)):=by
    have ht:=truth_row hp hq
    have hc3 : truC p q = 1 ∨ truC p q = 0 ∨ truC p q = 3:=by
      rcases cd4 hp with rfl | rfl | rfl | rfl <;> rcases cd4 hq with rfl | rfl | rfl | rfl <;> decide
    rcases hc3 with e | e | e <;> rw [e] at ht ⊢
    · exact Ev.ofL (k:=3) (fi:=f_conditional) rfl rfl (.cons hx (by decide) (.cons ht (by decide) (.cons hy (by decide) .nil))) (by kernel_rfl)
    · exact Ev.ofL (k:=3) (fi:=f_conditional) rfl rfl (.cons hx (by decide) (.cons ht (by decide) (.cons hz (by decide) .nil))) (by kernel_rfl)
    · exact Ev.ofL (k:=3) (fi:=f_conditional) rfl rfl (.cons hx (by decide) (.cons ht (by decide) (.cons hy (by decide) (.cons hz (by decide) (.cons (choose_row ht ha hb hc hd) (by decide) .nil))))) (by kernel_rfl)
  exact Ev.ofL (k:=4) (fi:=f_evaluate) rfl rfl (.cons h14 (by decide) .nil) (by kernel_rfl)
theorem bin_ev {op : Nat} (ho : op = 38 ∨ op = 124 ∨ op = 94) {x y ctx : D} {p q r s : Int} (hp : Cd p) (hq : Cd q) (hr : Cd r) (hs : Cd s) (hx : Ev 1 15 [x,ctx] (vecD p q)) (hy : Ev 1 15 [y,ctx] (vecD r s)) :
    Ev 5 15 [binE op x y,ctx] (vecD (opC op p r) (opC op q s)):=by
  have hf : ∃ f,op = 38 ∧ f = 6 ∨ op = 124 ∧ f = 7 ∨ op = 94 ∧ f = 8:=by
    rcases ho with rfl | rfl | rfl
    · exact ⟨6,.inl ⟨rfl,rfl⟩⟩
    · exact ⟨7,.inr (.inl ⟨rfl,rfl⟩)⟩
    · exact ⟨8,.inr (.inr ⟨rfl,rfl⟩)⟩
  obtain ⟨f,hf⟩:=hf
  exact Ev.ofL (k:=4) (fi:=f_evaluate) rfl rfl (.cons hx (by decide) (.cons hy (by decide) (.cons (binary_ev hf (op_row hf hp hq hr hs)) (by decide) .nil))) (by kernel_rfl)
noncomputable def eitherL (c : Int) : List D:=if c < 2 then [.int c] else [.int 0,.int 1]
theorem either_ev {c : Int} (h : Cd c) : Ev 1 51 [.int c] (.lst (eitherL c)):=by
  rcases cd4 h with rfl | rfl | rfl | rfl <;> exact .of0 (fi:=f__law_either) rfl rfl (by kernel_rfl)
noncomputable def seenD (op : Nat) (p r : Int) : List D:=(eitherL p).flatMap fun a=>(eitherL r).map fun b=>match a,b with
  | .int a,.int b=>.int (opC op a b)
  | _,_=>.none
noncomputable def lastV (c : Int) : Option V:=(eitherL c).getLast?.map .d
noncomputable def lgB (p r : Int) : List Note:=(51,[.int p],.lst (eitherL p)) :: bif' (decide (p < 2)) [(51,[.int r],.lst (eitherL r))] [(51,[.int r],.lst (eitherL r)),(51,[.int r],.lst (eitherL r))]
theorem lgB_ok {p r : Int} (hp : Cd p) (hr : Cd r) : Facts 2 (lgB p r):=by
  refine .cons (either_ev hp) (by decide) ?_
  cases decide (p < 2)
  · exact .cons (either_ev hr) (by decide) (.cons (either_ev hr) (by decide) .nil)
  · exact .cons (either_ev hr) (by decide) .nil
noncomputable def forB : SL:=match nthS f__law_row.body 7 with | .for _ _ _ _ _ b _=>b | _=>.nil
noncomputable def bodyA : SL:=match nthS forB 1 with | .for _ _ _ _ _ b _=>b | _=>.nil
noncomputable def posA : Pos:=match nthS forB 1 with | .for (.loc _ p) _ _ _ _ _ _=>p | _=>⟨0,0,0,0⟩
noncomputable def posB : Pos:=match nthS f__law_row.body 7 with | .for (.loc _ p) _ _ _ _ _ _=>p | _=>⟨0,0,0,0⟩
theorem turn0_T (x y sg : D) (q s : Int) (sv av bv : Option V) : ([38,124,94].map fun op=>C4.map fun p=>C4.map fun r=>aSL cF forB (rwSt (some (.d (binE op x y))) (some (.d (rowD p q))) (some (.d (rowD r s))) sg (some (.d (.int 0))) none (some (.c 0)) sv av bv [some (.lst [])]) endF ((lgB p r).map fun z=>z.2.2)) = [38,124,94].map fun op=>C4.map fun p=>C4.map fun r=>some (lgB p r,.nxt,rwSt (some (.d (binE op x y))) (some (.d (rowD p q))) (some (.d (rowD r s))) sg (some (.d (.int 0))) none (some (.c 0)) (some (.d (.lst (seenD op p r)))) (lastV p) (lastV r) [some (.lst [.d (.int (opC op p r))]),none]):=by kernel_rfl
theorem turn1_T (x y sg : D) (p r g : Int) (sv av bv : Option V) : ([38,124,94].map fun op=>C4.map fun q=>C4.map fun s=>aSL cF forB (rwSt (some (.d (binE op x y))) (some (.d (rowD p q))) (some (.d (rowD r s))) sg (some (.d (.int 1))) none (some (.c 0)) sv av bv [some (.lst [.d (.int g)]),none]) endF ((lgB q s).map fun z=>z.2.2)) = [38,124,94].map fun op=>C4.map fun q=>C4.map fun s=>some (lgB q s,.nxt,rwSt (some (.d (binE op x y))) (some (.d (rowD p q))) (some (.d (rowD r s))) sg (some (.d (.int 1))) none (some (.c 0)) (some (.d (.lst (seenD op q s)))) (lastV q) (lastV s) [some (.lst [.d (.int g),.d (.int (opC op q s))]),none,none]):=by kernel_rfl
theorem op_mem {op : Nat} (ho : op = 38 ∨ op = 124 ∨ op = 94) : op ∈ [38,124,94]:=by rcases ho with rfl | rfl | rfl <;> decide
theorem bin_turn0 {op : Nat} (ho : op = 38 ∨ op = 124 ∨ op = 94) {x y sg : D} {g p q r s : Int} (h1 : Cd p) (h2 : Cd r) {iv sv av bv : Option V} {K : Fl → St → Prop}
    (hK : ∀ sv av bv,K .nxt (rwSt (some (.d (binE op x y))) (some (.d (rowD p q))) (some (.d (rowD r s))) sg (some (.d (.int 0))) none (some (.c 0)) sv av bv [some (.lst [.d (.int (opC op p r))]),none])) :
    aG (cE 2) (.loc 65 posB) (.d (.int 0)) (rwSt (some (.d (binE op x y))) (some (.d (rowD p q))) (some (.d (rowD r s))) sg iv none (some (.c 0)) sv av bv [some (.lst [])]) fun st=>aSL (cE 2) forB st K :=
  log_to (lgB_ok h1 h2) (map_at (map_at (map_at (turn0_T x y sg q s sv av bv) (op_mem ho)) h1.mem) h2.mem) (hK _ _ _)
theorem bin_turn1 {op : Nat} (ho : op = 38 ∨ op = 124 ∨ op = 94) {x y sg : D} {g p q r s : Int} (h1 : Cd q) (h2 : Cd s) {iv sv av bv : Option V} {K : Fl → St → Prop}
    (hK : ∀ sv av bv,K .nxt (rwSt (some (.d (binE op x y))) (some (.d (rowD p q))) (some (.d (rowD r s))) sg (some (.d (.int 1))) none (some (.c 0)) sv av bv [some (.lst [.d (.int g),.d (.int (opC op q s))]),none,none])) :
    aG (cE 2) (.loc 65 posB) (.d (.int 1)) (rwSt (some (.d (binE op x y))) (some (.d (rowD p q))) (some (.d (rowD r s))) sg iv none (some (.c 0)) sv av bv [some (.lst [.d (.int g)]),none]) fun st=>aSL (cE 2) forB st K :=
  log_to (lgB_ok h1 h2) (map_at (map_at (map_at (turn1_T x y sg p r g sv av bv) (op_mem ho)) h1.mem) h2.mem) (hK _ _ _)
theorem bin_row {op : Nat} (ho : op = 38 ∨ op = 124 ∨ op = 94) {x y sg : D} {p q r s : Int} (hp : Cd p) (hq : Cd q) (hr : Cd r) (hs : Cd s) (hx : Ev 1 50 [x,sg] (rowD p q)) (hy : Ev 1 50 [y,sg] (rowD r s)) :
    Ev 3 50 [binE op x y,sg] (rowD (opC op p r) (opC op q s)):=by
  refine Ev.ofP (k:=2) (fi:=f__law_row) rfl rfl ?_
  refine stepE hx (by decide) rfl ?_
  refine stepE hy (by decide) rfl ?_
  have go:=bin_turn0 ho (x:=x) (y:=y) (sg:=sg) (g:=0) (q:=q) (s:=s) hp hr (iv:=none) (sv:=none) (av:=none) (bv:=none) (K:=fun fl st=>match fl with
    | .nxt=>loopF (fun x st k=>aG (cE 2) (.loc 65 posB) (.d x) st fun st=>aSL (cE 2) forB st k) [.int 1] st (fun fl st=>match fl with
      | .nxt=>aSL (cE 2) (dropSL 8 f__law_row.body) st (fun fl _=>fl = .ret (.d (rowD (opC op p r) (opC op q s))))
      | .ret v=>(Fl.ret v) = .ret (.d (rowD (opC op p r) (opC op q s))))
    | .ret v=>(match Fl.ret v with
      | .nxt=>aSL (cE 2) (dropSL 8 f__law_row.body) st (fun fl _=>fl = .ret (.d (rowD (opC op p r) (opC op q s))))
      | .ret v=>(Fl.ret v) = .ret (.d (rowD (opC op p r) (opC op q s))))) fun sv av bv=>by
    refine bin_turn1 ho (x:=x) (y:=y) (sg:=sg) (g:=opC op p r) hq hs fun sv av bv=>?_
    exact Eq.mpr (β:=Fl.ret (.d (rowD (opC op p r) (opC op q s))) = Fl.ret (.d (rowD (opC op p r) (opC op q s)))) (by kernel_rfl) rfl
  refine Eq.mpr (β:=loopF (fun x st k=>aG (cE 2) (.loc 65 posB) (.d x) st fun st=>aSL (cE 2) forB st k) [.int 0,.int 1] (rwSt (some (.d (binE op x y))) (some (.d (rowD p q))) (some (.d (rowD r s))) sg none none (some (.c 0)) none none none [some (.lst [])]) (fun fl st=>match fl with
      | .nxt=>aSL (cE 2) (dropSL 8 f__law_row.body) st (fun fl _=>fl = .ret (.d (rowD (opC op p r) (opC op q s))))
      | .ret v=>(Fl.ret v) = .ret (.d (rowD (opC op p r) (opC op q s))))) (by kernel_rfl) ?_
  exact go
theorem term_ev {e : D} (h : IsTerm e) (hs : SgOk s0 s1 s2) : ∃ p q,Cd p ∧ Cd q ∧ Ev 5 15 [e,ctxD (sgD s0 s1 s2)] (vecD p q) ∧ Ev 3 50 [e,sgD s0 s1 s2] (rowD p q):=by
  cases h with
  | con ha hb =>
    obtain ⟨p,q,h1,h2,h3,h4⟩:=con_ev ha hb (ctxD (sgD s0 s1 s2)) (sgD s0 s1 s2)
    exact ⟨p,q,h1,h2,h3.up (by decide),h4.up (by decide)⟩
  | sig h =>
    obtain ⟨p,q,h1,h2,h3,h4⟩:=sig_ev h hs
    exact ⟨p,q,h1,h2,h3.up (by decide),h4.up (by decide)⟩
  | cond hx hy hz =>
    obtain ⟨p,q,hp,hq,h1,h2⟩:=sig_ev hx hs
    obtain ⟨a,b,ha,hb,h3,h4⟩:=sig_ev hy hs
    obtain ⟨c,d,hc,hd,h5,h6⟩:=sig_ev hz hs
    have k1:=cond_ev hp hq ha hb hc hd h1 h3 h5
    have k2:=cond_row hp hq ha hb hc hd h2 h4 h6
    split at k1
    · rename_i e
      rw [if_pos e] at k2
      exact ⟨a,b,ha,hb,k1,k2.up (by decide)⟩
    · rename_i e
      rw [if_neg e] at k2
      split at k1
      · rename_i e
        rw [if_pos e] at k2
        exact ⟨c,d,hc,hd,k1,k2.up (by decide)⟩
      · rename_i e
        rw [if_neg e] at k2
        exact ⟨_,_,(Cd.ops ha hc).2.2.2,(Cd.ops hb hd).2.2.2,k1,k2.up (by decide)⟩
  | bin ho hx hy =>
    obtain ⟨p,q,hp,hq,h1,h2⟩:=sig_ev hx hs
    obtain ⟨r,s,hr,hs',h3,h4⟩:=sig_ev hy hs
    refine ⟨_,_,?_,?_,bin_ev ho hp hq hr hs' h1 h3,bin_row ho hp hq hr hs' h2 h4⟩
    · unfold opC; split
      · exact (Cd.ops hp hr).2.1
      · split
        · exact (Cd.ops hp hr).1
        · exact (Cd.ops hp hr).2.2.1
    · unfold opC; split
      · exact (Cd.ops hq hs').2.1
      · split
        · exact (Cd.ops hq hs').1
        · exact (Cd.ops hq hs').2.2.1
theorem slc_ev {t v : D} {ctx : D} {p q w lo : Int} (h : Ev 5 15 [t,ctx] (vecD p q)) (hv : Ev 2 3 [vecD p q,.int lo,.int w] v) : Ev 6 15 [slcE w t lo,ctx] v:=by
  exact Ev.ofL (k:=5) (fi:=f_evaluate) rfl rfl (.cons h (by decide) (.cons hv (by decide) .nil)) (by kernel_rfl)
theorem slice_at {p q : Int} (hp : Cd p) (hq : Cd q) : Ev 2 3 [vecD p q,.int 0,.int 1] (vec1 p) ∧ Ev 2 3 [vecD p q,.int 1,.int 1] (vec1 q) ∧ Ev 2 3 [vecD p q,.int 0,.int 2] (vecD p q):=by
  have h:=all4 (all4 slice_B hp) hq
  rw [Bool.and_eq_true,Bool.and_eq_true] at h
  exact ⟨isEv.ok h.1.1,isEv.ok h.1.2,isEv.ok h.2⟩
theorem slc_row {t sg : D} {p q : Int} (h : Ev 3 50 [t,sg] (rowD p q)) : Ev 4 50 [slcE 1 t 0,sg] (.lst [.int p]) ∧ Ev 4 50 [slcE 1 t 1,sg] (.lst [.int q]) ∧ Ev 4 50 [slcE 2 t 0,sg] (rowD p q):=by
  refine ⟨?_,?_,?_⟩ <;>
  · exact Ev.ofL (k:=3) (fi:=f__law_row) rfl rfl (.cons h (by decide) .nil) (by kernel_rfl)
theorem input_ev {e : D} (h : IsInput e) (hs : SgOk s0 s1 s2) : ∃ (v : D) (c : Int) (r : List D),Cd c ∧ Ev 6 15 [e,ctxD (sgD s0 s1 s2)] v ∧ Ev 1 1 [v,.int 0] (.int c) ∧ Ev 4 50 [e,sgD s0 s1 s2] (.lst (.int c :: r)):=by
  have c2 : ∀ {p q : Int},Cd p → Cd q → Ev 1 1 [vecD p q,.int 0] (.int p):=fun hp hq=>by
    have:=all4 (all4 code_B hp) hq
    rw [Bool.and_eq_true] at this
    exact isEv.ok this.1
  have c1 : ∀ {p : Int},Cd p → Ev 1 1 [vec1 p,.int 0] (.int p):=fun hp=>isEv.ok (all4 code1_B hp)
  rcases h with h | ⟨t,k,ht,hk,rfl⟩
  · obtain ⟨p,q,hp,hq,h1,h2⟩:=term_ev h hs
    exact ⟨_,p,[.int q],hp,h1.up (by decide),c2 hp hq,h2.up (by decide)⟩
  · obtain ⟨p,q,hp,hq,h1,h2⟩:=term_ev ht hs
    rcases hk with rfl | rfl
    · exact ⟨_,p,[],hp,slc_ev h1 (slice_at hp hq).1,c1 hp,(slc_row h2).1⟩
    · exact ⟨_,q,[],hq,slc_ev h1 (slice_at hp hq).2.1,c1 hq,(slc_row h2).2.1⟩
end
end
end Mine
end
section
open PySem.Spec
set_option maxHeartbeats 2000000
namespace Mine
noncomputable section
noncomputable def pairD (r : List Int) : D:=match r with
  | []=>.none
  | i :: l=>.tup [.int (minL i l),.int (maxL i l)]
noncomputable def levD (r : List Int) : D:=.lst (r.map .int)
noncomputable def LevOk (r : List Int) : Prop:=r ≠ [] ∧ ∀ x ∈ r,-7 ≤ x ∧ x ≤ 7
noncomputable def bitsL (bits : List Int) (w s : Int) : List Int:=bits.map fun b=>if b = 1 then s else 0 - w
noncomputable def codeBits (c : Int) : List Int:=if c < 2 then [c] else [0,1]
noncomputable def codeL (c w s : Int) : List Int:=if c = 2 then [0] else bitsL (codeBits c) w s
theorem mm1 (x : Int) : pairD [x] = .tup [.int x,.int x]:=rfl
theorem mm2 {w s : Int} (hw : 0 ≤ w) (hs : 0 ≤ s) : pairD [0 - w,s] = .tup [.int (-w),.int s]:=by
  have h1 : (if s < 0 - w then s else 0 - w) = -w:=by split <;> omega
  have h2 : (if 0 - w < s then s else 0 - w) = s:=by split <;> omega
  show D.tup [.int (if s < 0 - w then s else 0 - w),.int (if 0 - w < s then s else 0 - w)] = _
  rw [h1,h2]
theorem lev_bits {bits : List Int} (hb : bits ≠ []) {w s : Int} (hw : IsS8 w) (hs : IsS8 s) : LevOk (bitsL bits w s):=by
  refine ⟨by simpa [bitsL] using hb,fun x hx=>?_⟩
  obtain ⟨b,_,rfl⟩:=List.mem_map.mp hx
  unfold IsS8 at hw hs
  split <;> omega
theorem lev_code {c : Int} (hc : Cd c) {w s : Int} (hw : IsS8 w) (hs : IsS8 s) : LevOk (codeL c w s):=by
  unfold codeL
  split
  · exact ⟨by simp,fun x hx=>by rw [List.mem_singleton.mp hx]; omega⟩
  · exact lev_bits (by unfold codeBits; split <;> simp) hw hs
theorem drive_ev {c : Int} (hc : Cd c) {w s : Int} (hw : IsS8 w) (hs : IsS8 s) : Ev 1 16 [.int c,.int w,.int s] (pairD (codeL c w s)):=by
  have e0 : (0 - w : Int) = -w:=by omega
  rcases cd4 hc with rfl | rfl | rfl | rfl
  · have : codeL 0 w s = [0 - w]:=rfl
    rw [this,mm1,e0]
    exact .of0 (fi:=f_drive_bit) rfl rfl (by kernel_rfl)
  · exact .of0 (fi:=f_drive_bit) rfl rfl (by kernel_rfl)
  · exact .of0 (fi:=f_drive_bit) rfl rfl (by kernel_rfl)
  · have : codeL 3 w s = [0 - w,s]:=rfl
    rw [this,mm2 hw.1 hs.1]
    exact .of0 (fi:=f_drive_bit) rfl rfl (by kernel_rfl)
noncomputable abbrev elA (nu sp v w s : D) : D:=elD nu (.str [97,115,115,105,103,110]) (thingD [169,90] [sp,v]) (.tup [w,s])
theorem drive1 {p w s : Int} (hp : Cd p) (hw : IsS8 w) (hs : IsS8 s) : Ev 2 17 [vec1 p,.int w,.int s] (.lst [pairD (codeL p w s)]):=by
  exact Ev.ofL (k:=1) (fi:=f_drive) rfl rfl (.cons (isEv.ok (all4 code1_B hp)) (by decide) (.cons (drive_ev hp hw hs) (by decide) .nil)) (by kernel_rfl)
theorem drive2 {p q w s : Int} (hp : Cd p) (hq : Cd q) (hw : IsS8 w) (hs : IsS8 s) : Ev 2 17 [vecD p q,.int w,.int s] (.lst [pairD (codeL p w s),pairD (codeL q w s)]):=by
  have h:=all4 (all4 code_B hp) hq
  rw [Bool.and_eq_true] at h
  exact Ev.ofL (k:=1) (fi:=f_drive) rfl rfl (.cons (isEv.ok h.1) (by decide) (.cons (drive_ev hp hw hs) (by decide) (.cons (isEv.ok h.2) (by decide) (.cons (drive_ev hq hw hs) (by decide) .nil)))) (by kernel_rfl)
theorem asg_pairs {nu sp v w s ctx x r : D} (h : Ev 6 15 [v,ctx] x) (hd : Ev 2 17 [x,w,s] r) : Ev 7 42 [elA nu sp v w s,ctx] r:=by
  exact Ev.ofL (k:=6) (fi:=f_element_pairs) rfl rfl (.cons h (by decide) (.cons hd (by decide) .nil)) (by kernel_rfl)
theorem asg_lev1 {nu sp v sg : D} {p w s : Int} (hp : Cd p) (h : Ev 4 50 [v,sg] (.lst [.int p])) : Ev 5 54 [elA nu sp v (.int w) (.int s),sg] (.lst [levD (codeL p w s)]):=by
  have e:=either_ev hp
  refine Ev.ofP (k:=4) (fi:=f__law_levels) rfl rfl ?_
  refine stepE h (by decide) rfl ?_
  rcases cd4 hp with rfl | rfl | rfl | rfl
  · refine stepE e (by decide) rfl ?_
    exact rfl
  · refine stepE e (by decide) rfl ?_
    exact rfl
  · exact rfl
  · refine stepE e (by decide) rfl ?_
    exact rfl
end
end Mine
end
section
open PySem.Spec
set_option maxHeartbeats 2000000
namespace Mine
noncomputable section
noncomputable def gS (w : Nat) (l : List Int) : Int :=
  let b:=match w / 2 with
    | 0=>(match l with | i :: r=>minL i r | []=>0)
    | 1=>(match l with | i :: r=>maxL i r | []=>0)
    | _=>l.sum.fmod 2
  match w % 2 with
  | 0=>b
  | _=>1 - b
noncomputable def prodL : List (List Int) → List (List Int)
  | []=>[[]]
  | A :: r=>A.flatMap fun a=>(prodL r).map fun l=>a :: l
noncomputable def bitsF (w : Nat) (codes : List Int) : List Int:=(prodL (codes.map codeBits)).map (gS w)
inductive KW : Nat → List Nat → Prop
  | and : KW 0 [97,110,100]
  | nand : KW 1 [110,97,110,100]
  | or : KW 2 [111,114]
  | nor : KW 3 [110,111,114]
  | xor : KW 4 [120,111,114]
  | xnor : KW 5 [120,110,111,114]
inductive KB : Nat → List Nat → Prop
  | buf : KB 6 [98,117,102]
  | not : KB 7 [110,111,116]
noncomputable def ksA : List (Nat × List Nat):=[(0,[97,110,100]),(1,[110,97,110,100]),(2,[111,114]),(3,[110,111,114]),(4,[120,111,114]),(5,[120,110,111,114])]
theorem KW.mem {u : Nat} {ks : List Nat} (h : KW u ks) : (u,ks) ∈ ksA:=by cases h <;> decide
theorem g1_B : ([(6,[98,117,102]),(7,[110,111,116])].all fun k : Nat × List Nat=>C4.all fun p=>isEv 2 52 [.str k.2,.lst [.int p]] (.lst ((bitsF k.1 [p]).map .int))) = true:=by kernel_rfl
theorem g2_B : (ksA.all fun k=>C4.all fun p=>C4.all fun q=>isEv 2 52 [.str k.2,.lst [.int p,.int q]] (.lst ((bitsF k.1 [p,q]).map .int))) = true:=by kernel_rfl
noncomputable def g3P (k : Nat × List Nat) : Bool:=C4.all fun p=>C4.all fun q=>C4.all fun r=>isEv 2 52 [.str k.2,.lst [.int p,.int q,.int r]] (.lst ((bitsF k.1 [p,q,r]).map .int))
theorem g3_0 : g3P (0,[97,110,100]) = true:=by kernel_rfl
theorem g3_1 : g3P (1,[110,97,110,100]) = true:=by kernel_rfl
theorem g3_2 : g3P (2,[111,114]) = true:=by kernel_rfl
theorem g3_3 : g3P (3,[110,111,114]) = true:=by kernel_rfl
theorem g3_4 : g3P (4,[120,111,114]) = true:=by kernel_rfl
theorem g3_5 : g3P (5,[120,110,111,114]) = true:=by kernel_rfl
theorem gate52_1 {u : Nat} {ks : List Nat} (h : KB u ks) {p : Int} (hp : Cd p) : Ev 2 52 [.str ks,.lst [.int p]] (.lst ((bitsF u [p]).map .int)):=by
  cases h
  · exact isEv.ok (all4 (List.all_eq_true.mp g1_B (6,_) (by decide)) hp)
  · exact isEv.ok (all4 (List.all_eq_true.mp g1_B (7,_) (by decide)) hp)
theorem gate52_2 {u : Nat} {ks : List Nat} (h : KW u ks) {p q : Int} (hp : Cd p) (hq : Cd q) : Ev 2 52 [.str ks,.lst [.int p,.int q]] (.lst ((bitsF u [p,q]).map .int)) :=
  isEv.ok (all4 (all4 (List.all_eq_true.mp g2_B (u,ks) h.mem) hp) hq)
theorem gate52_3 {u : Nat} {ks : List Nat} (h : KW u ks) {p q r : Int} (hp : Cd p) (hq : Cd q) (hr : Cd r) : Ev 2 52 [.str ks,.lst [.int p,.int q,.int r]] (.lst ((bitsF u [p,q,r]).map .int)):=by
  have g : g3P (u,ks) = true:=by
    cases h
    · exact g3_0
    · exact g3_1
    · exact g3_2
    · exact g3_3
    · exact g3_4
    · exact g3_5
  exact isEv.ok (all4 (all4 (all4 g hp) hq) hr)
end
end Mine
end
section
open PySem.Spec
set_option maxHeartbeats 2000000
namespace Mine
noncomputable section
theorem minL_spec : ∀ (l : List Int) (i m : Int),m ∈ i :: l → (∀ x ∈ i :: l,m ≤ x) → minL i l = m
  | [],i,m,h,_=>by
    rcases List.mem_cons.mp h with rfl | h
    · rfl
    · cases h
  | a :: r,i,m,h,hl=>by
    unfold minL
    refine minL_spec r _ m ?_ fun x hx=>?_
    · have h1:=hl i (.head _)
      have h2:=hl a (.tail _ (.head _))
      rcases List.mem_cons.mp h with rfl | h
      · split
        · have : m = a:=by omega
          rw [this]; exact .head _
        · exact .head _
      · rcases List.mem_cons.mp h with rfl | h
        · split
          · exact .head _
          · have : m = i:=by omega
            rw [this]; exact .head _
        · exact .tail _ h
    · rcases List.mem_cons.mp hx with rfl | hx
      · split
        · exact hl a (.tail _ (.head _))
        · exact hl i (.head _)
      · exact hl x (.tail _ (.tail _ hx))
theorem maxL_spec : ∀ (l : List Int) (i m : Int),m ∈ i :: l → (∀ x ∈ i :: l,x ≤ m) → maxL i l = m
  | [],i,m,h,_=>by
    rcases List.mem_cons.mp h with rfl | h
    · rfl
    · cases h
  | a :: r,i,m,h,hl=>by
    unfold maxL
    refine maxL_spec r _ m ?_ fun x hx=>?_
    · have h1:=hl i (.head _)
      have h2:=hl a (.tail _ (.head _))
      rcases List.mem_cons.mp h with rfl | h
      · split
        · have : m = a:=by omega
          rw [this]; exact .head _
        · exact .head _
      · rcases List.mem_cons.mp h with rfl | h
        · split
          · exact .head _
          · have : m = i:=by omega
            rw [this]; exact .head _
        · exact .tail _ h
    · rcases List.mem_cons.mp hx with rfl | hx
      · split
        · exact hl a (.tail _ (.head _))
        · exact hl i (.head _)
      · exact hl x (.tail _ (.tail _ hx))
noncomputable def okBits (g : Int) (bits : List Int) : Bool:=!bits.isEmpty && ((g == 0 && bits.all (· == 0)) || (g == 1 && bits.all (· == 1)) || (g == 3 && bits.contains 0 && bits.contains 1 && bits.all fun b=>b == 0 || b == 1))
theorem okBits_ne {g : Int} {bits : List Int} (h : okBits g bits = true) : bits ≠ []:=by
  unfold okBits at h
  rw [Bool.and_eq_true] at h
  rintro rfl
  simp at h
theorem pair_of {l : List Int} {a b : Int} (hne : l ≠ []) (ha : a ∈ l) (hb : b ∈ l) (h : ∀ x ∈ l,a ≤ x ∧ x ≤ b) : pairD l = .tup [.int a,.int b]:=by
  cases l with
  | nil=>exact absurd rfl hne
  | cons i r =>
    show D.tup [.int (minL i r),.int (maxL i r)] = _
    rw [minL_spec r i a ha fun x hx=>(h x hx).1,maxL_spec r i b hb fun x hx=>(h x hx).2]
theorem pair_bits {g : Int} {bits : List Int} (h : okBits g bits = true) {w s : Int} (hw : IsS8 w) (hs : IsS8 s) : Cd g ∧ pairD (bitsL bits w s) = pairD (codeL g w s):=by
  have hne:=okBits_ne h
  have hne' : bitsL bits w s ≠ []:=by simpa [bitsL] using hne
  unfold IsS8 at hw hs
  unfold okBits at h
  rw [Bool.and_eq_true,Bool.or_eq_true,Bool.or_eq_true] at h
  obtain ⟨_,(h | h) | h⟩:=h
  · rw [Bool.and_eq_true,beq_iff_eq] at h
    obtain ⟨rfl,h⟩:=h
    refine ⟨.inl rfl,?_⟩
    have e : ∀ x ∈ bitsL bits w s,x = 0 - w:=fun x hx=>by
      obtain ⟨b,hb,rfl⟩:=List.mem_map.mp hx
      have : b = 0:=by simpa using List.all_eq_true.mp h b hb
      rw [if_neg (by omega)]
    obtain ⟨y,hy⟩:=List.exists_mem_of_ne_nil _ hne'
    have ey:=e y hy
    subst ey
    rw [pair_of hne' hy hy fun x hx=>by rw [e x hx]; omega]
    rfl
  · rw [Bool.and_eq_true,beq_iff_eq] at h
    obtain ⟨rfl,h⟩:=h
    refine ⟨.inr (.inl rfl),?_⟩
    have e : ∀ x ∈ bitsL bits w s,x = s:=fun x hx=>by
      obtain ⟨b,hb,rfl⟩:=List.mem_map.mp hx
      have : b = 1:=by simpa using List.all_eq_true.mp h b hb
      rw [if_pos this]
    obtain ⟨y,hy⟩:=List.exists_mem_of_ne_nil _ hne'
    have ey:=e y hy
    subst ey
    rw [pair_of hne' hy hy fun x hx=>by rw [e x hx]; omega]
    rfl
  · rw [Bool.and_eq_true,Bool.and_eq_true,Bool.and_eq_true,beq_iff_eq] at h
    obtain ⟨⟨⟨rfl,h0⟩,h1⟩,h⟩:=h
    refine ⟨.inr (.inr (.inr rfl)),?_⟩
    have m0 : (0 - w) ∈ bitsL bits w s:=List.mem_map.mpr ⟨0,by simpa using h0,by rw [if_neg (by omega)]⟩
    have m1 : s ∈ bitsL bits w s:=List.mem_map.mpr ⟨1,by simpa using h1,by rw [if_pos rfl]⟩
    rw [pair_of hne' m0 m1 fun x hx=>by
      obtain ⟨b,hb,rfl⟩:=List.mem_map.mp hx
      split <;> omega]
    have : codeL 3 w s = [0 - w,s]:=rfl
    rw [this,mm2 hw.1 hs.1]
    congr 3
    omega
theorem allD_ints (l : List Int) : allD (l.map fun i=>V.d (.int i)) = some (l.map .int):=by
  induction l with
  | nil=>rfl
  | cons i r ih =>
    show (match allD (r.map fun i=>V.d (.int i)) with | some xs=>some (D.int i :: xs) | none=>none) = _
    rw [ih]; rfl
noncomputable def cmpSt (v : Option V) (w s : Int) : St:={ loc:=[(176,v)],cel:=[(181,some (.d (.int w))),(180,some (.d (.int s)))],gl:=[],hp:=[],own:=false }
theorem comp_bits {c : Cfg Prop} {p1 p2 p3 p4 p5 p6 p7 p8 : Pos} {w s : Int} {K : List V → St → Prop} : ∀ (bits : List Int) (v : Option V) (acc : List V),(∀ v',K (acc ++ (bitsL bits w s).map fun i=>V.d (.int i)) (cmpSt v' w s)) →
    loopC (fun x acc st k=>bif' (has st.loc 176) (aX c (.ite (.cmp .Eq (.loc 176 p1) (.cint 1 p2) p3) (.cel 180 p4) (.bin .Sub (.cint 0 p5) (.cel 181 p6) p7) p8) (setLoc st 176 (.d x)) fun v st=>k (acc ++ [v]) st) c.F) (bits.map .int) acc (cmpSt v w s) K
  | [],v,acc,h=>by simpa [loopC,bitsL] using h v
  | b :: bits,v,acc,h=>by
    rw [List.map_cons]
    unfold loopC
    have ih:=comp_bits (c:=c) (p1:=p1) (p2:=p2) (p3:=p3) (p4:=p4) (p5:=p5) (p6:=p6) (p7:=p7) (p8:=p8) (w:=w) (s:=s) (K:=K) bits (some (.d (.int b))) (acc ++ [V.d (.int (if b = 1 then s else 0 - w))]) fun v'=>by
      have:=h v'
      simpa [bitsL] using this
    by_cases hb : b = 1
    · subst hb
      rw [if_pos rfl] at ih
      exact ih
    · rw [if_neg hb] at ih
      have e : cmpD .Eq (.int b) (.int 1) = some false:=by rw [cmpD_eqI]; simp [hb]
      simp only [cmpSt,has,setLoc,put,qX_ite,qX_loc,qX_cel,qX_cint,qT_cmp,qX_bin,look,bif',e,binD_sub]
      exact ih
noncomputable abbrev elG (nu sp ks : D) (ins : List D) (w s : D) : D:=elD nu (.str [103,97,116,101]) (thingD [169,110,128] [sp,ks,.tup ins]) (.tup [w,s])
structure InEv (e ctx sg : D) (c : Int) : Prop where
  cd : Cd c
  ev : ∃ v,Ev 6 15 [e,ctx] v ∧ Ev 1 1 [v,.int 0] (.int c)
  row : ∃ r,Ev 4 50 [e,sg] (.lst (.int c :: r))
theorem gate_pairs0 {nu sp ks w s ctx r : D} (h : Ev 4 34 [ks,.lst [],w,s] r) : Ev 7 42 [elG nu sp ks [] w s,ctx] (.lst [r]):=by
  exact Ev.ofL (k:=6) (fi:=f_element_pairs) rfl rfl (.cons h (by decide) .nil) (by kernel_rfl)
theorem gate_pairs1 {nu sp ks w s ctx sg r x : D} {p : Int} (hx : InEv x ctx sg p) (h : Ev 4 34 [ks,.lst [.int p],w,s] r) : Ev 7 42 [elG nu sp ks [x] w s,ctx] (.lst [r]):=by
  obtain ⟨v,a,b⟩:=hx.ev
  exact Ev.ofL (k:=6) (fi:=f_element_pairs) rfl rfl (.cons a (by decide) (.cons b (by decide) (.cons h (by decide) .nil))) (by kernel_rfl)
theorem gate_pairs2 {nu sp ks w s ctx sg r x y : D} {p q : Int} (hx : InEv x ctx sg p) (hy : InEv y ctx sg q) (h : Ev 4 34 [ks,.lst [.int p,.int q],w,s] r) : Ev 7 42 [elG nu sp ks [x,y] w s,ctx] (.lst [r]):=by
  obtain ⟨v,a,b⟩:=hx.ev
  obtain ⟨v2,a2,b2⟩:=hy.ev
  exact Ev.ofL (k:=6) (fi:=f_element_pairs) rfl rfl (.cons a (by decide) (.cons b (by decide) (.cons a2 (by decide) (.cons b2 (by decide) (.cons h (by decide) .nil))))) (by kernel_rfl)
theorem gate_pairs3 {nu sp ks w s ctx sg r x y z : D} {p q t : Int} (hx : InEv x ctx sg p) (hy : InEv y ctx sg q) (hz : InEv z ctx sg t) (h : Ev 4 34 [ks,.lst [.int p,.int q,.int t],w,s] r) : Ev 7 42 [elG nu sp ks [x,y,z] w s,ctx] (.lst [r]):=by
  obtain ⟨v,a,b⟩:=hx.ev
  obtain ⟨v2,a2,b2⟩:=hy.ev
  obtain ⟨v3,a3,b3⟩:=hz.ev
  exact Ev.ofL (k:=6) (fi:=f_element_pairs) rfl rfl (.cons a (by decide) (.cons b (by decide) (.cons a2 (by decide) (.cons b2 (by decide) (.cons a3 (by decide) (.cons b3 (by decide) (.cons h (by decide) .nil))))))) (by kernel_rfl)
noncomputable def andS (l : List Int) : Int:=if l.contains 0 then 0 else if l.all (· == 1) then 1 else 3
noncomputable def orS (l : List Int) : Int:=if l.contains 1 then 1 else if l.all (· == 0) then 0 else 3
noncomputable def xorS (l : List Int) : Int:=if l.any (1 < ·) then 3 else l.sum.fmod 2
noncomputable def oppS (c : Int) : Int:=if c = 0 then 1 else if c = 1 then 0 else 3
theorem opp_ev {c : Int} (h : Cd c) : Ev 1 25 [.int c] (.int (oppS c)):=by
  rcases cd4 h with rfl | rfl | rfl | rfl <;> exact .of0 (fi:=f_opposite) rfl rfl (by kernel_rfl)
theorem fold2_B : (C4.all fun p=>C4.all fun q=>isEv 1 26 [.lst [.int p,.int q]] (.int (andS [p,q])) && isEv 1 27 [.lst [.int p,.int q]] (.int (orS [p,q])) && isEv 1 28 [.lst [.int p,.int q]] (.int (xorS [p,q]))) = true:=by kernel_rfl
theorem fold3_B : (C4.all fun p=>C4.all fun q=>C4.all fun r=>isEv 1 26 [.lst [.int p,.int q,.int r]] (.int (andS [p,q,r])) && isEv 1 27 [.lst [.int p,.int q,.int r]] (.int (orS [p,q,r])) && isEv 1 28 [.lst [.int p,.int q,.int r]] (.int (xorS [p,q,r]))) = true:=by kernel_rfl
noncomputable def baseS (w : Nat) (l : List Int) : Int:=match w / 2 with
  | 0=>andS l
  | 1=>orS l
  | _=>xorS l
noncomputable def logicS (w : Nat) (l : List Int) : Int:=match w % 2 with
  | 0=>baseS w l
  | _=>oppS (baseS w l)
theorem okBits2_B : ((List.range 6).all fun w=>C4.all fun p=>C4.all fun q=>okBits (logicS w [p,q]) (bitsF w [p,q])) = true:=by kernel_rfl
theorem okBits3_B : ((List.range 6).all fun w=>C4.all fun p=>C4.all fun q=>C4.all fun r=>okBits (logicS w [p,q,r]) (bitsF w [p,q,r])) = true:=by kernel_rfl
noncomputable def bufS (w : Nat) (p : Int) : Int:=match w with
  | 6=>oppS (oppS p)
  | _=>oppS p
theorem okBits1_B : ([6,7].all fun w=>C4.all fun p=>okBits (bufS w p) (bitsF w [p])) = true:=by kernel_rfl
end
end Mine
end
section
open PySem.Spec
set_option maxHeartbeats 2000000
namespace Mine
noncomputable section
noncomputable def ksB : List (Nat × List Nat):=[(6,[98,117,102]),(7,[110,111,116])]
theorem KB.mem {u : Nat} {ks : List Nat} (h : KB u ks) : (u,ks) ∈ ksB:=by cases h <;> decide
noncomputable def Elem1 (e ctx sg : D) : Prop:=∃ row,LevOk row ∧ Ev 7 42 [e,ctx] (.lst [pairD row]) ∧ Ev 7 54 [e,sg] (.lst [levD row])
theorem opp_cd {c : Int} (h : Cd c) : Cd (oppS c):=by
  rcases cd4 h with rfl | rfl | rfl | rfl <;> simp [oppS,Cd]
theorem ok_2 {u : Nat} {ks : List Nat} (h : KW u ks) {p q : Int} (hp : Cd p) (hq : Cd q) : okBits (logicS u [p,q]) (bitsF u [p,q]) = true :=
  (all4 (all4 (List.all_eq_true.mp okBits2_B u (by cases h <;> decide)) hp) hq)
theorem lg_2 {u : Nat} {ks : List Nat} (h : KW u ks) {p q : Int} (hp : Cd p) (hq : Cd q) : Ev 2 29 [.str ks,.lst [.int p,.int q]] (.int (logicS u [p,q])):=by
  have this:=(all4 (all4 fold2_B hp) hq)
  rw [Bool.and_eq_true,Bool.and_eq_true] at this
  cases h
  · exact Ev.ofL (k:=1) (fi:=f_logic_gate) rfl rfl (.cons (isEv.ok this.1.1) (by decide) .nil) (by kernel_rfl)
  · exact Ev.ofL (k:=1) (fi:=f_logic_gate) rfl rfl (.cons (isEv.ok this.1.1) (by decide) (.cons (opp_ev (c:=andS [p,q]) (pair_bits (ok_2 .and hp hq) (w:=0) (s:=0) ⟨by decide,by decide⟩ ⟨by decide,by decide⟩).1) (by decide) .nil)) (by kernel_rfl)
  · exact Ev.ofL (k:=1) (fi:=f_logic_gate) rfl rfl (.cons (isEv.ok this.1.2) (by decide) .nil) (by kernel_rfl)
  · exact Ev.ofL (k:=1) (fi:=f_logic_gate) rfl rfl (.cons (isEv.ok this.1.2) (by decide) (.cons (opp_ev (c:=orS [p,q]) (pair_bits (ok_2 .or hp hq) (w:=0) (s:=0) ⟨by decide,by decide⟩ ⟨by decide,by decide⟩).1) (by decide) .nil)) (by kernel_rfl)
  · exact Ev.ofL (k:=1) (fi:=f_logic_gate) rfl rfl (.cons (isEv.ok this.2) (by decide) .nil) (by kernel_rfl)
  · exact Ev.ofL (k:=1) (fi:=f_logic_gate) rfl rfl (.cons (isEv.ok this.2) (by decide) (.cons (opp_ev (c:=xorS [p,q]) (pair_bits (ok_2 .xor hp hq) (w:=0) (s:=0) ⟨by decide,by decide⟩ ⟨by decide,by decide⟩).1) (by decide) .nil)) (by kernel_rfl)
theorem lv2_T (nu sp sg x y : D) (r0 r1 : List D) (w s : Int) : (ksA.map fun k=>C4.map fun p=>C4.map fun q=>runL f__law_levels [elG nu sp (.str k.2) [x,y] (.int w) (.int s),sg] [.lst (.int p :: r0),.lst (.int q :: r1),.lst ((bitsF k.1 [p,q]).map .int)]) = ksA.map fun k=>C4.map fun p=>C4.map fun q=>some ([(50,[x,sg],.lst (.int p :: r0)),(50,[y,sg],.lst (.int q :: r1)),(52,[.str k.2,.lst [.int p,.int q]],.lst ((bitsF k.1 [p,q]).map .int))],.lst [levD (bitsL (bitsF k.1 [p,q]) w s)]):=by kernel_rfl
theorem gate_2 {u : Nat} {ks : List Nat} (h : KW u ks) {nu sp ctx sg x y : D} {p q w s : Int} (e0 : InEv x ctx sg p) (e1 : InEv y ctx sg q) (hw : IsS8 w) (hs : IsS8 s) : Elem1 (elG nu sp (.str ks) [x,y] (.int w) (.int s)) ctx sg:=by
  have hp:=e0.cd
  have hq:=e1.cd
  have ok:=ok_2 h hp hq
  have pb:=pair_bits ok hw hs
  have i30 : Ev 1 30 [.str ks] (.bool false):=by cases h <;> exact .of0 (fi:=f_is_three_state) rfl rfl (by kernel_rfl)
  refine ⟨bitsL (bitsF u [p,q]) w s,lev_bits (okBits_ne ok) hw hs,?_,?_⟩
  · rw [pb.2]
    refine gate_pairs2 e0 e1 ?_
    have lg:=lg_2 h hp hq
    cases h
    all_goals
      exact Ev.ofL (k:=3) (fi:=f_gate_pair) rfl rfl (.cons i30 (by decide) (.cons lg (by decide) (.cons (drive_ev pb.1 hw hs) (by decide) .nil))) (by kernel_rfl)
  · obtain ⟨r0,l0⟩:=e0.row
    obtain ⟨r1,l1⟩:=e1.row
    exact Ev.up (j:=7) (k:=5) (Ev.ofL (k:=4) (fi:=f__law_levels) rfl rfl (.cons l0 (by decide) (.cons l1 (by decide) (.cons (gate52_2 h hp hq) (by decide) .nil))) (map_at (map_at (map_at (lv2_T nu sp sg x y r0 r1 w s) h.mem) hp.mem) hq.mem)) (by decide)
theorem ok_3 {u : Nat} {ks : List Nat} (h : KW u ks) {p q t : Int} (hp : Cd p) (hq : Cd q) (ht : Cd t) : okBits (logicS u [p,q,t]) (bitsF u [p,q,t]) = true :=
  (all4 (all4 (all4 (List.all_eq_true.mp okBits3_B u (by cases h <;> decide)) hp) hq) ht)
theorem lg_3 {u : Nat} {ks : List Nat} (h : KW u ks) {p q t : Int} (hp : Cd p) (hq : Cd q) (ht : Cd t) : Ev 2 29 [.str ks,.lst [.int p,.int q,.int t]] (.int (logicS u [p,q,t])):=by
  have this:=(all4 (all4 (all4 fold3_B hp) hq) ht)
  rw [Bool.and_eq_true,Bool.and_eq_true] at this
  cases h
  · exact Ev.ofL (k:=1) (fi:=f_logic_gate) rfl rfl (.cons (isEv.ok this.1.1) (by decide) .nil) (by kernel_rfl)
  · exact Ev.ofL (k:=1) (fi:=f_logic_gate) rfl rfl (.cons (isEv.ok this.1.1) (by decide) (.cons (opp_ev (c:=andS [p,q,t]) (pair_bits (ok_3 .and hp hq ht) (w:=0) (s:=0) ⟨by decide,by decide⟩ ⟨by decide,by decide⟩).1) (by decide) .nil)) (by kernel_rfl)
  · exact Ev.ofL (k:=1) (fi:=f_logic_gate) rfl rfl (.cons (isEv.ok this.1.2) (by decide) .nil) (by kernel_rfl)
  · exact Ev.ofL (k:=1) (fi:=f_logic_gate) rfl rfl (.cons (isEv.ok this.1.2) (by decide) (.cons (opp_ev (c:=orS [p,q,t]) (pair_bits (ok_3 .or hp hq ht) (w:=0) (s:=0) ⟨by decide,by decide⟩ ⟨by decide,by decide⟩).1) (by decide) .nil)) (by kernel_rfl)
  · exact Ev.ofL (k:=1) (fi:=f_logic_gate) rfl rfl (.cons (isEv.ok this.2) (by decide) .nil) (by kernel_rfl)
  · exact Ev.ofL (k:=1) (fi:=f_logic_gate) rfl rfl (.cons (isEv.ok this.2) (by decide) (.cons (opp_ev (c:=xorS [p,q,t]) (pair_bits (ok_3 .xor hp hq ht) (w:=0) (s:=0) ⟨by decide,by decide⟩ ⟨by decide,by decide⟩).1) (by decide) .nil)) (by kernel_rfl)
theorem lv3_T (nu sp sg x y z : D) (r0 r1 r2 : List D) (w s : Int) : (ksA.map fun k=>C4.map fun p=>C4.map fun q=>C4.map fun t=>runL f__law_levels [elG nu sp (.str k.2) [x,y,z] (.int w) (.int s),sg] [.lst (.int p :: r0),.lst (.int q :: r1),.lst (.int t :: r2),.lst ((bitsF k.1 [p,q,t]).map .int)]) = ksA.map fun k=>C4.map fun p=>C4.map fun q=>C4.map fun t=>some ([(50,[x,sg],.lst (.int p :: r0)),(50,[y,sg],.lst (.int q :: r1)),(50,[z,sg],.lst (.int t :: r2)),(52,[.str k.2,.lst [.int p,.int q,.int t]],.lst ((bitsF k.1 [p,q,t]).map .int))],.lst [levD (bitsL (bitsF k.1 [p,q,t]) w s)]):=by kernel_rfl
theorem gate_3 {u : Nat} {ks : List Nat} (h : KW u ks) {nu sp ctx sg x y z : D} {p q t w s : Int} (e0 : InEv x ctx sg p) (e1 : InEv y ctx sg q) (e2 : InEv z ctx sg t) (hw : IsS8 w) (hs : IsS8 s) : Elem1 (elG nu sp (.str ks) [x,y,z] (.int w) (.int s)) ctx sg:=by
  have hp:=e0.cd
  have hq:=e1.cd
  have ht:=e2.cd
  have ok:=ok_3 h hp hq ht
  have pb:=pair_bits ok hw hs
  have i30 : Ev 1 30 [.str ks] (.bool false):=by cases h <;> exact .of0 (fi:=f_is_three_state) rfl rfl (by kernel_rfl)
  refine ⟨bitsL (bitsF u [p,q,t]) w s,lev_bits (okBits_ne ok) hw hs,?_,?_⟩
  · rw [pb.2]
    refine gate_pairs3 e0 e1 e2 ?_
    have lg:=lg_3 h hp hq ht
    cases h
    all_goals
      exact Ev.ofL (k:=3) (fi:=f_gate_pair) rfl rfl (.cons i30 (by decide) (.cons lg (by decide) (.cons (drive_ev pb.1 hw hs) (by decide) .nil))) (by kernel_rfl)
  · obtain ⟨r0,l0⟩:=e0.row
    obtain ⟨r1,l1⟩:=e1.row
    obtain ⟨r2,l2⟩:=e2.row
    exact Ev.up (j:=7) (k:=5) (Ev.ofL (k:=4) (fi:=f__law_levels) rfl rfl (.cons l0 (by decide) (.cons l1 (by decide) (.cons l2 (by decide) (.cons (gate52_3 h hp hq ht) (by decide) .nil)))) (map_at (map_at (map_at (map_at (lv3_T nu sp sg x y z r0 r1 r2 w s) h.mem) hp.mem) hq.mem) ht.mem)) (by decide)
theorem ok_1 {u : Nat} {ks : List Nat} (h : KB u ks) {p : Int} (hp : Cd p) : okBits (bufS u p) (bitsF u [p]) = true :=
  (all4 (List.all_eq_true.mp okBits1_B u (by cases h <;> decide)) hp)
theorem lg_1 {u : Nat} {ks : List Nat} (h : KB u ks) {p : Int} (hp : Cd p) : Ev 2 29 [.str ks,.lst [.int p]] (.int (bufS u p)):=by
  cases h
  · exact Ev.ofL (k:=1) (fi:=f_logic_gate) rfl rfl (.cons (opp_ev hp) (by decide) (.cons (opp_ev (opp_cd hp)) (by decide) .nil)) (by kernel_rfl)
  · exact Ev.ofL (k:=1) (fi:=f_logic_gate) rfl rfl (.cons (opp_ev hp) (by decide) .nil) (by kernel_rfl)
theorem lv1_T (nu sp sg x : D) (r0 : List D) (w s : Int) : (ksB.map fun k=>C4.map fun p=>runL f__law_levels [elG nu sp (.str k.2) [x] (.int w) (.int s),sg] [.lst (.int p :: r0),.lst ((bitsF k.1 [p]).map .int)]) = ksB.map fun k=>C4.map fun p=>some ([(50,[x,sg],.lst (.int p :: r0)),(52,[.str k.2,.lst [.int p]],.lst ((bitsF k.1 [p]).map .int))],.lst [levD (bitsL (bitsF k.1 [p]) w s)]):=by kernel_rfl
theorem gate_1 {u : Nat} {ks : List Nat} (h : KB u ks) {nu sp ctx sg x : D} {p w s : Int} (e0 : InEv x ctx sg p) (hw : IsS8 w) (hs : IsS8 s) : Elem1 (elG nu sp (.str ks) [x] (.int w) (.int s)) ctx sg:=by
  have hp:=e0.cd
  have ok:=ok_1 h hp
  have pb:=pair_bits ok hw hs
  have i30 : Ev 1 30 [.str ks] (.bool false):=by cases h <;> exact .of0 (fi:=f_is_three_state) rfl rfl (by kernel_rfl)
  refine ⟨bitsL (bitsF u [p]) w s,lev_bits (okBits_ne ok) hw hs,?_,?_⟩
  · rw [pb.2]
    refine gate_pairs1 e0 ?_
    have lg:=lg_1 h hp
    cases h
    all_goals
      exact Ev.ofL (k:=3) (fi:=f_gate_pair) rfl rfl (.cons i30 (by decide) (.cons lg (by decide) (.cons (drive_ev pb.1 hw hs) (by decide) .nil))) (by kernel_rfl)
  · obtain ⟨r0,l0⟩:=e0.row
    exact Ev.up (j:=7) (k:=5) (Ev.ofL (k:=4) (fi:=f__law_levels) rfl rfl (.cons l0 (by decide) (.cons (gate52_1 h hp) (by decide) .nil)) (map_at (map_at (lv1_T nu sp sg x r0 w s) h.mem) hp.mem)) (by decide)
theorem gate_14 {nu sp ctx sg : D} {w s : Int} (hs : IsS8 s) : Elem1 (elG nu sp (.str [112,117,108,108,117,112]) [] (.int w) (.int s)) ctx sg:=by
  refine ⟨[s],⟨by simp,fun x hx=>by rw [List.mem_singleton.mp hx]; unfold IsS8 at hs; omega⟩,gate_pairs0 (r:=.tup [.int s,.int s]) (Ev.up (k:=1) (.of0 (fi:=f_gate_pair) rfl rfl (by kernel_rfl)) (by decide)),?_⟩
  exact Ev.up (k:=1) (.of0 (fi:=f__law_levels) rfl rfl (by kernel_rfl)) (by decide)
theorem gate_15 {nu sp ctx sg : D} {w s : Int} (hw : IsS8 w) : Elem1 (elG nu sp (.str [112,117,108,108,100,111,119,110]) [] (.int w) (.int s)) ctx sg:=by
  refine ⟨[0 - w],⟨by simp,fun x hx=>by rw [List.mem_singleton.mp hx]; unfold IsS8 at hw; omega⟩,gate_pairs0 ?_,?_⟩
  · have e : pairD [0 - w] = .tup [.int (-w),.int (-w)]:=by rw [mm1,Int.zero_sub]
    rw [e]
    exact Ev.up (k:=1) (.of0 (fi:=f_gate_pair) rfl rfl (by kernel_rfl)) (by decide)
  · exact Ev.up (k:=1) (.of0 (fi:=f__law_levels) rfl rfl (by kernel_rfl)) (by decide)
noncomputable def tG : Tab:=fun f ds=>match ds with
  | []=>none
  | x :: l=>match l with
    | _ :: _=>none
    | []=>match x with
      | .int c=>bif' (Nat.beq f 51 && C4.contains c) (some (.lst (eitherL c))) none
      | _=>none
theorem tG_ok {k f : Nat} {ds : List D} {r : D} (hk : 1 ≤ k) (h : tG f ds = some r) : Ev k f ds r:=by
  cases ds with
  | nil=>exact nope h
  | cons x l=>cases l with
    | cons _ _=>exact nope h
    | nil=>cases x with
      | int c =>
        obtain ⟨hc,e⟩:=bif_some (show bif' (Nat.beq f 51 && C4.contains c) _ none = some r from h) rfl
        rw [Bool.and_eq_true] at hc
        obtain rfl:=Option.some.inj e
        cases Nat.eq_of_beq_eq_true hc.1
        have : Cd c:=by
          have : c = 0 ∨ c = 1 ∨ c = 2 ∨ c = 3:=by simpa [C4] using hc.2
          exact this
        exact (either_ev this).up hk
      | _=>exact nope h
theorem o2pT_hom (k : Nat) (hk : 1 ≤ k) (x : D) : Hom (fun (o : Option D) (p : Prop)=>o = some x → p) (cO tG mTab) (cE k) :=
  ⟨fun e=>(by exact nope e),fun f vs ds hp k1 k2 hvs hkk e=>(by
    have e : (match tG f ds with | some r=>k1 (.d r) hp | none=>none) = some x:=e
    show ∃ ds r,allD vs = some ds ∧ Ev k f ds r ∧ k2 (.d r) hp
    split at e
    · rename_i r hr
      exact ⟨ds,r,hvs,tG_ok hk hr,hkk _ _ e⟩
    · exact nope e),fun _ _=>rfl,fun f vs hp k1 k2 _ _ e=>(by exact nope e)⟩
theorem o2pT {k : Nat} (hk : 1 ≤ k) {b : SL} {st : St} {x : D} {K : Fl → St → Prop} (h : aSL (cO tG mTab) b st (fun fl _=>endO fl) = some x) (hK : ∀ st,K (.ret (.d x)) st) : aSL (cE k) b st K:=by
  refine aSL_h (o2pT_hom k hk x) b st (k1:=fun fl _=>endO fl) (fun fl st e=>?_) h
  cases fl with
  | nxt=>exact nope e
  | ret v =>
    cases v with
    | d y=>cases e; exact hK st
    | c _=>exact nope e
noncomputable def lvSt (el th sg : D) (ins : List D) (w s : Int) : St:={ loc:=[(142,some (.d el)),(163,some (.d th)),(88,none),(173,none),(176,none),(128,some (.d (.lst ins))),(170,none),(124,none),(182,none)],cel:=[(172,some (.d sg)),(181,some (.d (.int w))),(180,some (.d (.int s)))],gl:=[50,51,53,52],hp:=[] }
theorem map4 {α : Type} {f g : Int → α} (h : C4.map f = C4.map g) {c : Int} (hc : Cd c) : f c = g c:=by
  have h : [f 0,f 1,f 2,f 3] = [g 0,g 1,g 2,g 3]:=h
  injection h with h0 h; injection h with h1 h; injection h with h2 h; injection h with h3 h
  rcases cd4 hc with rfl | rfl | rfl | rfl <;> assumption
noncomputable def triOpen (i : Nat) : Int:=match i with | 8=>0 | 10=>0 | 13=>0 | _=>1
noncomputable def triVal (i : Nat) (d : Int) : Int:=match i with | 12=>d | 13=>d | 10=>oppS d | 11=>oppS d | _=>oppS (oppS d)
noncomputable def triP (i : Nat) (d c w s : Int) : D :=
  let v:=triVal i d
  if c = triOpen i then (if v = 0 then .tup [.int (-w),.int (-w)] else if v = 1 then .tup [.int s,.int s] else if v = 2 then .tup [.int 0,.int 0] else .tup [.int (-w),.int s])
  else if c = 0 ∨ c = 1 ∨ v = 2 then .tup [.int 0,.int 0] else if v = 0 then .tup [.int (-w),.int 0] else if v = 1 then .tup [.int 0,.int s] else .tup [.int (-w),.int s]
noncomputable def triUp (i : Nat) : Int:=match i with | 10=>0 | 11=>0 | _=>1
noncomputable def triL (i : Nat) (d c w s : Int) : List Int:=(codeBits c).flatMap fun ctl=>if ctl ≠ triOpen i then [0] else if d = 2 ∧ 12 ≤ i then [0] else (codeBits d).map fun bit=>if bit = triUp i then s else 0 - w
theorem triL_ok {i : Nat} {d c w s : Int} (hw : IsS8 w) (hs : IsS8 s) : LevOk (triL i d c w s):=by
  unfold IsS8 at hw hs
  have cb : ∀ c : Int,codeBits c ≠ []:=fun c=>by unfold codeBits; split <;> simp
  have inner : ∀ ctl : Int,(if ctl ≠ triOpen i then [0] else if d = 2 ∧ 12 ≤ i then [0] else (codeBits d).map fun bit=>if bit = triUp i then s else 0 - w) ≠ ([] : List Int):=fun ctl=>by
    split
    · simp
    · split
      · simp
      · simpa using cb d
  refine ⟨fun e=>?_,fun x hx=>?_⟩
  · obtain ⟨ctl,hc⟩:=List.exists_mem_of_ne_nil _ (cb c)
    exact inner ctl (List.flatMap_eq_nil_iff.mp e ctl hc)
  · obtain ⟨ctl,_,hx⟩:=List.mem_flatMap.mp hx
    split at hx
    · rw [List.mem_singleton.mp hx]; omega
    · split at hx
      · rw [List.mem_singleton.mp hx]; omega
      · obtain ⟨b,_,rfl⟩:=List.mem_map.mp hx
        split <;> omega
theorem pf_0 {w s : Int} (hw : IsS8 w) (hs : IsS8 s) : pairD [0] = .tup [.int (0),.int (0)]:=by
  unfold IsS8 at hw hs
  rw [pair_of (a:=0) (b:=0) (by simp) (by simp) (by simp) (by simp; try omega)]
theorem pf_1 {w s : Int} (hw : IsS8 w) (hs : IsS8 s) : pairD [0,0] = .tup [.int (0),.int (0)]:=by
  unfold IsS8 at hw hs
  rw [pair_of (a:=0) (b:=0) (by simp) (by simp) (by simp) (by simp; try omega)]
theorem pf_2 {w s : Int} (hw : IsS8 w) (hs : IsS8 s) : pairD [0,0 - w] = .tup [.int (-w),.int (0)]:=by
  unfold IsS8 at hw hs
  rw [pair_of (a:=0 - w) (b:=0) (by simp) (by simp) (by simp) (by simp; try omega)]
  rw [Int.zero_sub]
theorem pf_3 {w s : Int} (hw : IsS8 w) (hs : IsS8 s) : pairD [0,0 - w,s] = .tup [.int (-w),.int (s)]:=by
  unfold IsS8 at hw hs
  rw [pair_of (a:=0 - w) (b:=s) (by simp) (by simp) (by simp) (by simp; try omega)]
  rw [Int.zero_sub]
theorem pf_4 {w s : Int} (hw : IsS8 w) (hs : IsS8 s) : pairD [0,s] = .tup [.int (0),.int (s)]:=by
  unfold IsS8 at hw hs
  rw [pair_of (a:=0) (b:=s) (by simp) (by simp) (by simp) (by simp; try omega)]
theorem pf_5 {w s : Int} (hw : IsS8 w) (hs : IsS8 s) : pairD [0,s,0 - w] = .tup [.int (-w),.int (s)]:=by
  unfold IsS8 at hw hs
  rw [pair_of (a:=0 - w) (b:=s) (by simp) (by simp) (by simp) (by simp; try omega)]
  rw [Int.zero_sub]
theorem pf_6 {w s : Int} (hw : IsS8 w) (hs : IsS8 s) : pairD [0 - w] = .tup [.int (-w),.int (-w)]:=by
  unfold IsS8 at hw hs
  rw [pair_of (a:=0 - w) (b:=0 - w) (by simp) (by simp) (by simp) (by simp; try omega)]
  rw [Int.zero_sub]
theorem pf_7 {w s : Int} (hw : IsS8 w) (hs : IsS8 s) : pairD [0 - w,0] = .tup [.int (-w),.int (0)]:=by
  unfold IsS8 at hw hs
  rw [pair_of (a:=0 - w) (b:=0) (by simp) (by simp) (by simp) (by simp; try omega)]
  rw [Int.zero_sub]
theorem pf_8 {w s : Int} (hw : IsS8 w) (hs : IsS8 s) : pairD [0 - w,s] = .tup [.int (-w),.int (s)]:=by
  unfold IsS8 at hw hs
  rw [pair_of (a:=0 - w) (b:=s) (by simp) (by simp) (by simp) (by simp; try omega)]
  rw [Int.zero_sub]
theorem pf_9 {w s : Int} (hw : IsS8 w) (hs : IsS8 s) : pairD [0 - w,s,0] = .tup [.int (-w),.int (s)]:=by
  unfold IsS8 at hw hs
  rw [pair_of (a:=0 - w) (b:=s) (by simp) (by simp) (by simp) (by simp; try omega)]
  rw [Int.zero_sub]
theorem pf_10 {w s : Int} (hw : IsS8 w) (hs : IsS8 s) : pairD [s] = .tup [.int (s),.int (s)]:=by
  unfold IsS8 at hw hs
  rw [pair_of (a:=s) (b:=s) (by simp) (by simp) (by simp) (by simp; try omega)]
theorem pf_11 {w s : Int} (hw : IsS8 w) (hs : IsS8 s) : pairD [s,0] = .tup [.int (0),.int (s)]:=by
  unfold IsS8 at hw hs
  rw [pair_of (a:=0) (b:=s) (by simp) (by simp) (by simp) (by simp; try omega)]
theorem pf_12 {w s : Int} (hw : IsS8 w) (hs : IsS8 s) : pairD [s,0 - w] = .tup [.int (-w),.int (s)]:=by
  unfold IsS8 at hw hs
  rw [pair_of (a:=0 - w) (b:=s) (by simp) (by simp) (by simp) (by simp; try omega)]
  rw [Int.zero_sub]
theorem pf_13 {w s : Int} (hw : IsS8 w) (hs : IsS8 s) : pairD [s,0 - w,0] = .tup [.int (-w),.int (s)]:=by
  unfold IsS8 at hw hs
  rw [pair_of (a:=0 - w) (b:=s) (by simp) (by simp) (by simp) (by simp; try omega)]
  rw [Int.zero_sub]
theorem tri33_8 (w s : Int) : (C4.map fun d=>C4.map fun c=>pk 3 33 [.str [98,117,102,105,102,48],.int d,.int c,.int w,.int s]) = C4.map fun d=>C4.map fun c=>some (triP 8 d c w s):=by kernel_rfl
theorem triLev_8 (nu sp sg x y : D) (w s : Int) : (C4.map fun d=>C4.map fun c=>aSL (cO tG mTab) (dropSL 7 f__law_levels.body) (lvSt (elG nu sp (.str [98,117,102,105,102,48]) [x,y] (.int w) (.int s)) (thingD [169,110,128] [sp,.str [98,117,102,105,102,48],.tup [x,y]]) sg [.int d,.int c] w s) (fun fl _=>endO fl)) = C4.map fun d=>C4.map fun c=>some (.lst [levD (triL 8 d c w s)]):=by kernel_rfl
theorem triEq_8 {d c w s : Int} (hd : Cd d) (hc : Cd c) (hw : IsS8 w) (hs : IsS8 s) : pairD (triL 8 d c w s) = triP 8 d c w s:=by
  rcases cd4 hd with rfl | rfl | rfl | rfl <;> rcases cd4 hc with rfl | rfl | rfl | rfl
  · exact pf_6 hw hs
  · exact pf_0 hw hs
  · exact pf_7 hw hs
  · exact pf_7 hw hs
  · exact pf_10 hw hs
  · exact pf_0 hw hs
  · exact pf_11 hw hs
  · exact pf_11 hw hs
  · exact pf_8 hw hs
  · exact pf_0 hw hs
  · exact pf_9 hw hs
  · exact pf_9 hw hs
  · exact pf_8 hw hs
  · exact pf_0 hw hs
  · exact pf_9 hw hs
  · exact pf_9 hw hs
theorem gate_8 {nu sp ctx sg x y : D} {p q w s : Int} (e0 : InEv x ctx sg p) (e1 : InEv y ctx sg q) (hw : IsS8 w) (hs : IsS8 s) : Elem1 (elG nu sp (.str [98,117,102,105,102,48]) [x,y] (.int w) (.int s)) ctx sg:=by
  have hp:=e0.cd
  have hq:=e1.cd
  refine ⟨triL 8 p q w s,triL_ok hw hs,?_,?_⟩
  · rw [triEq_8 hp hq hw hs]
    refine gate_pairs2 e0 e1 ?_
    exact Ev.ofL (k:=3) (fi:=f_gate_pair) rfl rfl (.cons (show Ev 1 30 [.str [98,117,102,105,102,48]] (.bool true) from .of0 (fi:=f_is_three_state) rfl rfl (by kernel_rfl)) (by decide) (.cons (show Ev 3 33 [.str [98,117,102,105,102,48],.int p,.int q,.int w,.int s] (triP 8 p q w s) from map4 (map4 (tri33_8 w s) hp) hq) (by decide) .nil)) (by kernel_rfl)
  · obtain ⟨r0,l0⟩:=e0.row
    obtain ⟨r1,l1⟩:=e1.row
    refine Ev.up (j:=7) (k:=5) (Ev.ofP (k:=4) (fi:=f__law_levels) rfl rfl ?_) (by decide)
    refine stepE l0 (by decide) rfl ?_
    refine stepE l1 (by decide) rfl ?_
    exact Eq.mpr (β:=aSL (cE 4) (dropSL 7 f__law_levels.body) (lvSt (elG nu sp (.str [98,117,102,105,102,48]) [x,y] (.int w) (.int s)) (thingD [169,110,128] [sp,.str [98,117,102,105,102,48],.tup [x,y]]) sg [.int p,.int q] w s) (fun fl _=>fl = .ret (.d (.lst [levD (triL 8 p q w s)])))) (by kernel_rfl) (o2pT (by decide) (map4 (map4 (triLev_8 nu sp sg x y w s) hp) hq) fun _=>rfl)
theorem tri33_9 (w s : Int) : (C4.map fun d=>C4.map fun c=>pk 3 33 [.str [98,117,102,105,102,49],.int d,.int c,.int w,.int s]) = C4.map fun d=>C4.map fun c=>some (triP 9 d c w s):=by kernel_rfl
theorem triLev_9 (nu sp sg x y : D) (w s : Int) : (C4.map fun d=>C4.map fun c=>aSL (cO tG mTab) (dropSL 7 f__law_levels.body) (lvSt (elG nu sp (.str [98,117,102,105,102,49]) [x,y] (.int w) (.int s)) (thingD [169,110,128] [sp,.str [98,117,102,105,102,49],.tup [x,y]]) sg [.int d,.int c] w s) (fun fl _=>endO fl)) = C4.map fun d=>C4.map fun c=>some (.lst [levD (triL 9 d c w s)]):=by kernel_rfl
theorem triEq_9 {d c w s : Int} (hd : Cd d) (hc : Cd c) (hw : IsS8 w) (hs : IsS8 s) : pairD (triL 9 d c w s) = triP 9 d c w s:=by
  rcases cd4 hd with rfl | rfl | rfl | rfl <;> rcases cd4 hc with rfl | rfl | rfl | rfl
  · exact pf_0 hw hs
  · exact pf_6 hw hs
  · exact pf_2 hw hs
  · exact pf_2 hw hs
  · exact pf_0 hw hs
  · exact pf_10 hw hs
  · exact pf_4 hw hs
  · exact pf_4 hw hs
  · exact pf_0 hw hs
  · exact pf_8 hw hs
  · exact pf_3 hw hs
  · exact pf_3 hw hs
  · exact pf_0 hw hs
  · exact pf_8 hw hs
  · exact pf_3 hw hs
  · exact pf_3 hw hs
theorem gate_9 {nu sp ctx sg x y : D} {p q w s : Int} (e0 : InEv x ctx sg p) (e1 : InEv y ctx sg q) (hw : IsS8 w) (hs : IsS8 s) : Elem1 (elG nu sp (.str [98,117,102,105,102,49]) [x,y] (.int w) (.int s)) ctx sg:=by
  have hp:=e0.cd
  have hq:=e1.cd
  refine ⟨triL 9 p q w s,triL_ok hw hs,?_,?_⟩
  · rw [triEq_9 hp hq hw hs]
    refine gate_pairs2 e0 e1 ?_
    exact Ev.ofL (k:=3) (fi:=f_gate_pair) rfl rfl (.cons (show Ev 1 30 [.str [98,117,102,105,102,49]] (.bool true) from .of0 (fi:=f_is_three_state) rfl rfl (by kernel_rfl)) (by decide) (.cons (show Ev 3 33 [.str [98,117,102,105,102,49],.int p,.int q,.int w,.int s] (triP 9 p q w s) from map4 (map4 (tri33_9 w s) hp) hq) (by decide) .nil)) (by kernel_rfl)
  · obtain ⟨r0,l0⟩:=e0.row
    obtain ⟨r1,l1⟩:=e1.row
    refine Ev.up (j:=7) (k:=5) (Ev.ofP (k:=4) (fi:=f__law_levels) rfl rfl ?_) (by decide)
    refine stepE l0 (by decide) rfl ?_
    refine stepE l1 (by decide) rfl ?_
    exact Eq.mpr (β:=aSL (cE 4) (dropSL 7 f__law_levels.body) (lvSt (elG nu sp (.str [98,117,102,105,102,49]) [x,y] (.int w) (.int s)) (thingD [169,110,128] [sp,.str [98,117,102,105,102,49],.tup [x,y]]) sg [.int p,.int q] w s) (fun fl _=>fl = .ret (.d (.lst [levD (triL 9 p q w s)])))) (by kernel_rfl) (o2pT (by decide) (map4 (map4 (triLev_9 nu sp sg x y w s) hp) hq) fun _=>rfl)
theorem tri33_10 (w s : Int) : (C4.map fun d=>C4.map fun c=>pk 3 33 [.str [110,111,116,105,102,48],.int d,.int c,.int w,.int s]) = C4.map fun d=>C4.map fun c=>some (triP 10 d c w s):=by kernel_rfl
theorem triLev_10 (nu sp sg x y : D) (w s : Int) : (C4.map fun d=>C4.map fun c=>aSL (cO tG mTab) (dropSL 7 f__law_levels.body) (lvSt (elG nu sp (.str [110,111,116,105,102,48]) [x,y] (.int w) (.int s)) (thingD [169,110,128] [sp,.str [110,111,116,105,102,48],.tup [x,y]]) sg [.int d,.int c] w s) (fun fl _=>endO fl)) = C4.map fun d=>C4.map fun c=>some (.lst [levD (triL 10 d c w s)]):=by kernel_rfl
theorem triEq_10 {d c w s : Int} (hd : Cd d) (hc : Cd c) (hw : IsS8 w) (hs : IsS8 s) : pairD (triL 10 d c w s) = triP 10 d c w s:=by
  rcases cd4 hd with rfl | rfl | rfl | rfl <;> rcases cd4 hc with rfl | rfl | rfl | rfl
  · exact pf_10 hw hs
  · exact pf_0 hw hs
  · exact pf_11 hw hs
  · exact pf_11 hw hs
  · exact pf_6 hw hs
  · exact pf_0 hw hs
  · exact pf_7 hw hs
  · exact pf_7 hw hs
  · exact pf_12 hw hs
  · exact pf_0 hw hs
  · exact pf_13 hw hs
  · exact pf_13 hw hs
  · exact pf_12 hw hs
  · exact pf_0 hw hs
  · exact pf_13 hw hs
  · exact pf_13 hw hs
theorem gate_10 {nu sp ctx sg x y : D} {p q w s : Int} (e0 : InEv x ctx sg p) (e1 : InEv y ctx sg q) (hw : IsS8 w) (hs : IsS8 s) : Elem1 (elG nu sp (.str [110,111,116,105,102,48]) [x,y] (.int w) (.int s)) ctx sg:=by
  have hp:=e0.cd
  have hq:=e1.cd
  refine ⟨triL 10 p q w s,triL_ok hw hs,?_,?_⟩
  · rw [triEq_10 hp hq hw hs]
    refine gate_pairs2 e0 e1 ?_
    exact Ev.ofL (k:=3) (fi:=f_gate_pair) rfl rfl (.cons (show Ev 1 30 [.str [110,111,116,105,102,48]] (.bool true) from .of0 (fi:=f_is_three_state) rfl rfl (by kernel_rfl)) (by decide) (.cons (show Ev 3 33 [.str [110,111,116,105,102,48],.int p,.int q,.int w,.int s] (triP 10 p q w s) from map4 (map4 (tri33_10 w s) hp) hq) (by decide) .nil)) (by kernel_rfl)
  · obtain ⟨r0,l0⟩:=e0.row
    obtain ⟨r1,l1⟩:=e1.row
    refine Ev.up (j:=7) (k:=5) (Ev.ofP (k:=4) (fi:=f__law_levels) rfl rfl ?_) (by decide)
    refine stepE l0 (by decide) rfl ?_
    refine stepE l1 (by decide) rfl ?_
    exact Eq.mpr (β:=aSL (cE 4) (dropSL 7 f__law_levels.body) (lvSt (elG nu sp (.str [110,111,116,105,102,48]) [x,y] (.int w) (.int s)) (thingD [169,110,128] [sp,.str [110,111,116,105,102,48],.tup [x,y]]) sg [.int p,.int q] w s) (fun fl _=>fl = .ret (.d (.lst [levD (triL 10 p q w s)])))) (by kernel_rfl) (o2pT (by decide) (map4 (map4 (triLev_10 nu sp sg x y w s) hp) hq) fun _=>rfl)
theorem tri33_11 (w s : Int) : (C4.map fun d=>C4.map fun c=>pk 3 33 [.str [110,111,116,105,102,49],.int d,.int c,.int w,.int s]) = C4.map fun d=>C4.map fun c=>some (triP 11 d c w s):=by kernel_rfl
theorem triLev_11 (nu sp sg x y : D) (w s : Int) : (C4.map fun d=>C4.map fun c=>aSL (cO tG mTab) (dropSL 7 f__law_levels.body) (lvSt (elG nu sp (.str [110,111,116,105,102,49]) [x,y] (.int w) (.int s)) (thingD [169,110,128] [sp,.str [110,111,116,105,102,49],.tup [x,y]]) sg [.int d,.int c] w s) (fun fl _=>endO fl)) = C4.map fun d=>C4.map fun c=>some (.lst [levD (triL 11 d c w s)]):=by kernel_rfl
theorem triEq_11 {d c w s : Int} (hd : Cd d) (hc : Cd c) (hw : IsS8 w) (hs : IsS8 s) : pairD (triL 11 d c w s) = triP 11 d c w s:=by
  rcases cd4 hd with rfl | rfl | rfl | rfl <;> rcases cd4 hc with rfl | rfl | rfl | rfl
  · exact pf_0 hw hs
  · exact pf_10 hw hs
  · exact pf_4 hw hs
  · exact pf_4 hw hs
  · exact pf_0 hw hs
  · exact pf_6 hw hs
  · exact pf_2 hw hs
  · exact pf_2 hw hs
  · exact pf_0 hw hs
  · exact pf_12 hw hs
  · exact pf_5 hw hs
  · exact pf_5 hw hs
  · exact pf_0 hw hs
  · exact pf_12 hw hs
  · exact pf_5 hw hs
  · exact pf_5 hw hs
theorem gate_11 {nu sp ctx sg x y : D} {p q w s : Int} (e0 : InEv x ctx sg p) (e1 : InEv y ctx sg q) (hw : IsS8 w) (hs : IsS8 s) : Elem1 (elG nu sp (.str [110,111,116,105,102,49]) [x,y] (.int w) (.int s)) ctx sg:=by
  have hp:=e0.cd
  have hq:=e1.cd
  refine ⟨triL 11 p q w s,triL_ok hw hs,?_,?_⟩
  · rw [triEq_11 hp hq hw hs]
    refine gate_pairs2 e0 e1 ?_
    exact Ev.ofL (k:=3) (fi:=f_gate_pair) rfl rfl (.cons (show Ev 1 30 [.str [110,111,116,105,102,49]] (.bool true) from .of0 (fi:=f_is_three_state) rfl rfl (by kernel_rfl)) (by decide) (.cons (show Ev 3 33 [.str [110,111,116,105,102,49],.int p,.int q,.int w,.int s] (triP 11 p q w s) from map4 (map4 (tri33_11 w s) hp) hq) (by decide) .nil)) (by kernel_rfl)
  · obtain ⟨r0,l0⟩:=e0.row
    obtain ⟨r1,l1⟩:=e1.row
    refine Ev.up (j:=7) (k:=5) (Ev.ofP (k:=4) (fi:=f__law_levels) rfl rfl ?_) (by decide)
    refine stepE l0 (by decide) rfl ?_
    refine stepE l1 (by decide) rfl ?_
    exact Eq.mpr (β:=aSL (cE 4) (dropSL 7 f__law_levels.body) (lvSt (elG nu sp (.str [110,111,116,105,102,49]) [x,y] (.int w) (.int s)) (thingD [169,110,128] [sp,.str [110,111,116,105,102,49],.tup [x,y]]) sg [.int p,.int q] w s) (fun fl _=>fl = .ret (.d (.lst [levD (triL 11 p q w s)])))) (by kernel_rfl) (o2pT (by decide) (map4 (map4 (triLev_11 nu sp sg x y w s) hp) hq) fun _=>rfl)
theorem tri33_12 (w s : Int) : (C4.map fun d=>C4.map fun c=>pk 3 33 [.str [110,109,111,115],.int d,.int c,.int w,.int s]) = C4.map fun d=>C4.map fun c=>some (triP 12 d c w s):=by kernel_rfl
theorem triLev_12 (nu sp sg x y : D) (w s : Int) : (C4.map fun d=>C4.map fun c=>aSL (cO tG mTab) (dropSL 7 f__law_levels.body) (lvSt (elG nu sp (.str [110,109,111,115]) [x,y] (.int w) (.int s)) (thingD [169,110,128] [sp,.str [110,109,111,115],.tup [x,y]]) sg [.int d,.int c] w s) (fun fl _=>endO fl)) = C4.map fun d=>C4.map fun c=>some (.lst [levD (triL 12 d c w s)]):=by kernel_rfl
theorem triEq_12 {d c w s : Int} (hd : Cd d) (hc : Cd c) (hw : IsS8 w) (hs : IsS8 s) : pairD (triL 12 d c w s) = triP 12 d c w s:=by
  rcases cd4 hd with rfl | rfl | rfl | rfl <;> rcases cd4 hc with rfl | rfl | rfl | rfl
  · exact pf_0 hw hs
  · exact pf_6 hw hs
  · exact pf_2 hw hs
  · exact pf_2 hw hs
  · exact pf_0 hw hs
  · exact pf_10 hw hs
  · exact pf_4 hw hs
  · exact pf_4 hw hs
  · exact pf_0 hw hs
  · exact pf_0 hw hs
  · exact pf_1 hw hs
  · exact pf_1 hw hs
  · exact pf_0 hw hs
  · exact pf_8 hw hs
  · exact pf_3 hw hs
  · exact pf_3 hw hs
theorem gate_12 {nu sp ctx sg x y : D} {p q w s : Int} (e0 : InEv x ctx sg p) (e1 : InEv y ctx sg q) (hw : IsS8 w) (hs : IsS8 s) : Elem1 (elG nu sp (.str [110,109,111,115]) [x,y] (.int w) (.int s)) ctx sg:=by
  have hp:=e0.cd
  have hq:=e1.cd
  refine ⟨triL 12 p q w s,triL_ok hw hs,?_,?_⟩
  · rw [triEq_12 hp hq hw hs]
    refine gate_pairs2 e0 e1 ?_
    exact Ev.ofL (k:=3) (fi:=f_gate_pair) rfl rfl (.cons (show Ev 1 30 [.str [110,109,111,115]] (.bool true) from .of0 (fi:=f_is_three_state) rfl rfl (by kernel_rfl)) (by decide) (.cons (show Ev 3 33 [.str [110,109,111,115],.int p,.int q,.int w,.int s] (triP 12 p q w s) from map4 (map4 (tri33_12 w s) hp) hq) (by decide) .nil)) (by kernel_rfl)
  · obtain ⟨r0,l0⟩:=e0.row
    obtain ⟨r1,l1⟩:=e1.row
    refine Ev.up (j:=7) (k:=5) (Ev.ofP (k:=4) (fi:=f__law_levels) rfl rfl ?_) (by decide)
    refine stepE l0 (by decide) rfl ?_
    refine stepE l1 (by decide) rfl ?_
    exact Eq.mpr (β:=aSL (cE 4) (dropSL 7 f__law_levels.body) (lvSt (elG nu sp (.str [110,109,111,115]) [x,y] (.int w) (.int s)) (thingD [169,110,128] [sp,.str [110,109,111,115],.tup [x,y]]) sg [.int p,.int q] w s) (fun fl _=>fl = .ret (.d (.lst [levD (triL 12 p q w s)])))) (by kernel_rfl) (o2pT (by decide) (map4 (map4 (triLev_12 nu sp sg x y w s) hp) hq) fun _=>rfl)
theorem tri33_13 (w s : Int) : (C4.map fun d=>C4.map fun c=>pk 3 33 [.str [112,109,111,115],.int d,.int c,.int w,.int s]) = C4.map fun d=>C4.map fun c=>some (triP 13 d c w s):=by kernel_rfl
theorem triLev_13 (nu sp sg x y : D) (w s : Int) : (C4.map fun d=>C4.map fun c=>aSL (cO tG mTab) (dropSL 7 f__law_levels.body) (lvSt (elG nu sp (.str [112,109,111,115]) [x,y] (.int w) (.int s)) (thingD [169,110,128] [sp,.str [112,109,111,115],.tup [x,y]]) sg [.int d,.int c] w s) (fun fl _=>endO fl)) = C4.map fun d=>C4.map fun c=>some (.lst [levD (triL 13 d c w s)]):=by kernel_rfl
theorem triEq_13 {d c w s : Int} (hd : Cd d) (hc : Cd c) (hw : IsS8 w) (hs : IsS8 s) : pairD (triL 13 d c w s) = triP 13 d c w s:=by
  rcases cd4 hd with rfl | rfl | rfl | rfl <;> rcases cd4 hc with rfl | rfl | rfl | rfl
  · exact pf_6 hw hs
  · exact pf_0 hw hs
  · exact pf_7 hw hs
  · exact pf_7 hw hs
  · exact pf_10 hw hs
  · exact pf_0 hw hs
  · exact pf_11 hw hs
  · exact pf_11 hw hs
  · exact pf_0 hw hs
  · exact pf_0 hw hs
  · exact pf_1 hw hs
  · exact pf_1 hw hs
  · exact pf_8 hw hs
  · exact pf_0 hw hs
  · exact pf_9 hw hs
  · exact pf_9 hw hs
theorem gate_13 {nu sp ctx sg x y : D} {p q w s : Int} (e0 : InEv x ctx sg p) (e1 : InEv y ctx sg q) (hw : IsS8 w) (hs : IsS8 s) : Elem1 (elG nu sp (.str [112,109,111,115]) [x,y] (.int w) (.int s)) ctx sg:=by
  have hp:=e0.cd
  have hq:=e1.cd
  refine ⟨triL 13 p q w s,triL_ok hw hs,?_,?_⟩
  · rw [triEq_13 hp hq hw hs]
    refine gate_pairs2 e0 e1 ?_
    exact Ev.ofL (k:=3) (fi:=f_gate_pair) rfl rfl (.cons (show Ev 1 30 [.str [112,109,111,115]] (.bool true) from .of0 (fi:=f_is_three_state) rfl rfl (by kernel_rfl)) (by decide) (.cons (show Ev 3 33 [.str [112,109,111,115],.int p,.int q,.int w,.int s] (triP 13 p q w s) from map4 (map4 (tri33_13 w s) hp) hq) (by decide) .nil)) (by kernel_rfl)
  · obtain ⟨r0,l0⟩:=e0.row
    obtain ⟨r1,l1⟩:=e1.row
    refine Ev.up (j:=7) (k:=5) (Ev.ofP (k:=4) (fi:=f__law_levels) rfl rfl ?_) (by decide)
    refine stepE l0 (by decide) rfl ?_
    refine stepE l1 (by decide) rfl ?_
    exact Eq.mpr (β:=aSL (cE 4) (dropSL 7 f__law_levels.body) (lvSt (elG nu sp (.str [112,109,111,115]) [x,y] (.int w) (.int s)) (thingD [169,110,128] [sp,.str [112,109,111,115],.tup [x,y]]) sg [.int p,.int q] w s) (fun fl _=>fl = .ret (.d (.lst [levD (triL 13 p q w s)])))) (by kernel_rfl) (o2pT (by decide) (map4 (map4 (triLev_13 nu sp sg x y w s) hp) hq) fun _=>rfl)
end
end Mine
end
section
open PySem.Spec
set_option maxHeartbeats 2000000
namespace Mine
noncomputable section
theorem o2pG_hom {T : Tab} {k : Nat} (hT : ∀ f ds r,T f ds = some r → Ev k f ds r) (x : D) : Hom (fun (o : Option D) (p : Prop)=>o = some x → p) (cO T mTab) (cE k) :=
  ⟨fun e=>(by exact nope e),fun f vs ds hp k1 k2 hvs hkk e=>(by
    have e : (match T f ds with | some r=>k1 (.d r) hp | none=>none) = some x:=e
    show ∃ ds r,allD vs = some ds ∧ Ev k f ds r ∧ k2 (.d r) hp
    split at e
    · rename_i r hr
      exact ⟨ds,r,hvs,hT _ _ _ hr,hkk _ _ e⟩
    · exact nope e),fun _ _=>rfl,fun f vs hp k1 k2 _ _ e=>(by exact nope e)⟩
theorem Ev.ofT {T : Tab} {k f : Nat} {fi : FI} {ds : List D} {x : D} (hT : ∀ f ds r,T f ds = some r → Ev k f ds r) (hf : nth fiL f = some fi) (hl : Nat.beq ds.length fi.pars.length = true) (h : isO (aSL (cO T mTab) fi.body (startOf fi (ds.map .d) []) fun fl _=>endO fl) x = true) : Ev (k + 1) f ds x:=by
  refine Ev.ofP hf hl ?_
  refine aSL_h (o2pG_hom hT x) fi.body _ (k1:=fun fl _=>endO fl) (fun fl st e=>?_) (isO.ok h)
  cases fl with
  | nxt=>exact nope e
  | ret v =>
    cases v with
    | d y=>cases e; rfl
    | c _=>exact nope e
noncomputable def plainC (c : Int) : Int:=if c = 2 then 3 else c
noncomputable def matR (a : Nat) (c : Int) : Bool:=match a with
  | 48=>c == 0
  | 49=>c == 1
  | 120=>c == 3 || c == 2
  | 63=>true
  | _=>c == 0 || c == 1
noncomputable def symCodes (a : Nat) : D:=match a with
  | 48=>.tup [.int 0]
  | 49=>.tup [.int 1]
  | 120=>.tup [.int 3]
  | 63=>.tup [.int 0,.int 1,.int 3]
  | _=>.tup [.int 0,.int 1]
noncomputable def tU1 (f a : Nat) : Option D:=bif' (mem symC a) (bif' (Nat.beq f 36) (some (.bool false)) (bif' (Nat.beq f 35) (some (symCodes a)) none)) none
noncomputable def tU : Tab:=fun f ds=>match ds with
  | []=>none
  | x :: l=>match l with
    | _ :: _=>none
    | []=>match x with
      | .str s=>match s with
        | []=>none
        | a :: s=>match s with
          | []=>tU1 f a
          | _ :: _=>none
      | _=>none
theorem sym5 {a : Nat} (h : a ∈ symC) : a = 48 ∨ a = 49 ∨ a = 120 ∨ a = 63 ∨ a = 98:=by simpa [symC] using h
theorem edge_ev {a : Nat} (h : a ∈ symC) : Ev 1 36 [.str [a]] (.bool false):=by
  rcases sym5 h with rfl | rfl | rfl | rfl | rfl <;> exact .of0 (fi:=f_is_edge) rfl rfl (by kernel_rfl)
theorem lev_ev {a : Nat} (h : a ∈ symC) : Ev 1 35 [.str [a]] (symCodes a):=by
  rcases sym5 h with rfl | rfl | rfl | rfl | rfl <;> exact .of0 (fi:=f_level_codes) rfl rfl (by kernel_rfl)
theorem tU_ok (f : Nat) (ds : List D) (r : D) (h : tU f ds = some r) : Ev 1 f ds r:=by
  cases ds with
  | nil=>exact nope h
  | cons x l=>cases l with
    | cons _ _=>exact nope h
    | nil=>cases x with
      | str s=>cases s with
        | nil=>exact nope h
        | cons a s=>cases s with
          | cons _ _=>exact nope h
          | nil =>
            obtain ⟨hc,h⟩:=bif_some (show bif' (mem symC a) _ none = some r from h) rfl
            have hc:=mem_is.mp hc
            cases h6 : Nat.beq f 36 with
            | true=>rw [h6] at h; cases h; cases Nat.eq_of_beq_eq_true h6; exact edge_ev hc
            | false=>rw [h6] at h; obtain ⟨h5,h⟩:=bif_some (show bif' (Nat.beq f 35) _ none = some r from h) rfl; cases h; cases Nat.eq_of_beq_eq_true h5; exact lev_ev hc
      | _=>exact nope h
theorem match_B : (symC.all fun a=>symC.all fun b=>C4.all fun p=>C4.all fun q=>isO (aSL (cO tU mTab) f_levels_match.body (startOf f_levels_match ([D.lst [.str [a],.str [b]],.lst [.int (plainC p),.int (plainC q)],.int (-1)].map .d) []) fun fl _=>endO fl) (.bool (matR a p && matR b q))) = true:=by kernel_rfl
theorem match_ev {a b : Nat} {p q : Int} (ha : a ∈ symC) (hb : b ∈ symC) (hp : Cd p) (hq : Cd q) : Ev 2 39 [.lst [.str [a],.str [b]],.lst [.int (plainC p),.int (plainC q)],.int (-1)] (.bool (matR a p && matR b q)) :=
  Ev.ofT (fi:=f_levels_match) tU_ok rfl rfl (all4 (all4 (List.all_eq_true.mp (List.all_eq_true.mp match_B a ha) b hb) hp) hq)
noncomputable def outC (o : Nat) : Int:=match o with
  | 48=>0
  | 49=>1
  | _=>3
noncomputable def IsOut (o : Nat) : Prop:=o = 48 ∨ o = 49 ∨ o = 120
theorem out_ev {o : Nat} (h : IsOut o) : Ev 2 37 [.str [o],.int 3] (.int (outC o)):=by
  rcases h with rfl | rfl | rfl <;> exact Ev.ofT (fi:=f_out_code) tU_ok rfl rfl (by kernel_rfl)
theorem plain_ev {c : Int} (h : Cd c) : Ev 1 38 [.int c] (.int (plainC c)):=by
  rcases cd4 h with rfl | rfl | rfl | rfl <;> exact .of0 (fi:=f_plain) rfl rfl (by kernel_rfl)
noncomputable abbrev Rw:=Nat × Nat × Nat
noncomputable def RwOk (r : Rw) : Prop:=r.1 ∈ symC ∧ r.2.1 ∈ symC ∧ IsOut r.2.2
noncomputable def rwD (r : Rw) : D:=.tup [.lst [.str [r.1],.str [r.2.1]],.none,.str [r.2.2]]
theorem rows_of : ∀ (rows : List D),(∀ r ∈ rows,IsRow r) → ∃ rs : List Rw,rows = rs.map rwD ∧ ∀ r ∈ rs,RwOk r
  | [],_=>⟨[],rfl,fun _ h=>nomatch h⟩
  | r :: rows,h=>by
    obtain ⟨rs,rfl,hr⟩:=rows_of rows fun x hx=>h x (.tail _ hx)
    obtain ⟨a,b,o,ha,hb,ho,rfl⟩:=h r (.head _)
    refine ⟨(a,b,o) :: rs,rfl,fun x hx=>?_⟩
    rcases List.mem_cons.mp hx with rfl | hx
    · exact ⟨ha,hb,ho⟩
    · exact hr x hx
noncomputable def tabS : List Rw → Int → Int → Int
  | [],_,_=>3
  | r :: rs,p,q=>match matR r.1 p && matR r.2.1 q with
    | true=>outC r.2.2
    | false=>tabS rs p q
theorem tabS_cd : ∀ (rs : List Rw) (p q : Int),tabS rs p q = 0 ∨ tabS rs p q = 1 ∨ tabS rs p q = 3
  | [],_,_=>.inr (.inr rfl)
  | r :: rs,p,q=>by
    unfold tabS
    split
    · unfold outC; split <;> simp
    · exact tabS_cd rs p q
noncomputable def nlSt (pr co nw : D) (ins state out : Option V) : St:={ loc:=[(104,some (.d pr)),(122,some (.d co)),(131,some (.d nw)),(128,ins),(127,state),(126,out)],cel:=[],gl:=[39,37],hp:=[] }
noncomputable def nlFor : S:=nthS f_next_level.body 1
noncomputable def nlBody : SL:=match nlFor with | .for _ _ _ _ _ b _=>b | _=>.nil
noncomputable def nlTg : Tg:=match nlFor with | .for t _ _ _ _ _ _=>t | _=>.loc 0 ⟨0,0,0,0⟩
theorem next_loop {pr co : D} {p q : Int} (hp : Cd p) (hq : Cd q) {K : Fl → St → Prop} : ∀ (rs : List Rw) (a b c : Option V),(∀ r ∈ rs,RwOk r) →
    (∀ a b c,K .nxt (nlSt pr co (.lst [.int (plainC p),.int (plainC q)]) a b c) → True) → (∀ st,K (.ret (.d (.int (tabS rs p q)))) st) → (∀ a b c,tabS rs p q = 3 → K .nxt (nlSt pr co (.lst [.int (plainC p),.int (plainC q)]) a b c)) →
    loopF (fun x st k=>aG (cE 2) nlTg (.d x) st fun st=>aSL (cE 2) nlBody st k) (rs.map rwD) (nlSt pr co (.lst [.int (plainC p),.int (plainC q)]) a b c) K
  | [],a,b,c,_,_,_,hn=>hn a b c rfl
  | (x,y,z) :: rs,a,b,c,hr,ht,hret,hn=>by
    obtain ⟨hx,hy,hz⟩:=hr _ (.head _)
    have hm:=match_ev hx hy hp hq
    cases e : matR x p && matR y q with
    | true =>
      rw [e] at hm
      have et : tabS ((x,y,z) :: rs) p q = outC z:=by
        show (match matR x p && matR y q with | true=>outC z | false=>tabS rs p q) = _
        rw [e]
      rw [et] at hret
      refine stepE hm (by decide) rfl ?_
      refine stepE (out_ev hz) (by decide) rfl ?_
      exact hret _
    | false =>
      rw [e] at hm
      have et : tabS ((x,y,z) :: rs) p q = tabS rs p q:=by
        show (match matR x p && matR y q with | true=>outC z | false=>tabS rs p q) = _
        rw [e]
      rw [et] at hret hn
      refine stepE hm (by decide) rfl ?_
      exact next_loop hp hq rs _ _ _ (fun r h=>hr r (.tail _ h)) ht hret hn
theorem next_ev {rs : List Rw} {p q : Int} (hp : Cd p) (hq : Cd q) (hr : ∀ r ∈ rs,RwOk r) : Ev 3 40 [thingD [141,130] [.bool false,.lst (rs.map rwD)],.lst [.int p,.int q]] (.int (tabS rs p q)):=by
  refine Ev.ofP (k:=2) (fi:=f_next_level) rfl rfl ?_
  refine stepE (plain_ev hp) (by decide) rfl ?_
  refine stepE (plain_ev hq) (by decide) rfl ?_
  refine Eq.mpr (β:=loopF (fun x st k=>aG (cE 2) nlTg (.d x) st fun st=>aSL (cE 2) nlBody st k) (rs.map rwD) (nlSt (thingD [141,130] [.bool false,.lst (rs.map rwD)]) (.lst [.int p,.int q]) (.lst [.int (plainC p),.int (plainC q)]) none none none) (fun fl st=>match fl with
    | .nxt=>aSL (cE 2) (dropSL 2 f_next_level.body) st (fun fl _=>fl = .ret (.d (.int (tabS rs p q))))
    | .ret v=>(Fl.ret v) = .ret (.d (.int (tabS rs p q))))) (by kernel_rfl) ?_
  refine next_loop hp hq rs _ _ _ hr (fun _ _ _ _=>trivial) (fun _=>rfl) fun a b c e=>?_
  rw [e]
  exact rfl
noncomputable def tbSt (rows ins : D) (signs state out : Option V) : St:={ loc:=[(130,some (.d rows)),(128,some (.d ins)),(179,some (.d (.dict [[48],[49],[120],[63],[98]] [.lst [.int 0],.lst [.int 1],.lst [.int 3,.int 2],.lst [.int 0,.int 1,.int 2,.int 3],.lst [.int 0,.int 1]]))),(178,signs),(127,state),(126,out)],cel:=[],gl:=[158],hp:=[] }
noncomputable def tbFor : S:=nthS f__law_table.body 1
noncomputable def tbBody : SL:=match tbFor with | .for _ _ _ _ _ b _=>b | _=>.nil
noncomputable def tbTg : Tg:=match tbFor with | .for t _ _ _ _ _ _=>t | _=>.loc 0 ⟨0,0,0,0⟩
noncomputable def tbT2 : X:=match nthS tbBody 0 with
  | .iff (.bop _ (.cons _ (.cons x _)) _) _ _ _=>x
  | _=>.cnone ⟨0,0,0,0⟩
noncomputable def tbRet : SL:=match nthS tbBody 0 with
  | .iff _ a _ _=>a
  | _=>.nil
theorem tb_second {rows : D} {x y z : Nat} {p q : Int} (hy : y ∈ symC) (hq : Cd q) {kb : Bool → St → Prop} (h : kb (matR y q) (tbSt rows (.lst [.int p,.int q]) (some (.d (.lst [.str [x],.str [y]]))) (some (.d .none)) (some (.d (.str [z]))))) :
    aT (cE 0) tbT2 (tbSt rows (.lst [.int p,.int q]) (some (.d (.lst [.str [x],.str [y]]))) (some (.d .none)) (some (.d (.str [z])))) kb:=by
  rcases sym5 hy with rfl | rfl | rfl | rfl | rfl <;> rcases cd4 hq with rfl | rfl | rfl | rfl
  · exact Eq.mpr (β:=kb true (tbSt rows (.lst [.int p,.int 0]) (some (.d (.lst [.str [x],.str [48]]))) (some (.d .none)) (some (.d (.str [z]))))) (by kernel_rfl) h
  · exact Eq.mpr (β:=kb false (tbSt rows (.lst [.int p,.int 1]) (some (.d (.lst [.str [x],.str [48]]))) (some (.d .none)) (some (.d (.str [z]))))) (by kernel_rfl) h
  · exact Eq.mpr (β:=kb false (tbSt rows (.lst [.int p,.int 2]) (some (.d (.lst [.str [x],.str [48]]))) (some (.d .none)) (some (.d (.str [z]))))) (by kernel_rfl) h
  · exact Eq.mpr (β:=kb false (tbSt rows (.lst [.int p,.int 3]) (some (.d (.lst [.str [x],.str [48]]))) (some (.d .none)) (some (.d (.str [z]))))) (by kernel_rfl) h
  · exact Eq.mpr (β:=kb false (tbSt rows (.lst [.int p,.int 0]) (some (.d (.lst [.str [x],.str [49]]))) (some (.d .none)) (some (.d (.str [z]))))) (by kernel_rfl) h
  · exact Eq.mpr (β:=kb true (tbSt rows (.lst [.int p,.int 1]) (some (.d (.lst [.str [x],.str [49]]))) (some (.d .none)) (some (.d (.str [z]))))) (by kernel_rfl) h
  · exact Eq.mpr (β:=kb false (tbSt rows (.lst [.int p,.int 2]) (some (.d (.lst [.str [x],.str [49]]))) (some (.d .none)) (some (.d (.str [z]))))) (by kernel_rfl) h
  · exact Eq.mpr (β:=kb false (tbSt rows (.lst [.int p,.int 3]) (some (.d (.lst [.str [x],.str [49]]))) (some (.d .none)) (some (.d (.str [z]))))) (by kernel_rfl) h
  · exact Eq.mpr (β:=kb false (tbSt rows (.lst [.int p,.int 0]) (some (.d (.lst [.str [x],.str [120]]))) (some (.d .none)) (some (.d (.str [z]))))) (by kernel_rfl) h
  · exact Eq.mpr (β:=kb false (tbSt rows (.lst [.int p,.int 1]) (some (.d (.lst [.str [x],.str [120]]))) (some (.d .none)) (some (.d (.str [z]))))) (by kernel_rfl) h
  · exact Eq.mpr (β:=kb true (tbSt rows (.lst [.int p,.int 2]) (some (.d (.lst [.str [x],.str [120]]))) (some (.d .none)) (some (.d (.str [z]))))) (by kernel_rfl) h
  · exact Eq.mpr (β:=kb true (tbSt rows (.lst [.int p,.int 3]) (some (.d (.lst [.str [x],.str [120]]))) (some (.d .none)) (some (.d (.str [z]))))) (by kernel_rfl) h
  · exact Eq.mpr (β:=kb true (tbSt rows (.lst [.int p,.int 0]) (some (.d (.lst [.str [x],.str [63]]))) (some (.d .none)) (some (.d (.str [z]))))) (by kernel_rfl) h
  · exact Eq.mpr (β:=kb true (tbSt rows (.lst [.int p,.int 1]) (some (.d (.lst [.str [x],.str [63]]))) (some (.d .none)) (some (.d (.str [z]))))) (by kernel_rfl) h
  · exact Eq.mpr (β:=kb true (tbSt rows (.lst [.int p,.int 2]) (some (.d (.lst [.str [x],.str [63]]))) (some (.d .none)) (some (.d (.str [z]))))) (by kernel_rfl) h
  · exact Eq.mpr (β:=kb true (tbSt rows (.lst [.int p,.int 3]) (some (.d (.lst [.str [x],.str [63]]))) (some (.d .none)) (some (.d (.str [z]))))) (by kernel_rfl) h
  · exact Eq.mpr (β:=kb true (tbSt rows (.lst [.int p,.int 0]) (some (.d (.lst [.str [x],.str [98]]))) (some (.d .none)) (some (.d (.str [z]))))) (by kernel_rfl) h
  · exact Eq.mpr (β:=kb true (tbSt rows (.lst [.int p,.int 1]) (some (.d (.lst [.str [x],.str [98]]))) (some (.d .none)) (some (.d (.str [z]))))) (by kernel_rfl) h
  · exact Eq.mpr (β:=kb false (tbSt rows (.lst [.int p,.int 2]) (some (.d (.lst [.str [x],.str [98]]))) (some (.d .none)) (some (.d (.str [z]))))) (by kernel_rfl) h
  · exact Eq.mpr (β:=kb false (tbSt rows (.lst [.int p,.int 3]) (some (.d (.lst [.str [x],.str [98]]))) (some (.d .none)) (some (.d (.str [z]))))) (by kernel_rfl) h
theorem tb_turn {rows : D} {x y z : Nat} {p q : Int} (hx : x ∈ symC) (hy : y ∈ symC) (hz : IsOut z) (hp : Cd p) (hq : Cd q) {a b c : Option V} {K : Fl → St → Prop}
    (ht : (matR x p && matR y q) = true → ∀ st,K (.ret (.d (.lst ((codeBits (outC z)).map .int)))) st) (hf : (matR x p && matR y q) = false → ∀ a b c,K .nxt (tbSt rows (.lst [.int p,.int q]) a b c)) :
    aG (cE 0) tbTg (.d (rwD (x,y,z))) (tbSt rows (.lst [.int p,.int q]) a b c) fun st=>aSL (cE 0) tbBody st K:=by
  have hret : (matR x p && matR y q) = true → aSL (cE 0) tbRet (tbSt rows (.lst [.int p,.int q]) (some (.d (.lst [.str [x],.str [y]]))) (some (.d .none)) (some (.d (.str [z])))) (fun fl st=>match fl with | .nxt=>aSL (cE 0) .nil st K | .ret v=>K (.ret v) st):=fun e=>by
    rcases hz with rfl | rfl | rfl
    · exact ht e _
    · exact ht e _
    · exact ht e _
  have hnxt : (matR x p && matR y q) = false → aSL (cE 0) .nil (tbSt rows (.lst [.int p,.int q]) (some (.d (.lst [.str [x],.str [y]]))) (some (.d .none)) (some (.d (.str [z])))) (fun fl st=>match fl with | .nxt=>aSL (cE 0) .nil st K | .ret v=>K (.ret v) st):=fun e=>hf e _ _ _
  have both : ∀ r : Bool,(matR x p && matR y q) = r → (match r with
      | true=>aSL (cE 0) tbRet (tbSt rows (.lst [.int p,.int q]) (some (.d (.lst [.str [x],.str [y]]))) (some (.d .none)) (some (.d (.str [z])))) (fun fl st=>match fl with | .nxt=>aSL (cE 0) .nil st K | .ret v=>K (.ret v) st)
      | false=>aSL (cE 0) .nil (tbSt rows (.lst [.int p,.int q]) (some (.d (.lst [.str [x],.str [y]]))) (some (.d .none)) (some (.d (.str [z])))) (fun fl st=>match fl with | .nxt=>aSL (cE 0) .nil st K | .ret v=>K (.ret v) st)):=fun r e=>by
    cases r with
    | true=>exact hret e
    | false=>exact hnxt e
  let kb : Bool → St → Prop:=fun r st=>match r with
      | true=>aSL (cE 0) tbRet st (fun fl st=>match fl with | .nxt=>aSL (cE 0) .nil st K | .ret v=>K (.ret v) st)
      | false=>aSL (cE 0) .nil st (fun fl st=>match fl with | .nxt=>aSL (cE 0) .nil st K | .ret v=>K (.ret v) st)
  let B (x : Nat) (p : Int) : Prop:=aT (cE 0) tbT2 (tbSt rows (.lst [.int p,.int q]) (some (.d (.lst [.str [x],.str [y]]))) (some (.d .none)) (some (.d (.str [z])))) fun r st=>(match BoolOp.And,r with
      | .And,false=>kb false st
      | .Or,true=>kb true st
      | _,_=>aTs (cE 0) .And .nil st kb)
  have second : matR x p = true → B x p:=fun e=>tb_second hy hq (by
    have:=both (matR y q) (by rw [e]; rfl)
    cases hm : matR y q <;> rw [hm] at this <;> exact this)
  rcases sym5 hx with rfl | rfl | rfl | rfl | rfl <;> rcases cd4 hp with rfl | rfl | rfl | rfl
  · exact Eq.mpr (β:=B 48 0) (by kernel_rfl) (second rfl)
  · exact Eq.mpr (β:=K .nxt (tbSt rows (.lst [.int 1,.int q]) (some (.d (.lst [.str [48],.str [y]]))) (some (.d .none)) (some (.d (.str [z]))))) (by kernel_rfl) (hf rfl _ _ _)
  · exact Eq.mpr (β:=K .nxt (tbSt rows (.lst [.int 2,.int q]) (some (.d (.lst [.str [48],.str [y]]))) (some (.d .none)) (some (.d (.str [z]))))) (by kernel_rfl) (hf rfl _ _ _)
  · exact Eq.mpr (β:=K .nxt (tbSt rows (.lst [.int 3,.int q]) (some (.d (.lst [.str [48],.str [y]]))) (some (.d .none)) (some (.d (.str [z]))))) (by kernel_rfl) (hf rfl _ _ _)
  · exact Eq.mpr (β:=K .nxt (tbSt rows (.lst [.int 0,.int q]) (some (.d (.lst [.str [49],.str [y]]))) (some (.d .none)) (some (.d (.str [z]))))) (by kernel_rfl) (hf rfl _ _ _)
  · exact Eq.mpr (β:=B 49 1) (by kernel_rfl) (second rfl)
  · exact Eq.mpr (β:=K .nxt (tbSt rows (.lst [.int 2,.int q]) (some (.d (.lst [.str [49],.str [y]]))) (some (.d .none)) (some (.d (.str [z]))))) (by kernel_rfl) (hf rfl _ _ _)
  · exact Eq.mpr (β:=K .nxt (tbSt rows (.lst [.int 3,.int q]) (some (.d (.lst [.str [49],.str [y]]))) (some (.d .none)) (some (.d (.str [z]))))) (by kernel_rfl) (hf rfl _ _ _)
  · exact Eq.mpr (β:=K .nxt (tbSt rows (.lst [.int 0,.int q]) (some (.d (.lst [.str [120],.str [y]]))) (some (.d .none)) (some (.d (.str [z]))))) (by kernel_rfl) (hf rfl _ _ _)
  · exact Eq.mpr (β:=K .nxt (tbSt rows (.lst [.int 1,.int q]) (some (.d (.lst [.str [120],.str [y]]))) (some (.d .none)) (some (.d (.str [z]))))) (by kernel_rfl) (hf rfl _ _ _)
  · exact Eq.mpr (β:=B 120 2) (by kernel_rfl) (second rfl)
  · exact Eq.mpr (β:=B 120 3) (by kernel_rfl) (second rfl)
  · exact Eq.mpr (β:=B 63 0) (by kernel_rfl) (second rfl)
  · exact Eq.mpr (β:=B 63 1) (by kernel_rfl) (second rfl)
  · exact Eq.mpr (β:=B 63 2) (by kernel_rfl) (second rfl)
  · exact Eq.mpr (β:=B 63 3) (by kernel_rfl) (second rfl)
  · exact Eq.mpr (β:=B 98 0) (by kernel_rfl) (second rfl)
  · exact Eq.mpr (β:=B 98 1) (by kernel_rfl) (second rfl)
  · exact Eq.mpr (β:=K .nxt (tbSt rows (.lst [.int 2,.int q]) (some (.d (.lst [.str [98],.str [y]]))) (some (.d .none)) (some (.d (.str [z]))))) (by kernel_rfl) (hf rfl _ _ _)
  · exact Eq.mpr (β:=K .nxt (tbSt rows (.lst [.int 3,.int q]) (some (.d (.lst [.str [98],.str [y]]))) (some (.d .none)) (some (.d (.str [z]))))) (by kernel_rfl) (hf rfl _ _ _)
theorem tb_loop {rows : D} {p q : Int} (hp : Cd p) (hq : Cd q) {K : Fl → St → Prop} : ∀ (rs : List Rw) (a b c : Option V),(∀ r ∈ rs,RwOk r) → (∀ st,K (.ret (.d (.lst ((codeBits (tabS rs p q)).map .int)))) st) → (∀ a b c,tabS rs p q = 3 → K .nxt (tbSt rows (.lst [.int p,.int q]) a b c)) →
    loopF (fun x st k=>aG (cE 0) tbTg (.d x) st fun st=>aSL (cE 0) tbBody st k) (rs.map rwD) (tbSt rows (.lst [.int p,.int q]) a b c) K
  | [],a,b,c,_,_,hn=>hn a b c rfl
  | (x,y,z) :: rs,a,b,c,hr,hret,hn=>by
    obtain ⟨hx,hy,hz⟩:=hr _ (.head _)
    rw [List.map_cons]
    unfold loopF
    refine tb_turn hx hy hz hp hq (fun e st=>?_) fun e a b c=>?_
    · have et : tabS ((x,y,z) :: rs) p q = outC z:=by
        show (match matR x p && matR y q with | true=>outC z | false=>tabS rs p q) = _
        rw [e]
      rw [et] at hret
      exact hret st
    · have et : tabS ((x,y,z) :: rs) p q = tabS rs p q:=by
        show (match matR x p && matR y q with | true=>outC z | false=>tabS rs p q) = _
        rw [e]
      rw [et] at hret hn
      exact tb_loop hp hq rs a b c (fun r h=>hr r (.tail _ h)) hret hn
theorem table_ev {rs : List Rw} {p q : Int} (hp : Cd p) (hq : Cd q) (hr : ∀ r ∈ rs,RwOk r) : Ev 1 53 [.lst (rs.map rwD),.lst [.int p,.int q]] (.lst ((codeBits (tabS rs p q)).map .int)):=by
  refine Ev.ofP (k:=0) (fi:=f__law_table) rfl rfl ?_
  refine Eq.mpr (β:=loopF (fun x st k=>aG (cE 0) tbTg (.d x) st fun st=>aSL (cE 0) tbBody st k) (rs.map rwD) (tbSt (.lst (rs.map rwD)) (.lst [.int p,.int q]) none none none) (fun fl st=>match fl with
    | .nxt=>aSL (cE 0) (dropSL 2 f__law_table.body) st (fun fl _=>fl = .ret (.d (.lst ((codeBits (tabS rs p q)).map .int))))
    | .ret v=>(Fl.ret v) = .ret (.d (.lst ((codeBits (tabS rs p q)).map .int))))) (by kernel_rfl) ?_
  refine tb_loop hp hq rs _ _ _ hr (fun _=>rfl) fun a b c e=>?_
  rw [e]
  exact rfl
noncomputable abbrev elU (nu sp : D) (rows : List D) (x y : D) : D:=elD nu (.str [117,100,112]) (thingD [169,140,128] [sp,thingD [141,130] [.bool false,.lst rows],.tup [x,y]]) (.tup [.int 6,.int 6])
theorem udp_el {nu sp ctx sg x y : D} {p q : Int} {rs : List Rw} (e0 : InEv x ctx sg p) (e1 : InEv y ctx sg q) (hr : ∀ r ∈ rs,RwOk r) : Elem1 (elU nu sp (rs.map rwD) x y) ctx sg:=by
  have hp:=e0.cd
  have hq:=e1.cd
  have h6 : IsS8 6:=⟨by decide,by decide⟩
  have hg : Cd (tabS rs p q):=by rcases tabS_cd rs p q with e | e | e <;> rw [e] <;> simp [Cd]
  have hl : codeL (tabS rs p q) 6 6 = bitsL (codeBits (tabS rs p q)) 6 6:=by rcases tabS_cd rs p q with e | e | e <;> rw [e] <;> rfl
  obtain ⟨v,a,b⟩:=e0.ev
  obtain ⟨v2,a2,b2⟩:=e1.ev
  obtain ⟨r0,l0⟩:=e0.row
  obtain ⟨r1,l1⟩:=e1.row
  refine ⟨codeL (tabS rs p q) 6 6,lev_code hg h6 h6,?_,?_⟩
  · have h41 : Ev 4 41 [elU nu sp (rs.map rwD) x y,.lst [.int p,.int q]] (.int (tabS rs p q)):=by
      exact Ev.ofL (k:=3) (fi:=f_primitive_code) rfl rfl (.cons (next_ev hp hq hr) (by decide) .nil) (by kernel_rfl)
    exact Ev.ofL (k:=6) (fi:=f_element_pairs) rfl rfl (.cons a (by decide) (.cons b (by decide) (.cons a2 (by decide) (.cons b2 (by decide) (.cons h41 (by decide) (.cons (drive_ev hg h6 h6) (by decide) .nil)))))) (by kernel_rfl)
  · rw [hl]
    refine Ev.up (j:=7) (k:=5) (Ev.ofP (k:=4) (fi:=f__law_levels) rfl rfl ?_) (by decide)
    refine stepE l0 (by decide) rfl ?_
    refine stepE l1 (by decide) rfl ?_
    refine stepE (table_ev hp hq hr) (by decide) rfl ?_
    have hB : (codeBits (tabS rs p q)).length ≤ 1000:=by unfold codeBits; split <;> simp
    show bif' (mem (ciOf 9).tgs 176 && frsIn (ciOf 9).frs _ && decide (((codeBits (tabS rs p q)).map D.int).length ≤ 1000)) _ _
    rw [bif_t (by rw [Bool.and_eq_true]; exact ⟨rfl,decide_eq_true (by rw [List.length_map]; exact hB)⟩)]
    refine comp_bits (codeBits (tabS rs p q)) none [] fun v'=>?_
    rw [List.nil_append]
    dsimp only
    rw [allD_ints]
    exact rfl
end
end Mine
end
section
open PySem.Spec
set_option maxHeartbeats 2000000
namespace Mine
noncomputable section
section
variable {s0 s1 s2 : Int × Int}
theorem in_ev {e : D} (h : IsInput e) (hs : SgOk s0 s1 s2) : ∃ c,InEv e (ctxD (sgD s0 s1 s2)) (sgD s0 s1 s2) c:=by
  obtain ⟨v,c,r,h1,h2,h3,h4⟩:=input_ev h hs
  exact ⟨c,h1,⟨v,h2,h3⟩,⟨r,h4⟩⟩
noncomputable def avSt (el th sg : D) (one : Option V) (w s : Int) (acc : List V) : St:={ loc:=[(142,some (.d el)),(163,some (.d th)),(88,some (.c 0)),(173,one),(176,none),(128,none),(170,none),(124,none),(182,none)],cel:=[(172,some (.d sg)),(181,some (.d (.int w))),(180,some (.d (.int s)))],gl:=[50,51,53,52],hp:=[some (.lst acc)] }
noncomputable def avB : SL:=match nthS f__law_levels.body 2 with | .iff _ a _ _=>a | _=>.nil
noncomputable def avTg : Tg:=match nthS avB 1 with | .for t _ _ _ _ _ _=>t | _=>.loc 0 ⟨0,0,0,0⟩
noncomputable def avBody : SL:=match nthS avB 1 with | .for _ _ _ _ _ b _=>b | _=>.nil
theorem av_turn {el th sg : D} {one : Option V} {w s c : Int} {acc : List V} (hc : Cd c) (ha : acc = [] ∨ ∃ X,acc = [V.d X]) {K : Fl → St → Prop} (hK : K .nxt (avSt el th sg (some (.d (.int c))) w s (acc ++ [.d (levD (codeL c w s))]))) :
    aG (cE 4) avTg (.d (.int c)) (avSt el th sg one w s acc) fun st=>aSL (cE 4) avBody st K:=by
  have e:=either_ev hc
  rcases ha with rfl | ⟨X,rfl⟩ <;> rcases cd4 hc with rfl | rfl | rfl | rfl
  · refine stepE e (by decide) rfl ?_
    exact Eq.mpr (β:=K .nxt (avSt el th sg (some (.d (.int 0))) w s ([] ++ [.d (levD (codeL 0 w s))]))) (by kernel_rfl) hK
  · refine stepE e (by decide) rfl ?_
    exact Eq.mpr (β:=K .nxt (avSt el th sg (some (.d (.int 1))) w s ([] ++ [.d (levD (codeL 1 w s))]))) (by kernel_rfl) hK
  · exact Eq.mpr (β:=K .nxt (avSt el th sg (some (.d (.int 2))) w s ([] ++ [.d (levD (codeL 2 w s))]))) (by kernel_rfl) hK
  · refine stepE e (by decide) rfl ?_
    exact Eq.mpr (β:=K .nxt (avSt el th sg (some (.d (.int 3))) w s ([] ++ [.d (levD (codeL 3 w s))]))) (by kernel_rfl) hK
  · refine stepE e (by decide) rfl ?_
    exact Eq.mpr (β:=K .nxt (avSt el th sg (some (.d (.int 0))) w s ([V.d X] ++ [.d (levD (codeL 0 w s))]))) (by kernel_rfl) hK
  · refine stepE e (by decide) rfl ?_
    exact Eq.mpr (β:=K .nxt (avSt el th sg (some (.d (.int 1))) w s ([V.d X] ++ [.d (levD (codeL 1 w s))]))) (by kernel_rfl) hK
  · exact Eq.mpr (β:=K .nxt (avSt el th sg (some (.d (.int 2))) w s ([V.d X] ++ [.d (levD (codeL 2 w s))]))) (by kernel_rfl) hK
  · refine stepE e (by decide) rfl ?_
    exact Eq.mpr (β:=K .nxt (avSt el th sg (some (.d (.int 3))) w s ([V.d X] ++ [.d (levD (codeL 3 w s))]))) (by kernel_rfl) hK
theorem asg_lev2 {nu sp v sg : D} {p q w s : Int} (hp : Cd p) (hq : Cd q) (h : Ev 4 50 [v,sg] (rowD p q)) : Ev 5 54 [elA nu sp v (.int w) (.int s),sg] (.lst [levD (codeL p w s),levD (codeL q w s)]):=by
  refine Ev.ofP (k:=4) (fi:=f__law_levels) rfl rfl ?_
  refine stepE h (by decide) rfl ?_
  let KA : Fl → St → Prop:=fun fl st=>match fl with
    | .nxt=>aSL (cE 4) (dropSL 2 avB) st (fun fl st=>match fl with | .nxt=>aSL (cE 4) (dropSL 3 f__law_levels.body) st (fun fl _=>fl = .ret (.d (.lst [levD (codeL p w s),levD (codeL q w s)]))) | .ret v=>(Fl.ret v) = .ret (.d (.lst [levD (codeL p w s),levD (codeL q w s)])))
    | .ret v=>(match Fl.ret v with | .nxt=>aSL (cE 4) (dropSL 3 f__law_levels.body) st (fun fl _=>fl = .ret (.d (.lst [levD (codeL p w s),levD (codeL q w s)]))) | .ret v=>(Fl.ret v) = .ret (.d (.lst [levD (codeL p w s),levD (codeL q w s)])))
  refine Eq.mpr (β:=loopF (fun x st k=>aG (cE 4) avTg (.d x) st fun st=>aSL (cE 4) avBody st k) [.int p,.int q] (avSt (elA nu sp v (.int w) (.int s)) (thingD [169,90] [sp,v]) sg none w s []) KA) (by kernel_rfl) ?_
  unfold loopF
  refine av_turn hp (.inl rfl) ?_
  show loopF _ [.int q] _ _
  unfold loopF
  refine av_turn hq (.inr ⟨_,rfl⟩) ?_
  exact Eq.mpr (β:=Fl.ret (.d (.lst [levD (codeL p w s),levD (codeL q w s)])) = Fl.ret (.d (.lst [levD (codeL p w s),levD (codeL q w s)]))) (by kernel_rfl) rfl
theorem asg_el {nu t : D} {sp w s wide : Int} (ht : IsTerm t) (hw : IsS8 w) (hs : IsS8 s) (hwd : wide = 1 ∨ wide = 2) (hsg : SgOk s0 s1 s2) :
    ∃ rows : List (List Int),rows.length = wide.toNat ∧ (∀ r ∈ rows,LevOk r) ∧ Ev 7 42 [elA nu (.int sp) (slcE wide t 0) (.int w) (.int s),ctxD (sgD s0 s1 s2)] (.lst (rows.map pairD)) ∧ Ev 7 54 [elA nu (.int sp) (slcE wide t 0) (.int w) (.int s),sgD s0 s1 s2] (.lst (rows.map levD)):=by
  obtain ⟨p,q,hp,hq,h1,h2⟩:=term_ev ht hsg
  have sl:=slice_at hp hq
  have sr:=slc_row h2
  rcases hwd with rfl | rfl
  · exact ⟨[codeL p w s],rfl,by simpa using lev_code hp hw hs,asg_pairs (slc_ev h1 sl.1) (drive1 hp hw hs),(asg_lev1 hp sr.1).up (by decide)⟩
  · exact ⟨[codeL p w s,codeL q w s],rfl,by simpa using ⟨lev_code hp hw hs,lev_code hq hw hs⟩,asg_pairs (slc_ev h1 sl.2.2) (drive2 hp hq hw hs),(asg_lev2 hp hq sr.2.2).up (by decide)⟩
theorem udp_all {nu x y : D} {sp : Int} {rows : List D} (hr : ∀ r ∈ rows,IsRow r) (hx : IsInput x) (hy : IsInput y) (hsg : SgOk s0 s1 s2) : Elem1 (elU nu (.int sp) rows x y) (ctxD (sgD s0 s1 s2)) (sgD s0 s1 s2):=by
  obtain ⟨rs,rfl,h⟩:=rows_of rows hr
  obtain ⟨p,e0⟩:=in_ev hx hsg
  obtain ⟨q,e1⟩:=in_ev hy hsg
  exact udp_el e0 e1 h
theorem nat_or {P : Nat → Prop} (n : Nat) (h : ∀ i : Fin n,P i.val) {k : Nat} (h1 : k < n) : P k:=h ⟨k,h1⟩
theorem len1 {α : Type} {l : List α} (h : l.length = 1) : ∃ a,l = [a]:=by
  match l,h with
  | [a],_=>exact ⟨a,rfl⟩
theorem len2 {α : Type} {l : List α} (h : l.length = 2) : ∃ a b,l = [a,b]:=by
  match l,h with
  | [a,b],_=>exact ⟨a,b,rfl⟩
theorem len3 {α : Type} {l : List α} (h : l.length = 3) : ∃ a b c,l = [a,b,c]:=by
  match l,h with
  | [a,b,c],_=>exact ⟨a,b,c,rfl⟩
theorem gate_all {nu : D} {sp s t : Int} {w : Nat} {ks : List Nat} {ins : List D} (hk : nth kindsL w = some ks) (hi : ∀ e ∈ ins,IsInput e) (hl : w < 6 ∧ (ins.length = 2 ∨ ins.length = 3) ∨ (w = 6 ∨ w = 7) ∧ ins.length = 1 ∨ (8 ≤ w ∧ w ≤ 13) ∧ ins.length = 2 ∨ 14 ≤ w ∧ ins.length = 0)
    (h1 : IsS8 s) (h2 : IsS8 t) (hsg : SgOk s0 s1 s2) : Elem1 (elG nu (.int sp) (.str ks) ins (.int s) (.int t)) (ctxD (sgD s0 s1 s2)) (sgD s0 s1 s2):=by
  have hw : w < 16:=by
    by_cases h : w < 16
    · exact h
    · have : ∀ (l : List (List Nat)) (n : Nat),l.length ≤ n → nth l n = none:=by
        intro l
        induction l with
        | nil=>intro n _; rfl
        | cons a r ih =>
          intro n hn
          cases n with
          | zero=>exact absurd hn (Nat.not_succ_le_zero _)
          | succ n=>exact ih n (Nat.le_of_succ_le_succ hn)
      rw [this kindsL w (Nat.le_of_not_lt h)] at hk
      exact nope hk
  rcases hl with ⟨h6,hl | hl⟩ | ⟨h6,hl⟩ | ⟨h8,hl⟩ | ⟨h14,hl⟩
  · obtain ⟨x,y,rfl⟩:=len2 hl
    obtain ⟨p,e0⟩:=in_ev (hi x (by simp)) hsg
    obtain ⟨q,e1⟩:=in_ev (hi y (by simp)) hsg
    have : w = 0 ∨ w = 1 ∨ w = 2 ∨ w = 3 ∨ w = 4 ∨ w = 5:=nat_or (P:=fun w=>w = 0 ∨ w = 1 ∨ w = 2 ∨ w = 3 ∨ w = 4 ∨ w = 5) 6 (by decide) h6
    rcases this with rfl | rfl | rfl | rfl | rfl | rfl <;> obtain rfl:=Option.some.inj hk
    · exact gate_2 .and e0 e1 h1 h2
    · exact gate_2 .nand e0 e1 h1 h2
    · exact gate_2 .or e0 e1 h1 h2
    · exact gate_2 .nor e0 e1 h1 h2
    · exact gate_2 .xor e0 e1 h1 h2
    · exact gate_2 .xnor e0 e1 h1 h2
  · obtain ⟨x,y,z,rfl⟩:=len3 hl
    obtain ⟨p,e0⟩:=in_ev (hi x (by simp)) hsg
    obtain ⟨q,e1⟩:=in_ev (hi y (by simp)) hsg
    obtain ⟨r,e2⟩:=in_ev (hi z (by simp)) hsg
    have : w = 0 ∨ w = 1 ∨ w = 2 ∨ w = 3 ∨ w = 4 ∨ w = 5:=nat_or (P:=fun w=>w = 0 ∨ w = 1 ∨ w = 2 ∨ w = 3 ∨ w = 4 ∨ w = 5) 6 (by decide) h6
    rcases this with rfl | rfl | rfl | rfl | rfl | rfl <;> obtain rfl:=Option.some.inj hk
    · exact gate_3 .and e0 e1 e2 h1 h2
    · exact gate_3 .nand e0 e1 e2 h1 h2
    · exact gate_3 .or e0 e1 e2 h1 h2
    · exact gate_3 .nor e0 e1 e2 h1 h2
    · exact gate_3 .xor e0 e1 e2 h1 h2
    · exact gate_3 .xnor e0 e1 e2 h1 h2
  · obtain ⟨x,rfl⟩:=len1 hl
    obtain ⟨p,e0⟩:=in_ev (hi x (by simp)) hsg
    rcases h6 with rfl | rfl <;> obtain rfl:=Option.some.inj hk
    · exact gate_1 .buf e0 h1 h2
    · exact gate_1 .not e0 h1 h2
  · obtain ⟨x,y,rfl⟩:=len2 hl
    obtain ⟨p,e0⟩:=in_ev (hi x (by simp)) hsg
    obtain ⟨q,e1⟩:=in_ev (hi y (by simp)) hsg
    have : w = 8 ∨ w = 9 ∨ w = 10 ∨ w = 11 ∨ w = 12 ∨ w = 13:=nat_or (P:=fun w=>8 ≤ w → w = 8 ∨ w = 9 ∨ w = 10 ∨ w = 11 ∨ w = 12 ∨ w = 13) 14 (by decide) (Nat.lt_succ_of_le h8.2) h8.1
    rcases this with rfl | rfl | rfl | rfl | rfl | rfl <;> obtain rfl:=Option.some.inj hk
    · exact gate_8 e0 e1 h1 h2
    · exact gate_9 e0 e1 h1 h2
    · exact gate_10 e0 e1 h1 h2
    · exact gate_11 e0 e1 h1 h2
    · exact gate_12 e0 e1 h1 h2
    · exact gate_13 e0 e1 h1 h2
  · obtain rfl:=List.eq_nil_of_length_eq_zero hl
    have : w = 14 ∨ w = 15:=nat_or (P:=fun w=>14 ≤ w → w = 14 ∨ w = 15) 16 (by decide) hw h14
    rcases this with rfl | rfl <;> obtain rfl:=Option.some.inj hk
    · exact gate_14 h2
    · exact gate_15 h1
end
end
end Mine
end
section
open PySem.Spec
set_option maxHeartbeats 2000000
namespace Mine
noncomputable section
noncomputable abbrev Wy:=Int × Int
noncomputable def wayD (x : Wy) : D:=.lst [.int x.1,.int x.2]
noncomputable def comb (w : Wy) (l : Int) : Wy:=(if w.1 < 0 - l then 0 - l else w.1,if w.2 < l then l else w.2)
noncomputable def hasW (F : List Wy) (x : Wy) : Bool:=F.any fun y=>D.beq (wayD y) (wayD x)
noncomputable def insD (F : List Wy) (x : Wy) : List Wy:=match hasW F x with
  | true=>F
  | false=>F ++ [x]
noncomputable def inner (F : List Wy) (w : Wy) (r : List Int) : List Wy:=r.foldl (fun F l=>insD F (comb w l)) F
noncomputable def stepW (W : List Wy) (r : List Int) : List Wy:=W.foldl (fun F w=>inner F w r) []
theorem beq_way (x y : Wy) : D.beq (wayD y) (wayD x) = true ↔ y = x:=by
  obtain ⟨a,b⟩:=x
  obtain ⟨c,d⟩:=y
  show ((c == a) && ((d == b) && true)) = true ↔ _
  simp
theorem hasW_iff {F : List Wy} {x : Wy} : hasW F x = true ↔ x ∈ F:=by
  unfold hasW
  rw [List.any_eq_true]
  constructor
  · rintro ⟨y,hy,e⟩
    rw [← (beq_way x y).mp e]; exact hy
  · intro h
    exact ⟨x,h,(beq_way x x).mpr rfl⟩
theorem mem_ins {F : List Wy} {x y : Wy} : y ∈ insD F x ↔ y ∈ F ∨ y = x:=by
  unfold insD
  split
  · rename_i h
    have:=hasW_iff.mp h
    constructor
    · exact .inl
    · rintro (h | rfl)
      · exact h
      · exact this
  · simp
theorem mem_inner {w : Wy} {y : Wy} : ∀ {r : List Int} {F : List Wy},y ∈ inner F w r ↔ y ∈ F ∨ ∃ l ∈ r,y = comb w l
  | [],F=>by simp [inner]
  | a :: r,F=>by
    have : inner F w (a :: r) = inner (insD F (comb w a)) w r:=rfl
    rw [this,mem_inner,mem_ins]
    constructor
    · rintro ((h | h) | ⟨l,hl,h⟩)
      · exact .inl h
      · exact .inr ⟨a,.head _,h⟩
      · exact .inr ⟨l,.tail _ hl,h⟩
    · rintro (h | ⟨l,hl,h⟩)
      · exact .inl (.inl h)
      · rcases List.mem_cons.mp hl with rfl | hl
        · exact .inl (.inr h)
        · exact .inr ⟨l,hl,h⟩
theorem mem_fold {r : List Int} {y : Wy} : ∀ {W F : List Wy},y ∈ W.foldl (fun F w=>inner F w r) F ↔ y ∈ F ∨ ∃ w ∈ W,∃ l ∈ r,y = comb w l
  | [],F=>by simp
  | a :: W,F=>by
    rw [List.foldl_cons,mem_fold,mem_inner]
    constructor
    · rintro ((h | ⟨l,hl,h⟩) | ⟨w,hw,h⟩)
      · exact .inl h
      · exact .inr ⟨a,.head _,l,hl,h⟩
      · exact .inr ⟨w,.tail _ hw,h⟩
    · rintro (h | ⟨w,hw,h⟩)
      · exact .inl (.inl h)
      · rcases List.mem_cons.mp hw with rfl | hw
        · exact .inl (.inr h)
        · exact .inr ⟨w,hw,h⟩
theorem mem_step {W : List Wy} {r : List Int} {y : Wy} : y ∈ stepW W r ↔ ∃ w ∈ W,∃ l ∈ r,y = comb w l:=by
  unfold stepW; rw [mem_fold]; simp
noncomputable def Good (F : List Wy) : Prop:=F.Nodup ∧ ∀ x ∈ F,0 ≤ x.1 ∧ x.1 ≤ 7 ∧ 0 ≤ x.2 ∧ x.2 ≤ 7
theorem nodup_lt : ∀ (n : Nat) (l : List Nat),l.Nodup → (∀ x ∈ l,x < n) → l.length ≤ n
  | 0,l,_,h=>by
    cases l with
    | nil=>simp
    | cons a r=>exact absurd (h a (.head _)) (Nat.not_lt_zero _)
  | n + 1,l,hn,h=>by
    by_cases hm : n ∈ l
    · have:=nodup_lt n (l.erase n) (hn.erase n) fun x hx=>by
        have h1:=h x (List.mem_of_mem_erase hx)
        have : x ≠ n:=fun e=>by
          rw [e] at hx
          exact (List.Nodup.not_mem_erase hn) hx
        omega
      rw [List.length_erase_of_mem hm] at this
      omega
    · have:=nodup_lt n l hn fun x hx=>by
        have h1:=h x hx
        have : x ≠ n:=fun e=>hm (e ▸ hx)
        omega
      omega
theorem nodup_map {α β : Type} {f : α → β} : ∀ {l : List α},(∀ x ∈ l,∀ y ∈ l,f x = f y → x = y) → l.Nodup → (l.map f).Nodup
  | [],_,_=>by simp
  | a :: r,h,hn=>by
    rw [List.nodup_cons] at hn
    rw [List.map_cons,List.nodup_cons]
    refine ⟨fun hm=>?_,nodup_map (fun x hx y hy=>h x (.tail _ hx) y (.tail _ hy)) hn.2⟩
    obtain ⟨y,hy,e⟩:=List.mem_map.mp hm
    have:=h a (.head _) y (.tail _ hy) e.symm
    exact hn.1 (this ▸ hy)
theorem way_lt {x : Wy} (h1 : 0 ≤ x.1 ∧ x.1 ≤ 7 ∧ 0 ≤ x.2 ∧ x.2 ≤ 7) : (8 * x.1 + x.2).toNat < 64:=by
  obtain ⟨a,b⟩:=x
  exact fin_or (P:=fun a=>(8 * a + b).toNat < 64) 8 (fun i=>fin_or (P:=fun b=>(8 * (i.val : Int) + b).toNat < 64) 8 (fun j=>(by decide : ∀ i j : Fin 8,(8 * (i.val : Int) + (j.val : Int)).toNat < 64) i j) h1.2.2.1 (Int.lt_add_one_of_le h1.2.2.2)) h1.1 (Int.lt_add_one_of_le h1.2.1)
theorem way_inj {x y : Wy} (h1 : 0 ≤ x.1 ∧ x.1 ≤ 7 ∧ 0 ≤ x.2 ∧ x.2 ≤ 7) (h2 : 0 ≤ y.1 ∧ y.1 ≤ 7 ∧ 0 ≤ y.2 ∧ y.2 ≤ 7) (e : (8 * x.1 + x.2).toNat = (8 * y.1 + y.2).toNat) : x = y:=by
  have q : ∀ {z : Wy},0 ≤ z.1 ∧ z.1 ≤ 7 ∧ 0 ≤ z.2 ∧ z.2 ≤ 7 → (((8 * z.1 + z.2).toNat : Nat) : Int) / 8 = z.1 ∧ (((8 * z.1 + z.2).toNat : Nat) : Int) % 8 = z.2:=fun {z} h=>by
    rw [Int.toNat_of_nonneg (Int.add_nonneg (Int.mul_nonneg (by decide) h.1) h.2.2.1)]
    exact (Int.ediv_emod_unique (by decide)).2 ⟨Int.add_comm _ _,h.2.2.1,Int.lt_add_one_of_le h.2.2.2⟩
  exact Prod.ext ((q h1).1.symm.trans (e ▸ (q h2).1)) ((q h1).2.symm.trans (e ▸ (q h2).2))
theorem Good.len {F : List Wy} (h : Good F) : F.length ≤ 64:=by
  have:=nodup_lt 64 (F.map fun x=>(8 * x.1 + x.2).toNat) (nodup_map (fun x hx y hy e=>by
    have h1:=h.2 x hx
    have h2:=h.2 y hy
    exact way_inj h1 h2 e) h.1) fun n hn=>by
      obtain ⟨x,hx,rfl⟩:=List.mem_map.mp hn
      have h1:=h.2 x hx
      exact way_lt h1
  simpa using this
theorem comb_in {w : Wy} {l : Int} (hw : 0 ≤ w.1 ∧ w.1 ≤ 7 ∧ 0 ≤ w.2 ∧ w.2 ≤ 7) (hl : -7 ≤ l ∧ l ≤ 7) : 0 ≤ (comb w l).1 ∧ (comb w l).1 ≤ 7 ∧ 0 ≤ (comb w l).2 ∧ (comb w l).2 ≤ 7:=by
  unfold comb
  dsimp only
  refine ⟨?_,?_,?_,?_⟩ <;> split <;> omega
theorem Good.ins {F : List Wy} {x : Wy} (h : Good F) (hx : 0 ≤ x.1 ∧ x.1 ≤ 7 ∧ 0 ≤ x.2 ∧ x.2 ≤ 7) : Good (insD F x):=by
  unfold insD
  split
  · exact h
  · rename_i e
    have hn : x ∉ F:=fun hm=>by rw [hasW_iff.mpr hm] at e; cases e
    refine ⟨?_,fun y hy=>?_⟩
    · rw [List.nodup_append]
      refine ⟨h.1,by simp,fun a ha b hb e=>?_⟩
      rw [List.mem_singleton.mp hb] at e
      exact hn (e ▸ ha)
    · rcases List.mem_append.mp hy with hy | hy
      · exact h.2 y hy
      · rw [List.mem_singleton.mp hy]; exact hx
theorem Good.nil : Good []:=⟨by simp,fun _ h=>nomatch h⟩
noncomputable def nSt (kd ch ways : D) (lv fo wy le on : Option V) (hp : Hp) : St:={ loc:=[(110,some (.d kd)),(185,some (.d ch)),(174,some (.d ways)),(186,lv),(187,fo),(175,wy),(188,le),(173,on),(170,none),(183,none),(184,none)],cel:=[],gl:=[77,76],hp:=hp }
noncomputable def waysD (W : List Wy) : D:=.lst (W.map wayD)
noncomputable def neRow : SL:=match nthS f__law_net.body 1 with | .for _ _ _ _ _ b _=>b | _=>.nil
noncomputable def neRowT : Tg:=match nthS f__law_net.body 1 with | .for t _ _ _ _ _ _=>t | _=>.loc 0 ⟨0,0,0,0⟩
noncomputable def neWay : SL:=match nthS neRow 1 with | .for _ _ _ _ _ b _=>b | _=>.nil
noncomputable def neWayT : Tg:=match nthS neRow 1 with | .for t _ _ _ _ _ _=>t | _=>.loc 0 ⟨0,0,0,0⟩
noncomputable def neLev : SL:=match nthS neWay 0 with | .for _ _ _ _ _ b _=>b | _=>.nil
noncomputable def neLevT : Tg:=match nthS neWay 0 with | .for t _ _ _ _ _ _=>t | _=>.loc 0 ⟨0,0,0,0⟩
theorem allD_vd (l : List D) : allD (l.map V.d) = some l:=by
  induction l with
  | nil=>rfl
  | cons i r ih =>
    show (match allD (r.map V.d) with | some xs=>some (i :: xs) | none=>none) = _
    rw [ih]
theorem pl_way (x : Wy) : D.isPl 8 (wayD x) = true:=rfl
theorem notin_ways (F : List Wy) (x : Wy) : cmpD .NotIn (wayD x) (.lst (F.map wayD)) = some (!hasW F x):=by
  show bif' (D.isPl 8 (wayD x) && (F.map wayD).all (D.isPl 8)) (some (!(F.map wayD).any fun y=>D.beq y (wayD x))) none = _
  rw [bif_t (by rw [Bool.and_eq_true]; exact ⟨rfl,List.all_eq_true.mpr fun y hy=>by obtain ⟨z,_,rfl⟩:=List.mem_map.mp hy; rfl⟩),List.any_map]
  rfl
theorem notin_step {c : Cfg Prop} {st : St} {x y m : Nat} {F : List Wy} {z : Wy} {p1 p2 p3 p4 p5 p6 p7 p8 p9 : Pos} {K : Fl → St → Prop} (hl : Nat.beq p5.endLine p6.line = true) (hx : look st.loc x = some (.d (wayD z))) (hy : look st.loc y = some (.c m)) (hm : hget st.hp m = some (.lst ((F.map wayD).map .d)))
    (hF : F.length ≤ 900) (h : K .nxt { st with hp:=hset st.hp m (some (.lst (((insD F z).map wayD).map .d))) }) (hs : hset st.hp m (some (.lst ((F.map wayD).map .d))) = st.hp) :
    aSL c (.cons (.iff (.cmp .NotIn (.loc x p1) (.loc y p2) p3) (.cons (.exp (.app (.loc y p4) (.loc x p8) p5 p6) p7) .nil) .nil p9) .nil) st K:=by
  rw [qSL_cons,qS_iff,qT_cmp]
  simp only [qX_cint,qX_loc,qX_bin,qX_sub,qX_callB,qX_app,qX_pop,qX_cmp,qX_neg,hx,hy,hm,allD_vd,notin_ways]
  cases e : hasW F z with
  | true =>
    have ei : insD F z = F:=by unfold insD; rw [e]
    rw [ei,hs] at h
    exact h
  | false =>
    have ei : insD F z = F ++ [z]:=by unfold insD; rw [e]
    rw [ei] at h
    refine app_step hl hy hm (v:=.d (wayD z)) (fun k=>by simp only [qX_cint,qX_loc,qX_bin,qX_sub,qX_callB,qX_app,qX_pop,qX_cmp,qX_neg,hx]) (by rw [List.length_map,List.length_map]; omega) (hp':=hset st.hp m (some (.lst (((F ++ [z]).map wayD).map .d)))) (by rw [List.map_append,List.map_append]; rfl) ?_
    exact h
section
variable {kd ch ways : D} {lv fo wy le on : Option V} {pre : Hp}
theorem lev_loop {w : Wy} {K : Fl → St → Prop} : ∀ (r : List Int) {F : List Wy} {le on : Option V},(0 ≤ w.1 ∧ w.1 ≤ 7 ∧ 0 ≤ w.2 ∧ w.2 ≤ 7) → (∀ l ∈ r,-7 ≤ l ∧ l ≤ 7) → Good F →
    (∀ le on,Good (inner F w r) → K .nxt (nSt kd ch ways lv (some (.c pre.length)) (some (.d (wayD w))) le on (pre ++ [some (.lst (((inner F w r).map wayD).map .d))]))) →
    loopF (fun x st k=>aG (cE 0) neLevT (.d x) st fun st=>aSL (cE 0) neLev st k) (r.map .int) (nSt kd ch ways lv (some (.c pre.length)) (some (.d (wayD w))) le on (pre ++ [some (.lst ((F.map wayD).map .d))])) K
  | [],F,le,on,_,_,hF,hK=>hK le on hF
  | l :: r,F,le,on,hw,hr,hF,hK=>by
    rw [List.map_cons]
    unfold loopF
    have hg : Good (insD F (comb w l)):=hF.ins (comb_in hw (hr l (.head _)))
    refine Eq.mpr (β:=aSL (cE 0) (dropSL 1 neLev) (nSt kd ch ways lv (some (.c pre.length)) (some (.d (wayD w))) (some (.d (.int l))) (some (.d (wayD (comb w l)))) (pre ++ [some (.lst ((F.map wayD).map .d))])) (fun fl st=>match fl with
      | .nxt=>loopF (fun x st k=>aG (cE 0) neLevT (.d x) st fun st=>aSL (cE 0) neLev st k) (r.map .int) st K
      | .ret v=>K (.ret v) st)) (by kernel_rfl) ?_
    refine notin_step (F:=F) (z:=comb w l) rfl rfl rfl (hget_app1 pre _) (Nat.le_trans hF.len (by decide)) ?_ (hset_app pre _ _)
    show loopF _ _ { nSt kd ch ways lv (some (.c pre.length)) (some (.d (wayD w))) (some (.d (.int l))) (some (.d (wayD (comb w l)))) (pre ++ [some (.lst ((F.map wayD).map .d))]) with hp:=hset (pre ++ [some (.lst ((F.map wayD).map .d))]) pre.length (some (.lst (((insD F (comb w l)).map wayD).map .d))) } K
    rw [hset_app]
    exact lev_loop r hw (fun x hx=>hr x (.tail _ hx)) hg hK
theorem way_loop {r : List Int} (hr : ∀ l ∈ r,-7 ≤ l ∧ l ≤ 7) {K : Fl → St → Prop} : ∀ (W : List Wy) {F : List Wy} {wy le on : Option V},(∀ w ∈ W,0 ≤ w.1 ∧ w.1 ≤ 7 ∧ 0 ≤ w.2 ∧ w.2 ≤ 7) → Good F →
    (∀ wy le on,Good (W.foldl (fun F w=>inner F w r) F) → K .nxt (nSt kd ch ways (some (.d (levD r))) (some (.c pre.length)) wy le on (pre ++ [some (.lst (((W.foldl (fun F w=>inner F w r) F).map wayD).map .d))]))) →
    loopF (fun x st k=>aG (cE 0) neWayT (.d x) st fun st=>aSL (cE 0) neWay st k) (W.map wayD) (nSt kd ch ways (some (.d (levD r))) (some (.c pre.length)) wy le on (pre ++ [some (.lst ((F.map wayD).map .d))])) K
  | [],F,wy,le,on,_,hF,hK=>hK wy le on hF
  | w :: W,F,wy,le,on,hW,hF,hK=>by
    rw [List.map_cons]
    unfold loopF
    refine Eq.mpr (β:=loopF (fun x st k=>aG (cE 0) neLevT (.d x) st fun st=>aSL (cE 0) neLev st k) (r.map .int) (nSt kd ch ways (some (.d (levD r))) (some (.c pre.length)) (some (.d (wayD w))) le on (pre ++ [some (.lst ((F.map wayD).map .d))])) (fun fl st=>match fl with
      | .nxt=>(match Fl.nxt with
        | .nxt=>loopF (fun x st k=>aG (cE 0) neWayT (.d x) st fun st=>aSL (cE 0) neWay st k) (W.map wayD) st K
        | .ret v=>K (.ret v) st)
      | .ret v=>(match Fl.ret v with
        | .nxt=>loopF (fun x st k=>aG (cE 0) neWayT (.d x) st fun st=>aSL (cE 0) neWay st k) (W.map wayD) st K
        | .ret v=>K (.ret v) st))) (by kernel_rfl) ?_
    refine lev_loop r (hW w (.head _)) hr hF fun le on hg=>?_
    exact way_loop hr W (fun x hx=>hW x (.tail _ hx)) hg hK
theorem row_net {r : List Int} (hr : ∀ l ∈ r,-7 ≤ l ∧ l ≤ 7) {W : List Wy} (hW : ∀ w ∈ W,0 ≤ w.1 ∧ w.1 ≤ 7 ∧ 0 ≤ w.2 ∧ w.2 ≤ 7) {K : Fl → St → Prop} (hK : ∀ lv fo wy le on,Good (stepW W r) → K .nxt (nSt kd ch (waysD (stepW W r)) lv fo wy le on (pre ++ [none]))) :
    aG (cE 0) neRowT (.d (levD r)) (nSt kd ch (waysD W) lv fo wy le on pre) fun st=>aSL (cE 0) neRow st K:=by
  refine Eq.mpr (β:=loopF (fun x st k=>aG (cE 0) neWayT (.d x) st fun st=>aSL (cE 0) neWay st k) (W.map wayD) (nSt kd ch (waysD W) (some (.d (levD r))) (some (.c pre.length)) wy le on (pre ++ [some (.lst (([].map wayD).map .d))])) (fun fl st=>match fl with
      | .nxt=>aSL (cE 0) (dropSL 2 neRow) st K
      | .ret v=>K (.ret v) st)) (by kernel_rfl) ?_
  refine way_loop hr W hW Good.nil fun wy le on hg=>?_
  show aSL (cE 0) (dropSL 2 neRow) _ K
  have hf : frz 4 (pre ++ [some (.lst (((stepW W r).map wayD).map .d))]) (.c pre.length) = some (waysD (stepW W r),pre ++ [none]):=by
    rw [frz_lst (xs:=(stepW W r).map wayD) (hget_app1 pre _),hset_app]; rfl
  refine asg_frL rfl hf rfl ?_
  exact hK _ _ _ _ _ hg
noncomputable def netW (W : List Wy) (rs : List (List Int)) : List Wy:=rs.foldl stepW W
theorem rows_net {K : Fl → St → Prop} : ∀ (rs : List (List Int)) {W : List Wy} {pre : Hp} {lv fo wy le on : Option V},(∀ r ∈ rs,LevOk r) → Good W → (∀ lv fo wy le on pre,Good (netW W rs) → K .nxt (nSt kd ch (waysD (netW W rs)) lv fo wy le on pre)) →
    loopF (fun x st k=>aG (cE 0) neRowT (.d x) st fun st=>aSL (cE 0) neRow st k) (rs.map levD) (nSt kd ch (waysD W) lv fo wy le on pre) K
  | [],W,pre,lv,fo,wy,le,on,_,hW,hK=>hK lv fo wy le on pre hW
  | r :: rs,W,pre,lv,fo,wy,le,on,hr,hW,hK=>by
    rw [List.map_cons]
    unfold loopF
    refine row_net (hr r (.head _)).2 hW.2 fun lv fo wy le on hg=>?_
    exact rows_net rs (fun x hx=>hr x (.tail _ hx)) hg hK
noncomputable def tieC (kd : D) : Int:=match kd with
  | .str [119,97,110,100]=>0
  | .str [119,111,114]=>1
  | _=>3
noncomputable def codeW (t : Int) (x : Wy) : Int:=if x.1 = x.2 ∧ 0 < x.1 then t else if x.1 = x.2 then 2 else if x.2 < x.1 then 0 else 1
noncomputable def sSt (kd ch ways : D) (lv fo wy le on low high : Option V) (m : Nat) (hp : Hp) : St:={ loc:=[(110,some (.d kd)),(185,some (.d ch)),(174,some (.d ways)),(186,lv),(187,fo),(175,wy),(188,le),(173,on),(170,some (.c m)),(183,low),(184,high)],cel:=[],gl:=[77,76],hp:=hp }
noncomputable def neSeen : SL:=match nthS f__law_net.body 3 with | .for _ _ _ _ _ b _=>b | _=>.nil
noncomputable def neSeenT : Tg:=match nthS f__law_net.body 3 with | .for t _ _ _ _ _ _=>t | _=>.loc 0 ⟨0,0,0,0⟩
noncomputable def neTie : SL:=match nthS neSeen 0 with | .iff _ a _ _=>a | _=>.nil
noncomputable def neElse : SL:=match nthS neSeen 0 with | .iff _ _ b _=>b | _=>.nil
noncomputable def neTwo : SL:=match nthS neElse 0 with | .iff _ a _ _=>a | _=>.nil
noncomputable def neLast : SL:=match nthS neElse 0 with | .iff _ _ b _=>b | _=>.nil
noncomputable def kinds9 : List (List Nat):=[[119,105,114,101],[116,114,105],[119,97,110,100],[119,111,114],[116,114,105,48],[116,114,105,49],[116,114,105,114,101,103],[115,117,112,112,108,121,48],[115,117,112,112,108,121,49]]
noncomputable def IsKind (kd : D) : Prop:=∃ ks ∈ kinds9,kd = .str ks
theorem test_tie {c : Cfg Prop} {st : St} {a b : Int} {p1 p2 p3 p4 p5 p6 p7 : Pos} {k : Bool → St → Prop} (h1 : look st.loc 183 = some (.d (.int a))) (h2 : look st.loc 184 = some (.d (.int b))) :
    aT c (.bop .And (.cons (.cmp .Eq (.loc 183 p1) (.loc 184 p2) p3) (.cons (.cmp .Gt (.loc 183 p4) (.cint 0 p5) p6) .nil)) p7) st k = k ((a == b) && decide (0 < a)) st:=by
  simp only [qT_bop,qTs_cons,qTs_nil,qT_cmp,qX_cint,qX_loc,h1,h2,cmpD_eqI,cmpD_gt]
  cases (a == b) <;> cases decide (0 < a) <;> rfl
theorem test_eq {c : Cfg Prop} {st : St} {a b : Int} {p1 p2 p3 : Pos} {k : Bool → St → Prop} (h1 : look st.loc 183 = some (.d (.int a))) (h2 : look st.loc 184 = some (.d (.int b))) :
    aT c (.cmp .Eq (.loc 183 p1) (.loc 184 p2) p3) st k = k (a == b) st:=by
  simp only [qT_cmp,qX_cint,qX_loc,qX_bin,qX_sub,qX_callB,qX_app,qX_pop,qX_cmp,qX_neg,h1,h2,cmpD_eqI]
noncomputable def selS (v : Bool) (a b : SL) : SL:=match v with
  | true=>a
  | false=>b
theorem iff_step {c : Cfg Prop} {st : St} {t : X} {a b r : SL} {p : Pos} {v : Bool} {K : Fl → St → Prop} (ht : ∀ k,aT c t st k = k v st) (h : aSL c (selS v a b) st (fun fl st=>match fl with | .nxt=>aSL c r st K | .ret v=>K (.ret v) st)) : aSL c (.cons (.iff t a b p) r) st K:=by
  rw [qSL_cons,qS_iff,ht]
  cases v <;> exact h
theorem last_ev {c : Cfg Prop} {st : St} {a b : Int} {p1 p2 p3 p4 p5 p6 : Pos} {k : V → St → Prop} (h1 : look st.loc 183 = some (.d (.int a))) (h2 : look st.loc 184 = some (.d (.int b))) :
    aX c (.ite (.cmp .Gt (.loc 183 p1) (.loc 184 p2) p3) (.cint 0 p4) (.cint 1 p5) p6) st k = k (.d (.int (if b < a then 0 else 1))) st:=by
  simp only [qX_ite,qT_cmp,qX_loc,qX_cint,h1,h2,cmpD_gt]
  by_cases h : b < a
  · rw [decide_eq_true h,if_pos h]
  · rw [decide_eq_false h,if_neg h]
theorem tie_ev {c : Cfg Prop} {kd : D} (hk : IsKind kd) {st : St} (h : look st.loc 110 = some (.d kd)) : ∀ k,aX c (match nthS neTie 0 with | .exp (.app _ e _ _) _=>e | _=>.cnone ⟨0,0,0,0⟩) st k = k (.d (.int (tieC kd))) st:=by
  intro k
  obtain ⟨ks,hm,rfl⟩:=hk
  have e : aX c (match nthS neTie 0 with | .exp (.app _ e _ _) _=>e | _=>.cnone ⟨0,0,0,0⟩) st k = (match look st.loc 110 with
      | some v=>(match v with
        | .d (.str s)=>k (.d (match kfind [[119,97,110,100],[119,111,114]] [.int 0,.int 1] s with | some r=>r | none=>.int 3)) st
        | _=>c.F)
      | none=>c.F):=rfl
  rw [e,h]
  have hm : ks = [119,105,114,101] ∨ ks = [116,114,105] ∨ ks = [119,97,110,100] ∨ ks = [119,111,114] ∨ ks = [116,114,105,48] ∨ ks = [116,114,105,49] ∨ ks = [116,114,105,114,101,103] ∨ ks = [115,117,112,112,108,121,48] ∨ ks = [115,117,112,112,108,121,49]:=by simpa [kinds9] using hm
  rcases hm with rfl | rfl | rfl | rfl | rfl | rfl | rfl | rfl | rfl <;> rfl
theorem seen_turn {t : Int} (hk : IsKind kd) (ht : tieC kd = t) {x : Wy} {S : List Int} (hS : S.length ≤ 900) {low high : Option V} {K : Fl → St → Prop}
    (hK : ∀ low high,K .nxt (sSt kd ch ways lv fo wy le on low high pre.length (pre ++ [some (.lst ((S ++ [codeW t x]).map fun i=>.d (.int i)))]))) :
    aG (cE 0) neSeenT (.d (wayD x)) (sSt kd ch ways lv fo wy le on low high pre.length (pre ++ [some (.lst (S.map fun i=>.d (.int i)))])) fun st=>aSL (cE 0) neSeen st K:=by
  obtain ⟨a,b⟩:=x
  let st:=sSt kd ch ways lv fo wy le on (some (.d (.int a))) (some (.d (.int b))) pre.length (pre ++ [some (.lst (S.map fun i=>V.d (.int i)))])
  have hz : (S.map fun i=>V.d (.int i)).length ≤ 1000:=by rw [List.length_map]; omega
  have hh : ∀ c : Int,hset (pre ++ [some (.lst (S.map fun i=>V.d (.int i)))]) pre.length (some (.lst ((S.map fun i=>V.d (.int i)) ++ [.d (.int c)]))) = pre ++ [some (.lst ((S ++ [c]).map fun i=>V.d (.int i)))]:=fun c=>by rw [hset_app,List.map_append]; rfl
  refine Eq.mpr (β:=aSL (cE 0) neSeen st K) (by kernel_rfl) ?_
  refine iff_step (v:=(a == b) && decide (0 < a)) (fun k=>test_tie rfl rfl) ?_
  by_cases h1 : a = b
  · by_cases h2 : 0 < a
    · have e : ((a == b) && decide (0 < a)) = true:=by rw [Bool.and_eq_true]; exact ⟨beq_iff_eq.mpr h1,decide_eq_true h2⟩
      rw [e]
      have ec : codeW t (a,b) = t:=if_pos ⟨h1,h2⟩
      rw [ec] at hK
      refine app_step (v:=.d (.int t)) rfl rfl (hget_app1 pre _) (ht ▸ tie_ev hk rfl) hz (hh t) ?_
      exact hK _ _
    · have e : ((a == b) && decide (0 < a)) = false:=by rw [Bool.and_eq_false_iff]; exact .inr (decide_eq_false h2)
      rw [e]
      have ec : codeW t (a,b) = 2:=by
        show (if a = b ∧ 0 < a then t else if a = b then 2 else _) = 2
        rw [if_neg fun q=>h2 q.2,if_pos h1]
      rw [ec] at hK
      refine iff_step (v:=a == b) (fun k=>test_eq rfl rfl) ?_
      rw [beq_iff_eq.mpr h1]
      refine app_step (v:=.d (.int 2)) rfl rfl (hget_app1 pre _) (fun _=>rfl) hz (hh 2) ?_
      exact hK _ _
  · have e : ((a == b) && decide (0 < a)) = false:=by rw [Bool.and_eq_false_iff]; exact .inl (beq_eq_false_iff_ne.mpr h1)
    rw [e]
    have ec : codeW t (a,b) = (if b < a then 0 else 1):=by
      show (if a = b ∧ 0 < a then t else if a = b then 2 else if b < a then 0 else 1) = _
      rw [if_neg fun q=>h1 q.1,if_neg h1]
    rw [ec] at hK
    refine iff_step (v:=a == b) (fun k=>test_eq rfl rfl) ?_
    rw [beq_eq_false_iff_ne.mpr h1]
    refine app_step (v:=.d (.int (if b < a then 0 else 1))) rfl rfl (hget_app1 pre _) (fun k=>last_ev rfl rfl) hz (hh _) ?_
    exact hK _ _
theorem seen_loop {t : Int} (hk : IsKind kd) (ht : tieC kd = t) {K : Fl → St → Prop} : ∀ (W : List Wy) {S : List Int} {low high : Option V},S.length + W.length ≤ 900 →
    (∀ low high,K .nxt (sSt kd ch ways lv fo wy le on low high pre.length (pre ++ [some (.lst ((S ++ W.map (codeW t)).map fun i=>.d (.int i)))]))) →
    loopF (fun x st k=>aG (cE 0) neSeenT (.d x) st fun st=>aSL (cE 0) neSeen st k) (W.map wayD) (sSt kd ch ways lv fo wy le on low high pre.length (pre ++ [some (.lst (S.map fun i=>.d (.int i)))])) K
  | [],S,low,high,_,hK=>by
    have:=hK low high
    rw [List.map_nil,List.append_nil] at this
    exact this
  | x :: W,S,low,high,hl,hK=>by
    rw [List.map_cons]
    unfold loopF
    rw [List.length_cons] at hl
    refine seen_turn hk ht (by omega) fun low high=>?_
    exact seen_loop hk ht W (by rw [List.length_append]; simp; omega) fun low high=>by
      have:=hK low high
      rw [List.map_cons] at this
      rw [List.append_assoc]
      exact this
theorem intsOf_map (l : List Int) : intsOf (l.map .int) = some l:=by
  induction l with
  | nil=>rfl
  | cons i r ih =>
    show (match intsOf (r.map D.int) with | some l=>some (i :: l) | none=>none) = _
    rw [ih]
theorem min_ev (i : Int) (r : List Int) (hp : Hp) : callB .min1 [.d (.lst ((i :: r).map .int))] hp = some (.int (minL i r)):=by
  show (match intsOf ((i :: r).map D.int) with | some (i :: l)=>some (D.int (minL i l)) | _=>none) = _
  rw [show intsOf ((i :: r).map D.int) = some (i :: r) from intsOf_map (i :: r)]
theorem max_ev (i : Int) (r : List Int) (hp : Hp) : callB .max1 [.d (.lst ((i :: r).map .int))] hp = some (.int (maxL i r)):=by
  show (match intsOf ((i :: r).map D.int) with | some (i :: l)=>some (D.int (maxL i l)) | _=>none) = _
  rw [show intsOf ((i :: r).map D.int) = some (i :: r) from intsOf_map (i :: r)]
noncomputable def findC (l : List Int) : Int:=match l with
  | []=>3
  | i :: r=>if minL i r = maxL i r then i else 3
theorem net_ev {t : Int} (hk : IsKind kd) (ht : tieC kd = t) {rs : List (List Int)} (hr : ∀ r ∈ rs,LevOk r) (hne : netW [(0,0)] rs ≠ []) : Ev 1 56 [kd,.lst (rs.map levD)] (.int (findC ((netW [(0,0)] rs).map (codeW t)))):=by
  refine Ev.ofP (k:=0) (fi:=f__law_net) rfl rfl ?_
  refine Eq.mpr (β:=loopF (fun x st k=>aG (cE 0) neRowT (.d x) st fun st=>aSL (cE 0) neRow st k) (rs.map levD) (nSt kd (.lst (rs.map levD)) (waysD [(0,0)]) none none none none none []) (fun fl st=>match fl with
    | .nxt=>aSL (cE 0) (dropSL 2 f__law_net.body) st (fun fl _=>fl = .ret (.d (.int (findC ((netW [(0,0)] rs).map (codeW t))))))
    | .ret v=>(Fl.ret v) = .ret (.d (.int (findC ((netW [(0,0)] rs).map (codeW t))))))) (by kernel_rfl) ?_
  refine rows_net rs hr ⟨by simp,fun x hx=>by rw [List.mem_singleton.mp hx]; decide⟩ fun lv fo wy le on pre hg=>?_
  generalize netW [(0,0)] rs = W at hne hg
  refine Eq.mpr (β:=loopF (fun x st k=>aG (cE 0) neSeenT (.d x) st fun st=>aSL (cE 0) neSeen st k) (W.map wayD) (sSt kd (.lst (rs.map levD)) (waysD W) lv fo wy le on none none pre.length (pre ++ [some (.lst (([] : List Int).map fun i=>.d (.int i)))])) (fun fl st=>match fl with
    | .nxt=>aSL (cE 0) (dropSL 4 f__law_net.body) st (fun fl _=>fl = .ret (.d (.int (findC (W.map (codeW t))))))
    | .ret v=>(Fl.ret v) = .ret (.d (.int (findC (W.map (codeW t))))))) (by kernel_rfl) ?_
  refine seen_loop hk ht W (S:=[]) (by have:=hg.len; simp; omega) fun low high=>?_
  rw [List.nil_append]
  cases hC : W.map (codeW t) with
  | nil=>exact absurd (List.map_eq_nil_iff.mp hC) hne
  | cons i r =>
    have hf : frz 4 (pre ++ [some (.lst ((i :: r).map fun i=>V.d (.int i)))]) (.c pre.length) = some (.lst ((i :: r).map .int),pre ++ [none]):=by
      rw [show ((i :: r).map fun i=>V.d (.int i)) = ((i :: r).map D.int).map V.d by rw [List.map_map]; rfl,frz_lst (xs:=(i :: r).map .int) (hget_app1 pre _),hset_app]
    have hf2 : ∀ hp,frz 4 hp (.d (.lst ((i :: r).map .int))) = some (.lst ((i :: r).map .int),hp):=fun _=>rfl
    show aSL (cE 0) (.cons (.ret (.ite (.cmp .Eq (.callB .min1 76 _ (.cons (.frL 170 _) .nil) _) (.callB .max1 77 _ (.cons (.frL 170 _) .nil) _) _) (.sub (.loc 170 _) (.cint 0 _) _) (.cint 3 _) _) _) .nil) _ _
    simp only [qSL_cons,qS_ret,qX_ite,qX_cint,qX_loc,qX_frL,qX_sub,qX_callB,qT_cmp,qXs_nil,qXs_cons,sSt,look,put,mem,biId,hf,hf2,min_ev,max_ev,cmpD_eqI,findC]
    by_cases h : minL i r = maxL i r
    · rw [if_pos h,beq_iff_eq.mpr h]; exact rfl
    · rw [if_neg h,beq_eq_false_iff_ne.mpr h]; exact rfl
end
end
end Mine
end
section
open PySem.Spec
set_option maxHeartbeats 2000000
namespace Mine
noncomputable section
noncomputable def absI (a : Int) : Int:=if a < 0 then -a else a
noncomputable def strS (p q : Int) (t : Bool) : Int:=if absI q < absI p then p else if absI p < absI q then q else match t with
  | true=>if q < p then q else p
  | false=>if p < q then q else p
noncomputable def sv (t : Bool) (w : Wy) : Int:=if w.2 < w.1 then 0 - w.1 else if w.1 < w.2 then w.2 else match t with
  | true=>0 - w.1
  | false=>w.2
noncomputable def Gd (w : Wy) : Prop:=0 ≤ w.1 ∧ w.1 ≤ 7 ∧ 0 ≤ w.2 ∧ w.2 ≤ 7
theorem fin8 {a : Int} (h0 : 0 ≤ a) (h1 : a ≤ 7) : ∃ n : Fin 8,a = (n.val : Int):=⟨⟨a.toNat,by omega⟩,(Int.toNat_of_nonneg h0).symm⟩
theorem fin15 {a : Int} (h : -7 ≤ a ∧ a ≤ 7) : ∃ n : Fin 15,a = (n.val : Int) - 7:=⟨⟨(a + 7).toNat,by omega⟩,by
  show a = ((a + 7).toNat : Int) - 7
  rw [Int.toNat_of_nonneg (by omega)]
  omega⟩
theorem sv_combD : ∀ (t : Bool) (a b : Fin 8) (l : Fin 15),sv t (comb ((a.val : Int),(b.val : Int)) ((l.val : Int) - 7)) = strS (sv t ((a.val : Int),(b.val : Int))) ((l.val : Int) - 7) t:=by decide +kernel
theorem sv_comb {t : Bool} {w : Wy} {l : Int} (h : Gd w) (hl : -7 ≤ l ∧ l ≤ 7) : sv t (comb w l) = strS (sv t w) l t:=by
  obtain ⟨a,b⟩:=w
  obtain ⟨h1,h2,h3,h4⟩:=h
  obtain ⟨a,rfl⟩:=fin8 h1 h2
  obtain ⟨b,rfl⟩:=fin8 h3 h4
  obtain ⟨l,rfl⟩:=fin15 hl
  exact sv_combD t a b l
theorem sv_inD : ∀ (t : Bool) (a b : Fin 8),-7 ≤ sv t ((a.val : Int),(b.val : Int)) ∧ sv t ((a.val : Int),(b.val : Int)) ≤ 7:=by decide +kernel
theorem sv_in {t : Bool} {w : Wy} (h : Gd w) : -7 ≤ sv t w ∧ sv t w ≤ 7:=by
  obtain ⟨a,b⟩:=w
  obtain ⟨h1,h2,h3,h4⟩:=h
  obtain ⟨a,rfl⟩:=fin8 h1 h2
  obtain ⟨b,rfl⟩:=fin8 h3 h4
  exact sv_inD t a b
theorem str_comD : ∀ (t : Bool) (p q : Fin 15),strS ((p.val : Int) - 7) ((q.val : Int) - 7) t = strS ((q.val : Int) - 7) ((p.val : Int) - 7) t:=by decide +kernel
theorem str_monoD : ∀ (t : Bool) (p p' q : Fin 15),Nat.ble p.val p'.val = true → strS ((p.val : Int) - 7) ((q.val : Int) - 7) t ≤ strS ((p'.val : Int) - 7) ((q.val : Int) - 7) t:=by decide +kernel
theorem str_mono {t : Bool} {p p' q q' : Int} (b1 : -7 ≤ p ∧ p ≤ 7) (b2 : -7 ≤ p' ∧ p' ≤ 7) (b3 : -7 ≤ q ∧ q ≤ 7) (b4 : -7 ≤ q' ∧ q' ≤ 7) (h1 : p ≤ p') (h2 : q ≤ q') : strS p q t ≤ strS p' q' t:=by
  obtain ⟨p,rfl⟩:=fin15 b1
  obtain ⟨p',rfl⟩:=fin15 b2
  obtain ⟨q,rfl⟩:=fin15 b3
  obtain ⟨q',rfl⟩:=fin15 b4
  refine Int.le_trans (str_monoD t p p' q (Nat.ble_eq.mpr (by omega))) ?_
  rw [str_comD t p' q,str_comD t p' q']
  exact str_monoD t q q' p' (Nat.ble_eq.mpr (by omega))
theorem abs_pos {p : Int} (h : p ≠ 0) : absI 0 < absI p:=by
  unfold absI
  rw [if_neg (by decide)]
  split <;> omega
theorem abs_not (p : Int) : ¬ absI p < absI 0:=by
  unfold absI
  rw [if_neg (show ¬ (0 : Int) < 0 by decide)]
  split <;> omega
theorem str_zero (p : Int) (t : Bool) : strS p 0 t = p:=by
  by_cases h : p = 0
  · subst h; cases t <;> rfl
  · unfold strS; rw [if_pos (abs_pos h)]
theorem zero_str (p : Int) (t : Bool) : strS 0 p t = p:=by
  by_cases h : p = 0
  · subst h; cases t <;> rfl
  · unfold strS; rw [if_neg (abs_not p),if_pos (abs_pos h)]
structure Inv (lt ht : Bool) (W : List Wy) (p : Int × Int) : Prop where
  gd : ∀ w ∈ W,Gd w
  lo : ∃ w ∈ W,sv lt w = p.1
  lob : ∀ w ∈ W,p.1 ≤ sv lt w
  hi : ∃ w ∈ W,sv ht w = p.2
  hib : ∀ w ∈ W,sv ht w ≤ p.2
noncomputable def joinS (lt ht : Bool) (p q : Int × Int) : Int × Int:=(strS p.1 q.1 lt,strS p.2 q.2 ht)
noncomputable def mmP (r : List Int) : Int × Int:=match r with
  | []=>(0,0)
  | i :: l=>(minL i l,maxL i l)
theorem minL_mem : ∀ (l : List Int) (i : Int),minL i l ∈ i :: l
  | [],i=>.head _
  | a :: r,i=>by
    unfold minL
    have:=minL_mem r (if a < i then a else i)
    rcases List.mem_cons.mp this with h | h
    · rw [h]; split
      · exact .tail _ (.head _)
      · exact .head _
    · exact .tail _ (.tail _ h)
theorem minL_le : ∀ (l : List Int) (i x : Int),x ∈ i :: l → minL i l ≤ x
  | [],i,x,h=>by rw [List.mem_singleton.mp h]; exact Int.le_refl _
  | a :: r,i,x,h=>by
    unfold minL
    have h0:=minL_le r (if a < i then a else i) (if a < i then a else i) (.head _)
    rcases List.mem_cons.mp h with rfl | h
    · refine Int.le_trans h0 ?_; split <;> omega
    · rcases List.mem_cons.mp h with rfl | h
      · refine Int.le_trans h0 ?_; split <;> omega
      · exact minL_le r _ x (.tail _ h)
theorem maxL_mem : ∀ (l : List Int) (i : Int),maxL i l ∈ i :: l
  | [],i=>.head _
  | a :: r,i=>by
    unfold maxL
    have:=maxL_mem r (if i < a then a else i)
    rcases List.mem_cons.mp this with h | h
    · rw [h]; split
      · exact .tail _ (.head _)
      · exact .head _
    · exact .tail _ (.tail _ h)
theorem le_maxL : ∀ (l : List Int) (i x : Int),x ∈ i :: l → x ≤ maxL i l
  | [],i,x,h=>by rw [List.mem_singleton.mp h]; exact Int.le_refl _
  | a :: r,i,x,h=>by
    unfold maxL
    have h0:=le_maxL r (if i < a then a else i) (if i < a then a else i) (.head _)
    rcases List.mem_cons.mp h with rfl | h
    · refine Int.le_trans ?_ h0; split <;> omega
    · rcases List.mem_cons.mp h with rfl | h
      · refine Int.le_trans ?_ h0; split <;> omega
      · exact le_maxL r _ x (.tail _ h)
theorem Inv.lo_in {lt ht : Bool} {W : List Wy} {p : Int × Int} (h : Inv lt ht W p) : -7 ≤ p.1 ∧ p.1 ≤ 7:=let ⟨w,hw,e⟩:=h.lo; e ▸ sv_in (h.gd w hw)
theorem Inv.hi_in {lt ht : Bool} {W : List Wy} {p : Int × Int} (h : Inv lt ht W p) : -7 ≤ p.2 ∧ p.2 ≤ 7:=let ⟨w,hw,e⟩:=h.hi; e ▸ sv_in (h.gd w hw)
theorem Inv.step {lt ht : Bool} {W : List Wy} {p : Int × Int} (h : Inv lt ht W p) {r : List Int} (hr : LevOk r) : Inv lt ht (stepW W r) (joinS lt ht p (mmP r)):=by
  obtain ⟨hne,hb⟩:=hr
  cases r with
  | nil=>exact absurd rfl hne
  | cons i l =>
    refine ⟨fun y hy=>?_,?_,fun y hy=>?_,?_,fun y hy=>?_⟩
    · obtain ⟨w,hw,x,hx,rfl⟩:=mem_step.mp hy
      exact comb_in (h.gd w hw) (hb x hx)
    · obtain ⟨w,hw,e⟩:=h.lo
      exact ⟨comb w (minL i l),mem_step.mpr ⟨w,hw,_,minL_mem l i,rfl⟩,by rw [sv_comb (h.gd w hw) (hb _ (minL_mem l i)),e]; rfl⟩
    · obtain ⟨w,hw,x,hx,rfl⟩:=mem_step.mp hy
      rw [sv_comb (h.gd w hw) (hb x hx)]
      exact str_mono h.lo_in (sv_in (h.gd w hw)) (hb _ (minL_mem l i)) (hb x hx) (h.lob w hw) (minL_le l i x hx)
    · obtain ⟨w,hw,e⟩:=h.hi
      exact ⟨comb w (maxL i l),mem_step.mpr ⟨w,hw,_,maxL_mem l i,rfl⟩,by rw [sv_comb (h.gd w hw) (hb _ (maxL_mem l i)),e]; rfl⟩
    · obtain ⟨w,hw,x,hx,rfl⟩:=mem_step.mp hy
      rw [sv_comb (h.gd w hw) (hb x hx)]
      exact str_mono (sv_in (h.gd w hw)) h.hi_in (hb x hx) (hb _ (maxL_mem l i)) (h.hib w hw) (le_maxL l i x hx)
theorem Inv.start (lt ht : Bool) : Inv lt ht [(0,0)] (0,0):=by
  refine ⟨fun w hw=>?_,⟨_,.head _,?_⟩,fun w hw=>?_,⟨_,.head _,?_⟩,fun w hw=>?_⟩
  · rw [List.mem_singleton.mp hw]; exact ⟨by decide,by decide,by decide,by decide⟩
  · cases lt <;> rfl
  · rw [List.mem_singleton.mp hw]; cases lt <;> decide
  · cases ht <;> rfl
  · rw [List.mem_singleton.mp hw]; cases ht <;> decide
noncomputable def pairC (p : Int × Int) : Int:=if 0 < p.1 then 1 else if p.2 < 0 then 0 else if p.1 = 0 ∧ p.2 = 0 then 2 else 3
noncomputable def Ties (lt ht : Bool) (t : Int) : Prop:=lt = true ∧ ht = false ∧ t = 3 ∨ lt = true ∧ ht = true ∧ t = 0 ∨ lt = false ∧ ht = false ∧ t = 1
noncomputable def codeOK (lt ht : Bool) (t : Int) (w : Wy) : Prop:=(codeW t w = 1 ↔ 0 < sv lt w) ∧ (codeW t w = 0 ↔ sv ht w < 0) ∧ (codeW t w = 2 ↔ sv lt w = 0 ∧ sv ht w = 0)
theorem code_oneD : ∀ a b : Fin 8,(codeOK true false 3 ((a.val : Int),(b.val : Int)) ∧ codeOK true true 0 ((a.val : Int),(b.val : Int)) ∧ codeOK false false 1 ((a.val : Int),(b.val : Int))) ∧ sv true ((a.val : Int),(b.val : Int)) ≤ sv false ((a.val : Int),(b.val : Int)):=by
  unfold codeOK
  decide +kernel
theorem code_one {lt ht : Bool} {t : Int} (h : Ties lt ht t) {w : Wy} (g : Gd w) : (codeW t w = 1 ↔ 0 < sv lt w) ∧ (codeW t w = 0 ↔ sv ht w < 0) ∧ (codeW t w = 2 ↔ sv lt w = 0 ∧ sv ht w = 0):=by
  obtain ⟨a,b⟩:=w
  obtain ⟨h1,h2,h3,h4⟩:=g
  obtain ⟨a,rfl⟩:=fin8 h1 h2
  obtain ⟨b,rfl⟩:=fin8 h3 h4
  have d:=(code_oneD a b).1
  rcases h with ⟨rfl,rfl,rfl⟩ | ⟨rfl,rfl,rfl⟩ | ⟨rfl,rfl,rfl⟩
  · exact d.1
  · exact d.2.1
  · exact d.2.2
theorem sv_le {w : Wy} (g : Gd w) : sv true w ≤ sv false w:=by
  obtain ⟨a,b⟩:=w
  obtain ⟨h1,h2,h3,h4⟩:=g
  obtain ⟨a,rfl⟩:=fin8 h1 h2
  obtain ⟨b,rfl⟩:=fin8 h3 h4
  exact (code_oneD a b).2
theorem code_rng {lt ht : Bool} {t : Int} (h : Ties lt ht t) (w : Wy) : codeW t w = 0 ∨ codeW t w = 1 ∨ codeW t w = 2 ∨ codeW t w = 3:=by
  unfold codeW
  rcases h with ⟨_,_,rfl⟩ | ⟨_,_,rfl⟩ | ⟨_,_,rfl⟩ <;> (repeat' split) <;> simp
theorem find_all {l : List Int} {c : Int} (hne : l ≠ []) (h : ∀ x ∈ l,x = c) : findC l = c:=by
  cases l with
  | nil=>exact absurd rfl hne
  | cons i r =>
    have e1:=h _ (minL_mem r i)
    have e2:=h _ (maxL_mem r i)
    show (if minL i r = maxL i r then i else 3) = c
    rw [e1,e2,if_pos rfl]
    exact h i (.head _)
theorem find_is {l : List Int} (h : findC l ≠ 3) : ∀ x ∈ l,x = findC l:=by
  cases l with
  | nil=>exact absurd rfl h
  | cons i r =>
    have e : findC (i :: r) = if minL i r = maxL i r then i else 3:=rfl
    rw [e] at h ⊢
    split at h
    · rename_i q
      rw [if_pos q]
      intro x hx
      have a1:=minL_le r i x hx
      have a2:=le_maxL r i x hx
      have b1:=minL_le r i i (.head _)
      have b2:=le_maxL r i i (.head _)
      omega
    · exact absurd rfl h
theorem Inv.done {lt ht : Bool} {t : Int} (ti : Ties lt ht t) {W : List Wy} {p : Int × Int} (h : Inv lt ht W p) : findC (W.map (codeW t)) = pairC p:=by
  have hne : W.map (codeW t) ≠ []:=by
    obtain ⟨w,hw,_⟩:=h.lo
    intro e
    rw [List.map_eq_nil_iff] at e
    rw [e] at hw; cases hw
  have all1 : ∀ c : Int,(∀ w ∈ W,codeW t w = c) → findC (W.map (codeW t)) = c:=fun c k=>find_all hne fun x hx=>by
    obtain ⟨w,hw,rfl⟩:=List.mem_map.mp hx
    exact k w hw
  unfold pairC
  split
  · rename_i h0
    exact all1 1 fun w hw=>(code_one ti (h.gd w hw)).1.mpr (Int.lt_of_lt_of_le h0 (h.lob w hw))
  · rename_i h0
    split
    · rename_i h1
      exact all1 0 fun w hw=>(code_one ti (h.gd w hw)).2.1.mpr (Int.lt_of_le_of_lt (h.hib w hw) h1)
    · rename_i h1
      split
      · rename_i h2
        refine all1 2 fun w hw=>(code_one ti (h.gd w hw)).2.2.mpr ?_
        have a1:=h2.1 ▸ h.lob w hw
        have a2:=h2.2 ▸ h.hib w hw
        have q : sv lt w ≤ sv ht w:=by
          rcases ti with ⟨rfl,rfl,_⟩ | ⟨rfl,rfl,_⟩ | ⟨rfl,rfl,_⟩
          · exact sv_le (h.gd w hw)
          · exact Int.le_refl _
          · exact Int.le_refl _
        exact ⟨Int.le_antisymm (Int.le_trans q a2) a1,Int.le_antisymm a2 (Int.le_trans a1 q)⟩
      · rename_i h2
        by_cases h3 : findC (W.map (codeW t)) = 3
        · exact h3
        · exfalso
          have all:=find_is h3
          obtain ⟨w,hw,e⟩:=h.lo
          obtain ⟨w2,hw2,e2⟩:=h.hi
          have c1:=all _ (List.mem_map.mpr ⟨w,hw,rfl⟩)
          have c2:=all _ (List.mem_map.mpr ⟨w2,hw2,rfl⟩)
          have k1:=code_one ti (h.gd w hw)
          have k2:=code_one ti (h.gd w2 hw2)
          rw [← c1] at c2 h3
          rcases code_rng ti w with q | q | q | q
          · rw [q] at c2
            exact h1 (e2 ▸ k2.2.1.mp c2)
          · exact h0 (e ▸ k1.1.mp q)
          · rw [q] at c2
            exact h2 ⟨e ▸ (k1.2.2.mp q).1,e2 ▸ (k2.2.2.mp c2).2⟩
          · exact h3 q
end
end Mine
end
section
open PySem.Spec
set_option maxHeartbeats 2000000
namespace Mine
noncomputable section
noncomputable abbrev Pt (p : Int × Int) : D:=.tup [.int p.1,.int p.2]
theorem abs_ev (a : Int) (hp : Hp) : callB .abs [.d (.int a)] hp = some (.int (absI a)):=rfl
theorem min2_ev (a b : Int) (hp : Hp) : callB .min2 [.d (.int a),.d (.int b)] hp = some (.int (if b < a then b else a)):=rfl
theorem max2_ev (a b : Int) (hp : Hp) : callB .max2 [.d (.int a),.d (.int b)] hp = some (.int (if a < b then b else a)):=rfl
theorem iff_fall {c : Cfg Prop} {st : St} {t : X} {a r : SL} {p : Pos} {K : Fl → St → Prop} (ht : ∀ k,aT c t st k = k false st) (h : aSL c r st K) : aSL c (.cons (.iff t a .nil p) r) st K:=by
  refine iff_step (v:=false) ht ?_
  show aSL c .nil st _
  exact h
theorem iff_take {c : Cfg Prop} {st : St} {t : X} {a r : SL} {p : Pos} {K : Fl → St → Prop} (ht : ∀ k,aT c t st k = k true st) (h : aSL c a st (fun fl st=>match fl with | .nxt=>aSL c r st K | .ret v=>K (.ret v) st)) : aSL c (.cons (.iff t a .nil p) r) st K:=iff_step (v:=true) ht h
theorem stronger_ev (p q : Int) (t : Bool) : Ev 1 18 [.int p,.int q,.bool t] (.int (strS p q t)):=by
  refine Ev.ofP (k:=0) (fi:=f_stronger) rfl rfl ?_
  show aSL (cE 0) b_stronger { loc:=[(104,some (.d (.int p))),(105,some (.d (.int q))),(106,some (.d (.bool t)))],cel:=[],gl:=[107,76,77],hp:=[] } _
  unfold b_stronger
  by_cases h1 : absI q < absI p
  · have e : strS p q t = p:=if_pos h1
    rw [e]
    refine iff_take (fun k=>by simp only [qT_cmp,qX_cint,qX_loc,qX_sub,qX_callB,qXs_nil,qXs_cons,look,mem,biId,abs_ev,cmpD_gt,decide_eq_true h1]; rfl) ?_
    exact rfl
  · refine iff_fall (fun k=>by simp only [qT_cmp,qX_cint,qX_loc,qX_sub,qX_callB,qXs_nil,qXs_cons,look,mem,biId,abs_ev,cmpD_gt,decide_eq_false h1]; rfl) ?_
    by_cases h2 : absI p < absI q
    · have e : strS p q t = q:=by unfold strS; rw [if_neg h1,if_pos h2]
      rw [e]
      refine iff_take (fun k=>by simp only [qT_cmp,qX_cint,qX_loc,qX_sub,qX_callB,qXs_nil,qXs_cons,look,mem,biId,abs_ev,cmpD_gt,decide_eq_true h2]; rfl) ?_
      exact rfl
    · refine iff_fall (fun k=>by simp only [qT_cmp,qX_cint,qX_loc,qX_sub,qX_callB,qXs_nil,qXs_cons,look,mem,biId,abs_ev,cmpD_gt,decide_eq_false h2]; rfl) ?_
      cases t with
      | true =>
        have e : strS p q true = if q < p then q else p:=by unfold strS; rw [if_neg h1,if_neg h2]
        rw [e]
        refine iff_take (fun k=>rfl) ?_
        exact rfl
      | false =>
        have e : strS p q false = if p < q then q else p:=by unfold strS; rw [if_neg h1,if_neg h2]
        rw [e]
        refine iff_fall (fun k=>rfl) ?_
        exact rfl
theorem pair_ev (p : Int × Int) : Ev 1 23 [Pt p] (.int (pairC p)):=by
  obtain ⟨a,b⟩:=p
  refine Ev.ofP (k:=0) (fi:=f_pair_code) rfl rfl ?_
  show aSL (cE 0) b_pair_code { loc:=[(119,some (.d (Pt (a,b))))],cel:=[],gl:=[102,103,101,116],hp:=[] } _
  unfold b_pair_code
  have s0 : ∀ hp,subV (.d (Pt (a,b))) (.int 0) hp = some (.d (.int a)):=fun _=>rfl
  have s1 : ∀ hp,subV (.d (Pt (a,b))) (.int 1) hp = some (.d (.int b)):=fun _=>rfl
  have lt : ∀ x y : Int,cmpD .Lt (.int x) (.int y) = some (decide (x < y)):=fun _ _=>rfl
  by_cases h1 : 0 < a
  · have e : pairC (a,b) = 1:=if_pos h1
    rw [e]
    refine iff_take (fun k=>by simp only [qT_cmp,qX_cint,qX_loc,qX_sub,qX_callB,look,s0,cmpD_gt,decide_eq_true h1]) ?_
    exact rfl
  · refine iff_fall (fun k=>by simp only [qT_cmp,qX_cint,qX_loc,qX_sub,qX_callB,look,s0,cmpD_gt,decide_eq_false h1]) ?_
    by_cases h2 : b < 0
    · have e : pairC (a,b) = 0:=by
        show (if 0 < a then 1 else if b < 0 then 0 else _) = (0 : Int)
        rw [if_neg h1,if_pos h2]
      rw [e]
      refine iff_take (fun k=>by simp only [qT_cmp,qX_cint,qX_loc,qX_sub,qX_callB,look,s1,lt,decide_eq_true h2]) ?_
      exact rfl
    · refine iff_fall (fun k=>by simp only [qT_cmp,qX_cint,qX_loc,qX_sub,qX_callB,look,s1,lt,decide_eq_false h2]) ?_
      have tst : ∀ {p1 p2 p3 p4 p5 p6 p7 p8 p9 : Pos} {st : St} {k : Bool → St → Prop},look st.loc 119 = some (.d (Pt (a,b))) → aT (cE 0) (.bop .And (.cons (.cmp .Eq (.sub (.loc 119 p1) (.cint 0 p2) p3) (.cint 0 p4) p5) (.cons (.cmp .Eq (.sub (.loc 119 p6) (.cint 1 p7) p8) (.cint 0 p9) p5) .nil)) p5) st k = k ((a == 0) && (b == 0)) st:=by
        intro p1 p2 p3 p4 p5 p6 p7 p8 p9 st k h
        simp only [qT_bop,qTs_cons,qTs_nil,qT_cmp,qX_cint,qX_loc,qX_sub,h,s0,s1,cmpD_eqI]
        cases (a == 0) <;> cases (b == 0) <;> rfl
      by_cases h3 : a = 0 ∧ b = 0
      · have e : pairC (a,b) = 2:=by
          show (if 0 < a then 1 else if b < 0 then 0 else if a = 0 ∧ b = 0 then 2 else 3) = (2 : Int)
          rw [if_neg h1,if_neg h2,if_pos h3]
        rw [e]
        obtain ⟨rfl,rfl⟩:=h3
        refine iff_take (fun k=>rfl) ?_
        exact rfl
      · have e : pairC (a,b) = 3:=by
          show (if 0 < a then 1 else if b < 0 then 0 else if a = 0 ∧ b = 0 then 2 else 3) = (3 : Int)
          rw [if_neg h1,if_neg h2,if_neg h3]
        rw [e]
        have eb : ((a == 0) && (b == 0)) = false:=by
          rw [Bool.and_eq_false_iff]
          by_cases q : a = 0
          · exact .inr (beq_eq_false_iff_ne.mpr fun z=>h3 ⟨q,z⟩)
          · exact .inl (beq_eq_false_iff_ne.mpr q)
        refine iff_fall (fun k=>by
          simp only [qT_bop,qTs_cons,qTs_nil,qT_cmp,qX_cint,qX_loc,qX_sub,look,s0,s1,cmpD_eqI]
          revert eb
          cases (a == 0) <;> cases (b == 0) <;> intro eb <;> first | rfl | cases eb) ?_
        exact rfl
noncomputable def ltK (kd : D) : Bool:=match kd with
  | .str [119,111,114]=>false
  | _=>true
noncomputable def htK (kd : D) : Bool:=match kd with
  | .str [119,97,110,100]=>true
  | _=>false
theorem kind9 {kd : D} (hk : IsKind kd) : kd = .str [119,105,114,101] ∨ kd = .str [116,114,105] ∨ kd = .str [119,97,110,100] ∨ kd = .str [119,111,114] ∨ kd = .str [116,114,105,48] ∨ kd = .str [116,114,105,49] ∨ kd = .str [116,114,105,114,101,103] ∨ kd = .str [115,117,112,112,108,121,48] ∨ kd = .str [115,117,112,112,108,121,49]:=by
  obtain ⟨ks,hm,rfl⟩:=hk
  simpa [kinds9] using hm
theorem ties_of {kd : D} (hk : IsKind kd) : Ties (ltK kd) (htK kd) (tieC kd):=by
  rcases kind9 hk with rfl | rfl | rfl | rfl | rfl | rfl | rfl | rfl | rfl <;> first | exact .inl ⟨rfl,rfl,rfl⟩ | exact .inr (.inl ⟨rfl,rfl,rfl⟩) | exact .inr (.inr ⟨rfl,rfl,rfl⟩)
theorem join_ev {kd : D} (hk : IsKind kd) (p q : Int × Int) : Ev 2 19 [kd,Pt p,Pt q] (Pt (joinS (ltK kd) (htK kd) p q)):=by
  have s1:=stronger_ev p.1 q.1 (ltK kd)
  have s2:=stronger_ev p.2 q.2 (htK kd)
  rcases kind9 hk with rfl | rfl | rfl | rfl | rfl | rfl | rfl | rfl | rfl <;>
  · exact Ev.ofL (k:=1) (fi:=f_join) rfl rfl (.cons s1 (by decide) (.cons s2 (by decide) .nil)) (by kernel_rfl)
noncomputable def restL (kd : D) (c : Int) : List Int:=match kd with
  | .str [116,114,105,48]=>[-5]
  | .str [116,114,105,49]=>[5]
  | .str [115,117,112,112,108,121,48]=>[-7]
  | .str [115,117,112,112,108,121,49]=>[7]
  | .str [116,114,105,114,101,103]=>if c = 2 then [0] else (codeBits c).map fun b=>if b = 1 then 2 else -2
  | _=>[0]
theorem rest_B : (kinds9.all fun ks=>C4.all fun c=>isEv 2 20 [.str ks,.int c] (Pt (mmP (restL (.str ks) c))) && isEv 2 55 [.str ks,.int c] (levD (restL (.str ks) c)) && (!(restL (.str ks) c).isEmpty && (restL (.str ks) c).all fun x=>decide (-7 ≤ x) && decide (x ≤ 7))) = true:=by kernel_rfl
theorem rest_ev {kd : D} (hk : IsKind kd) {c : Int} (hc : Cd c) : Ev 2 20 [kd,.int c] (Pt (mmP (restL kd c))) ∧ Ev 2 55 [kd,.int c] (levD (restL kd c)) ∧ LevOk (restL kd c):=by
  obtain ⟨ks,hm,rfl⟩:=hk
  have h:=all4 (List.all_eq_true.mp rest_B ks hm) hc
  rw [Bool.and_eq_true,Bool.and_eq_true,Bool.and_eq_true] at h
  refine ⟨isEv.ok h.1.1,isEv.ok h.1.2,fun e=>?_,fun x hx=>?_⟩
  · have:=h.2.1
    rw [e] at this
    exact nof this
  · have:=List.all_eq_true.mp h.2.2 x hx
    rw [Bool.and_eq_true] at this
    exact ⟨of_decide_eq_true this.1,of_decide_eq_true this.2⟩
theorem held1 (x : D) : Ev 1 21 [.lst [x],.int 0] x:=by
  exact Ev.ofL (k:=0) (fi:=f_held_code) rfl rfl (.nil) (by kernel_rfl)
theorem held20 (x y : D) : Ev 1 21 [.lst [x,y],.int 0] x:=by
  exact Ev.ofL (k:=0) (fi:=f_held_code) rfl rfl (.nil) (by kernel_rfl)
theorem held21 (x y : D) : Ev 1 21 [.lst [x,y],.int 1] y:=by
  exact Ev.ofL (k:=0) (fi:=f_held_code) rfl rfl (.nil) (by kernel_rfl)
theorem from1_B : (C4.all fun c=>isEv 1 2 [.lst [.int c]] (vec1 c)) = true:=by kernel_rfl
theorem from2_B : (C4.all fun c=>C4.all fun d=>isEv 1 2 [.lst [.int c,.int d]] (vecD c d)) = true:=by kernel_rfl
theorem pairC_cd (p : Int × Int) : Cd (pairC p):=by
  unfold pairC; (repeat' split) <;> simp [Cd]
theorem vec1_ev (p : Int × Int) : Ev 2 24 [.lst [Pt p]] (vec1 (pairC p)):=by
  exact Ev.ofL (k:=1) (fi:=f_pairs_vec) rfl rfl (.cons (pair_ev p) (by decide) (.cons (isEv.ok (all4 from1_B (pairC_cd p))) (by decide) .nil)) (by kernel_rfl)
theorem vec2_ev (p q : Int × Int) : Ev 2 24 [.lst [Pt p,Pt q]] (vecD (pairC p) (pairC q)):=by
  exact Ev.ofL (k:=1) (fi:=f_pairs_vec) rfl rfl (.cons (pair_ev p) (by decide) (.cons (pair_ev q) (by decide) (.cons (isEv.ok (all4 (all4 from2_B (pairC_cd p)) (pairC_cd q))) (by decide) .nil))) (by kernel_rfl)
noncomputable def rsSt (kd wide drivers held : D) (place pair row : Option V) (hp : Hp) : St:={ loc:=[(110,some (.d kd)),(118,some (.d wide)),(120,some (.d drivers)),(111,some (.d held)),(117,some (.c 0)),(115,place),(119,pair),(66,row)],cel:=[],gl:=[193,20,21,19],hp:=hp }
noncomputable def rsBody : SL:=match nthS f_resolve_bits.body 1 with | .for _ _ _ _ _ b _=>b | _=>.nil
noncomputable def rsTg : Tg:=match nthS f_resolve_bits.body 1 with | .for t _ _ _ _ _ _=>t | _=>.loc 0 ⟨0,0,0,0⟩
noncomputable def rsIn : SL:=match nthS rsBody 1 with | .for _ _ _ _ _ b _=>b | _=>.nil
noncomputable def rsInT : Tg:=match nthS rsBody 1 with | .for t _ _ _ _ _ _=>t | _=>.loc 0 ⟨0,0,0,0⟩
noncomputable abbrev P2:=Int × Int
noncomputable def foldJ (kd : D) (p : P2) (ds : List P2) : P2:=ds.foldl (joinS (ltK kd) (htK kd)) p
theorem rs_loop1 {kd wide drivers held : D} (hk : IsKind kd) {hp : Hp} {K : Fl → St → Prop} : ∀ (ds : List (P2)) {p : P2} {row : Option V},(∀ row,K .nxt (rsSt kd wide drivers held (some (.d (.int 0))) (some (.d (Pt (foldJ kd p (ds.map fun x=>x))))) row hp)) →
    loopF (fun x st k=>aG (cE 2) rsInT (.d x) st fun st=>aSL (cE 2) rsIn st k) (ds.map fun x=>D.lst [Pt x]) (rsSt kd wide drivers held (some (.d (.int 0))) (some (.d (Pt p))) row hp) K
  | [],p,row,hK=>hK row
  | x :: ds,p,row,hK=>by
    rw [List.map_cons]
    unfold loopF
    refine stepE (join_ev hk p (x)) (by decide) rfl ?_
    exact rs_loop1 hk ds (row:=some (.d (.lst [Pt x]))) hK
theorem rs_loop20 {kd wide drivers held : D} (hk : IsKind kd) {hp : Hp} {K : Fl → St → Prop} : ∀ (ds : List (P2 × P2)) {p : P2} {row : Option V},(∀ row,K .nxt (rsSt kd wide drivers held (some (.d (.int 0))) (some (.d (Pt (foldJ kd p (ds.map fun x=>x.1))))) row hp)) →
    loopF (fun x st k=>aG (cE 2) rsInT (.d x) st fun st=>aSL (cE 2) rsIn st k) (ds.map fun x=>D.lst [Pt x.1,Pt x.2]) (rsSt kd wide drivers held (some (.d (.int 0))) (some (.d (Pt p))) row hp) K
  | [],p,row,hK=>hK row
  | x :: ds,p,row,hK=>by
    rw [List.map_cons]
    unfold loopF
    refine stepE (join_ev hk p (x.1)) (by decide) rfl ?_
    exact rs_loop20 hk ds (row:=some (.d (.lst [Pt x.1,Pt x.2]))) hK
theorem rs_loop21 {kd wide drivers held : D} (hk : IsKind kd) {hp : Hp} {K : Fl → St → Prop} : ∀ (ds : List (P2 × P2)) {p : P2} {row : Option V},(∀ row,K .nxt (rsSt kd wide drivers held (some (.d (.int 1))) (some (.d (Pt (foldJ kd p (ds.map fun x=>x.2))))) row hp)) →
    loopF (fun x st k=>aG (cE 2) rsInT (.d x) st fun st=>aSL (cE 2) rsIn st k) (ds.map fun x=>D.lst [Pt x.1,Pt x.2]) (rsSt kd wide drivers held (some (.d (.int 1))) (some (.d (Pt p))) row hp) K
  | [],p,row,hK=>hK row
  | x :: ds,p,row,hK=>by
    rw [List.map_cons]
    unfold loopF
    refine stepE (join_ev hk p (x.2)) (by decide) rfl ?_
    exact rs_loop21 hk ds (row:=some (.d (.lst [Pt x.1,Pt x.2]))) hK
theorem resolve1 {kd : D} (hk : IsKind kd) {h : Int} (hh : Cd h) (ds : List P2) : Ev 3 22 [kd,.int 1,.lst (ds.map fun x=>.lst [Pt x]),.lst [.int h]] (.lst [Pt (foldJ kd (mmP (restL kd h)) ds)]):=by
  refine Ev.ofP (k:=2) (fi:=f_resolve_bits) rfl rfl ?_
  refine stepE (held1 (.int h)) (by decide) rfl ?_
  refine stepE (rest_ev hk hh).1 (by decide) rfl ?_
  refine Eq.mpr (β:=loopF (fun x st k=>aG (cE 2) rsInT (.d x) st fun st=>aSL (cE 2) rsIn st k) (ds.map fun x=>D.lst [Pt x]) (rsSt kd (.int 1) (.lst (ds.map fun x=>.lst [Pt x])) (.lst [.int h]) (some (.d (.int 0))) (some (.d (Pt (mmP (restL kd h))))) none [some (.lst [])]) (fun fl st=>match fl with
    | .nxt=>aSL (cE 2) (dropSL 2 rsBody) st (fun fl st=>match fl with
      | .nxt=>loopF (fun x st k=>aG (cE 2) rsTg (.d x) st fun st=>aSL (cE 2) rsBody st k) [] st (fun fl st=>match fl with
        | .nxt=>aSL (cE 2) (dropSL 2 f_resolve_bits.body) st (fun fl _=>fl = .ret (.d (.lst [Pt (foldJ kd (mmP (restL kd h)) ds)])))
        | .ret v=>(Fl.ret v) = .ret (.d (.lst [Pt (foldJ kd (mmP (restL kd h)) ds)])))
      | .ret v=>(match Fl.ret v with
        | .nxt=>aSL (cE 2) (dropSL 2 f_resolve_bits.body) st (fun fl _=>fl = .ret (.d (.lst [Pt (foldJ kd (mmP (restL kd h)) ds)])))
        | .ret v=>(Fl.ret v) = .ret (.d (.lst [Pt (foldJ kd (mmP (restL kd h)) ds)]))))
    | .ret v=>(match Fl.ret v with
      | .nxt=>loopF (fun x st k=>aG (cE 2) rsTg (.d x) st fun st=>aSL (cE 2) rsBody st k) [] st (fun fl st=>match fl with
        | .nxt=>aSL (cE 2) (dropSL 2 f_resolve_bits.body) st (fun fl _=>fl = .ret (.d (.lst [Pt (foldJ kd (mmP (restL kd h)) ds)])))
        | .ret v=>(Fl.ret v) = .ret (.d (.lst [Pt (foldJ kd (mmP (restL kd h)) ds)])))
      | .ret v=>(match Fl.ret v with
        | .nxt=>aSL (cE 2) (dropSL 2 f_resolve_bits.body) st (fun fl _=>fl = .ret (.d (.lst [Pt (foldJ kd (mmP (restL kd h)) ds)])))
        | .ret v=>(Fl.ret v) = .ret (.d (.lst [Pt (foldJ kd (mmP (restL kd h)) ds)])))))) (by kernel_rfl) ?_
  refine rs_loop1 hk ds fun row=>?_
  rw [List.map_id']
  exact rfl
end
end Mine
end
section
open PySem.Spec
set_option maxHeartbeats 2000000
namespace Mine
noncomputable section
theorem resolve2 {kd : D} (hk : IsKind kd) {h0 h1 : Int} (c0 : Cd h0) (c1 : Cd h1) (ds : List (P2 × P2)) : Ev 3 22 [kd,.int 2,.lst (ds.map fun x=>.lst [Pt x.1,Pt x.2]),.lst [.int h0,.int h1]]
    (.lst [Pt (foldJ kd (mmP (restL kd h0)) (ds.map fun x=>x.1)),Pt (foldJ kd (mmP (restL kd h1)) (ds.map fun x=>x.2))]):=by
  refine Ev.ofP (k:=2) (fi:=f_resolve_bits) rfl rfl ?_
  let R:=Fl.ret (.d (.lst [Pt (foldJ kd (mmP (restL kd h0)) (ds.map fun x=>x.1)),Pt (foldJ kd (mmP (restL kd h1)) (ds.map fun x=>x.2))]))
  let KZ : Fl → St → Prop:=fun fl st=>match fl with
    | .nxt=>aSL (cE 2) (dropSL 2 f_resolve_bits.body) st (fun fl _=>fl = R)
    | .ret v=>(Fl.ret v) = R
  let KL : List D → Fl → St → Prop:=fun l fl st=>match fl with
    | .nxt=>loopF (fun x st k=>aG (cE 2) rsTg (.d x) st fun st=>aSL (cE 2) rsBody st k) l st KZ
    | .ret v=>KZ (.ret v) st
  let KI : List D → Fl → St → Prop:=fun l fl st=>match fl with
    | .nxt=>aSL (cE 2) (dropSL 2 rsBody) st (KL l)
    | .ret v=>KL l (.ret v) st
  let dr : D:=.lst (ds.map fun x=>.lst [Pt x.1,Pt x.2])
  let hd : D:=.lst [.int h0,.int h1]
  refine stepE (held20 (.int h0) (.int h1)) (by decide) rfl ?_
  refine stepE (rest_ev hk c0).1 (by decide) rfl ?_
  refine Eq.mpr (β:=loopF (fun x st k=>aG (cE 2) rsInT (.d x) st fun st=>aSL (cE 2) rsIn st k) (ds.map fun x=>D.lst [Pt x.1,Pt x.2]) (rsSt kd (.int 2) dr hd (some (.d (.int 0))) (some (.d (Pt (mmP (restL kd h0))))) none [some (.lst [])]) (KI [.int 1])) (by kernel_rfl) ?_
  refine rs_loop20 hk ds fun row=>?_
  refine Eq.mpr (β:=loopF (fun x st k=>aG (cE 2) rsTg (.d x) st fun st=>aSL (cE 2) rsBody st k) [.int 1] (rsSt kd (.int 2) dr hd (some (.d (.int 0))) (some (.d (Pt (foldJ kd (mmP (restL kd h0)) (ds.map fun x=>x.1))))) row [some (.lst [.d (Pt (foldJ kd (mmP (restL kd h0)) (ds.map fun x=>x.1)))])]) KZ) (by kernel_rfl) ?_
  refine stepE (held21 (.int h0) (.int h1)) (by decide) rfl ?_
  refine stepE (rest_ev hk c1).1 (by decide) rfl ?_
  refine Eq.mpr (β:=loopF (fun x st k=>aG (cE 2) rsInT (.d x) st fun st=>aSL (cE 2) rsIn st k) (ds.map fun x=>D.lst [Pt x.1,Pt x.2]) (rsSt kd (.int 2) dr hd (some (.d (.int 1))) (some (.d (Pt (mmP (restL kd h1))))) row [some (.lst [.d (Pt (foldJ kd (mmP (restL kd h0)) (ds.map fun x=>x.1)))])]) (KI [])) (by kernel_rfl) ?_
  refine rs_loop21 hk ds fun row=>?_
  exact Eq.mpr (β:=R = R) (by kernel_rfl) rfl
inductive Bit : List (List Int) → List P2 → Prop
  | nil : Bit [] []
  | row {rs ps r} : Bit rs ps → LevOk r → Bit (rs ++ [r]) (ps ++ [mmP r])
  | no {rs ps} : Bit rs ps → Bit rs (ps ++ [(0,0)])
theorem joinS_zero (lt ht : Bool) (p : P2) : joinS lt ht p (0,0) = p:=by
  unfold joinS; rw [str_zero,str_zero]
theorem Bit.inv {lt ht : Bool} {W : List Wy} {p : P2} (h0 : Inv lt ht W p) {rs : List (List Int)} {ps : List P2} (h : Bit rs ps) : Inv lt ht (netW W rs) (ps.foldl (joinS lt ht) p):=by
  induction h with
  | nil=>exact h0
  | row _ hr ih =>
    have e : ∀ (rs : List (List Int)) r,netW W (rs ++ [r]) = stepW (netW W rs) r:=fun rs r=>by unfold netW; rw [List.foldl_append]; rfl
    rw [e,List.foldl_append]
    exact ih.step hr
  | no _ ih =>
    rw [List.foldl_append]
    show Inv lt ht _ (joinS lt ht _ (0,0))
    rw [joinS_zero]
    exact ih
theorem Bit.ok {rs : List (List Int)} {ps : List P2} (h : Bit rs ps) : ∀ r ∈ rs,LevOk r:=by
  induction h with
  | nil=>exact fun _ h=>nomatch h
  | row _ hr ih =>
    intro x hx
    rcases List.mem_append.mp hx with hx | hx
    · exact ih x hx
    · rw [List.mem_singleton.mp hx]; exact hr
  | no _ ih=>exact ih
theorem bit_net {kd : D} (hk : IsKind kd) {c : Int} (hc : Cd c) {rs : List (List Int)} {ps : List P2} (h : Bit rs ps) :
    Ev 1 56 [kd,.lst ((restL kd c :: rs).map levD)] (.int (pairC (foldJ kd (mmP (restL kd c)) ps))):=by
  have hr:=(rest_ev hk hc).2.2
  have i0:=(Inv.start (ltK kd) (htK kd)).step hr
  have e0 : joinS (ltK kd) (htK kd) (0,0) (mmP (restL kd c)) = mmP (restL kd c):=by unfold joinS; rw [zero_str,zero_str]
  rw [e0] at i0
  have i1:=h.inv i0
  have e1 : netW [(0,0)] (restL kd c :: rs) = netW (stepW [(0,0)] (restL kd c)) rs:=rfl
  have e2:=i1.done (ties_of hk)
  have ne : netW [(0,0)] (restL kd c :: rs) ≠ []:=by
    rw [e1]
    obtain ⟨w,hw,_⟩:=i1.lo
    intro e
    rw [e] at hw; cases hw
  have:=net_ev hk rfl (rs:=restL kd c :: rs) (fun x hx=>(List.mem_cons.mp hx).elim (fun q=>q ▸ hr) (h.ok x)) ne
  rw [e1,e2] at this
  exact this
end
end Mine
end
section
open PySem.Spec
set_option maxHeartbeats 2000000
namespace Mine
noncomputable section
noncomputable def cZ (N n : Nat) : Cfg Prop:=⟨False,noTab,mTab,fun f vs hp k=>(∃ ds r,allD vs = some ds ∧ Ev N f ds r ∧ mem effL f = false ∧ k (.d r) hp) ∨ mem effL f = true ∧ (cI N n).I f vs hp k⟩
theorem zP {N n j f : Nat} {ds : List D} {r : D} {vs : List V} {hp : Hp} {K : V → Hp → Prop} (h : Ev j f ds r) (hj : j ≤ N) (hf : mem effL f = false) (he : allD vs = some ds) (q : K (.d r) hp) : (cZ N n).I f vs hp K:=.inl ⟨ds,r,he,h.up hj,hf,q⟩
theorem zI {N n f : Nat} {vs : List V} {hp : Hp} {K : V → Hp → Prop} (hf : mem effL f = true) (h : (cI N n).I f vs hp K) : (cZ N n).I f vs hp K:=.inr ⟨hf,h⟩
theorem cI_P (N n f : Nat) (ds : List D) : (cI N n).P f ds = Pm N f ds:=by cases n <;> rfl
theorem cZ_hom (N n : Nat) : Hom (fun (p q : Prop)=>p → q) (cZ N n) (cI N n) :=
  ⟨fun e=>e.elim,fun f vs ds hp k1 k2 hvs hk e=>(by
    rw [cI_P]
    rcases (show (∃ ds r,allD vs = some ds ∧ Ev N f ds r ∧ mem effL f = false ∧ k1 (.d r) hp) ∨ mem effL f = true ∧ (cI N n).I f vs hp k1 from e) with ⟨ds',r,he,hr,hf,q⟩ | ⟨hf,q⟩
    · rw [hvs] at he; obtain rfl:=Option.some.inj he
      rw [Pm_ev hr hf]
      exact hk _ _ q
    · have : Pm N f ds = none:=by unfold Pm; rw [hf]
      rw [this]
      exact cI_mono N n f vs hp k1 k2 hk q),fun _ _=>(by cases n <;> rfl),fun f vs hp k1 k2 hvs hk e=>(by
    rcases (show (∃ ds r,allD vs = some ds ∧ Ev N f ds r ∧ mem effL f = false ∧ k1 (.d r) hp) ∨ mem effL f = true ∧ (cI N n).I f vs hp k1 from e) with ⟨ds',r,he,_⟩ | ⟨hf,q⟩
    · rw [hvs] at he; exact nope he
    · exact cI_mono N n f vs hp k1 k2 hk q)⟩
theorem lawZ {N n : Nat} {b : SL} {st : St} {K : Fl → St → Prop} (h : aSL (cZ N n) b st K) : aSL (cI N n) b st K:=aSL_h (cZ_hom N n) b st (fun _ _ x=>x) h
noncomputable def lwSt (sc : D) (sigs turn wide i fixed driving choices number element levels pairs spot drives v bag kind held : Option V) (hp : Hp) : St :=
  { loc:=[(155,some (.d sc)),(172,sigs),(164,turn),(168,wide),(65,i),(192,fixed),(190,driving),(185,choices),(139,number),(142,element),(186,levels),(121,pairs),(169,spot),(191,drives),(64,v)],cel:=[(154,bag),(110,kind),(111,held)],gl:=[43,193,44,48,42,61,58,49,54,67,24,22,158,56],hp:=hp }
noncomputable def endLaw (fl : Fl) (st : St) : Prop:=fl = .ret (.d (.bool true)) ∧ hget st.hp 0 = some .tab
noncomputable abbrev Z:=cZ 12 8
theorem zpull {hp : Hp} {m : Int} {k : V → Hp → Prop} (hb : hget hp 1 = some .bag) (h0 : 0 < m) (h1 : m < 1073741824) (h : ∀ got,0 ≤ got → got < m → k (.d (.int got)) hp) : Z.I 44 [.c 1,.d (.int m)] hp k:=zI rfl (pull_c (n:=7) hb h0 h1 h)
noncomputable def sgFor : S:=nthS f_law.body 2
noncomputable def sgTg : Tg:=match sgFor with | .for t _ _ _ _ _ _=>t | _=>.loc 0 ⟨0,0,0,0⟩
noncomputable def sgBody : SL:=match sgFor with | .for _ _ _ _ _ b _=>b | _=>.nil
noncomputable def LawB (wide : Int) (kd sc : D) (s0 s1 s2 : Int × Int) : Prop:=aSL Z (dropSL 5 f_law.body) (lwSt sc (some (.c 2)) (some (.d (.int 2))) (some (.d (.int wide))) none none none none none none none none none none none (some (.c 1)) (some (.d kd)) none [some .tab,some .bag,some (.lst [.d (rowT s0),.d (rowT s1),.d (rowT s2)])]) endLaw
theorem law_a (h : ∀ wide kd sc s0 s1 s2,(wide = 1 ∨ wide = 2) → IsKind kd → SgOk s0 s1 s2 → LawB wide kd sc s0 s1 s2) (ns : List Int) (hn : ns.length ≤ 63) :
    aSL Z f_law.body (startOf f_law [.d (.lst (ns.map .int))] [some .tab]) endLaw:=by
  refine zI rfl ⟨ns,rfl,hn,?_⟩
  let sc : D:=.lst (ns.map .int)
  let KS : Fl → St → Prop:=fun fl st=>match fl with
    | .nxt=>aSL Z (dropSL 3 f_law.body) st endLaw
    | .ret v=>endLaw (.ret v) st
  let T (turn : Option V) (l : List Int) (rows : List V) : Prop:=loopF (fun x st k=>aG Z sgTg (.d x) st fun st=>aSL Z sgBody st k) (l.map .int) (lwSt sc (some (.c 2)) turn none none none none none none none none none none none none (some (.c 1)) none none [some .tab,some .bag,some (.lst rows)]) KS
  refine Eq.mpr (β:=T none [0,1,2] []) (by kernel_rfl) ?_
  refine zpull rfl (by decide) (by decide) fun a0 p1 p2=>?_
  refine zpull rfl (by decide) (by decide) fun a1 p3 p4=>?_
  refine Eq.mpr (β:=T (some (.d (.int 0))) [1,2] [.d (rowT (a0,a1))]) (by kernel_rfl) ?_
  refine zpull rfl (by decide) (by decide) fun b0 q1 q2=>?_
  refine zpull rfl (by decide) (by decide) fun b1 q3 q4=>?_
  refine Eq.mpr (β:=T (some (.d (.int 1))) [2] [.d (rowT (a0,a1)),.d (rowT (b0,b1))]) (by kernel_rfl) ?_
  refine zpull rfl (by decide) (by decide) fun d0 r1 r2=>?_
  refine zpull rfl (by decide) (by decide) fun d1 r3 r4=>?_
  have sg : SgOk (a0,a1) (b0,b1) (d0,d1):=⟨⟨cd_of p1 p2,cd_of p3 p4⟩,⟨cd_of q1 q2,cd_of q3 q4⟩,cd_of r1 r2,cd_of r3 r4⟩
  let H3 : Prop:=aSL Z (dropSL 3 f_law.body) (lwSt sc (some (.c 2)) (some (.d (.int 2))) none none none none none none none none none none none none (some (.c 1)) none none [some .tab,some .bag,some (.lst [.d (rowT (a0,a1)),.d (rowT (b0,b1)),.d (rowT (d0,d1))])]) endLaw
  refine Eq.mpr (β:=H3) (by kernel_rfl) ?_
  refine zpull rfl (by decide) (by decide) fun g g0 g1=>?_
  let H4 : Int → Prop:=fun wide=>aSL Z (dropSL 4 f_law.body) (lwSt sc (some (.c 2)) (some (.d (.int 2))) (some (.d (.int wide))) none none none none none none none none none none none (some (.c 1)) none none [some .tab,some .bag,some (.lst [.d (rowT (a0,a1)),.d (rowT (b0,b1)),.d (rowT (d0,d1))])]) endLaw
  have h4 : ∀ wide,(wide = 1 ∨ wide = 2) → H4 wide:=fun wide hw=>by
    refine zpull rfl (by decide) (by decide) fun k k0 k1=>?_
    have hk : k = 0 ∨ k = 1 ∨ k = 2 ∨ k = 3 ∨ k = 4 ∨ k = 5 ∨ k = 6 ∨ k = 7 ∨ k = 8:=fin_or (P:=fun k=>k = 0 ∨ k = 1 ∨ k = 2 ∨ k = 3 ∨ k = 4 ∨ k = 5 ∨ k = 6 ∨ k = 7 ∨ k = 8) 9 (by decide) k0 k1
    rcases hk with rfl | rfl | rfl | rfl | rfl | rfl | rfl | rfl | rfl
    · exact Eq.mpr (β:=LawB wide (.str [119,105,114,101]) sc (a0,a1) (b0,b1) (d0,d1)) (by kernel_rfl) (h _ _ _ _ _ _ hw ⟨_,by simp [kinds9],rfl⟩ sg)
    · exact Eq.mpr (β:=LawB wide (.str [116,114,105]) sc (a0,a1) (b0,b1) (d0,d1)) (by kernel_rfl) (h _ _ _ _ _ _ hw ⟨_,by simp [kinds9],rfl⟩ sg)
    · exact Eq.mpr (β:=LawB wide (.str [119,97,110,100]) sc (a0,a1) (b0,b1) (d0,d1)) (by kernel_rfl) (h _ _ _ _ _ _ hw ⟨_,by simp [kinds9],rfl⟩ sg)
    · exact Eq.mpr (β:=LawB wide (.str [119,111,114]) sc (a0,a1) (b0,b1) (d0,d1)) (by kernel_rfl) (h _ _ _ _ _ _ hw ⟨_,by simp [kinds9],rfl⟩ sg)
    · exact Eq.mpr (β:=LawB wide (.str [116,114,105,48]) sc (a0,a1) (b0,b1) (d0,d1)) (by kernel_rfl) (h _ _ _ _ _ _ hw ⟨_,by simp [kinds9],rfl⟩ sg)
    · exact Eq.mpr (β:=LawB wide (.str [116,114,105,49]) sc (a0,a1) (b0,b1) (d0,d1)) (by kernel_rfl) (h _ _ _ _ _ _ hw ⟨_,by simp [kinds9],rfl⟩ sg)
    · exact Eq.mpr (β:=LawB wide (.str [116,114,105,114,101,103]) sc (a0,a1) (b0,b1) (d0,d1)) (by kernel_rfl) (h _ _ _ _ _ _ hw ⟨_,by simp [kinds9],rfl⟩ sg)
    · exact Eq.mpr (β:=LawB wide (.str [115,117,112,112,108,121,48]) sc (a0,a1) (b0,b1) (d0,d1)) (by kernel_rfl) (h _ _ _ _ _ _ hw ⟨_,by simp [kinds9],rfl⟩ sg)
    · exact Eq.mpr (β:=LawB wide (.str [115,117,112,112,108,121,49]) sc (a0,a1) (b0,b1) (d0,d1)) (by kernel_rfl) (h _ _ _ _ _ _ hw ⟨_,by simp [kinds9],rfl⟩ sg)
  have hg : g = 0 ∨ g = 1:=or2 g0 g1
  rcases hg with rfl | rfl
  · exact Eq.mpr (β:=H4 1) (by kernel_rfl) (h4 1 (.inl rfl))
  · exact Eq.mpr (β:=H4 2) (by kernel_rfl) (h4 2 (.inr rfl))
end
end Mine
end
section
open PySem.Spec
set_option maxHeartbeats 2000000
namespace Mine
noncomputable section
noncomputable def fixT : D:=thingD [110,128] [.str [97,110,100],.tup [constE 2 0,constE 3 0]]
noncomputable def fixE : D:=elD (.int 9) (.str [103,97,116,101]) fixT (.tup [.int 6,.int 5])
theorem and_pair : isEv 4 34 [.str [97,110,100],.lst [.int 0,.int 1],.int 6,.int 5] (.tup [.int (-6),.int (-6)]) = true:=by kernel_rfl
theorem fixed_ev (ctx : D) : Ev 7 42 [fixE,ctx] (.lst [.tup [.int (-6),.int (-6)]]):=by
  have c0 : Ev 1 15 [constE 2 0,ctx] (vecD 0 1):=.of0 (fi:=f_evaluate) rfl rfl (by kernel_rfl)
  have c1 : Ev 1 15 [constE 3 0,ctx] (vecD 1 1):=.of0 (fi:=f_evaluate) rfl rfl (by kernel_rfl)
  have k0 : isEv 1 1 [vecD 0 1,.int 0] (.int 0) = true:=by kernel_rfl
  have k1 : isEv 1 1 [vecD 1 1,.int 0] (.int 1) = true:=by kernel_rfl
  exact Ev.ofL (k:=6) (fi:=f_element_pairs) rfl rfl (.cons c0 (by decide) (.cons (isEv.ok k0) (by decide) (.cons c1 (by decide) (.cons (isEv.ok k1) (by decide) (.cons (isEv.ok and_pair) (by decide) .nil))))) (by kernel_rfl)
theorem zthing {hp : Hp} {k : V → Hp → Prop} (h : k (.c hp.length) (hp ++ [some (.inst 62 baseN (baseV.map .d))])) : Z.I 48 [] hp k:=zI rfl (thing_c (n:=6) h)
theorem zel {hp : Hp} {nu co pc fr : D} {k : V → Hp → Prop} (h : k (.c hp.length) (hp ++ [some (.inst 61 [139,110,138,137,121,136,135,134,127,133] ([nu,co,pc,fr,.none,.none,.int 0,.bool false,.int 3,.lst []].map .d))])) : Z.I 61 [.d nu,.d co,.d pc,.d fr] hp k:=zI rfl (el_c (n:=7) h)
noncomputable def ctxC (n : Nat) (sg : D) : List (Option Ct):=[some (.inst 62 (baseN ++ [97]) (baseV.map V.d ++ [.c (n + 1)])),some (.inst 62 (baseN ++ [98]) ((baseV ++ [D.clo 60 [sg]]).map .d))]
noncomputable def LawC (wide : Int) (kd sc held sg : D) : Prop:=aSL Z (dropSL 10 f_law.body) (lwSt sc (some (.d sg)) (some (.d (.int 2))) (some (.d (.int wide))) none (some (.d fixT)) none none none none none none none none none (some (.c 1)) (some (.d kd)) (some (.d held)) [some .tab,some .bag,none,none,none,none,none]) endLaw
noncomputable def LawF (wide : Int) (kd sc held : D) (s0 s1 s2 : Int × Int) : Prop:=aSL Z (dropSL 6 f_law.body) (lwSt sc (some (.c 2)) (some (.d (.int 2))) (some (.d (.int wide))) none none none none none none none none none none none (some (.c 1)) (some (.d kd)) (some (.d held)) [some .tab,some .bag,some (.lst [.d (rowT s0),.d (rowT s1),.d (rowT s2)])]) endLaw
theorem iff_fallB {c : Cfg Prop} {st st' : St} {t : X} {a r : SL} {p : Pos} {K : Fl → St → Prop} (ht : ∀ k : Bool → St → Prop,k false st' → aT c t st k) (h : aSL c r st' K) : aSL c (.cons (.iff t a .nil p) r) st K:=by
  refine ht _ ?_
  show aSL c .nil st' _
  exact h
theorem callU2 {f : Nat} {fp p : Pos} {x y : X} {st st1 st2 : St} {dx dy r : D} {j : Nat} (hm : (mem st.gl f && isFn f) = true) (hf : mem effL f = false) (h1 : EX Z x st (.d dx) st1) (h2 : EX Z y st1 (.d dy) st2) (hr : Ev j f [dx,dy] r) (hj : j ≤ 12) : EX Z (.callU f fp (.cons x (.cons y .nil)) p) st (.d r) st2:=by
  intro KK h
  rw [qX_callU,hm]
  dsimp only
  refine h1 _ ?_
  refine h2 _ ?_
  exact zP hr hj hf rfl h
theorem tcmp_d {c : Cfg Prop} {op : CmpOp} {a b : X} {p : Pos} {st st1 st2 : St} {x y : D} {r : Bool} (ha : EX c a st (.d x) st1) (hb : EX c b st1 (.d y) st2) (hr : cmpD op x y = some r) (k : Bool → St → Prop) (hk : k r st2) : aT c (.cmp op a b p) st k:=by
  rw [qT_cmp]
  refine ha _ (hb _ ?_)
  dsimp only
  rw [hr]
  exact hk
noncomputable def fixArg : X × X:=match nthS f_law.body 9 with
  | .iff (.cmp _ (.callU _ _ (.cons x (.cons y _)) _) _ _) _ _ _=>(x,y)
  | _=>(.cnone ⟨0,0,0,0⟩,.cnone ⟨0,0,0,0⟩)
section
variable {wide : Int} {kd sc held : D} {s0 s1 s2 : Int × Int}
noncomputable def fSt (wide : Int) (kd sc held : D) (sigs fixed : Option V) (hp : Hp) : St:=lwSt sc sigs (some (.d (.int 2))) (some (.d (.int wide))) none fixed none none none none none none none none none (some (.c 1)) (some (.d kd)) (some (.d held)) hp
theorem ex_fix : EX Z fixArg.1 (fSt wide kd sc held (some (.c 2)) (some (.c 3)) [some .tab,some .bag,some (.lst [.d (rowT s0),.d (rowT s1),.d (rowT s2)]),some (.inst 62 (baseN ++ [110,128]) ((baseV ++ [D.str [97,110,100],D.tup [constE 2 0,constE 3 0]]).map V.d))]) (.d fixE)
    (fSt wide kd sc held (some (.c 2)) (some (.d fixT)) [some .tab,some .bag,some (.lst [.d (rowT s0),.d (rowT s1),.d (rowT s2)]),none,none]):=by
  intro KK h
  refine zel ?_
  exact Eq.mpr (β:=KK (.d fixE) (fSt wide kd sc held (some (.c 2)) (some (.d fixT)) [some .tab,some .bag,some (.lst [.d (rowT s0),.d (rowT s1),.d (rowT s2)]),none,none])) (by kernel_rfl) h
theorem ex_ctx : EX Z fixArg.2 (fSt wide kd sc held (some (.c 2)) (some (.d fixT)) [some .tab,some .bag,some (.lst [.d (rowT s0),.d (rowT s1),.d (rowT s2)]),none,none]) (.d (ctxD (sgD s0 s1 s2)))
    (fSt wide kd sc held (some (.d (sgD s0 s1 s2))) (some (.d fixT)) [some .tab,some .bag,none,none,none,none,none]):=by
  intro KK h
  refine zI rfl ⟨sgD s0 s1 s2,rfl,rfl,?_⟩
  refine thing_c (n:=5) ?_
  refine thing_c (n:=5) ?_
  exact Eq.mpr (β:=KK (.d (ctxD (sgD s0 s1 s2))) (fSt wide kd sc held (some (.d (sgD s0 s1 s2))) (some (.d fixT)) [some .tab,some .bag,none,none,none,none,none])) (by kernel_rfl) h
theorem law_f (h : LawC wide kd sc held (sgD s0 s1 s2)) : LawF wide kd sc held s0 s1 s2:=by
  refine zthing ?_
  let stA:=fSt wide kd sc held (some (.c 2)) (some (.c 3)) [some .tab,some .bag,some (.lst [.d (rowT s0),.d (rowT s1),.d (rowT s2)]),some (.inst 62 (baseN ++ [110,128]) ((baseV ++ [D.str [97,110,100],D.tup [constE 2 0,constE 3 0]]).map V.d))]
  let stB:=fSt wide kd sc held (some (.d (sgD s0 s1 s2))) (some (.d fixT)) [some .tab,some .bag,none,none,none,none,none]
  refine Eq.mpr (β:=aSL Z (dropSL 9 f_law.body) stA endLaw) (by kernel_rfl) ?_
  exact iff_fallB (st':=stB) (fun k hk=>tcmp_d (callU2 rfl rfl ex_fix ex_ctx (fixed_ev (ctxD (sgD s0 s1 s2))) (by decide)) (y:=.lst [.tup [.int (-6),.int (-6)]]) (st2:=stB) (by intro KK h; exact h) rfl k hk) h
end
theorem law_b1 {kd sc : D} {s0 s1 s2 : Int × Int} (h : ∀ c0,Cd c0 → LawC 1 kd sc (.lst [.int c0]) (sgD s0 s1 s2)) : LawB 1 kd sc s0 s1 s2:=by
  refine zpull rfl (by decide) (by decide) fun a p1 p2=>?_
  exact Eq.mpr (β:=LawF 1 kd sc (.lst [.int a]) s0 s1 s2) (by kernel_rfl) (law_f (h a (cd_of p1 p2)))
theorem law_b2 {kd sc : D} {s0 s1 s2 : Int × Int} (h : ∀ c0 c1,Cd c0 → Cd c1 → LawC 2 kd sc (.lst [.int c0,.int c1]) (sgD s0 s1 s2)) : LawB 2 kd sc s0 s1 s2:=by
  refine zpull rfl (by decide) (by decide) fun a p1 p2=>?_
  refine zpull rfl (by decide) (by decide) fun b p3 p4=>?_
  exact Eq.mpr (β:=LawF 2 kd sc (.lst [.int a,.int b]) s0 s1 s2) (by kernel_rfl) (law_f (h a b (cd_of p1 p2) (cd_of p3 p4)))
end
end Mine
end
section
open PySem.Spec
set_option maxHeartbeats 2000000
namespace Mine
noncomputable section
noncomputable def numFor : S:=nthS f_law.body 12
noncomputable def numB : SL:=match numFor with | .for _ _ _ _ _ b _=>b | _=>.nil
noncomputable def numT : Tg:=match numFor with | .for t _ _ _ _ _ _=>t | _=>.loc 0 ⟨0,0,0,0⟩
noncomputable def cmpX : X:=match nthS numB 3 with | .iff (.cmp _ _ x _) _ _ _=>x | _=>.cnone ⟨0,0,0,0⟩
noncomputable def ctxX : X:=match nthS numB 2 with | .asg _ (.callU _ _ (.cons _ (.cons y _)) _) _=>y | _=>.cnone ⟨0,0,0,0⟩
noncomputable def spotX : X:=match nthS numB 4 with | .asg _ x _=>x | _=>.cnone ⟨0,0,0,0⟩
section
variable {wide : Int} {kd sc held sg : D}
noncomputable def tSt (wide : Int) (kd sc held sg : D) (drv chs : Nat) (i number element levels pairs spot drives : Option V) (hp : Hp) : St:=lwSt sc (some (.d sg)) (some (.d (.int 2))) (some (.d (.int wide))) i (some (.d fixT)) (some (.c drv)) (some (.c chs)) number element levels pairs spot drives none (some (.c 1)) (some (.d kd)) (some (.d held)) hp
theorem pairD_cons (i : Int) (l : List Int) : pairD (i :: l) = .tup [.int (minL i l),.int (maxL i l)]:=rfl
theorem ci13 : ciOf 13 = { kinds:=[(224,.local),(66,.local),(76,.globalImplicit),(77,.globalImplicit)],tgs:=[66],frs:=[],gls:=[76,77] }:=rfl
noncomputable def cmpE : X:=match cmpX with | .comp _ e _ _ _ _ _ _ _ _=>e | _=>.cnone ⟨0,0,0,0⟩
theorem mm_row {st : St} {r : List Int} (hr : LevOk r) (h66 : has st.loc 66 = true) (hg : st.gl = [76,77]) (hl : st.loc = [(66,none)] ∨ ∃ v,st.loc = [(66,some v)]) (KK : V → St → Prop) (h : KK (.d (pairD r)) { st with loc:=[(66,some (.d (levD r)))] }) :
    aX Z cmpE (setLoc st 66 (.d (levD r))) KK:=by
  obtain ⟨p1,p2,p3,p4,p5,p6,p7,ec⟩ : ∃ p1 p2 p3 p4 p5 p6 p7,cmpE = .tup (.cons (.callB .min1 76 p1 (.cons (.loc 66 p2) .nil) p3) (.cons (.callB .max1 77 p4 (.cons (.loc 66 p5) .nil) p6) .nil)) p7:=⟨_,_,_,_,_,_,_,rfl⟩
  rw [ec]
  obtain ⟨hne,_⟩:=hr
  obtain ⟨loc,cel,gl,hp,own⟩:=st
  dsimp only at hg hl h
  subst hg
  cases r with
  | nil=>exact absurd rfl hne
  | cons a l =>
    have m1:=fun hp=>min_ev a l hp
    have m2:=fun hp=>max_ev a l hp
    have e : levD (a :: l) = .lst ((a :: l).map .int):=rfl
    have e2 : (setLoc ⟨loc,cel,[76,77],hp,own⟩ 66 (.d (levD (a :: l)))) = ⟨[(66,some (.d (levD (a :: l))))],cel,[76,77],hp,own⟩:=by
      rcases hl with q | ⟨v,q⟩ <;> (unfold setLoc; rw [q]; rfl)
    rw [e2]
    rw [e] at h ⊢
    have g1 : (mem [76,77] 76 && Nat.beq (biId .min1) 76) = true:=rfl
    have g2 : (mem [76,77] 77 && Nat.beq (biId .max1) 77) = true:=rfl
    have lk : look [(66,some (V.d (D.lst ((a :: l).map .int))))] 66 = some (.d (.lst ((a :: l).map .int))):=rfl
    simp only [qX_tup,qX_callB,qX_loc,qXs_cons,qXs_nil,g1,g2,lk,m1,m2]
    exact h
theorem ex_cmp1 {drv chs : Nat} {i number element pairs spot drives : Option V} {hp : Hp} {r : List Int} (hr : LevOk r) :
    EX Z cmpX (tSt wide kd sc held sg drv chs i number element (some (.d (.lst [levD r]))) pairs spot drives hp) (.d (.lst [pairD r])) (tSt wide kd sc held sg drv chs i number element (some (.d (.lst [levD r]))) pairs spot drives hp):=by
  intro KK h
  let F : D → List V → St → (List V → St → Prop) → Prop:=fun x acc st k=>bif' (has st.loc 66) (aX Z cmpE (setLoc st 66 (.d x)) fun v st=>k (acc ++ [v]) st) Z.F
  let KF : List V → St → Prop:=fun acc st'=>match allD acc with
    | some xs=>KK (.d (.lst xs)) { (tSt wide kd sc held sg drv chs i number element (some (.d (.lst [levD r]))) pairs spot drives hp) with hp:=st'.hp }
    | none=>Z.F
  refine Eq.mpr (β:=loopC F [levD r] [] ⟨[(66,none)],[],[76,77],hp,false⟩ KF) (by kernel_rfl) ?_
  refine mm_row (st:=⟨[(66,none)],[],[76,77],hp,false⟩) hr rfl rfl (.inl rfl) (fun v st=>loopC F [] ([] ++ [v]) st KF) ?_
  exact h
theorem ex_cmp2 {drv chs : Nat} {i number element pairs spot drives : Option V} {hp : Hp} {r r2 : List Int} (hr : LevOk r) (hr2 : LevOk r2) :
    EX Z cmpX (tSt wide kd sc held sg drv chs i number element (some (.d (.lst [levD r,levD r2]))) pairs spot drives hp) (.d (.lst [pairD r,pairD r2])) (tSt wide kd sc held sg drv chs i number element (some (.d (.lst [levD r,levD r2]))) pairs spot drives hp):=by
  intro KK h
  let F : D → List V → St → (List V → St → Prop) → Prop:=fun x acc st k=>bif' (has st.loc 66) (aX Z cmpE (setLoc st 66 (.d x)) fun v st=>k (acc ++ [v]) st) Z.F
  let KF : List V → St → Prop:=fun acc st'=>match allD acc with
    | some xs=>KK (.d (.lst xs)) { (tSt wide kd sc held sg drv chs i number element (some (.d (.lst [levD r,levD r2]))) pairs spot drives hp) with hp:=st'.hp }
    | none=>Z.F
  refine Eq.mpr (β:=loopC F [levD r,levD r2] [] ⟨[(66,none)],[],[76,77],hp,false⟩ KF) (by kernel_rfl) ?_
  refine mm_row (st:=⟨[(66,none)],[],[76,77],hp,false⟩) hr rfl rfl (.inl rfl) (fun v st=>loopC F [levD r2] ([] ++ [v]) st KF) ?_
  refine mm_row (st:=⟨[(66,some (.d (levD r)))],[],[76,77],hp,false⟩) hr2 rfl rfl (.inr ⟨_,rfl⟩) (fun v st=>loopC F [] ([V.d (pairD r)] ++ [v]) st KF) ?_
  exact h
end
end
end Mine
end
section
open PySem.Spec
set_option maxHeartbeats 2000000
namespace Mine
noncomputable section
theorem asgEX {c : Cfg Prop} {st st1 : St} {t : Tg} {e : X} {v : V} {r : SL} {p : Pos} {K : Fl → St → Prop} (ho : okA t e = true) (he : EX c e st v st1) (h : aG c t v st1 fun st=>aSL c r st K) : aSL c (.cons (.asg t e p) r) st K:=by
  rw [qSL_cons,qS_asg,bif_t ho]
  exact he _ h
theorem pairD_mm {r : List Int} (h : LevOk r) : pairD r = Pt (mmP r):=by
  cases r with
  | nil=>exact absurd rfl h.1
  | cons i l=>rfl
theorem beq_pt (p : P2) : D.beq (Pt p) (Pt p) = true:=by
  show ((p.1 == p.1) && ((p.2 == p.2) && true)) = true
  rw [beq_self_eq_true,beq_self_eq_true]
  rfl
theorem ne_pt1 (p : P2) : cmpD .NotEq (.lst [Pt p]) (.lst [Pt p]) = some false:=by
  show some (!(D.beq (Pt p) (Pt p) && true)) = _
  rw [beq_pt]
  rfl
theorem ne_pt2 (p q : P2) : cmpD .NotEq (.lst [Pt p,Pt q]) (.lst [Pt p,Pt q]) = some false:=by
  show some (!(D.beq (Pt p) (Pt p) && (D.beq (Pt q) (Pt q) && true))) = _
  rw [beq_pt,beq_pt]
  rfl
noncomputable def inFor : S:=nthS numB 6
noncomputable def inB : SL:=match inFor with | .for _ _ _ _ _ b _=>b | _=>.nil
noncomputable def inT : Tg:=match inFor with | .for t _ _ _ _ _ _=>t | _=>.loc 0 ⟨0,0,0,0⟩
noncomputable def chV (rs : List (List Int)) : List V:=rs.map fun r=>V.d (levD r)
noncomputable def drV (ds : List P2) : List V:=ds.map fun x=>V.d (D.lst [Pt x])
inductive Nz : Nat → (Hp → Hp) → Prop
  | a : Nz 0 (fun e=>e)
  | c : Nz 3 (fun e=>none :: none :: none :: e)
  | e : Nz 6 (fun e=>none :: none :: none :: none :: none :: none :: e)
noncomputable def ShA (J : Nat) (N : Hp → Hp) : Prop:=∀ x0 x2 x3 x4 x5 x6 x7 x8 x9 : Option Ct,Shp (10 + J) (fun e=>x0 :: some .bag :: x2 :: x3 :: x4 :: x5 :: x6 :: x7 :: x8 :: x9 :: N e)
noncomputable def ShB (J : Nat) (N : Hp → Hp) : Prop:=∀ x0 x2 x3 x4 x5 x6 x7 x8 x9 y : Option Ct,Shp (11 + J) (fun e=>x0 :: some .bag :: x2 :: x3 :: x4 :: x5 :: x6 :: x7 :: x8 :: x9 :: y :: N e)
theorem Nz.go {P : Nat → (Hp → Hp) → Prop}
    (ha : let J:=0; let N : Hp → Hp:=fun e=>e; ShA J N → ShB J N → P J N)
    (hc : let J:=3; let N : Hp → Hp:=fun e=>none :: none :: none :: e; ShA J N → ShB J N → P J N)
    (he : let J:=6; let N : Hp → Hp:=fun e=>none :: none :: none :: none :: none :: none :: e; ShA J N → ShB J N → P J N) {J : Nat} {N : Hp → Hp} (hN : Nz J N) : P J N:=by
  cases hN
  · exact ha (fun _ _ _ _ _ _ _ _ _=>.a) fun _ _ _ _ _ _ _ _ _ _=>.b
  · exact hc (fun _ _ _ _ _ _ _ _ _=>.c) fun _ _ _ _ _ _ _ _ _ _=>.d
  · exact he (fun _ _ _ _ _ _ _ _ _=>.e) fun _ _ _ _ _ _ _ _ _ _=>.f
noncomputable abbrev hp1 (N : Hp → Hp) (dr ch : List V) (e : Hp) : Hp:=some .tab :: some .bag :: none :: none :: none :: none :: none :: some (.lst dr) :: some (.lst ch) :: some (.lst [.c 8]) :: N e
noncomputable abbrev hp2 (N : Hp → Hp) (dr c0 c1 : List V) (e : Hp) : Hp:=some .tab :: some .bag :: none :: none :: none :: none :: none :: some (.lst dr) :: some (.lst c0) :: some (.lst c1) :: some (.lst [.c 8,.c 9]) :: N e
section
variable {kd sc held : D} {s0 s1 s2 : Int × Int} {J : Nat} {N : Hp → Hp}
set_option maxHeartbeats 16000000 in
theorem turn1 (hN : Nz J N) (hsg : SgOk s0 s1 s2) {num : Int} {i0 n0 e0 l0 p0 q0 d0 : Option V} {ds : List P2} {rs : List (List Int)} (hds : ds.length ≤ 100) (hrs : rs.length ≤ 100) {K : Fl → St → Prop}
    (hK : ∀ r e,LevOk r → K .nxt (tSt 1 kd sc held (sgD s0 s1 s2) 7 9 (some (.d (.int 0))) (some (.d (.int num))) (some (.d e)) (some (.d (.lst [levD r]))) (some (.d (.lst [pairD r]))) (some (.d (.int 0))) (some (.d (.lst [pairD r]))) (hp1 N (drV (ds ++ [mmP r])) (chV (rs ++ [r])) [none,none,none]))) :
    aG Z numT (.d (.int num)) (tSt 1 kd sc held (sgD s0 s1 s2) 7 9 i0 n0 e0 l0 p0 q0 d0 (hp1 N (drV ds) (chV rs) [])) fun st=>aSL Z numB st K:=by
  revert hK
  apply Nz.go (hN:=hN) <;> clear hN <;> intro J N EA EB hK
  all_goals
    let A : D → Prop:=fun e=>aSL Z (dropSL 1 numB) (tSt 1 kd sc held (sgD s0 s1 s2) 7 9 i0 (some (.d (.int num))) (some (.d e)) l0 p0 q0 d0 (hp1 N (drV ds) (chV rs) [])) K
    have main : ∀ (e : D) (r : List Int),LevOk r → Ev 7 42 [e,ctxD (sgD s0 s1 s2)] (.lst [pairD r]) → Ev 7 54 [e,sgD s0 s1 s2] (.lst [levD r]) → (∀ i nu lv pr sp dr hp,EX Z spotX (tSt 1 kd sc held (sgD s0 s1 s2) 7 9 i nu (some (.d e)) lv pr sp dr hp) (.d (.int 0)) (tSt 1 kd sc held (sgD s0 s1 s2) 7 9 i nu (some (.d e)) lv pr sp dr hp)) → A e:=fun e r hr h42 h54 hspot=>by
      let el : Option V:=some (.d e)
      let lv : Option V:=some (.d (.lst [levD r]))
      let pr : Option V:=some (.d (.lst [pairD r]))
      let st2:=(tSt 1 kd sc held (sgD s0 s1 s2) 7 9 i0 (some (.d (.int num))) el lv p0 q0 d0 (hp1 N (drV ds) (chV rs) []))
      let st3:=(tSt 1 kd sc held (sgD s0 s1 s2) 7 9 i0 (some (.d (.int num))) el lv p0 q0 d0 (hp1 N (drV ds) (chV rs) [none,none]))
      let st4:=(tSt 1 kd sc held (sgD s0 s1 s2) 7 9 i0 (some (.d (.int num))) el lv pr q0 d0 (hp1 N (drV ds) (chV rs) [none,none]))
      let st5:=(tSt 1 kd sc held (sgD s0 s1 s2) 7 9 i0 (some (.d (.int num))) el lv pr (some (.d (.int 0))) d0 (hp1 N (drV ds) (chV rs) [none,none]))
      let st6:=(tSt 1 kd sc held (sgD s0 s1 s2) 7 9 (some (.d (.int 0))) (some (.d (.int num))) el lv pr (some (.d (.int 0))) (some (.c (12 + J))) (hp1 N (drV ds) (chV rs) [none,none,some (.lst [.d (pairD r)])]))
      let st7:=(tSt 1 kd sc held (sgD s0 s1 s2) 7 9 (some (.d (.int 0))) (some (.d (.int num))) el lv pr (some (.d (.int 0))) (some (.c (12 + J))) (hp1 N (drV ds) (chV (rs ++ [r])) [none,none,some (.lst [.d (pairD r)])]))
      let st8:=(tSt 1 kd sc held (sgD s0 s1 s2) 7 9 (some (.d (.int 0))) (some (.d (.int num))) el lv pr (some (.d (.int 0))) (some (.d (.lst [pairD r]))) (hp1 N (drV ds) (chV (rs ++ [r])) [none,none,none]))
      have ectx : EX Z ctxX st2 (.d (ctxD (sgD s0 s1 s2))) st3:=by
        intro KK h
        refine zI rfl ⟨sgD s0 s1 s2,rfl,rfl,?_⟩
        refine thing_c (n:=5) ?_
        refine thing_c (n:=5) ?_
        exact Eq.mpr (β:=KK (.d (ctxD (sgD s0 s1 s2))) st3) (by kernel_rfl) h
      refine zP h54 (by decide) rfl rfl ?_
      refine Eq.mpr (β:=aSL Z (dropSL 2 numB) st2 K) (by kernel_rfl) ?_
      refine asgEX rfl (callU2 (dx:=e) (st1:=st2) rfl rfl (by intro KK h; exact h) ectx h42 (by decide)) ?_
      refine Eq.mpr (β:=aSL Z (dropSL 3 numB) st4 K) (by kernel_rfl) ?_
      refine iff_fallB (st':=st4) (fun k hk=>tcmp_d (x:=.lst [pairD r]) (y:=.lst [pairD r]) (st1:=st4) (st2:=st4) (by intro KK h; exact h) (ex_cmp1 hr) (by rw [pairD_mm hr]; exact ne_pt1 _) k hk) ?_
      refine asgEX rfl (hspot _ _ _ _ _ _ _) ?_
      let KI : Fl → St → Prop:=fun fl st=>match fl with
        | .nxt=>(match Fl.nxt with
          | .nxt=>loopF (fun x st k=>aG Z inT (.d x) st fun st=>aSL Z inB st k) [] st (fun fl st=>match fl with
            | .nxt=>aSL Z (dropSL 7 numB) st K
            | .ret v=>K (.ret v) st)
          | .ret v=>(match Fl.ret v with
            | .nxt=>aSL Z (dropSL 7 numB) st K
            | .ret v=>K (.ret v) st))
        | .ret v=>(match Fl.ret v with
          | .nxt=>loopF (fun x st k=>aG Z inT (.d x) st fun st=>aSL Z inB st k) [] st (fun fl st=>match fl with
            | .nxt=>aSL Z (dropSL 7 numB) st K
            | .ret v=>K (.ret v) st)
          | .ret v=>(match Fl.ret v with
            | .nxt=>aSL Z (dropSL 7 numB) st K
            | .ret v=>K (.ret v) st))
      refine Eq.mpr (β:=aSL Z (dropSL 1 inB) st6 (fun fl st=>match fl with
        | .nxt=>loopF (fun x st k=>aG Z inT (.d x) st fun st=>aSL Z inB st k) [] st (fun fl st=>match fl with
            | .nxt=>aSL Z (dropSL 7 numB) st K
            | .ret v=>K (.ret v) st)
        | .ret v=>(match Fl.ret v with
            | .nxt=>aSL Z (dropSL 7 numB) st K
            | .ret v=>K (.ret v) st))) (by kernel_rfl) ?_
      refine sl_app (m:=8) (w:=.d (levD r)) (st1:=st6) (st2:=st6) (vs0:=chV rs) (vs:=chV rs) rfl (by intro KK h; exact h) rfl (by intro KK h; exact h) rfl (by unfold chV; rw [List.length_map]; omega) (hp':=st7.hp) (by show _ = ((hp1 N (drV ds) (chV (rs ++ [r])) [none,none,some (.lst [.d (pairD r)])]) : Hp); unfold chV; rw [List.map_append]; rfl) ?_
      show aSL Z (dropSL 7 numB) st7 K
      refine sl_app (m:=7) (w:=.d (.lst [pairD r])) (st1:=st7) (st2:=st8) (vs0:=drV ds) (vs:=drV ds) rfl (by intro KK h; exact h) rfl (by intro KK h; exact h) rfl (by unfold drV; rw [List.length_map]; omega) (hp':=(hp1 N (drV (ds ++ [mmP r])) (chV (rs ++ [r])) [none,none,none])) (by unfold drV; rw [List.map_append,pairD_mm hr]; rfl) ?_
      exact hK r e hr
    have hS : Shp (10 + J) (fun e=>hp1 N (drV ds) (chV rs) e):=EA _ _ _ _ _ _ _ _ _
    refine zI rfl (elem_c (N:=12) (n:=3) (L:=10 + J) (R:=fun e=>hp1 N (drV ds) (chV rs) e) hS (.inl rfl) fun e sp he=>?_)
    refine Eq.mpr (β:=A e) (by kernel_rfl) ?_
    cases he with
    | asg ht a1 a2 a3 a4 =>
      obtain ⟨rows,hl,hr,h42,h54⟩:=asg_el (nu:=.int num) (sp:=_) ht a3 a4 (.inl rfl) hsg
      obtain ⟨r,rfl⟩:=len1 (show rows.length = 1 from hl)
      exact main _ r (hr r (by simp)) h42 h54 fun i nu lv pr sp dr hp KK h=>Eq.mpr (β:=KK (.d (.int 0)) _) (by kernel_rfl) h
    | udp h1 h2 h3 h4 a1 a2 =>
      obtain rfl : sp = 0:=by omega
      obtain ⟨r,hr,h42,h54⟩:=udp_all (nu:=.int num) (sp:=0) h1 h3 h4 hsg
      exact main _ r hr h42 h54 fun i nu lv pr sp dr hp KK h=>Eq.mpr (β:=KK (.d (.int 0)) _) (by kernel_rfl) h
    | gate h1 h2 h3 a1 a2 a3 a4 =>
      obtain rfl : sp = 0:=by omega
      obtain ⟨r,hr,h42,h54⟩:=gate_all (nu:=.int num) (sp:=0) h1 h2 h3 a3 a4 hsg
      exact main _ r hr h42 h54 fun i nu lv pr sp dr hp KK h=>Eq.mpr (β:=KK (.d (.int 0)) _) (by kernel_rfl) h
end
end
end Mine
end
section
open PySem.Spec
set_option maxHeartbeats 2000000
namespace Mine
noncomputable section
noncomputable def KN : Fl → St → Prop:=fun fl st=>match fl with
  | .nxt=>aSL Z (dropSL 13 f_law.body) st endLaw
  | .ret v=>endLaw (.ret v) st
noncomputable def EXs (c : Cfg Prop) (xs : XL) (st : St) (vs : List V) (st' : St) : Prop:=∀ KK : List V → St → Prop,KK vs st' → aXs c xs st KK
theorem EXs.nil {c : Cfg Prop} {st : St} : EXs c .nil st [] st:=fun KK h=>h
theorem EXs.cons {c : Cfg Prop} {x : X} {r : XL} {st st1 st2 : St} {v : V} {vs : List V} (h1 : EX c x st v st1) (h2 : EXs c r st1 vs st2) : EXs c (.cons x r) st (v :: vs) st2:=fun KK h=>by
  exact h1 _ (h2 _ h)
theorem callUs {f : Nat} {fp p : Pos} {xs : XL} {st st' : St} {vs : List V} {ds : List D} {r : D} {j : Nat} (hm : (mem st.gl f && isFn f) = true) (hf : mem effL f = false) (h1 : EXs Z xs st vs st') (hv : allD vs = some ds) (hr : Ev j f ds r) (hj : j ≤ 12) : EX Z (.callU f fp xs p) st (.d r) st':=by
  intro KK h
  rw [qX_callU,hm]
  refine h1 _ ?_
  simp only [hv]
  show Z.I f vs st'.hp (fun v hp=>KK v { st' with hp:=hp })
  exact zP (K:=fun v hp=>KK v { st' with hp:=hp }) hr hj hf hv h
theorem ex_frL {c : Cfg Prop} {n : Nat} {p : Pos} {st : St} {v : V} {d : D} {hp' : Hp} (hl : look st.loc n = some v) (hf : frz 4 st.hp v = some (d,hp')) : EX c (.frL n p) st (.d d) { st with loc:=put st.loc n (.d d),hp:=hp' }:=by
  intro KK h
  rw [qX_frL]
  simp only [hl,hf]
  exact h
theorem ex_frz {c : Cfg Prop} {x : X} {st st1 : St} {v : V} {d : D} {hp' : Hp} (hx : EX c x st v st1) (hf : frz 4 st1.hp v = some (d,hp')) : EX c (.frz x) st (.d d) { st1 with hp:=hp' }:=by
  intro KK h
  rw [qX_frz]
  refine hx _ ?_
  simp only [hf]
  exact h
noncomputable def chkFor : S:=nthS f_law.body 14
noncomputable def chkB : SL:=match chkFor with | .for _ _ _ _ _ b _=>b | _=>.nil
noncomputable def chkT : Tg:=match chkFor with | .for t _ _ _ _ _ _=>t | _=>.loc 0 ⟨0,0,0,0⟩
section
variable {kd sc : D} {s0 s1 s2 : Int × Int} {c0 : Int}
noncomputable abbrev ST1 (kd sc : D) (s0 s1 s2 : Int × Int) (c0 : Int) (i n e l p q d : Option V) (hp : Hp) : St:=tSt 1 kd sc (.lst [.int c0]) (sgD s0 s1 s2) 7 9 i n e l p q d hp
theorem fin1 (hk : IsKind kd) (hc : Cd c0) {i n e l p q d : Option V} {Z0 : Hp} (ds : List P2) (rs : List (List Int)) (hb : Bit rs ds) :
    KN .nxt (ST1 kd sc s0 s1 s2 c0 i n e l p q d (some .tab :: some .bag :: none :: none :: none :: none :: none :: some (.lst (drV ds)) :: some (.lst (chV (restL kd c0 :: rs))) :: some (.lst [.c 8]) :: Z0)):=by
  have h22:=resolve1 hk hc ds
  have h24:=vec1_ev (foldJ kd (mmP (restL kd c0)) ds)
  have h56:=bit_net hk hc hb
  have hcd:=pairC_cd (foldJ kd (mmP (restL kd c0)) ds)
  generalize pairC (foldJ kd (mmP (restL kd c0)) ds) = c at h24 h56 hcd
  have fz : frz 4 (some .tab :: some .bag :: none :: none :: none :: none :: none :: some (.lst (drV ds)) :: some (.lst (chV (restL kd c0 :: rs))) :: some (.lst [.c 8]) :: Z0) (.c 7) = some (.lst (ds.map fun x=>.lst [Pt x]),some .tab :: some .bag :: none :: none :: none :: none :: none :: none :: some (.lst (chV (restL kd c0 :: rs))) :: some (.lst [.c 8]) :: Z0):=by
    rw [frz_lst (xs:=ds.map fun x=>.lst [Pt x]) (by unfold drV; rw [List.map_map]; rfl)]; rfl
  have fz2 : ∀ x7,frz 4 (some .tab :: some .bag :: none :: none :: none :: none :: none :: x7 :: some (.lst (chV (restL kd c0 :: rs))) :: some (.lst [.c 8]) :: Z0) (.c 8) = some (.lst ((restL kd c0 :: rs).map levD),some .tab :: some .bag :: none :: none :: none :: none :: none :: x7 :: none :: some (.lst [.c 8]) :: Z0):=fun x7=>by
    rw [frz_lst (xs:=(restL kd c0 :: rs).map levD) (by unfold chV; rw [List.map_map]; rfl)]; rfl
  let dD : Option V:=some (.d (.lst (ds.map fun x=>.lst [Pt x])))
  let H1 : Hp:=some .tab :: some .bag :: none :: none :: none :: none :: none :: none :: some (.lst (chV (restL kd c0 :: rs))) :: some (.lst [.c 8]) :: Z0
  let H2 : Hp:=some .tab :: some .bag :: none :: none :: none :: none :: none :: none :: none :: some (.lst [.c 8]) :: Z0
  let fS : Option V → Option V → Hp → St:=fun i v hp=>lwSt sc (some (.d (sgD s0 s1 s2))) (some (.d (.int 2))) (some (.d (.int 1))) i (some (.d fixT)) dD (some (.c 9)) n e l p q d v (some (.c 1)) (some (.d kd)) (some (.d (.lst [.int c0]))) hp
  show aSL Z (dropSL 13 f_law.body) _ endLaw
  refine asgEX rfl (callUs rfl rfl (EXs.cons (callUs rfl rfl (EXs.cons (by intro KK h; exact h) (EXs.cons (by intro KK h; exact h) (EXs.cons (ex_frL rfl fz) (EXs.cons (v:=.d (.lst [.int c0])) (by intro KK h; exact h) EXs.nil)))) rfl h22 (by decide)) EXs.nil) rfl h24 (by decide)) ?_
  have key : ∀ cc : Int,Cd cc → Ev 2 24 [.lst [Pt (foldJ kd (mmP (restL kd c0)) ds)]] (vec1 cc) → Ev 1 56 [kd,.lst ((restL kd c0 :: rs).map levD)] (.int cc) → loopF (fun x st k=>aG Z chkT (.d x) st fun st=>aSL Z chkB st k) [.int 0] (fS i (some (.d (vec1 cc))) H1) (fun fl st=>match fl with
      | .nxt=>aSL Z (dropSL 15 f_law.body) st endLaw
      | .ret v=>endLaw (.ret v) st):=fun cc hcc k24 k56=>by
    unfold loopF
    let KE : Fl → St → Prop:=fun fl st=>match fl with
      | .nxt=>loopF (fun x st k=>aG Z chkT (.d x) st fun st=>aSL Z chkB st k) [] st (fun fl st=>match fl with
        | .nxt=>aSL Z (dropSL 15 f_law.body) st endLaw
        | .ret v=>endLaw (.ret v) st)
      | .ret v=>(match Fl.ret v with
        | .nxt=>aSL Z (dropSL 15 f_law.body) st endLaw
        | .ret v=>endLaw (.ret v) st)
    show aSL Z chkB (fS (some (.d (.int 0))) (some (.d (vec1 cc))) H1) KE
    have rhs : EX Z (match nthS chkB 0 with | .iff (.cmp _ _ y _) _ _ _=>y | _=>.cnone ⟨0,0,0,0⟩) (fS (some (.d (.int 0))) (some (.d (vec1 cc))) H1) (.d (.int cc)) (fS (some (.d (.int 0))) (some (.d (vec1 cc))) H2) :=
      callUs rfl rfl (EXs.cons (v:=.d kd) (by intro KK h; exact h) (EXs.cons (ex_frz (v:=.c 8) (st1:=fS (some (.d (.int 0))) (some (.d (vec1 cc))) H1) (by intro KK h; exact h) (fz2 none)) EXs.nil)) rfl k56 (by decide)
    refine iff_fallB (st':=fS (some (.d (.int 0))) (some (.d (vec1 cc))) H2) (fun k hk=>?_) ?_
    · rcases cd4 hcc with rfl | rfl | rfl | rfl
      · exact tcmp_d (x:=.int 0) (st1:=fS (some (.d (.int 0))) (some (.d (vec1 0))) H1) (by intro KK h; exact Eq.mpr (β:=KK (.d (.int 0)) (fS (some (.d (.int 0))) (some (.d (vec1 0))) H1)) (by kernel_rfl) h) rhs rfl k hk
      · exact tcmp_d (x:=.int 1) (st1:=fS (some (.d (.int 0))) (some (.d (vec1 1))) H1) (by intro KK h; exact Eq.mpr (β:=KK (.d (.int 1)) (fS (some (.d (.int 0))) (some (.d (vec1 1))) H1)) (by kernel_rfl) h) rhs rfl k hk
      · exact tcmp_d (x:=.int 2) (st1:=fS (some (.d (.int 0))) (some (.d (vec1 2))) H1) (by intro KK h; exact Eq.mpr (β:=KK (.d (.int 2)) (fS (some (.d (.int 0))) (some (.d (vec1 2))) H1)) (by kernel_rfl) h) rhs rfl k hk
      · exact tcmp_d (x:=.int 3) (st1:=fS (some (.d (.int 0))) (some (.d (vec1 3))) H1) (by intro KK h; exact Eq.mpr (β:=KK (.d (.int 3)) (fS (some (.d (.int 0))) (some (.d (vec1 3))) H1)) (by kernel_rfl) h) rhs rfl k hk
    · exact Eq.mpr (β:=(Fl.ret (.d (.bool true)) = Fl.ret (.d (.bool true))) ∧ (some Ct.tab = some Ct.tab)) (by kernel_rfl) ⟨rfl,rfl⟩
  exact Eq.mpr (β:=loopF (fun x st k=>aG Z chkT (.d x) st fun st=>aSL Z chkB st k) [.int 0] (fS i (some (.d (vec1 c))) H1) (fun fl st=>match fl with
      | .nxt=>aSL Z (dropSL 15 f_law.body) st endLaw
      | .ret v=>endLaw (.ret v) st)) (by kernel_rfl) (key c hcd h24 h56)
theorem law_c1 (hk : IsKind kd) (hc : Cd c0) (hsg : SgOk s0 s1 s2) : LawC 1 kd sc (.lst [.int c0]) (sgD s0 s1 s2):=by
  refine zP (rest_ev hk hc).2.1 (by decide) rfl rfl ?_
  let R : List (List Int):=[restL kd c0]
  let LP (l : List D) (hp : Hp) (i n e lv p q d : Option V) : Prop:=loopF (fun x st k=>aG Z numT (.d x) st fun st=>aSL Z numB st k) l (ST1 kd sc s0 s1 s2 c0 i n e lv p q d hp) KN
  let S0 : Hp:=[some .tab,some .bag,none,none,none,none,none,some (.lst (drV [])),some (.lst (chV R)),some (.lst [.c 8])]
  have run : ∀ (l : List Int),l = [0] ∨ l = [0,1] ∨ l = [0,1,2] → LP (l.map .int) S0 none none none none none none none:=fun l hl=>by
    rcases hl with rfl | rfl | rfl
    · refine turn1 .a hsg (by simp) (by simp [R]) fun r e hr=>?_
      exact fin1 hk hc (Z0:=[none,none,none]) _ _ (Bit.row .nil hr)
    · refine turn1 .a hsg (by simp) (by simp [R]) fun r e hr=>?_
      refine turn1 .c hsg (by simp) (by simp [R]) fun r2 e2 hr2=>?_
      exact fin1 hk hc (Z0:=[none,none,none,none,none,none]) _ _ (Bit.row (Bit.row .nil hr) hr2)
    · refine turn1 .a hsg (by simp) (by simp [R]) fun r e hr=>?_
      refine turn1 .c hsg (by simp) (by simp [R]) fun r2 e2 hr2=>?_
      refine turn1 .e hsg (by simp) (by simp [R]) fun r3 e3 hr3=>?_
      exact fin1 hk hc (Z0:=[none,none,none,none,none,none,none,none,none]) _ _ (Bit.row (Bit.row (Bit.row .nil hr) hr2) hr3)
  refine Eq.mpr (β:=aSL Z (dropSL 12 f_law.body) (ST1 kd sc s0 s1 s2 c0 none none none none none none none S0) endLaw) (by kernel_rfl) ?_
  refine zpull rfl (by decide) (by decide) fun g g0 g1=>?_
  rcases in3 g0 g1 with rfl | rfl | rfl
  · exact Eq.mpr (β:=LP ([0].map .int) S0 none none none none none none none) (by kernel_rfl) (run [0] (.inl rfl))
  · exact Eq.mpr (β:=LP ([0,1].map .int) S0 none none none none none none none) (by kernel_rfl) (run [0,1] (.inr (.inl rfl)))
  · exact Eq.mpr (β:=LP ([0,1,2].map .int) S0 none none none none none none none) (by kernel_rfl) (run [0,1,2] (.inr (.inr rfl)))
end
end
end Mine
end
section
open PySem.Spec
set_option maxHeartbeats 2000000
namespace Mine
noncomputable section
noncomputable def drV2 (ds : List (P2 × P2)) : List V:=ds.map fun x=>V.d (D.lst [Pt x.1,Pt x.2])
theorem chV_app (a : List (List Int)) (r : List Int) : chV (a ++ [r]) = chV a ++ [V.d (levD r)]:=by unfold chV; rw [List.map_append]; rfl
theorem drV2_app (a : List (P2 × P2)) (x : P2 × P2) : drV2 (a ++ [x]) = drV2 a ++ [V.d (D.lst [Pt x.1,Pt x.2])]:=by unfold drV2; rw [List.map_append]; rfl
inductive Out (rs0 rs1 : List (List Int)) : P2 × P2 → List (List Int) → List (List Int) → Prop
  | both {r0 r1} : LevOk r0 → LevOk r1 → Out rs0 rs1 (mmP r0,mmP r1) (rs0 ++ [r0]) (rs1 ++ [r1])
  | low {r} : LevOk r → Out rs0 rs1 (mmP r,(0,0)) (rs0 ++ [r]) rs1
  | high {r} : LevOk r → Out rs0 rs1 ((0,0),mmP r) rs0 (rs1 ++ [r])
section
variable {kd sc held : D} {s0 s1 s2 : Int × Int} {J : Nat} {N : Hp → Hp}
set_option maxHeartbeats 16000000 in
theorem turn2 (hN : Nz J N) (hsg : SgOk s0 s1 s2) {num : Int} {i0 n0 e0 l0 p0 q0 d0 : Option V} {ds : List (P2 × P2)} {rs0 rs1 : List (List Int)} (hds : ds.length ≤ 100) (hrs0 : rs0.length ≤ 100) (hrs1 : rs1.length ≤ 100) {K : Fl → St → Prop}
    (hK : ∀ x t0 t1 i e lv pr sp dr,Out rs0 rs1 x t0 t1 → K .nxt (tSt 2 kd sc held (sgD s0 s1 s2) 7 10 i (some (.d (.int num))) (some (.d e)) lv pr sp dr (hp2 N (drV2 (ds ++ [x])) (chV t0) (chV t1) [none,none,none]))) :
    aG Z numT (.d (.int num)) (tSt 2 kd sc held (sgD s0 s1 s2) 7 10 i0 n0 e0 l0 p0 q0 d0 (hp2 N (drV2 ds) (chV rs0) (chV rs1) [])) fun st=>aSL Z numB st K:=by
  revert hK
  apply Nz.go (hN:=hN) <;> clear hN <;> intro J N EA EB hK
  all_goals
    let A : D → Prop:=fun e=>aSL Z (dropSL 1 numB) (tSt 2 kd sc held (sgD s0 s1 s2) 7 10 i0 (some (.d (.int num))) (some (.d e)) l0 p0 q0 d0 (hp2 N (drV2 ds) (chV rs0) (chV rs1) [])) K
    let KO : Fl → St → Prop:=fun fl st=>match fl with
      | .nxt=>aSL Z (dropSL 7 numB) st K
      | .ret v=>K (.ret v) st
    let KI : List D → Fl → St → Prop:=fun l fl st=>match fl with
      | .nxt=>loopF (fun x st k=>aG Z inT (.d x) st fun st=>aSL Z inB st k) l st KO
      | .ret v=>KO (.ret v) st
    have m2 : ∀ (e : D) (r0 r1 : List Int),LevOk r0 → LevOk r1 → Ev 7 42 [e,ctxD (sgD s0 s1 s2)] (.lst [pairD r0,pairD r1]) → Ev 7 54 [e,sgD s0 s1 s2] (.lst [levD r0,levD r1]) → (∀ i nu lv pr sp dr hp,EX Z spotX (tSt 2 kd sc held (sgD s0 s1 s2) 7 10 i nu (some (.d e)) lv pr sp dr hp) (.d (.int 0)) (tSt 2 kd sc held (sgD s0 s1 s2) 7 10 i nu (some (.d e)) lv pr sp dr hp)) → A e:=fun e r0 r1 h0 h1 h42 h54 hspot=>by
      let el : Option V:=some (.d e)
      let lv : Option V:=some (.d (.lst [levD r0,levD r1]))
      let pr : Option V:=some (.d (.lst [pairD r0,pairD r1]))
      let sq : Option V:=some (.d (.int 0))
      let st2:=(tSt 2 kd sc held (sgD s0 s1 s2) 7 10 i0 (some (.d (.int num))) el lv p0 q0 d0 (hp2 N (drV2 ds) (chV rs0) (chV rs1) []))
      let st3:=(tSt 2 kd sc held (sgD s0 s1 s2) 7 10 i0 (some (.d (.int num))) el lv p0 q0 d0 (hp2 N (drV2 ds) (chV rs0) (chV rs1) [none,none]))
      let st4:=(tSt 2 kd sc held (sgD s0 s1 s2) 7 10 i0 (some (.d (.int num))) el lv pr q0 d0 (hp2 N (drV2 ds) (chV rs0) (chV rs1) [none,none]))
      have ectx : EX Z ctxX st2 (.d (ctxD (sgD s0 s1 s2))) st3:=by
        intro KK h
        refine zI rfl ⟨sgD s0 s1 s2,rfl,rfl,?_⟩
        refine thing_c (n:=5) ?_
        refine thing_c (n:=5) ?_
        exact Eq.mpr (β:=KK (.d (ctxD (sgD s0 s1 s2))) st3) (by kernel_rfl) h
      refine zP h54 (by decide) rfl rfl ?_
      refine Eq.mpr (β:=aSL Z (dropSL 2 numB) st2 K) (by kernel_rfl) ?_
      refine asgEX rfl (callU2 (dx:=e) (st1:=st2) rfl rfl (by intro KK h; exact h) ectx h42 (by decide)) ?_
      refine Eq.mpr (β:=aSL Z (dropSL 3 numB) st4 K) (by kernel_rfl) ?_
      refine iff_fallB (st':=st4) (fun k hk=>tcmp_d (x:=.lst [pairD r0,pairD r1]) (y:=.lst [pairD r0,pairD r1]) (st1:=st4) (st2:=st4) (by intro KK h; exact h) (ex_cmp2 h0 h1) (by rw [pairD_mm h0,pairD_mm h1]; exact ne_pt2 _ _) k hk) ?_
      refine asgEX rfl (hspot _ _ _ _ _ _ _) ?_
      refine Eq.mpr (β:=aSL Z (dropSL 1 inB) (tSt 2 kd sc held (sgD s0 s1 s2) 7 10 (some (.d (.int 0))) (some (.d (.int num))) el lv pr sq (some (.c (13 + J))) (hp2 N (drV2 ds) (chV rs0) (chV rs1) [none,none,some (.lst [.d (pairD r0),.d (Pt (0,0))])])) (KI [.int 1])) (by kernel_rfl) ?_
      refine sl_app (m:=8) (w:=.d (levD r0)) (st1:=(tSt 2 kd sc held (sgD s0 s1 s2) 7 10 (some (.d (.int 0))) (some (.d (.int num))) el lv pr sq (some (.c (13 + J))) (hp2 N (drV2 ds) (chV rs0) (chV rs1) [none,none,some (.lst [.d (pairD r0),.d (Pt (0,0))])]))) (st2:=(tSt 2 kd sc held (sgD s0 s1 s2) 7 10 (some (.d (.int 0))) (some (.d (.int num))) el lv pr sq (some (.c (13 + J))) (hp2 N (drV2 ds) (chV rs0) (chV rs1) [none,none,some (.lst [.d (pairD r0),.d (Pt (0,0))])]))) (vs0:=chV rs0) (vs:=chV rs0) rfl (by intro KK h; exact h) rfl (by intro KK h; exact h) rfl (by unfold chV; rw [List.length_map]; omega) (hp':=(hp2 N (drV2 ds) (chV (rs0 ++ [r0])) (chV rs1) [none,none,some (.lst [.d (pairD r0),.d (Pt (0,0))])])) (by show _ = ((hp2 N (drV2 ds) (chV (rs0 ++ [r0])) (chV rs1) [none,none,some (.lst [.d (pairD r0),.d (Pt (0,0))])]) : Hp); rw [chV_app rs0 r0]; rfl) ?_
      refine Eq.mpr (β:=aSL Z (dropSL 1 inB) (tSt 2 kd sc held (sgD s0 s1 s2) 7 10 (some (.d (.int 1))) (some (.d (.int num))) el lv pr sq (some (.c (13 + J))) (hp2 N (drV2 ds) (chV (rs0 ++ [r0])) (chV rs1) [none,none,some (.lst [.d (pairD r0),.d (pairD r1)])])) (KI [])) (by kernel_rfl) ?_
      refine sl_app (m:=9) (w:=.d (levD r1)) (st1:=(tSt 2 kd sc held (sgD s0 s1 s2) 7 10 (some (.d (.int 1))) (some (.d (.int num))) el lv pr sq (some (.c (13 + J))) (hp2 N (drV2 ds) (chV (rs0 ++ [r0])) (chV rs1) [none,none,some (.lst [.d (pairD r0),.d (pairD r1)])]))) (st2:=(tSt 2 kd sc held (sgD s0 s1 s2) 7 10 (some (.d (.int 1))) (some (.d (.int num))) el lv pr sq (some (.c (13 + J))) (hp2 N (drV2 ds) (chV (rs0 ++ [r0])) (chV rs1) [none,none,some (.lst [.d (pairD r0),.d (pairD r1)])]))) (vs0:=chV rs1) (vs:=chV rs1) rfl (by intro KK h; exact h) rfl (by intro KK h; exact h) rfl (by unfold chV; rw [List.length_map]; omega) (hp':=(hp2 N (drV2 ds) (chV (rs0 ++ [r0])) (chV (rs1 ++ [r1])) [none,none,some (.lst [.d (pairD r0),.d (pairD r1)])])) (by show _ = ((hp2 N (drV2 ds) (chV (rs0 ++ [r0])) (chV (rs1 ++ [r1])) [none,none,some (.lst [.d (pairD r0),.d (pairD r1)])]) : Hp); rw [chV_app rs1 r1]; rfl) ?_
      show aSL Z (dropSL 7 numB) (tSt 2 kd sc held (sgD s0 s1 s2) 7 10 (some (.d (.int 1))) (some (.d (.int num))) el lv pr sq (some (.c (13 + J))) (hp2 N (drV2 ds) (chV (rs0 ++ [r0])) (chV (rs1 ++ [r1])) [none,none,some (.lst [.d (pairD r0),.d (pairD r1)])])) K
      refine sl_app (m:=7) (w:=.d (.lst [(pairD r0),(pairD r1)])) (st1:=(tSt 2 kd sc held (sgD s0 s1 s2) 7 10 (some (.d (.int 1))) (some (.d (.int num))) el lv pr sq (some (.c (13 + J))) (hp2 N (drV2 ds) (chV (rs0 ++ [r0])) (chV (rs1 ++ [r1])) [none,none,some (.lst [.d (pairD r0),.d (pairD r1)])]))) (st2:=(tSt 2 kd sc held (sgD s0 s1 s2) 7 10 (some (.d (.int 1))) (some (.d (.int num))) el lv pr sq (some (.d (.lst [(pairD r0),(pairD r1)]))) (hp2 N (drV2 ds) (chV (rs0 ++ [r0])) (chV (rs1 ++ [r1])) [none,none,none]))) (vs0:=drV2 ds) (vs:=drV2 ds) rfl (by intro KK h; exact h) rfl (by intro KK h; exact h) rfl (by unfold drV2; rw [List.length_map]; omega) (hp':=(hp2 N (drV2 (ds ++ [(mmP r0,mmP r1)])) (chV (rs0 ++ [r0])) (chV (rs1 ++ [r1])) [none,none,none])) (by rw [drV2_app,pairD_mm h0,pairD_mm h1]; rfl) ?_
      exact hK _ _ _ _ _ _ _ _ _ (.both h0 h1)
    have ml : ∀ (e : D) (r : List Int),LevOk r → Ev 7 42 [e,ctxD (sgD s0 s1 s2)] (.lst [pairD r]) → Ev 7 54 [e,sgD s0 s1 s2] (.lst [levD r]) → (∀ i nu lv pr sp dr hp,EX Z spotX (tSt 2 kd sc held (sgD s0 s1 s2) 7 10 i nu (some (.d e)) lv pr sp dr hp) (.d (.int 0)) (tSt 2 kd sc held (sgD s0 s1 s2) 7 10 i nu (some (.d e)) lv pr sp dr hp)) → A e:=fun e r hr h42 h54 hspot=>by
      let el : Option V:=some (.d e)
      let lv : Option V:=some (.d (.lst [levD r]))
      let pr : Option V:=some (.d (.lst [pairD r]))
      let sq : Option V:=some (.d (.int 0))
      let st2:=(tSt 2 kd sc held (sgD s0 s1 s2) 7 10 i0 (some (.d (.int num))) el lv p0 q0 d0 (hp2 N (drV2 ds) (chV rs0) (chV rs1) []))
      let st3:=(tSt 2 kd sc held (sgD s0 s1 s2) 7 10 i0 (some (.d (.int num))) el lv p0 q0 d0 (hp2 N (drV2 ds) (chV rs0) (chV rs1) [none,none]))
      let st4:=(tSt 2 kd sc held (sgD s0 s1 s2) 7 10 i0 (some (.d (.int num))) el lv pr q0 d0 (hp2 N (drV2 ds) (chV rs0) (chV rs1) [none,none]))
      have ectx : EX Z ctxX st2 (.d (ctxD (sgD s0 s1 s2))) st3:=by
        intro KK h
        refine zI rfl ⟨sgD s0 s1 s2,rfl,rfl,?_⟩
        refine thing_c (n:=5) ?_
        refine thing_c (n:=5) ?_
        exact Eq.mpr (β:=KK (.d (ctxD (sgD s0 s1 s2))) st3) (by kernel_rfl) h
      refine zP h54 (by decide) rfl rfl ?_
      refine Eq.mpr (β:=aSL Z (dropSL 2 numB) st2 K) (by kernel_rfl) ?_
      refine asgEX rfl (callU2 (dx:=e) (st1:=st2) rfl rfl (by intro KK h; exact h) ectx h42 (by decide)) ?_
      refine Eq.mpr (β:=aSL Z (dropSL 3 numB) st4 K) (by kernel_rfl) ?_
      refine iff_fallB (st':=st4) (fun k hk=>tcmp_d (x:=.lst [pairD r]) (y:=.lst [pairD r]) (st1:=st4) (st2:=st4) (by intro KK h; exact h) (ex_cmp1 hr) (by rw [pairD_mm hr]; exact ne_pt1 _) k hk) ?_
      refine asgEX rfl (hspot _ _ _ _ _ _ _) ?_
      refine Eq.mpr (β:=aSL Z (dropSL 1 inB) (tSt 2 kd sc held (sgD s0 s1 s2) 7 10 (some (.d (.int 0))) (some (.d (.int num))) el lv pr sq (some (.c (13 + J))) (hp2 N (drV2 ds) (chV rs0) (chV rs1) [none,none,some (.lst [.d (pairD r),.d (Pt (0,0))])])) (KI [])) (by kernel_rfl) ?_
      refine sl_app (m:=8) (w:=.d (levD r)) (st1:=(tSt 2 kd sc held (sgD s0 s1 s2) 7 10 (some (.d (.int 0))) (some (.d (.int num))) el lv pr sq (some (.c (13 + J))) (hp2 N (drV2 ds) (chV rs0) (chV rs1) [none,none,some (.lst [.d (pairD r),.d (Pt (0,0))])]))) (st2:=(tSt 2 kd sc held (sgD s0 s1 s2) 7 10 (some (.d (.int 0))) (some (.d (.int num))) el lv pr sq (some (.c (13 + J))) (hp2 N (drV2 ds) (chV rs0) (chV rs1) [none,none,some (.lst [.d (pairD r),.d (Pt (0,0))])]))) (vs0:=chV rs0) (vs:=chV rs0) rfl (by intro KK h; exact h) rfl (by intro KK h; exact h) rfl (by unfold chV; rw [List.length_map]; omega) (hp':=(hp2 N (drV2 ds) (chV (rs0 ++ [r])) (chV rs1) [none,none,some (.lst [.d (pairD r),.d (Pt (0,0))])])) (by show _ = ((hp2 N (drV2 ds) (chV (rs0 ++ [r])) (chV rs1) [none,none,some (.lst [.d (pairD r),.d (Pt (0,0))])]) : Hp); rw [chV_app rs0 r]; rfl) ?_
      show aSL Z (dropSL 7 numB) (tSt 2 kd sc held (sgD s0 s1 s2) 7 10 (some (.d (.int 0))) (some (.d (.int num))) el lv pr sq (some (.c (13 + J))) (hp2 N (drV2 ds) (chV (rs0 ++ [r])) (chV rs1) [none,none,some (.lst [.d (pairD r),.d (Pt (0,0))])])) K
      refine sl_app (m:=7) (w:=.d (.lst [(pairD r),(Pt (0,0))])) (st1:=(tSt 2 kd sc held (sgD s0 s1 s2) 7 10 (some (.d (.int 0))) (some (.d (.int num))) el lv pr sq (some (.c (13 + J))) (hp2 N (drV2 ds) (chV (rs0 ++ [r])) (chV rs1) [none,none,some (.lst [.d (pairD r),.d (Pt (0,0))])]))) (st2:=(tSt 2 kd sc held (sgD s0 s1 s2) 7 10 (some (.d (.int 0))) (some (.d (.int num))) el lv pr sq (some (.d (.lst [(pairD r),(Pt (0,0))]))) (hp2 N (drV2 ds) (chV (rs0 ++ [r])) (chV rs1) [none,none,none]))) (vs0:=drV2 ds) (vs:=drV2 ds) rfl (by intro KK h; exact h) rfl (by intro KK h; exact h) rfl (by unfold drV2; rw [List.length_map]; omega) (hp':=(hp2 N (drV2 (ds ++ [(mmP r,(0,0))])) (chV (rs0 ++ [r])) (chV rs1) [none,none,none])) (by rw [drV2_app,pairD_mm hr]; rfl) ?_
      exact hK _ _ _ _ _ _ _ _ _ (.low hr)
    have mh : ∀ (e : D) (r : List Int),LevOk r → Ev 7 42 [e,ctxD (sgD s0 s1 s2)] (.lst [pairD r]) → Ev 7 54 [e,sgD s0 s1 s2] (.lst [levD r]) → (∀ i nu lv pr sp dr hp,EX Z spotX (tSt 2 kd sc held (sgD s0 s1 s2) 7 10 i nu (some (.d e)) lv pr sp dr hp) (.d (.int 1)) (tSt 2 kd sc held (sgD s0 s1 s2) 7 10 i nu (some (.d e)) lv pr sp dr hp)) → A e:=fun e r hr h42 h54 hspot=>by
      let el : Option V:=some (.d e)
      let lv : Option V:=some (.d (.lst [levD r]))
      let pr : Option V:=some (.d (.lst [pairD r]))
      let sq : Option V:=some (.d (.int 1))
      let st2:=(tSt 2 kd sc held (sgD s0 s1 s2) 7 10 i0 (some (.d (.int num))) el lv p0 q0 d0 (hp2 N (drV2 ds) (chV rs0) (chV rs1) []))
      let st3:=(tSt 2 kd sc held (sgD s0 s1 s2) 7 10 i0 (some (.d (.int num))) el lv p0 q0 d0 (hp2 N (drV2 ds) (chV rs0) (chV rs1) [none,none]))
      let st4:=(tSt 2 kd sc held (sgD s0 s1 s2) 7 10 i0 (some (.d (.int num))) el lv pr q0 d0 (hp2 N (drV2 ds) (chV rs0) (chV rs1) [none,none]))
      have ectx : EX Z ctxX st2 (.d (ctxD (sgD s0 s1 s2))) st3:=by
        intro KK h
        refine zI rfl ⟨sgD s0 s1 s2,rfl,rfl,?_⟩
        refine thing_c (n:=5) ?_
        refine thing_c (n:=5) ?_
        exact Eq.mpr (β:=KK (.d (ctxD (sgD s0 s1 s2))) st3) (by kernel_rfl) h
      refine zP h54 (by decide) rfl rfl ?_
      refine Eq.mpr (β:=aSL Z (dropSL 2 numB) st2 K) (by kernel_rfl) ?_
      refine asgEX rfl (callU2 (dx:=e) (st1:=st2) rfl rfl (by intro KK h; exact h) ectx h42 (by decide)) ?_
      refine Eq.mpr (β:=aSL Z (dropSL 3 numB) st4 K) (by kernel_rfl) ?_
      refine iff_fallB (st':=st4) (fun k hk=>tcmp_d (x:=.lst [pairD r]) (y:=.lst [pairD r]) (st1:=st4) (st2:=st4) (by intro KK h; exact h) (ex_cmp1 hr) (by rw [pairD_mm hr]; exact ne_pt1 _) k hk) ?_
      refine asgEX rfl (hspot _ _ _ _ _ _ _) ?_
      refine Eq.mpr (β:=aSL Z (dropSL 1 inB) (tSt 2 kd sc held (sgD s0 s1 s2) 7 10 (some (.d (.int 0))) (some (.d (.int num))) el lv pr sq (some (.c (13 + J))) (hp2 N (drV2 ds) (chV rs0) (chV rs1) [none,none,some (.lst [.d (Pt (0,0)),.d (pairD r)])])) (KI [])) (by kernel_rfl) ?_
      refine sl_app (m:=9) (w:=.d (levD r)) (st1:=(tSt 2 kd sc held (sgD s0 s1 s2) 7 10 (some (.d (.int 0))) (some (.d (.int num))) el lv pr sq (some (.c (13 + J))) (hp2 N (drV2 ds) (chV rs0) (chV rs1) [none,none,some (.lst [.d (Pt (0,0)),.d (pairD r)])]))) (st2:=(tSt 2 kd sc held (sgD s0 s1 s2) 7 10 (some (.d (.int 0))) (some (.d (.int num))) el lv pr sq (some (.c (13 + J))) (hp2 N (drV2 ds) (chV rs0) (chV rs1) [none,none,some (.lst [.d (Pt (0,0)),.d (pairD r)])]))) (vs0:=chV rs1) (vs:=chV rs1) rfl (by intro KK h; exact h) rfl (by intro KK h; exact h) rfl (by unfold chV; rw [List.length_map]; omega) (hp':=(hp2 N (drV2 ds) (chV rs0) (chV (rs1 ++ [r])) [none,none,some (.lst [.d (Pt (0,0)),.d (pairD r)])])) (by show _ = ((hp2 N (drV2 ds) (chV rs0) (chV (rs1 ++ [r])) [none,none,some (.lst [.d (Pt (0,0)),.d (pairD r)])]) : Hp); rw [chV_app rs1 r]; rfl) ?_
      show aSL Z (dropSL 7 numB) (tSt 2 kd sc held (sgD s0 s1 s2) 7 10 (some (.d (.int 0))) (some (.d (.int num))) el lv pr sq (some (.c (13 + J))) (hp2 N (drV2 ds) (chV rs0) (chV (rs1 ++ [r])) [none,none,some (.lst [.d (Pt (0,0)),.d (pairD r)])])) K
      refine sl_app (m:=7) (w:=.d (.lst [(Pt (0,0)),(pairD r)])) (st1:=(tSt 2 kd sc held (sgD s0 s1 s2) 7 10 (some (.d (.int 0))) (some (.d (.int num))) el lv pr sq (some (.c (13 + J))) (hp2 N (drV2 ds) (chV rs0) (chV (rs1 ++ [r])) [none,none,some (.lst [.d (Pt (0,0)),.d (pairD r)])]))) (st2:=(tSt 2 kd sc held (sgD s0 s1 s2) 7 10 (some (.d (.int 0))) (some (.d (.int num))) el lv pr sq (some (.d (.lst [(Pt (0,0)),(pairD r)]))) (hp2 N (drV2 ds) (chV rs0) (chV (rs1 ++ [r])) [none,none,none]))) (vs0:=drV2 ds) (vs:=drV2 ds) rfl (by intro KK h; exact h) rfl (by intro KK h; exact h) rfl (by unfold drV2; rw [List.length_map]; omega) (hp':=(hp2 N (drV2 (ds ++ [((0,0),mmP r)])) (chV rs0) (chV (rs1 ++ [r])) [none,none,none])) (by rw [drV2_app,pairD_mm hr]; rfl) ?_
      exact hK _ _ _ _ _ _ _ _ _ (.high hr)
    have hS : Shp (11 + J) (fun e=>hp2 N (drV2 ds) (chV rs0) (chV rs1) e):=EB _ _ _ _ _ _ _ _ _ _
    refine zI rfl (elem_c (N:=12) (n:=3) (L:=11 + J) (R:=fun e=>hp2 N (drV2 ds) (chV rs0) (chV rs1) e) hS (.inr rfl) fun e sp he=>?_)
    refine Eq.mpr (β:=A e) (by kernel_rfl) ?_
    cases he with
    | asg ht a1 a2 a3 a4 =>
      obtain ⟨rows,hl,hr,h42,h54⟩:=asg_el (nu:=.int num) (sp:=_) ht a3 a4 (.inr rfl) hsg
      obtain ⟨r0,r1,rfl⟩:=len2 (show rows.length = 2 from hl)
      exact m2 _ r0 r1 (hr r0 (by simp)) (hr r1 (by simp)) h42 h54 fun i nu lv pr sp dr hp KK h=>Eq.mpr (β:=KK (.d (.int 0)) _) (by kernel_rfl) h
    | udp h1 h2 h3 h4 a1 a2 =>
      have hsp : sp = 0 ∨ sp = 1:=by omega
      obtain ⟨r,hr,h42,h54⟩:=udp_all (nu:=.int num) (sp:=sp) h1 h3 h4 hsg
      rcases hsp with rfl | rfl
      · exact ml _ r hr h42 h54 fun i nu lv pr sp dr hp KK h=>Eq.mpr (β:=KK (.d (.int 0)) _) (by kernel_rfl) h
      · exact mh _ r hr h42 h54 fun i nu lv pr sp dr hp KK h=>Eq.mpr (β:=KK (.d (.int 1)) _) (by kernel_rfl) h
    | gate h1 h2 h3 a1 a2 a3 a4 =>
      have hsp : sp = 0 ∨ sp = 1:=by omega
      obtain ⟨r,hr,h42,h54⟩:=gate_all (nu:=.int num) (sp:=sp) h1 h2 h3 a3 a4 hsg
      rcases hsp with rfl | rfl
      · exact ml _ r hr h42 h54 fun i nu lv pr sp dr hp KK h=>Eq.mpr (β:=KK (.d (.int 0)) _) (by kernel_rfl) h
      · exact mh _ r hr h42 h54 fun i nu lv pr sp dr hp KK h=>Eq.mpr (β:=KK (.d (.int 1)) _) (by kernel_rfl) h
end
end
end Mine
end
section
open PySem.Spec
set_option maxHeartbeats 4000000
namespace Mine
noncomputable section
noncomputable def lhsX : X:=match nthS chkB 0 with | .iff (.cmp _ x _ _) _ _ _=>x | _=>.cnone ⟨0,0,0,0⟩
noncomputable def rhsX : X:=match nthS chkB 0 with | .iff (.cmp _ _ y _) _ _ _=>y | _=>.cnone ⟨0,0,0,0⟩
theorem ne_cd {a : Int} (h : Cd a) : cmpD .NotEq (.int a) (.int a) = some false:=by
  rcases cd4 h with rfl | rfl | rfl | rfl <;> rfl
section
variable {kd sc : D} {s0 s1 s2 : Int × Int} {c0 c1 : Int}
noncomputable abbrev ST2 (kd sc : D) (s0 s1 s2 : Int × Int) (c0 c1 : Int) (i n e l p q d : Option V) (hp : Hp) : St:=tSt 2 kd sc (.lst [.int c0,.int c1]) (sgD s0 s1 s2) 7 10 i n e l p q d hp
noncomputable def chkSt (kd sc : D) (s0 s1 s2 : Int × Int) (c0 c1 : Int) (dD n e l p q d i v : Option V) (hp : Hp) : St:=lwSt sc (some (.d (sgD s0 s1 s2))) (some (.d (.int 2))) (some (.d (.int 2))) i (some (.d fixT)) dD (some (.c 10)) n e l p q d v (some (.c 1)) (some (.d kd)) (some (.d (.lst [.int c0,.int c1]))) hp
theorem lhs0 {dD n e l p q d : Option V} {hp : Hp} {a b : Int} (ha : Cd a) (hb : Cd b) : EX Z lhsX (chkSt kd sc s0 s1 s2 c0 c1 dD n e l p q d (some (.d (.int 0))) (some (.d (vecD a b))) hp) (.d (.int a)) (chkSt kd sc s0 s1 s2 c0 c1 dD n e l p q d (some (.d (.int 0))) (some (.d (vecD a b))) hp):=by
  intro KK h
  rcases cd4 ha with rfl | rfl | rfl | rfl <;> rcases cd4 hb with rfl | rfl | rfl | rfl <;> exact Eq.mpr (β:=KK _ _) (by kernel_rfl) h
theorem lhs1 {dD n e l p q d : Option V} {hp : Hp} {a b : Int} (ha : Cd a) (hb : Cd b) : EX Z lhsX (chkSt kd sc s0 s1 s2 c0 c1 dD n e l p q d (some (.d (.int 1))) (some (.d (vecD a b))) hp) (.d (.int b)) (chkSt kd sc s0 s1 s2 c0 c1 dD n e l p q d (some (.d (.int 1))) (some (.d (vecD a b))) hp):=by
  intro KK h
  rcases cd4 ha with rfl | rfl | rfl | rfl <;> rcases cd4 hb with rfl | rfl | rfl | rfl <;> exact Eq.mpr (β:=KK _ _) (by kernel_rfl) h
theorem fin2 (hk : IsKind kd) (hc0 : Cd c0) (hc1 : Cd c1) {i n e l p q d : Option V} {Z0 : Hp} (ds : List (P2 × P2)) (rs0 rs1 : List (List Int)) (hb0 : Bit rs0 (ds.map fun x=>x.1)) (hb1 : Bit rs1 (ds.map fun x=>x.2)) :
    KN .nxt (ST2 kd sc s0 s1 s2 c0 c1 i n e l p q d (some .tab :: some .bag :: none :: none :: none :: none :: none :: some (.lst (drV2 ds)) :: some (.lst (chV (restL kd c0 :: rs0))) :: some (.lst (chV (restL kd c1 :: rs1))) :: some (.lst [.c 8,.c 9]) :: Z0)):=by
  have h22:=resolve2 hk hc0 hc1 ds
  have h24:=vec2_ev (foldJ kd (mmP (restL kd c0)) (ds.map fun x=>x.1)) (foldJ kd (mmP (restL kd c1)) (ds.map fun x=>x.2))
  have h56:=bit_net hk hc0 hb0
  have h57:=bit_net hk hc1 hb1
  have hcd:=pairC_cd (foldJ kd (mmP (restL kd c0)) (ds.map fun x=>x.1))
  have hcd':=pairC_cd (foldJ kd (mmP (restL kd c1)) (ds.map fun x=>x.2))
  generalize pairC (foldJ kd (mmP (restL kd c0)) (ds.map fun x=>x.1)) = c at h24 h56 hcd
  generalize pairC (foldJ kd (mmP (restL kd c1)) (ds.map fun x=>x.2)) = c' at h24 h57 hcd'
  let L0:=some (Ct.lst (chV (restL kd c0 :: rs0)))
  let L1:=some (Ct.lst (chV (restL kd c1 :: rs1)))
  let hpx (a b x : Option Ct) : Hp:=some .tab :: some .bag :: none :: none :: none :: none :: none :: a :: b :: x :: some (.lst [.c 8,.c 9]) :: Z0
  have fz : frz 4 (hpx (some (.lst (drV2 ds))) L0 L1) (.c 7) = some (.lst (ds.map fun x=>.lst [Pt x.1,Pt x.2]),hpx none L0 L1):=by
    rw [frz_lst (xs:=ds.map fun x=>.lst [Pt x.1,Pt x.2]) (by unfold drV2; rw [List.map_map]; rfl)]; rfl
  have fz2 : frz 4 (hpx none L0 L1) (.c 8) = some (.lst ((restL kd c0 :: rs0).map levD),hpx none none L1):=by
    rw [frz_lst (xs:=(restL kd c0 :: rs0).map levD) (by show some (Ct.lst (chV (restL kd c0 :: rs0))) = _; unfold chV; rw [List.map_map]; rfl)]; rfl
  have fz3 : frz 4 (hpx none none L1) (.c 9) = some (.lst ((restL kd c1 :: rs1).map levD),hpx none none none):=by
    rw [frz_lst (xs:=(restL kd c1 :: rs1).map levD) (by show some (Ct.lst (chV (restL kd c1 :: rs1))) = _; unfold chV; rw [List.map_map]; rfl)]; rfl
  let fS (i v : Option V) (hp : Hp) : St:=chkSt kd sc s0 s1 s2 c0 c1 (some (.d (.lst (ds.map fun x=>.lst [Pt x.1,Pt x.2])))) n e l p q d i v hp
  let KD : Fl → St → Prop:=fun fl st=>match fl with
    | .nxt=>aSL Z (dropSL 15 f_law.body) st endLaw
    | .ret v=>endLaw (.ret v) st
  let LF (l : List D) (st : St) : Prop:=loopF (fun x st k=>aG Z chkT (.d x) st fun st=>aSL Z chkB st k) l st KD
  show aSL Z (dropSL 13 f_law.body) _ endLaw
  refine asgEX rfl (callUs rfl rfl (EXs.cons (callUs rfl rfl (EXs.cons (by intro KK h; exact h) (EXs.cons (by intro KK h; exact h) (EXs.cons (ex_frL rfl fz) (EXs.cons (v:=.d (.lst [.int c0,.int c1])) (by intro KK h; exact h) EXs.nil)))) rfl h22 (by decide)) EXs.nil) rfl h24 (by decide)) ?_
  have key : ∀ a b : Int,Cd a → Cd b → Ev 1 56 [kd,.lst ((restL kd c0 :: rs0).map levD)] (.int a) → Ev 1 56 [kd,.lst ((restL kd c1 :: rs1).map levD)] (.int b) → LF [.int 0,.int 1] (fS i (some (.d (vecD a b))) (hpx none L0 L1)):=fun a b ha hb k0 k1=>by
    let KE (l : List D) : Fl → St → Prop:=fun fl st=>match fl with
      | .nxt=>LF l st
      | .ret v=>KD (.ret v) st
    let vv : Option V:=some (.d (vecD a b))
    show aSL Z chkB (fS (some (.d (.int 0))) vv (hpx none L0 L1)) (KE [.int 1])
    have r0 : EX Z rhsX (fS (some (.d (.int 0))) vv (hpx none L0 L1)) (.d (.int a)) (fS (some (.d (.int 0))) vv (hpx none none L1)) :=
      callUs rfl rfl (EXs.cons (v:=.d kd) (by intro KK h; exact h) (EXs.cons (ex_frz (v:=.c 8) (st1:=fS (some (.d (.int 0))) vv (hpx none L0 L1)) (by intro KK h; exact h) fz2) EXs.nil)) rfl k0 (by decide)
    have r1 : EX Z rhsX (fS (some (.d (.int 1))) vv (hpx none none L1)) (.d (.int b)) (fS (some (.d (.int 1))) vv (hpx none none none)) :=
      callUs rfl rfl (EXs.cons (v:=.d kd) (by intro KK h; exact h) (EXs.cons (ex_frz (v:=.c 9) (st1:=fS (some (.d (.int 1))) vv (hpx none none L1)) (by intro KK h; exact h) fz3) EXs.nil)) rfl k1 (by decide)
    refine iff_fallB (st':=fS (some (.d (.int 0))) vv (hpx none none L1)) (fun k hk=>tcmp_d (x:=.int a) (y:=.int a) (lhs0 ha hb) r0 (ne_cd ha) k hk) ?_
    refine Eq.mpr (β:=aSL Z chkB (fS (some (.d (.int 1))) vv (hpx none none L1)) (KE [])) (by kernel_rfl) ?_
    refine iff_fallB (st':=fS (some (.d (.int 1))) vv (hpx none none none)) (fun k hk=>tcmp_d (x:=.int b) (y:=.int b) (lhs1 ha hb) r1 (ne_cd hb) k hk) ?_
    exact Eq.mpr (β:=(Fl.ret (.d (.bool true)) = Fl.ret (.d (.bool true))) ∧ (some Ct.tab = some Ct.tab)) (by kernel_rfl) ⟨rfl,rfl⟩
  exact Eq.mpr (β:=LF [.int 0,.int 1] (fS i (some (.d (vecD c c'))) (hpx none L0 L1))) (by kernel_rfl) (key c c' hcd hcd' h56 h57)
noncomputable def Inv2 (ds : List (P2 × P2)) (rs0 rs1 : List (List Int)) : Prop:=Bit rs0 (ds.map fun x=>x.1) ∧ Bit rs1 (ds.map fun x=>x.2)
theorem Inv2.out {ds : List (P2 × P2)} {rs0 rs1 : List (List Int)} (h : Inv2 ds rs0 rs1) {b0 b1 : List Int} {x : P2 × P2} {t0 t1 : List (List Int)} (o : Out (b0 :: rs0) (b1 :: rs1) x t0 t1) : ∃ u0 u1,t0 = b0 :: u0 ∧ t1 = b1 :: u1 ∧ u0.length ≤ rs0.length + 1 ∧ u1.length ≤ rs1.length + 1 ∧ Inv2 (ds ++ [x]) u0 u1:=by
  cases o with
  | both h0 h1=>exact ⟨_,_,rfl,rfl,by simp,by simp,by rw [List.map_append]; exact Bit.row h.1 h0,by rw [List.map_append]; exact Bit.row h.2 h1⟩
  | low hr=>exact ⟨_,_,rfl,rfl,by simp,by simp,by rw [List.map_append]; exact Bit.row h.1 hr,by rw [List.map_append]; exact Bit.no h.2⟩
  | high hr=>exact ⟨_,_,rfl,rfl,by simp,by simp,by rw [List.map_append]; exact Bit.no h.1,by rw [List.map_append]; exact Bit.row h.2 hr⟩
theorem law_c2 (hk : IsKind kd) (hc0 : Cd c0) (hc1 : Cd c1) (hsg : SgOk s0 s1 s2) : LawC 2 kd sc (.lst [.int c0,.int c1]) (sgD s0 s1 s2):=by
  refine zP (rest_ev hk hc0).2.1 (by decide) rfl rfl ?_
  refine zP (rest_ev hk hc1).2.1 (by decide) rfl rfl ?_
  let LP (l : List D) (hp : Hp) (i n e lv p q d : Option V) : Prop:=loopF (fun x st k=>aG Z numT (.d x) st fun st=>aSL Z numB st k) l (ST2 kd sc s0 s1 s2 c0 c1 i n e lv p q d hp) KN
  let S0 : Hp:=[some .tab,some .bag,none,none,none,none,none,some (.lst (drV2 [])),some (.lst (chV [restL kd c0])),some (.lst (chV [restL kd c1])),some (.lst [.c 8,.c 9])]
  have i0 : Inv2 [] [] []:=⟨.nil,.nil⟩
  have run : ∀ (l : List Int),l = [0] ∨ l = [0,1] ∨ l = [0,1,2] → LP (l.map .int) S0 none none none none none none none:=fun l hl=>by
    rcases hl with rfl | rfl | rfl
    · refine turn2 .a hsg (by simp) (by simp) (by simp) fun x t0 t1 i e lv p q d o=>?_
      obtain ⟨u0,u1,rfl,rfl,m0,m1,i1⟩:=i0.out o
      exact fin2 hk hc0 hc1 (Z0:=[none,none,none]) _ _ _ i1.1 i1.2
    · refine turn2 .a hsg (by simp) (by simp) (by simp) fun x t0 t1 i e lv p q d o=>?_
      obtain ⟨u0,u1,rfl,rfl,m0,m1,i1⟩:=i0.out o
      refine turn2 .c hsg (by simp) (by simp at *; omega) (by simp at *; omega) fun x t0 t1 i e lv p q d o=>?_
      obtain ⟨u2,u3,rfl,rfl,m2,m3,i2⟩:=i1.out o
      exact fin2 hk hc0 hc1 (Z0:=[none,none,none,none,none,none]) _ _ _ i2.1 i2.2
    · refine turn2 .a hsg (by simp) (by simp) (by simp) fun x t0 t1 i e lv p q d o=>?_
      obtain ⟨u0,u1,rfl,rfl,m0,m1,i1⟩:=i0.out o
      refine turn2 .c hsg (by simp) (by simp at *; omega) (by simp at *; omega) fun x t0 t1 i e lv p q d o=>?_
      obtain ⟨u2,u3,rfl,rfl,m2,m3,i2⟩:=i1.out o
      refine turn2 .e hsg (by simp) (by simp at *; omega) (by simp at *; omega) fun x t0 t1 i e lv p q d o=>?_
      obtain ⟨u4,u5,rfl,rfl,m4,m5,i3⟩:=i2.out o
      exact fin2 hk hc0 hc1 (Z0:=[none,none,none,none,none,none,none,none,none]) _ _ _ i3.1 i3.2
  refine Eq.mpr (β:=aSL Z (dropSL 12 f_law.body) (ST2 kd sc s0 s1 s2 c0 c1 none none none none none none none S0) endLaw) (by kernel_rfl) ?_
  refine zpull rfl (by decide) (by decide) fun g g0 g1=>?_
  rcases in3 g0 g1 with rfl | rfl | rfl
  · exact Eq.mpr (β:=LP ([0].map .int) S0 none none none none none none none) (by kernel_rfl) (run [0] (.inl rfl))
  · exact Eq.mpr (β:=LP ([0,1].map .int) S0 none none none none none none none) (by kernel_rfl) (run [0,1] (.inr (.inl rfl)))
  · exact Eq.mpr (β:=LP ([0,1,2].map .int) S0 none none none none none none none) (by kernel_rfl) (run [0,1,2] (.inr (.inr rfl)))
end
theorem plain_law : ∀ ns : List Int,ns.length ≤ 63 → aSL (cI 12 8) f_law.body (startOf f_law [.d (.lst (ns.map .int))] [some .tab]) fun fl st=>fl = .ret (.d (.bool true)) ∧ hget st.hp 0 = some .tab:=fun ns hn =>
  lawZ (law_a (fun wide kd sc s0 s1 s2 hw hk hsg=>by
    rcases hw with rfl | rfl
    · exact law_b1 fun c0 hc=>law_c1 hk hc hsg
    · exact law_b2 fun c0 c1 h0 h1=>law_c2 hk h0 h1 hsg) ns hn)
end
end Mine
end
section
open PySem.Spec
namespace Mine
noncomputable section
theorem isR_ok {K : Frag} {n : Nat} (e : isR (nsIn K mainGlobals (nm n)) = true) : nsIn K mainGlobals (nm n) = some (some (.ref (faOf K (nm n)))):=by
  unfold faOf
  generalize nsIn K mainGlobals (nm n) = x at e ⊢
  unfold isR at e
  split at e
  · rfl
  · cases e
theorem isI_ok {K : Frag} {C : Addr} (e : isR (findIn K (.ref C) "__init__") = true) : findIn K (.ref C) "__init__" = some (some (.ref (initOf K C))):=by
  unfold initOf
  generalize findIn K (.ref C) "__init__" = x at e ⊢
  unfold isR at e
  split at e
  · rfl
  · cases e
theorem isB_ok {x : Option (Option Value)} {s : String} (e : isB x s = true) : x = some (some (.builtin s)):=by
  unfold isB at e
  split at e
  · rw [of_decide_eq_true e]
  · cases e
theorem isN_ok {x : Option (Option Value)} (e : isN x = true) : x = some none:=by
  unfold isN at e
  split at e
  · rfl
  · cases e
theorem conB_ok {K : Frag} {n : Nat} {i : Int} (e : conB K n i = true) : ∃ t,nsIn K mainGlobals (nm n) = some (some (.int i t)):=by
  unfold conB at e
  split at e
  · rename_i j t hk
    have:=beq_iff_eq.mp e
    subst this
    exact ⟨t,hk⟩
  · cases e
theorem fi_ok {f : Nat} {fi : FI} (h : nth fiL f = some fi) : FiOk fi:=by
  rw [nth_get] at h
  exact FiOk.of (List.all_eq_true.mp fi_all fi (List.mem_of_getElem? h))
theorem fiE_ok : FiOk f_Element___init__:=FiOk.of (by decide +kernel)
theorem fiT_ok : FiOk f_Thread___init__:=FiOk.of (by decide +kernel)
noncomputable def clsA (K : Frag) (n : Nat) : Addr:=match Nat.beq n 61 with
  | true=>faOf K (nm 61)
  | false=>faOf K (nm 62)
structure Told (K : Frag) : Prop where
  fns : ∀ n,n < 59 → isR (nsIn K mainGlobals (nm n)) = true
  c61 : isR (nsIn K mainGlobals (nm 61)) = true
  c62 : isR (nsIn K mainGlobals (nm 62)) = true
  k61 : clsB K (faOf K (nm 61)) = true
  k62 : clsB K (faOf K (nm 62)) = true
  bis : ∀ n ∈ biIds,nsIn K mainGlobals (nm n) = some none
  con : conTab K = true
  code : codeB K = true
  tab : tabIn K (nm 58) = some (823,819)
theorem FragOk.told {K : Frag} (A : FragOk K) : Told K:=by
  have e:=A.good
  unfold goodB at e
  simp only [Bool.and_eq_true] at e
  obtain ⟨⟨⟨⟨⟨⟨⟨⟨a,b⟩,c⟩,d⟩,f⟩,g⟩,i⟩,j⟩,k⟩:=e
  refine ⟨fun n hn=>List.all_eq_true.mp a n (List.mem_range.mpr hn),b,c,d,f,fun n hn=>isN_ok (List.all_eq_true.mp g n hn),i,j,?_⟩
  unfold tabB at k
  split at k
  · rename_i c P ht
    obtain ⟨k1,k2⟩:=Bool.and_eq_true_iff.mp k
    rw [ht,Nat.eq_of_beq_eq_true k1,Nat.eq_of_beq_eq_true k2]
  · cases k
theorem view_at {K : Frag} (A : FragOk K) {k : Nat} {fi : FI} (e : nth fisA k = some fi) : (viewsK K)[k]? = some (some (fnV fi)):=by
  rw [A.views]
  unfold viewsG
  rw [List.getElem?_map,← nth_get,e]
  rfl
theorem view_fn {K : Frag} (A : FragOk K) {k : Nat} {fi : FI} (hk : k < 59) (e : nth fisA k = some fi) : fnView K (faOf K (nm k)) = some (fnV fi):=by
  have h:=view_at A e
  unfold viewsK at h
  rw [List.getElem?_append_left (by rw [List.length_map,List.length_range]; exact hk),List.getElem?_map,List.getElem?_range hk] at h
  exact Option.some.inj h
section
variable {K : Frag} {h : Heap} {mg mb : Str → Option Value}
theorem at_all (X : K.In h) (A : FragOk K) (G : h.Ns mainGlobals mg) (f : Nat) (fi : FI) (e : nth fiL f = some fi) : ∃ fa,mg (nm f) = some (.ref fa) ∧ FnAt h fa fi:=by
  have hf : f < 58:=by
    rw [nth_get] at e
    exact (List.getElem?_eq_some_iff.mp e).1
  have e' : nth fisA f = some fi:=by
    rw [nth_get] at e ⊢
    unfold fisA
    rw [List.getElem?_append_left (by exact hf)]
    exact e
  exact ⟨_,mg_of X G (isR_ok (A.told.fns f (Nat.lt_succ_of_lt hf))),fnAt_mk X (fi_ok e) (bd_all f fi e') (view_fn A (Nat.lt_succ_of_lt hf) e')⟩
theorem at_58 (X : K.In h) (A : FragOk K) (G : h.Ns mainGlobals mg) : mg (nm 58) = some (.ref (faOf K (nm 58))) ∧ FnAt h (faOf K (nm 58)) f__law_context :=
  ⟨mg_of X G (isR_ok (A.told.fns 58 (by decide))),fnAt_mk X fG_ok (bd_all 58 _ rfl) (view_fn A (by decide) rfl)⟩
theorem cls_told {C : Addr} (e : clsB K C = true) : ClsOk K C ∧ makesIn K C = true ∧ findIn K (.ref C) "__init__" = some (some (.ref (initOf K C))) ∧ typeIn K (.ref (initOf K C)) = some (.type "function") ∧ keepIn K (.ref C) = true:=by
  unfold clsB at e
  simp only [Bool.and_eq_true] at e
  obtain ⟨⟨⟨⟨⟨⟨⟨⟨⟨a,b⟩,c⟩,d⟩,f⟩,g⟩,i⟩,j⟩,t⟩,k⟩:=e
  refine ⟨⟨isB_ok a,isN_ok b,c,fun n hn=>isN_ok (List.all_eq_true.mp d n hn),isB_ok f,g⟩,i,isI_ok j,?_,k⟩
  split at t
  · rename_i hx
    rw [hx,of_decide_eq_true t]
  · cases t
theorem mk_61 (X : K.In h) (A : FragOk K) : MkAt h K (clsA K 61) f_Element___init__ :=
  let c:=cls_told A.told.k61
  ⟨c.2.1,_,c.2.2.1,c.2.2.2.1,fnAt_mk X fiE_ok (bd_all 59 _ rfl) (Option.some.inj (view_at A (k:=59) (fi:=f_Element___init__) rfl))⟩
theorem mk_62 (X : K.In h) (A : FragOk K) : MkAt h K (clsA K 62) f_Thread___init__ :=
  let c:=cls_told A.told.k62
  ⟨c.2.1,_,c.2.2.1,c.2.2.2.1,fnAt_mk X fiT_ok (bd_all 60 _ rfl) (Option.some.inj (view_at A (k:=60) (fi:=f_Thread___init__) rfl))⟩
theorem clsOk_all (A : FragOk K) (n : Nat) : ClsOk K (clsA K n):=by
  unfold clsA
  split
  · exact (cls_told A.told.k61).1
  · exact (cls_told A.told.k62).1
theorem mg_cls (X : K.In h) (A : FragOk K) (G : h.Ns mainGlobals mg) : ∀ n,n = 61 ∨ n = 62 → mg (nm n) = some (.ref (clsA K n))
  | _,.inl rfl=>mg_of X G (isR_ok A.told.c61)
  | _,.inr rfl=>mg_of X G (isR_ok A.told.c62)
theorem keep_cls (A : FragOk K) : ∀ n,n = 61 ∨ n = 62 → keepIn K (.ref (clsA K n)) = true
  | _,.inl rfl=>(cls_told A.told.k61).2.2.2.2
  | _,.inr rfl=>(cls_told A.told.k62).2.2.2.2
theorem bi_none (A : FragOk K) : ∀ b : BI,nsIn K mainGlobals (nm (biId b)) = some none:=fun b=>A.told.bis _ (by cases b <;> decide)
theorem bi_boot : ∀ b : BI,bootBuiltins (nm (biId b)) = some (biV b):=fun b=>by cases b <;> kernel_rfl
theorem bi_name : ∀ b : BI,nm (biId b) ≠ "__name__":=fun b=>by cases b <;> decide +kernel
end
end
end Mine
end
section
open PySem.Spec
namespace Mine
noncomputable section
section
variable {prog : Program} {w : World} {K : Frag} {h : Heap} {mg mb : Str → Option Value} {Tp : Program} {loose : List Str} {mean : ExcName → Option Value}
noncomputable def adL (prog : Program) (w : World) (K : Frag) : Ad:={ cls:=clsA K,dict:=fun o kvs=>o.IsDictOf (strKind prog w) kvs,clo:=cloR,tab:=fun a ps τ=>a = 819 ∧ tabR ps τ }
theorem adL_ok : AdOk (adL prog w K):=⟨fun _ _ _ _ _ hk x=>cloR_mono hk x,fun _ _ _ _ hk x=>⟨x.1,tabR_mono hk x.2⟩,fun _ _ _ _ x=>cloR_handed x⟩
theorem nth_ge {α : Type} : ∀ {l : List α} {n : Nat},l.length ≤ n → nth l n = none
  | [],_,_=>rfl
  | _ :: _,0,h=>absurd h (Nat.not_succ_le_zero _)
  | _ :: r,_ + 1,h=>nth_ge (l:=r) (Nat.le_of_succ_le_succ h)
theorem conTab_ok {K : Frag} (e : conTab K = true) {n : Nat} {x : D} (hx : gconst n = some x) : ∃ i t,x = .int i ∧ nsIn K mainGlobals (nm n) = some (some (.int i t)):=by
  by_cases hn : n < gcL.length
  · have:=List.all_eq_true.mp e n (List.mem_range.mpr hn)
    rw [hx] at this
    cases x <;> first | (cases this; done) | skip
    rename_i i
    obtain ⟨t,ht⟩:=conB_ok this
    exact ⟨i,t,rfl,ht⟩
  · have : nth gcL n = none:=nth_ge (Nat.le_of_not_lt hn)
    unfold gconst at hx
    rw [this] at hx
    exact nope hx
theorem fns_of (X : K.In h) (A : FragOk K) (G : h.Ns mainGlobals mg) (f : Nat) (hf : isFn f = true) : ∃ v,mg (nm f) = some v ∧ ∀ h' : Heap,(∀ b o,h.get? b = some o → h'.get? b = some o) → Keeps prog w h' v:=by
  unfold isFn at hf
  rw [Bool.or_eq_true,Bool.or_eq_true,beq_is,beq_is] at hf
  have kc : ∀ n,n = 61 ∨ n = 62 → ∀ h' : Heap,(∀ b o,h.get? b = some o → h'.get? b = some o) → Keeps prog w h' (.ref (clsA K n)):=fun n hn h' k=>keeps_K (keep_cls A n hn) h' fun a o e=>k a o (X a o e)
  rcases hf with (hf | hf) | hf
  · have hf : f < 59:=by
      have : f ≤ 58:=by simpa [Nat.blt] using hf
      omega
    by_cases e : f = 58
    · subst e; exact ⟨_,(at_58 X A G).1,fun h' k=>(at_58 X A G).2.keeps h' k⟩
    · obtain ⟨fi,q⟩:=nth_lt (l:=fiL) (n:=f) (by show f < 58; omega)
      obtain ⟨fa,a,b⟩:=at_all X A G f fi q
      exact ⟨_,a,fun h' k=>b.keeps h' k⟩
  · exact ⟨_,mg_cls X A G f (.inl (of_decide_eq_true hf)),by rw [of_decide_eq_true hf]; exact kc 61 (.inl rfl)⟩
  · exact ⟨_,mg_cls X A G f (.inr (of_decide_eq_true hf)),by rw [of_decide_eq_true hf]; exact kc 62 (.inr rfl)⟩
theorem codeB_ok {K : Frag} (X : K.In h) (e : codeB K = true) : ∀ o fd,h.get? (faOf K (nm 58)) = some o → o.data = .func fd → fd.code = .ref 823 ∧ fd.qualname = ("_law_context" : Str):=by
  unfold codeB at e
  cases hb : (K.lookup (faOf K (nm 58))).bind fun o=>funcD o.data with
  | none=>rw [hb] at e; exact nof e
  | some fd =>
    rw [hb] at e
    obtain ⟨o,hk,hd⟩:=Option.bind_eq_some_iff.mp hb
    have hd:=funcD_some hd
    intro o' fd' ho hd'
    rw [X _ _ hk] at ho
    obtain rfl:=Option.some.inj ho
    rw [hd] at hd'
    injection hd' with hd'
    subst hd'
    obtain ⟨a,b⟩:=Bool.and_eq_true_iff.mp (show (_ && _) = true from e)
    refine ⟨?_,of_decide_eq_true b⟩
    split at a
    · rename_i q
      rw [q,Nat.eq_of_beq_eq_true a]
    · exact nof a
theorem ground2 (X : K.In h) (A : FragOk K) (T : Top Tp loose mean mg mb h) (C : CodeHd h 823 819) (h819 : h.get? 819 = none) : Ground2 prog w K (adL prog w K) h mg mb 819 823:=by
  have dk : DictOk prog w (adL prog w K):=⟨fun _ _=>Iff.rfl⟩
  have bi : ∀ b,mg (nm (biId b)) = none ∧ mb (nm (biId b)) = some (biV b):=fun b=>⟨mg_none_of X T.g (bi_none A b),(T.builtins _ (bi_name b)).trans (bi_boot b)⟩
  have mods : ∃ a o,sysModules ≤ a ∧ h.get? a = some o:=by
    obtain ⟨o,es,ep,e,_⟩:=T.g
    exact ⟨mainGlobals,o,by decide,e⟩
  have rng : mg (nm 193) = none ∧ mb (nm 193) = some (.type "range"):=⟨mg_none_of X T.g (A.told.bis 193 (by decide)),(T.builtins _ (by decide +kernel)).trans (by kernel_rfl)⟩
  have con : ∀ n x,gconst n = some x → ∃ v,mg (nm n) = some v ∧ ∀ τ,Rep (adL prog w K) τ x v:=fun n x hx=>by
    obtain ⟨i,t,rfl,e⟩:=conTab_ok A.told.con hx
    exact ⟨_,mg_of X T.g e,fun τ=>.int i t⟩
  have L0 : Lib prog w K (adL prog w K) h mg mb (cP noTab noTab) 0:=⟨id,X,clsOk_all A,dk,T.g,T.b,bi,mods,rng,con,fns_of X A T.g,fun _ _ _ _ _ e=>(by exact nope e),fun _ _ _ _ _ _ e=>e.elim,fun _ _ _ _ _ e=>(by exact nope e)⟩
  have kc : ∀ n,n = 61 ∨ n = 62 → ∀ h' : Heap,(∀ b o,h.get? b = some o → h'.get? b = some o) → Keeps prog w h' (.ref (clsA K n)):=fun n hn h' k=>keeps_K (keep_cls A n hn) h' fun a o e=>k a o (X a o e)
  refine ⟨⟨adL_ok,T.nolimit,X,clsOk_all A,dk,T.g,T.b,bi,mods,rng,con,at_all X A T.g,⟨_,(at_58 X A T.g).1,fun h' k=>(at_58 X A T.g).2.keeps h' k⟩,fun n hn=>⟨mg_cls X A T.g n hn,kc n hn⟩,fun q v cs ds r e=>clo_ok adL_ok T.nolimit rfl L0 e⟩,
    mk_61 X A,mk_62 X A,⟨_,(at_58 X A T.g).1,(at_58 X A T.g).2,codeB_ok X A.told.code⟩,C,?_,rfl,rfl⟩
  obtain ⟨bm,ob,b1,b2,b3,b4,b5,b6⟩:=T.bmain
  refine ⟨bm,ob,b1,b2,fun q=>?_,fun q=>?_,b3,b4,b5,b6⟩
  · obtain ⟨o,es,ep,e,hd,_⟩:=T.g
    rw [q,e] at b3; cases b3; rw [hd] at b6; cases b6
  · rw [q,h819] at b3; exact nope b3
end
end
end Mine
end
section
open PySem.Spec
namespace Mine
noncomputable section
noncomputable def PlainLaw (N n : Nat) : Prop:=∀ ns : List Int,ns.length ≤ 63 → aSL (cI N n) f_law.body (startOf f_law [.d (.lst (ns.map .int))] [some .tab]) fun fl st=>fl = .ret (.d (.bool true)) ∧ hget st.hp 0 = some .tab
theorem neA (L : Nat) : L + 1 ≠ L:=by omega
theorem neB (L : Nat) : L + 1 + 1 ≠ L:=by omega
theorem neC (L : Nat) : L + 1 + 1 + 1 ≠ L:=by omega
noncomputable abbrev scL : Scope:=scOf f_law.kinds f_law.fast
theorem wellInts {P : Params} {h : Heap} : ∀ {vs : List Value} {ns : List Int},WellAll P h vs (ofPys (ns.map PyData.int)) → ∃ vs',vs = vs' ∧ IntsAre vs' ns:=by
  intro vs ns hw
  exact ⟨vs,rfl,by
    induction ns generalizing vs with
    | nil=>cases hw; exact .nil
    | cons i r ih =>
      cases hw with
      | cons a b =>
        cases a
        exact .cons _ _ (ih b)⟩
theorem repL_ints {ad : Ad} {τ : Addr → Role} {vs : List Value} {ns : List Int} (h : IntsAre vs ns) : RepL ad τ (ns.map .int) vs:=by
  induction h with
  | nil=>exact .nil
  | cons n t _ ih=>exact .cons (.int n t) ih
section
variable {prog : Program} {w : World} {h₀ h₁ : Heap} {mg mb : Str → Option Value} {Tp : Program} {loose : List Str} {mean : ExcName → Option Value} {L fa a5 : Addr} {cd : Value} {o1 o2 o3 : Obj} {vs : List Value} {ns : List Int} {s : Shared} {N n : Nat}
noncomputable def wLaw (L a5 : Addr) (oL : Obj) : Wd:=⟨fun a=>if a = L then .loc else if a = L + 1 then .nce 154 else if a = L + 1 + 1 then .nce 110 else if a = L + 1 + 1 + 1 then .nce 111 else if a = a5 then .fro oL else if a = 819 then .mut 0 else .free,[819]⟩
theorem wLaw_cases (L a5 : Addr) (oL : Obj) (a : Addr) : (wLaw L a5 oL).τ a = .loc ∧ a = L ∨ (wLaw L a5 oL).τ a = .nce 154 ∧ a = L + 1 ∨ (wLaw L a5 oL).τ a = .nce 110 ∧ a = L + 1 + 1 ∨ (wLaw L a5 oL).τ a = .nce 111 ∧ a = L + 1 + 1 + 1 ∨ (wLaw L a5 oL).τ a = .fro oL ∧ a = a5 ∨ (wLaw L a5 oL).τ a = .mut 0 ∧ a = 819 ∨ (wLaw L a5 oL).τ a = .free:=by
  show (if _ then _ else _) = _ ∧ _ ∨ _
  unfold wLaw
  dsimp only
  by_cases h1 : a = L
  · left; exact ⟨if_pos h1,h1⟩
  by_cases h2 : a = L + 1
  · right; left; exact ⟨by rw [if_neg h1,if_pos h2],h2⟩
  by_cases h3 : a = L + 1 + 1
  · right; right; left; exact ⟨by rw [if_neg h1,if_neg h2,if_pos h3],h3⟩
  by_cases h4 : a = L + 1 + 1 + 1
  · right; right; right; left; exact ⟨by rw [if_neg h1,if_neg h2,if_neg h3,if_pos h4],h4⟩
  by_cases h5 : a = a5
  · right; right; right; right; left; exact ⟨by rw [if_neg h1,if_neg h2,if_neg h3,if_neg h4,if_pos h5],h5⟩
  by_cases h6 : a = 819
  · right; right; right; right; right; left; exact ⟨by rw [if_neg h1,if_neg h2,if_neg h3,if_neg h4,if_neg h5,if_pos h6],h6⟩
  right; right; right; right; right; right
  rw [if_neg h1,if_neg h2,if_neg h3,if_neg h4,if_neg h5,if_neg h6]
theorem law_cells : (cellsFrom (L + 1) scL.names []).lookup (nm 154) = some (L + 1) ∧ (cellsFrom (L + 1) scL.names []).lookup (nm 110) = some (L + 1 + 1) ∧ (cellsFrom (L + 1) scL.names []).lookup (nm 111) = some (L + 1 + 1 + 1):=⟨by kernel_rfl,by kernel_rfl,by kernel_rfl⟩
theorem fLaw_ok : FiOk f_law:=fi_ok (f:=57) rfl
theorem law_join {K : Frag} (X : K.In h₀) (A : FragOk K) (T : Top Tp loose mean mg mb h₀) (C : CodeHd h₀ 823 819) (Nw : News h₀ L h₁ [(L + 1 + 1 + 1,o3),(L + 1 + 1,o2),(L + 1,o1),(819,tabObj #[])]) (F : Fr h₀ L h₁ (bindL (envOfC (nm 57) scL L fa cd).kindOf [(nm 155,.ref a5)] fun _=>none))
    (c1 : o1.data = .cell none) (c2 : o2.data = .cell none) (c3 : o3.data = .cell none) (hl : h₀.get? a5 = some (lstObj vs 0)) (hi : IntsAre vs ns) (hn : ns.length ≤ 63) (hL : 819 < L) (PL : PlainLaw N n) (hr : N + 1 + 2 * n ≤ 60) {Q : Flow → Shared → Prop} {E : Value → Shared → Prop}
    (hs : s.heap = h₁) (hQ : ∀ h tk,(∀ b o,h₀.get? b = some o → h.get? b = some o) → (∃ ps,h.get? 819 = some (tabObj ps)) → Q (.ret (.bool true)) { s with heap:=h,toks:=tk }) :
    wpAny (model prog w) (callerA.deeper (envOfC (nm 57) scL L fa cd)) (execs (toSs f_law.body) (envOfC (nm 57) scL L fa cd)) Q E s:=by
  subst hs
  have h819 : h₀.get? 819 = none:=(Nw (819,tabObj #[]) (by simp)).2.2
  have G : Ground2 prog w K (adL prog w K) h₀ mg mb 819 823:=ground2 X A T C h819
  have Lb:=cI_lib G N n
  have a5lt : a5 < L:=Nat.lt_of_lt_of_le (Heap.lt_size hl) F.above
  have n819:=(Nw (819,tabObj #[]) (by simp)).1
  have b1:=(Nw (L + 1,o1) (by simp)).1
  have b2:=(Nw (L + 1 + 1,o2) (by simp)).1
  have b3:=(Nw (L + 1 + 1 + 1,o3) (by simp)).1
  have a5n : a5 ≠ 819:=fun q=>by rw [q,h819] at hl; exact nope hl
  let W:=wLaw L a5 (lstObj vs 0)
  let g : Act:=⟨adL prog w K,h₀,h₀,fun a=>a = 819,W.τ,envOfC (nm 57) scL L fa cd,adL_ok,fun b o e=>⟨e,fun q=>by rw [q,h819] at e; cases e⟩,F.above,rfl,rfl,rfl⟩
  have t0 : W.τ L = .loc:=if_pos rfl
  have t1 : W.τ (L + 1) = .nce 154:=by
    show (if L + 1 = L then _ else if L + 1 = L + 1 then _ else _) = _
    rw [if_neg (neA L),if_pos rfl]
  have t2 : W.τ (L + 1 + 1) = .nce 110:=by
    show (if L + 1 + 1 = L then _ else if L + 1 + 1 = L + 1 then _ else if L + 1 + 1 = L + 1 + 1 then _ else _) = _
    rw [if_neg (neB L),if_neg (neA (L + 1)),if_pos rfl]
  have t3 : W.τ (L + 1 + 1 + 1) = .nce 111:=by
    show (if L + 1 + 1 + 1 = L then _ else if L + 1 + 1 + 1 = L + 1 then _ else if L + 1 + 1 + 1 = L + 1 + 1 then _ else if L + 1 + 1 + 1 = L + 1 + 1 + 1 then _ else _) = _
    rw [if_neg (neC L),if_neg (neB (L + 1)),if_neg (neA (L + 1 + 1)),if_pos rfl]
  have t5 : W.τ a5 = .fro (lstObj vs 0):=by
    show (if a5 = L then _ else if a5 = L + 1 then _ else if a5 = L + 1 + 1 then _ else if a5 = L + 1 + 1 + 1 then _ else if a5 = a5 then _ else _) = _
    rw [if_neg (Nat.ne_of_lt a5lt),if_neg (Nat.ne_of_lt (Nat.lt_succ_of_lt a5lt)),if_neg (Nat.ne_of_lt (Nat.lt_succ_of_lt (Nat.lt_succ_of_lt a5lt))),if_neg (Nat.ne_of_lt (Nat.lt_succ_of_lt (Nat.lt_succ_of_lt (Nat.lt_succ_of_lt a5lt)))),if_pos rfl]
  have t6 : W.τ 819 = .mut 0:=by
    show (if 819 = L then _ else if 819 = L + 1 then _ else if 819 = L + 1 + 1 then _ else if 819 = L + 1 + 1 + 1 then _ else if 819 = a5 then _ else if 819 = 819 then _ else _) = _
    rw [if_neg (Nat.ne_of_lt hL),if_neg (Nat.ne_of_lt (Nat.lt_succ_of_lt hL)),if_neg (Nat.ne_of_lt (Nat.lt_succ_of_lt (Nat.lt_succ_of_lt hL))),if_neg (Nat.ne_of_lt (Nat.lt_succ_of_lt (Nat.lt_succ_of_lt (Nat.lt_succ_of_lt hL)))),if_neg a5n.symm,if_pos rfl]
  have kd : ∀ n,g.env.kindOf (nm n) = scL.names.lookup (nm n):=fun n=>rfl
  have rv : RepVs (adL prog w K) W [.d (.lst (ns.map .int))] [.ref a5]:=.cons (Rep.lst t5 (repL_ints hi)) .nil
  have R : Rel g W (startOf f_law [.d (.lst (ns.map .int))] [some .tab]) s.heap:=by
    refine ⟨fun b o _ e=>F.keep b o e,fun a o e=>?_,fun a m=>?_,fun a o e=>.inl e,fun a m=>?_,rfl,fun n c e=>?_,t0,⟨_,F.ns,fun n v e=>?_⟩,fun n e=>?_,fun n e=>?_,fun n e=>?_⟩
    · rcases wLaw_cases L a5 (lstObj vs 0) a with ⟨q,_⟩ | ⟨q,_⟩ | ⟨q,_⟩ | ⟨q,_⟩ | ⟨q,rfl⟩ | ⟨q,_⟩ | q <;> have e:=q.symm.trans e <;> cases e
      exact F.keep _ _ hl
    · rcases wLaw_cases L a5 (lstObj vs 0) a with ⟨q,rfl⟩ | ⟨q,rfl⟩ | ⟨q,rfl⟩ | ⟨q,rfl⟩ | ⟨q,_⟩ | ⟨q,rfl⟩ | q
      · exact .inr F.above
      · exact .inr (Nat.le_succ_of_le F.above)
      · exact .inr (Nat.le_succ_of_le (Nat.le_succ_of_le F.above))
      · exact .inr (Nat.le_succ_of_le (Nat.le_succ_of_le (Nat.le_succ_of_le F.above)))
      · have m : Role.isMut (W.τ a):=m
        rw [show W.τ a = _ from q] at m; exact m.elim
      · exact .inl rfl
      · have m : Role.isMut (W.τ a):=m
        rw [show W.τ a = _ from q] at m; exact m.elim
    · rcases wLaw_cases L a5 (lstObj vs 0) a with ⟨q,rfl⟩ | ⟨q,rfl⟩ | ⟨q,rfl⟩ | ⟨q,rfl⟩ | ⟨q,_⟩ | ⟨q,rfl⟩ | q
      · obtain ⟨o,_,_,z,_⟩:=F.ns; exact ⟨o,z⟩
      · exact ⟨_,b1⟩
      · exact ⟨_,b2⟩
      · exact ⟨_,b3⟩
      · have m : Role.isMut (W.τ a):=m
        rw [show W.τ a = _ from q] at m; exact m.elim
      · exact ⟨_,n819⟩
      · have m : Role.isMut (W.τ a):=m
        rw [show W.τ a = _ from q] at m; exact m.elim
    · cases n with
      | zero =>
        have e : some Ct.tab = some c:=e
        obtain rfl:=Option.some.inj e
        exact .tab (a:=819) (ps:=#[]) rfl t6 n819 ⟨rfl,tabR_nil⟩
      | succ k=>exact nope e
    · obtain ⟨e1,e2⟩:=look_map _ _ _ _ (show look (f_law.locs.map fun n=>(n,fget f_law.pars [V.d (.lst (ns.map .int))] n)) n = some v from e)
      exact bindL_get (kindOf:=g.env.kindOf) (fun _=>none) rv fLaw_ok.nd e1 ((kd n).trans (fLaw_ok.loc n e2))
    · have e : has (f_law.locs.map fun n=>(n,fget f_law.pars [V.d (.lst (ns.map .int))] n)) n = true:=e
      rw [has_map (fun n=>fget f_law.pars [V.d (.lst (ns.map .int))] n)] at e
      exact (kd n).trans (fLaw_ok.loc n (mem_is.mp e))
    · have e : has (f_law.cels.map fun n=>(n,fget f_law.pars [V.d (.lst (ns.map .int))] n)) n = true:=e
      rw [has_map (fun n=>fget f_law.pars [V.d (.lst (ns.map .int))] n)] at e
      have hm:=mem_is.mp e
      have hk:=(kd n).trans (fLaw_ok.cel n hm)
      have hm : n = 154 ∨ n = 110 ∨ n = 111:=by simpa [f_law] using hm
      rcases hm with rfl | rfl | rfl
      · exact ⟨L + 1,none,law_cells.1,.inl ⟨hk,t1⟩,⟨o1,b1,c1⟩,fun v z=>by cases z⟩
      · exact ⟨L + 1 + 1,none,law_cells.2.1,.inl ⟨hk,t2⟩,⟨o2,b2,c2⟩,fun v z=>by cases z⟩
      · exact ⟨L + 1 + 1 + 1,none,law_cells.2.2,.inl ⟨hk,t3⟩,⟨o3,b3,c3⟩,fun v z=>by cases z⟩
    · exact (kd n).trans (fLaw_ok.gl n (mem_is.mp e))
  have rm : Rm (callerA.deeper (envOfC (nm 57) scL L fa cd)) (N + 1 + 2 * n):=⟨rfl,by show 4 + 3 + 10 * (N + 1 + 2 * n) + 200 < cLine; unfold cLine; omega,by
    show 1 + claimMargin + 1 + (N + 1 + 2 * n) < 900
    have : claimMargin ≤ 800:=by decide
    omega⟩
  refine aSL_ok Lb rm f_law.body (g:=g) rfl rfl (PL ns hn) R fun w2 fl st2 h2 tk2 fv S2 R2 r2 q2=>?_
  obtain ⟨rfl,h0⟩:=q2
  cases r2 with
  | ret rr =>
    cases rr
    refine hQ h2 tk2 (fun b o e=>R2.ext b o (fun q=>by rw [show b = 819 from q,h819] at e; exact nope e) e) ?_
    cases R2.cells 0 .tab h0 with
    | tab a b c d =>
      obtain ⟨rfl,_⟩:=d
      exact ⟨_,c⟩
end
end
end Mine
end
section
theorem Mine.cell_of {o : Obj} {x : Option Value} (h : o.data = Data.cell x) (e : x = none) : o.data = Data.cell none:=by rw [h,e]
theorem Mine.goodW {cl : Str → Option Addr} {mean : ExcName → Option Value} {args : List WData} {s₁ s' : Shared} (hk : ∀ b o,s₁.heap.get? b = some o → s'.heap.get? b = some o) (hos : s'.os = s₁.os) (hg : s'.gens = #[]) :
    GoodW PySem.Challenge.rw_sj0062_01.row.claim cl mean args s₁ (.ok (.ret (.bool true))) s' :=
  ⟨.inl ⟨.bool true,.bool true,[],rfl,fun _=>rfl,.bool true,by kernel_rfl,fun _=>⟨List.nodup_nil,fun _ h=>nomatch h⟩⟩,hk,hos,hg⟩
set_option maxHeartbeats 8000000 in
theorem Mine.final (PL : Mine.PlainLaw 12 8) : PySem.Challenge.rw_sj0062_01.Holds:=Mine.hd (by
  w_on
  intro w s₀ s₁ mg mb G Y fa o pm cd doc dV kV ho hd hcd hD hmg hg args vals as hpre hlay hrd hwl hlo
  obtain ⟨K,X,A⟩:=Y
  refine Ground.open G ?_
  intro T B D TE TW
  clear D
  have hT9 : TabsAt [(823,819)] s₁.heap:=by
    obtain ⟨d,hd⟩:=Option.isSome_iff_exists.mp (show ((recsOf Mine.qv).find? (fun e=>e.name == Mine.nm 58)).isSome = true by kernel_rfl)
    exact List.forall_mem_cons.mpr ⟨tab_of T X hd A.told.tab,nofun⟩
  clear hmg
  wrow_args hpre hlay hrd hwl hlo
  refine enter_call ?_
  w_top on
  kn_posts
  w_call any ho hd hcd hD T F
  clear hd
  rename News _ _ _ _=>N
  rename Well _ _ _ _=>wll
  rename IntsAre _ _=>hi
  rename ¬ _ < _=>hlen
  have l0:=ghost_lt hT9 F
  have C:=ghost_code hT9
  have X':=ghost_K hT9 X A.tabs
  have T':=ghost_top hT9 T
  have N':=ghost_news hT9 F N
  have F':=ghost_fr hT9 F
  cases wll with
  | list hl hw =>
  obtain ⟨_,rfl,hi'⟩:=Mine.wellInts hw
  refine Mine.law_join (N:=12) (n:=8) X' A T' C.1 N' F' (Mine.cell_of (by assumption) (by kernel_rfl)) (Mine.cell_of (by assumption) (by kernel_rfl)) (Mine.cell_of (by assumption) (by kernel_rfl)) (ghost_get hT9 hl (by nofun)) hi' (by omega) (l0 (819,tabObj #[]) (.head _)) PL (by decide) rfl fun h tk hk hg=>?_
  exact ⟨Mine.goodW hk rfl (by assumption),hg,trivial⟩)
end
theorem PySem.Challenge.cw_sj0062_01_holds : PySem.Challenge.rw_sj0062_01.Holds :=
  Mine.final Mine.plain_law
