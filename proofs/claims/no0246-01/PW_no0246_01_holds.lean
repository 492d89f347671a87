import PyProof.Rows.All
import Wide.All
import OpenK.AllK
import Wide.FinOn
import PySem.Challenge.RW_no0246_01
set_option Elab.async false
set_option maxRecDepth 100000
set_option linter.all false

section
open PySem PySem.W PyProof.Rows
namespace Mine

/-! ## plain values -/
inductive Fl where
  | none | bool (b : Bool) | int (i : Int) | str (x : List Nat)
inductive PV where
  | undef
  | fl (f : Fl)
  | tup (l : List Fl)
  | list (l : List Fl)
  | rows (l : List (List Fl))
  | dict (l : List (List Nat × List Nat))
  | olist (l : List Fl)
  | orows (l : List (List Fl))

noncomputable def lim : Nat := 1048576
noncomputable def okS (x : List Nat) : Bool := decide (x.length ≤ lim) && x.all (· < 128)

noncomputable def PV.isFl : PV → Bool
  | .fl _ => true
  | _ => false
noncomputable def PV.isOwn : PV → Bool
  | .olist _ | .orows _ => true
  | _ => false
/-- what may stand in a slot -/
noncomputable def PV.storable : PV → Bool
  | .fl _ | .list _ | .rows _ => true
  | _ => false

/-! ## the small language -/
set_option genInjectivity false in
set_option genSizeOf false in
inductive ME where
  | loc (i : Nat) | int (i : Int) | neg (i : Int) | str (x : List Nat) | bool (b : Bool) | none
  | glob (g : Nat)
  | bin (o : Operator) (a b : ME) | not (a : ME) | cmp (o : CmpOp) (a b : ME) | chain (a b c : ME)
  | and (a b : ME) | and3 (a b c : ME) | or (a b : ME) | cond (c a b : ME)
  | len (a : ME) | chr (a : ME) | ord (a : ME) | abs (a : ME) | max (a b : ME)
  | call0 (f : Nat) | call1 (f : Nat) (a : ME) | call2 (f : Nat) (a b : ME)
  | find (a b : ME) | starts (a b : ME) | count (a b : ME) | dget (a b c : ME)
  | idx (a i : ME) | slF (a lo : ME) | slT (a hi : ME) | sl (a lo hi : ME)
  | tup (a b : ME) | list2 (a b : ME) | texts (l : List (List Nat)) | dict (l : List (List Nat × List Nat)) | sorted (a : ME)

set_option genInjectivity false in
set_option genSizeOf false in
inductive MB where
  | done
  | assign (i : Nat) (e : ME) (k : MB)
  | unpack (i j : Nat) (e : ME) (k : MB)
  | aug (i : Nat) (o : Operator) (e : ME) (k : MB)
  | ite (c : ME) (t e k : MB)
  | whil (c : ME) (b k : MB)
  | forStr (i : Nat) (e : ME) (b k : MB)
  | forList (i : Nat) (e : ME) (b k : MB)
  | forRows (i j : Nat) (e : ME) (b k : MB)
  | forRange1 (i : Nat) (hi : ME) (b k : MB)
  | forRange2 (i : Nat) (lo hi : ME) (b k : MB)
  | forRange3 (i : Nat) (lo hi st : ME) (b k : MB)
  | append (i : Nat) (e : ME) (k : MB)
  | ret (e : ME)
  | retOwn (i : Nat)
  | cont
  | stuck

/-! ## what the operations give -/
noncomputable def smallI (i : Int) : Bool := decide (i.natAbs < 2 ^ 4096)

noncomputable def pBin (o : Operator) (a b : PV) : Option PV := match o with
  | .Add => (match a with
    | .fl (.int i) => (match b with
      | .fl (.int j) => some (.fl (.int (i + j)))
      | _ => Option.none)
    | .fl (.str x) => (match b with
      | .fl (.str y) => if x.length + y.length ≤ lim then some (.fl (.str (x ++ y))) else Option.none
      | _ => Option.none)
    | .list l => (match b with
      | .list k => if l.length + k.length ≤ lim then some (.list (l ++ k)) else Option.none
      | _ => Option.none)
    | _ => Option.none)
  | .Sub => (match a with
    | .fl (.int i) => (match b with
      | .fl (.int j) => some (.fl (.int (i - j)))
      | _ => Option.none)
    | _ => Option.none)
  | .Mult => (match b with
    | .fl (.int j) => (match a with
      | .fl (.int i) => if smallI i && smallI j then some (.fl (.int (i * j))) else Option.none
      | .fl (.str [c]) => if decide (0 ≤ j) && decide (j ≤ 1000) then some (.fl (.str (List.replicate j.toNat c))) else Option.none
      | _ => Option.none)
    | _ => Option.none)
  | .FloorDiv => (match a with
    | .fl (.int i) => (match b with
      | .fl (.int j) => if smallI i && smallI j && decide (0 < j) then some (.fl (.int (i / j))) else Option.none
      | _ => Option.none)
    | _ => Option.none)
  | .Mod => (match a with
    | .fl (.int i) => (match b with
      | .fl (.int j) => if decide (0 < j) then some (.fl (.int (i % j))) else Option.none
      | _ => Option.none)
    | _ => Option.none)
  | .Pow => (match a with
    | .fl (.int i) => (match b with
      | .fl (.int j) => if decide (0 ≤ j) && decide (j ≤ 1000) && decide (i.natAbs < 2 ^ 64) then some (.fl (.int (i ^ j.toNat))) else Option.none
      | _ => Option.none)
    | _ => Option.none)
  | _ => Option.none

noncomputable def pAug (o : Operator) (a b : PV) : Option PV := match o with
  | .Add => (match a with
    | .fl (.int i) => (match b with
      | .fl (.int j) => some (.fl (.int (i + j)))
      | _ => Option.none)
    | .fl (.str x) => (match b with
      | .fl (.str y) => if x.length + y.length ≤ lim then some (.fl (.str (x ++ y))) else Option.none
      | _ => Option.none)
    | _ => Option.none)
  | .Sub => (match a with
    | .fl (.int i) => (match b with
      | .fl (.int j) => some (.fl (.int (i - j)))
      | _ => Option.none)
    | _ => Option.none)
  | .FloorDiv => (match a with
    | .fl (.int i) => (match b with
      | .fl (.int j) => if smallI i && smallI j && decide (0 < j) then some (.fl (.int (i / j))) else Option.none
      | _ => Option.none)
    | _ => Option.none)
  | .Mod => (match a with
    | .fl (.int i) => (match b with
      | .fl (.int j) => if decide (0 < j) then some (.fl (.int (i % j))) else Option.none
      | _ => Option.none)
    | _ => Option.none)
  | _ => Option.none

noncomputable def pCmp (o : CmpOp) (a b : PV) : Option Bool := match o with
  | .Eq => (match a with
    | .fl (.int i) => (match b with
      | .fl (.int j) => some (i == j)
      | _ => Option.none)
    | .fl (.str x) => (match b with
      | .fl (.str y) => some (x == y)
      | _ => Option.none)
    | _ => Option.none)
  | .NotEq => (match a with
    | .fl (.int i) => (match b with
      | .fl (.int j) => some (i != j)
      | _ => Option.none)
    | .fl (.str x) => (match b with
      | .fl (.str y) => some (x != y)
      | _ => Option.none)
    | _ => Option.none)
  | .Lt => (match a with
    | .fl (.int i) => (match b with
      | .fl (.int j) => some (decide (i < j))
      | _ => Option.none)
    | _ => Option.none)
  | .Gt => (match a with
    | .fl (.int i) => (match b with
      | .fl (.int j) => some (decide (j < i))
      | _ => Option.none)
    | _ => Option.none)
  | .GtE => (match a with
    | .fl (.int i) => (match b with
      | .fl (.int j) => some (decide (j ≤ i))
      | _ => Option.none)
    | _ => Option.none)
  | .LtE => (match a with
    | .fl (.str x) => (match b with
      | .fl (.str y) => some (!decide (y < x))
      | _ => Option.none)
    | _ => Option.none)
  | .In => (match b with
    | .fl (.str y) => (match a with
      | .fl (.str [c]) => some (y.contains c)
      | _ => Option.none)
    | .dict l => (match a with
      | .fl (.str x) => some (l.any (fun p => p.1 == x))
      | _ => Option.none)
    | _ => Option.none)
  | .NotIn => (match b with
    | .fl (.str y) => (match a with
      | .fl (.str [c]) => some (!y.contains c)
      | _ => Option.none)
    | _ => Option.none)
  | .Is => (match b with
    | .fl .none => (match a with
      | .fl .none => some true
      | .fl (.str _) => some false
      | _ => Option.none)
    | _ => Option.none)
  | _ => Option.none

noncomputable def pIdx (a i : PV) : Option PV := match a with
  | .fl (.str x) => (match i with
    | .fl (.int k) => if 0 ≤ k then (x[k.toNat]?).map fun c => .fl (.str [c]) else Option.none
    | _ => Option.none)
  | .list l => (match i with
    | .fl (.int k) => if 0 ≤ k then (l[k.toNat]?).map .fl else Option.none
    | _ => Option.none)
  | .tup l => (match i with
    | .fl (.int k) => if 0 ≤ k ∧ k < 1000 then (l[k.toNat]?).map .fl else Option.none
    | _ => Option.none)
  | .dict l => (match i with
    | .fl (.str x) => (l.lookup x).map fun y => .fl (.str y)
    | _ => Option.none)
  | _ => Option.none

noncomputable def clampI (n : Nat) (k : Int) : Nat := if k < 0 then (k + n).toNat else min k.toNat n
noncomputable def pSl (x : List Nat) (lo hi : Int) : List Nat := (x.take (clampI x.length hi)).drop (clampI x.length lo)
noncomputable def pSlF (x : List Nat) (lo : Int) : List Nat := x.drop (clampI x.length lo)
noncomputable def pSlT (x : List Nat) (hi : Int) : List Nat := x.take (clampI x.length hi)

noncomputable def fitI (k : Int) : Bool := decide (-(2 ^ 61) ≤ k) && decide (k < 2 ^ 61)

/-- a text's first place of a sign -/
noncomputable def findC (c : Nat) : List Nat → Nat → Int
  | [], _ => -1
  | d :: r, n => if d == c then (n : Int) else findC c r (n + 1)

noncomputable def insS (x : List Nat) : List (List Nat) → List (List Nat)
  | [] => [x]
  | y :: r => if decide (y < x) then y :: insS x r else x :: y :: r
noncomputable def sortS : List (List Nat) → List (List Nat)
  | [] => []
  | x :: r => insS x (sortS r)

noncomputable def diffS : List (List Nat) → Bool
  | [] => true
  | x :: r => !r.contains x && diffS r
noncomputable def okD (l : List (List Nat × List Nat)) : Bool := decide (0 < l.length) && decide (l.length < 64) && diffS (l.map (·.1))

section
variable (fn : Nat → List PV → Option PV) (gl : Nat → Option PV) (ρ : List PV)

noncomputable def evalM : ME → Option PV
  | .loc i => match ρ[i]? with
    | some (.fl f) => some (.fl f)
    | some (.list l) => some (.list l)
    | some (.rows l) => some (.rows l)
    | _ => Option.none
  | .int i => some (.fl (.int i))
  | .neg i => some (.fl (.int (-i)))
  | .str x => some (.fl (.str x))
  | .bool b => some (.fl (.bool b))
  | .none => some (.fl .none)
  | .glob g => gl g
  | .bin o a b => match evalM a with
    | some va => match evalM b with
      | some vb => pBin o va vb
      | Option.none => Option.none
    | Option.none => Option.none
  | .not a => match evalM a with
    | some (.fl (.bool b)) => some (.fl (.bool (!b)))
    | _ => Option.none
  | .cmp o a b => match evalM a with
    | some va => match evalM b with
      | some vb => (pCmp o va vb).map fun r => .fl (.bool r)
      | Option.none => Option.none
    | Option.none => Option.none
  | .chain a b c => match evalM a with
    | some (.fl (.str x)) => match evalM b with
      | some (.fl (.str y)) => if decide (y < x) then some (.fl (.bool false)) else match evalM c with
        | some (.fl (.str z)) => some (.fl (.bool (!decide (z < y))))
        | _ => Option.none
      | _ => Option.none
    | _ => Option.none
  | .and a b => match evalM a with
    | some (.fl (.bool false)) => some (.fl (.bool false))
    | some (.fl (.bool true)) => match evalM b with
      | some (.fl (.bool r)) => some (.fl (.bool r))
      | _ => Option.none
    | _ => Option.none
  | .and3 a b c => match evalM a with
    | some (.fl (.bool false)) => some (.fl (.bool false))
    | some (.fl (.bool true)) => match evalM b with
      | some (.fl (.bool false)) => some (.fl (.bool false))
      | some (.fl (.bool true)) => match evalM c with
        | some (.fl (.bool r)) => some (.fl (.bool r))
        | _ => Option.none
      | _ => Option.none
    | _ => Option.none
  | .or a b => match evalM a with
    | some (.fl (.bool true)) => some (.fl (.bool true))
    | some (.fl (.bool false)) => match evalM b with
      | some (.fl (.bool r)) => some (.fl (.bool r))
      | _ => Option.none
    | _ => Option.none
  | .cond c a b => match evalM c with
    | some (.fl (.bool true)) => evalM a
    | some (.fl (.bool false)) => evalM b
    | _ => Option.none
  | .len a => match evalM a with
    | some (.fl (.str x)) => some (.fl (.int x.length))
    | some (.list l) => some (.fl (.int l.length))
    | _ => Option.none
  | .chr a => match evalM a with
    | some (.fl (.int i)) => if decide (0 ≤ i) && decide (i < 128) then some (.fl (.str [i.toNat])) else Option.none
    | _ => Option.none
  | .ord a => match evalM a with
    | some (.fl (.str [c])) => some (.fl (.int c))
    | _ => Option.none
  | .abs a => match evalM a with
    | some (.fl (.int i)) => some (.fl (.int (if i < 0 then -i else i)))
    | _ => Option.none
  | .max a b => match evalM a with
    | some (.fl (.int i)) => match evalM b with
      | some (.fl (.int j)) => some (.fl (.int (if j > i then j else i)))
      | _ => Option.none
    | _ => Option.none
  | .call0 f => fn f []
  | .call1 f a => match evalM a with
    | some va => fn f [va]
    | Option.none => Option.none
  | .call2 f a b => match evalM a with
    | some va => match evalM b with
      | some vb => fn f [va, vb]
      | Option.none => Option.none
    | Option.none => Option.none
  | .find a b => match evalM a with
    | some (.fl (.str x)) => match evalM b with
      | some (.fl (.str [c])) => some (.fl (.int (findC c x 0)))
      | _ => Option.none
    | _ => Option.none
  | .starts a b => match evalM a with
    | some (.fl (.str x)) => match evalM b with
      | some (.fl (.str y)) => some (.fl (.bool (y.isPrefixOf x)))
      | _ => Option.none
    | _ => Option.none
  | .count a b => match evalM a with
    | some (.fl (.str x)) => match evalM b with
      | some (.fl (.str [c])) => some (.fl (.int (x.count c)))
      | _ => Option.none
    | _ => Option.none
  | .dget a b c => match evalM a with
    | some (.dict l) => match evalM b with
      | some (.fl (.str x)) => match evalM c with
        | some (.fl (.str y)) => some (.fl (.str ((l.lookup x).getD y)))
        | _ => Option.none
      | _ => Option.none
    | _ => Option.none
  | .idx a i => match evalM a with
    | some va => match evalM i with
      | some vi => pIdx va vi
      | Option.none => Option.none
    | Option.none => Option.none
  | .slF a lo => match evalM a with
    | some (.fl (.str x)) => match evalM lo with
      | some (.fl (.int k)) => if fitI k then some (.fl (.str (pSlF x k))) else Option.none
      | _ => Option.none
    | _ => Option.none
  | .slT a hi => match evalM a with
    | some (.fl (.str x)) => match evalM hi with
      | some (.fl (.int k)) => if fitI k then some (.fl (.str (pSlT x k))) else Option.none
      | _ => Option.none
    | some (.list l) => match evalM hi with
      | some (.fl (.int k)) => if decide (0 ≤ k) && fitI k then some (.list (l.take k.toNat)) else Option.none
      | _ => Option.none
    | _ => Option.none
  | .sl a lo hi => match evalM a with
    | some (.fl (.str x)) => match evalM lo with
      | some (.fl (.int k)) => match evalM hi with
        | some (.fl (.int j)) => if fitI k && fitI j then some (.fl (.str (pSl x k j))) else Option.none
        | _ => Option.none
      | _ => Option.none
    | _ => Option.none
  | .tup a b => match evalM a with
    | some (.fl x) => match evalM b with
      | some (.fl y) => some (.tup [x, y])
      | _ => Option.none
    | _ => Option.none
  | .list2 a b => match evalM a with
    | some (.fl x) => match evalM b with
      | some (.fl y) => some (.list [x, y])
      | _ => Option.none
    | _ => Option.none
  | .texts l => if l.length ≤ lim then some (.list (l.map .str)) else Option.none
  | .dict l => if okD l then some (.dict l) else Option.none
  | .sorted a => match evalM a with
    | some (.dict l) => if l.length < 64 && l.all (fun p => okS p.1) then some (.list ((sortS (l.map (·.1))).map .str)) else Option.none
    | _ => Option.none

noncomputable def testM (e : ME) : Option Bool := match evalM fn gl ρ e with
  | some (.fl (.bool b)) => some b
  | _ => Option.none
end

inductive Res where
  | next (ρ : List PV)
  | cont (ρ : List PV)
  | ret (v : PV)

/-- a store: never over an own list; beside one, flat values alone -/
noncomputable def putM (ρ : List PV) (i : Nat) (v : PV) : Option (List PV) :=
  match ρ[i]? with
  | some old => if !old.isOwn && v.storable && (v.isFl || !(ρ.any PV.isOwn)) then some (ρ.set i v) else none
  | none => none

/-- two stores of a pair's parts -/
noncomputable def put2 (ρ : List PV) (i j : Nat) (v : PV) : Option (List PV) :=
  match v with
  | .tup [x, y] => (match putM ρ i (.fl x) with
    | some ρ' => putM ρ' j (.fl y)
    | none => none)
  | _ => none

noncomputable def loopM (step : PV → List PV → Option Res) : List PV → List PV → Option Res
  | [], ρ => some (.next ρ)
  | v :: r, ρ => match step v ρ with
    | some (.next ρ') => loopM step r ρ'
    | some (.cont ρ') => loopM step r ρ'
    | some (.ret v) => some (.ret v)
    | none => none

noncomputable def whileM (test : List PV → Option Bool) (body : List PV → Option Res) : Nat → List PV → Option Res
  | 0, _ => none
  | n + 1, ρ => match test ρ with
    | some false => some (.next ρ)
    | some true => (match body ρ with
      | some (.next ρ') => whileM test body n ρ'
      | some (.cont ρ') => whileM test body n ρ'
      | some (.ret v) => some (.ret v)
      | none => none)
    | none => none

noncomputable def rangeM (lo hi st : Int) : Option (List PV) :=
  if fitI lo && fitI hi && decide (0 < st) && decide (st ≤ 1000) then
    some ((List.range ((hi - lo + st - 1) / st).toNat).map fun (k : Nat) => PV.fl (.int (lo + st * (k : Int))))
  else none

/-- behind a part: go on where it fell through -/
noncomputable def thenM (r : Option Res) (k : List PV → Option Res) : Option Res := match r with
  | some (.next ρ) => k ρ
  | some (.cont ρ) => some (.cont ρ)
  | some (.ret v) => some (.ret v)
  | none => none

section
variable (fn : Nat → List PV → Option PV) (gl : Nat → Option PV) (fuel : Nat)
noncomputable def execM : MB → List PV → Option Res
  | .done, ρ => some (.next ρ)
  | .assign i e k, ρ => match evalM fn gl ρ e with
    | some v => match putM ρ i v with
      | some ρ' => execM k ρ'
      | none => none
    | none => none
  | .unpack i j e k, ρ => match evalM fn gl ρ e with
    | some v => match put2 ρ i j v with
      | some ρ' => execM k ρ'
      | none => none
    | none => none
  | .aug i o e k, ρ => match evalM fn gl ρ (.loc i) with
    | some old => match evalM fn gl ρ e with
      | some v => match pAug o old v with
        | some r => match putM ρ i r with
          | some ρ' => execM k ρ'
          | none => none
        | none => none
      | none => none
    | none => none
  | .ite c t e k, ρ => match testM fn gl ρ c with
    | some true => thenM (execM t ρ) (execM k)
    | some false => thenM (execM e ρ) (execM k)
    | none => none
  | .whil c b k, ρ => thenM (whileM (fun ρ => testM fn gl ρ c) (execM b) fuel ρ) (execM k)
  | .forStr i e b k, ρ => match evalM fn gl ρ e with
    | some (.fl (.str x)) => thenM (loopM (fun v ρ => match putM ρ i v with
        | some ρ' => execM b ρ'
        | none => none) (x.map fun c => .fl (.str [c])) ρ) (execM k)
    | _ => none
  | .forList i e b k, ρ => match evalM fn gl ρ e with
    | some (.list l) => if ρ.any PV.isOwn then none else thenM (loopM (fun v ρ => match putM ρ i v with
        | some ρ' => execM b ρ'
        | none => none) (l.map .fl) ρ) (execM k)
    | _ => none
  | .forRows i j e b k, ρ => match evalM fn gl ρ e with
    | some (.rows l) => if ρ.any PV.isOwn then none else thenM (loopM (fun v ρ => match put2 ρ i j v with
        | some ρ' => execM b ρ'
        | none => none) (l.map .tup) ρ) (execM k)
    | _ => none
  | .forRange1 i hi b k, ρ => match evalM fn gl ρ hi with
    | some (.fl (.int y)) => (match rangeM 0 y 1 with
      | some l => thenM (loopM (fun v ρ => match putM ρ i v with
        | some ρ' => execM b ρ'
        | none => none) l ρ) (execM k)
      | none => none)
    | _ => none
  | .forRange2 i lo hi b k, ρ => match evalM fn gl ρ lo with
    | some (.fl (.int x)) => (match evalM fn gl ρ hi with
      | some (.fl (.int y)) => (match rangeM x y 1 with
        | some l => thenM (loopM (fun v ρ => match putM ρ i v with
          | some ρ' => execM b ρ'
          | none => none) l ρ) (execM k)
        | none => none)
      | _ => none)
    | _ => none
  | .forRange3 i lo hi st b k, ρ => match evalM fn gl ρ lo with
    | some (.fl (.int x)) => (match evalM fn gl ρ hi with
      | some (.fl (.int y)) => (match evalM fn gl ρ st with
        | some (.fl (.int z)) => (match rangeM x y z with
          | some l => thenM (loopM (fun v ρ => match putM ρ i v with
            | some ρ' => execM b ρ'
            | none => none) l ρ) (execM k)
          | none => none)
        | _ => none)
      | _ => none)
    | _ => none
  | .append i e k, ρ => match evalM fn gl ρ e with
    | some (.fl x) => (match ρ[i]? with
      | some (.olist l) => if l.length < lim then execM k (ρ.set i (.olist (l ++ [x]))) else none
      | _ => none)
    | some (.tup x) => (match ρ[i]? with
      | some (.orows l) => if l.length < lim then execM k (ρ.set i (.orows (l ++ [x]))) else none
      | _ => none)
    | _ => none
  | .ret e, ρ => (evalM fn gl ρ e).map .ret
  | .retOwn i, ρ => match ρ[i]? with
    | some (.olist l) => some (.ret (.list l))
    | some (.orows l) => some (.ret (.rows l))
    | _ => none
  | .cont, ρ => some (.cont ρ)
  | .stuck, _ => none
end

/-! ## views: a look at one constructor, and what it says when it holds -/
theorem ff {p : Prop} (h : false = true) : p := Bool.noConfusion h
theorem an2 {a b : Bool} (h : (a && b) = true) : a = true ∧ b = true := Bool.and_eq_true_iff.mp h
theorem an3 {a b c : Bool} (h : (a && b && c) = true) : a = true ∧ b = true ∧ c = true := ⟨(an2 (an2 h).1).1, (an2 (an2 h).1).2, (an2 h).2⟩
theorem an4 {a b c d : Bool} (h : (a && b && c && d) = true) : a = true ∧ b = true ∧ c = true ∧ d = true := ⟨(an3 (an2 h).1).1, (an3 (an2 h).1).2.1, (an3 (an2 h).1).2.2, (an2 h).2⟩
theorem an5 {a b c d e : Bool} (h : (a && b && c && d && e) = true) : a = true ∧ b = true ∧ c = true ∧ d = true ∧ e = true := ⟨(an4 (an2 h).1).1, (an4 (an2 h).1).2.1, (an4 (an2 h).1).2.2.1, (an4 (an2 h).1).2.2.2, (an2 h).2⟩
theorem an6 {a b c d e f : Bool} (h : (a && b && c && d && e && f) = true) : a = true ∧ b = true ∧ c = true ∧ d = true ∧ e = true ∧ f = true := ⟨(an5 (an2 h).1).1, (an5 (an2 h).1).2.1, (an5 (an2 h).1).2.2.1, (an5 (an2 h).1).2.2.2.1, (an5 (an2 h).1).2.2.2.2, (an2 h).2⟩
noncomputable def l0 {α : Type} (l : List α) : Bool := match l with
  | [] => true
  | _ :: _ => false
noncomputable def l1 {α : Type} (f : α → Bool) (l : List α) : Bool := match l with
  | [] => false
  | a :: r => f a && l0 r
noncomputable def l2 {α : Type} (f : α → α → Bool) (l : List α) : Bool := match l with
  | [] => false
  | a :: r => l1 (f a) r
noncomputable def l3 {α : Type} (f : α → α → α → Bool) (l : List α) : Bool := match l with
  | [] => false
  | a :: r => l2 (f a) r
noncomputable def o0 {α : Type} (o : Option α) : Bool := match o with
  | none => true
  | some _ => false
noncomputable def o1 {α : Type} (f : α → Bool) (o : Option α) : Bool := match o with
  | none => false
  | some a => f a
theorem l0_el {α : Type} {P : List α → Prop} {l : List α} (h : l0 l = true) (k : P []) : P l := by
  cases l with
  | nil => exact k
  | cons => exact ff h
theorem l1_el {α : Type} {P : List α → Prop} {f : α → Bool} {l : List α} (h : l1 f l = true) (k : ∀ a, f a = true → P [a]) : P l := by
  cases l with
  | nil => exact ff h
  | cons a r => exact l0_el (P := fun r => P (a :: r)) (an2 h).2 (k a (an2 h).1)
theorem l2_el {α : Type} {P : List α → Prop} {f : α → α → Bool} {l : List α} (h : l2 f l = true) (k : ∀ a b, f a b = true → P [a, b]) : P l := by
  cases l with
  | nil => exact ff h
  | cons a r => exact l1_el (P := fun r => P (a :: r)) h (k a)
theorem l3_el {α : Type} {P : List α → Prop} {f : α → α → α → Bool} {l : List α} (h : l3 f l = true) (k : ∀ a b c, f a b c = true → P [a, b, c]) : P l := by
  cases l with
  | nil => exact ff h
  | cons a r => exact l2_el (P := fun r => P (a :: r)) h (k a)
theorem o0_el {α : Type} {P : Option α → Prop} {o : Option α} (h : o0 o = true) (k : P none) : P o := by
  cases o with
  | none => exact k
  | some => exact ff h
theorem o1_el {α : Type} {P : Option α → Prop} {f : α → Bool} {o : Option α} (h : o1 f o = true) (k : ∀ a, f a = true → P (some a)) : P o := by
  cases o with
  | none => exact ff h
  | some a => exact k a h

noncomputable def xConst (f : Const → Bool) (e : Expr) : Bool := match e with
  | .Constant c _ _ => f c
  | _ => false
theorem xConst_el {P : Expr → Prop} {f : Const → Bool} {e : Expr} (h : xConst f e = true) (k : ∀ a0 a1 a2, f a0 = true → P (.Constant a0 a1 a2)) : P e := by
  cases e <;> first | exact k _ _ _ h | exact ff h
noncomputable def xName (f : Str → Bool) (e : Expr) : Bool := match e with
  | .Name x _ => f x
  | _ => false
theorem xName_el {P : Expr → Prop} {f : Str → Bool} {e : Expr} (h : xName f e = true) (k : ∀ a0 a1, f a0 = true → P (.Name a0 a1)) : P e := by
  cases e <;> first | exact k _ _ h | exact ff h
noncomputable def xUn (f : UnaryOp → Expr → Bool) (e : Expr) : Bool := match e with
  | .UnaryOp o x _ => f o x
  | _ => false
theorem xUn_el {P : Expr → Prop} {f : UnaryOp → Expr → Bool} {e : Expr} (h : xUn f e = true) (k : ∀ a0 a1 a2, f a0 a1 = true → P (.UnaryOp a0 a1 a2)) : P e := by
  cases e <;> first | exact k _ _ _ h | exact ff h
noncomputable def xBin (f : Expr → Operator → Expr → Bool) (e : Expr) : Bool := match e with
  | .BinOp l o r _ => f l o r
  | _ => false
theorem xBin_el {P : Expr → Prop} {f : Expr → Operator → Expr → Bool} {e : Expr} (h : xBin f e = true) (k : ∀ a0 a1 a2 a3, f a0 a1 a2 = true → P (.BinOp a0 a1 a2 a3)) : P e := by
  cases e <;> first | exact k _ _ _ _ h | exact ff h
noncomputable def xCmp (f : Expr → (List CmpOp) → (List Expr) → Bool) (e : Expr) : Bool := match e with
  | .Compare l ps rs _ => f l ps rs
  | _ => false
theorem xCmp_el {P : Expr → Prop} {f : Expr → (List CmpOp) → (List Expr) → Bool} {e : Expr} (h : xCmp f e = true) (k : ∀ a0 a1 a2 a3, f a0 a1 a2 = true → P (.Compare a0 a1 a2 a3)) : P e := by
  cases e <;> first | exact k _ _ _ _ h | exact ff h
noncomputable def xBool (f : BoolOp → (List Expr) → Bool) (e : Expr) : Bool := match e with
  | .BoolOp o es _ => f o es
  | _ => false
theorem xBool_el {P : Expr → Prop} {f : BoolOp → (List Expr) → Bool} {e : Expr} (h : xBool f e = true) (k : ∀ a0 a1 a2, f a0 a1 = true → P (.BoolOp a0 a1 a2)) : P e := by
  cases e <;> first | exact k _ _ _ h | exact ff h
noncomputable def xIf (f : Expr → Expr → Expr → Bool) (e : Expr) : Bool := match e with
  | .IfExp t x y _ => f t x y
  | _ => false
theorem xIf_el {P : Expr → Prop} {f : Expr → Expr → Expr → Bool} {e : Expr} (h : xIf f e = true) (k : ∀ a0 a1 a2 a3, f a0 a1 a2 = true → P (.IfExp a0 a1 a2 a3)) : P e := by
  cases e <;> first | exact k _ _ _ _ h | exact ff h
noncomputable def xCall (f : Expr → (List Expr) → (List Keyword) → Pos → Bool) (e : Expr) : Bool := match e with
  | .Call g xs kw p => f g xs kw p
  | _ => false
theorem xCall_el {P : Expr → Prop} {f : Expr → (List Expr) → (List Keyword) → Pos → Bool} {e : Expr} (h : xCall f e = true) (k : ∀ a0 a1 a2 a3, f a0 a1 a2 a3 = true → P (.Call a0 a1 a2 a3)) : P e := by
  cases e <;> first | exact k _ _ _ _ h | exact ff h
noncomputable def xAttr (f : Expr → Str → Pos → Bool) (e : Expr) : Bool := match e with
  | .Attribute o n p => f o n p
  | _ => false
theorem xAttr_el {P : Expr → Prop} {f : Expr → Str → Pos → Bool} {e : Expr} (h : xAttr f e = true) (k : ∀ a0 a1 a2, f a0 a1 a2 = true → P (.Attribute a0 a1 a2)) : P e := by
  cases e <;> first | exact k _ _ _ h | exact ff h
noncomputable def xSub (f : Expr → Expr → Bool) (e : Expr) : Bool := match e with
  | .Subscript v k _ => f v k
  | _ => false
theorem xSub_el {P : Expr → Prop} {f : Expr → Expr → Bool} {e : Expr} (h : xSub f e = true) (k : ∀ a0 a1 a2, f a0 a1 = true → P (.Subscript a0 a1 a2)) : P e := by
  cases e <;> first | exact k _ _ _ h | exact ff h
noncomputable def xSlice (f : (Option Expr) → (Option Expr) → (Option Expr) → Bool) (e : Expr) : Bool := match e with
  | .Slice l u s _ => f l u s
  | _ => false
theorem xSlice_el {P : Expr → Prop} {f : (Option Expr) → (Option Expr) → (Option Expr) → Bool} {e : Expr} (h : xSlice f e = true) (k : ∀ a0 a1 a2 a3, f a0 a1 a2 = true → P (.Slice a0 a1 a2 a3)) : P e := by
  cases e <;> first | exact k _ _ _ _ h | exact ff h
noncomputable def xTup (f : (List Expr) → Bool) (e : Expr) : Bool := match e with
  | .Tuple es _ _ => f es
  | _ => false
theorem xTup_el {P : Expr → Prop} {f : (List Expr) → Bool} {e : Expr} (h : xTup f e = true) (k : ∀ a0 a1 a2, f a0 = true → P (.Tuple a0 a1 a2)) : P e := by
  cases e <;> first | exact k _ _ _ h | exact ff h
noncomputable def xList (f : (List Expr) → Bool) (e : Expr) : Bool := match e with
  | .List es _ => f es
  | _ => false
theorem xList_el {P : Expr → Prop} {f : (List Expr) → Bool} {e : Expr} (h : xList f e = true) (k : ∀ a0 a1, f a0 = true → P (.List a0 a1)) : P e := by
  cases e <;> first | exact k _ _ h | exact ff h
noncomputable def xDict (f : (List (Option Expr)) → (List Expr) → Bool) (e : Expr) : Bool := match e with
  | .Dict ks vs _ => f ks vs
  | _ => false
theorem xDict_el {P : Expr → Prop} {f : (List (Option Expr)) → (List Expr) → Bool} {e : Expr} (h : xDict f e = true) (k : ∀ a0 a1 a2, f a0 a1 = true → P (.Dict a0 a1 a2)) : P e := by
  cases e <;> first | exact k _ _ _ h | exact ff h
noncomputable def cInt (i : Int) (c : Const) : Bool := match c with
  | .int j => decide (i = j)
  | _ => false
noncomputable def cBool (b : Bool) (c : Const) : Bool := match c with
  | .bool j => b == j
  | _ => false
noncomputable def cNone (c : Const) : Bool := match c with
  | .none => true
  | _ => false
theorem cInt_el {P : Const → Prop} {i : Int} {c : Const} (h : cInt i c = true) (k : P (.int i)) : P c := by
  cases c <;> first | exact (of_decide_eq_true h) ▸ k | exact ff h
theorem cBool_el {P : Const → Prop} {i : Bool} {c : Const} (h : cBool i c = true) (k : P (.bool i)) : P c := by
  cases c <;> first | exact (eq_of_beq h) ▸ k | exact ff h
theorem cNone_el {P : Const → Prop} {c : Const} (h : cNone c = true) (k : P .none) : P c := by
  cases c <;> first | exact k | exact ff h
noncomputable def isUSub (o : UnaryOp) : Bool := match o with
  | .USub => true
  | _ => false
noncomputable def isNot (o : UnaryOp) : Bool := match o with
  | .Not => true
  | _ => false
noncomputable def isAnd (o : BoolOp) : Bool := match o with
  | .And => true
  | .Or => false
noncomputable def isOr (o : BoolOp) : Bool := match o with
  | .And => false
  | .Or => true
noncomputable def isLe (o : CmpOp) : Bool := match o with
  | .LtE => true
  | _ => false
theorem isUSub_el {P : UnaryOp → Prop} {o : UnaryOp} (h : isUSub o = true) (k : P .USub) : P o := by cases o <;> first | exact k | exact ff h
theorem isNot_el {P : UnaryOp → Prop} {o : UnaryOp} (h : isNot o = true) (k : P .Not) : P o := by cases o <;> first | exact k | exact ff h
theorem isAnd_el {P : BoolOp → Prop} {o : BoolOp} (h : isAnd o = true) (k : P .And) : P o := by cases o <;> first | exact k | exact ff h
theorem isOr_el {P : BoolOp → Prop} {o : BoolOp} (h : isOr o = true) (k : P .Or) : P o := by cases o <;> first | exact k | exact ff h
theorem isLe_el {P : CmpOp → Prop} {o : CmpOp} (h : isLe o = true) (k : P .LtE) : P o := by cases o <;> first | exact k | exact ff h

noncomputable def sAssign (f : (List Expr) → Expr → Bool) (e : Stmt) : Bool := match e with
  | .Assign t v _ => f t v
  | _ => false
theorem sAssign_el {P : Stmt → Prop} {f : (List Expr) → Expr → Bool} {e : Stmt} (h : sAssign f e = true) (k : ∀ a0 a1 a2, f a0 a1 = true → P (.Assign a0 a1 a2)) : P e := by
  cases e <;> first | exact k _ _ _ h | exact ff h
noncomputable def yAssign (f : (List Expr) → Expr → List Stmt → Bool) (l : List Stmt) : Bool := match l with
  | [] => false
  | e :: r => sAssign (fun t v => f t v r) e
theorem yAssign_el {P : List Stmt → Prop} {f : (List Expr) → Expr → List Stmt → Bool} {l : List Stmt} (h : yAssign f l = true) (k : ∀ a0 a1 a2 r, f a0 a1 r = true → P (.Assign a0 a1 a2 :: r)) : P l := by
  cases l with
  | nil => exact ff h
  | cons e r => exact sAssign_el (P := fun e => P (e :: r)) h fun a0 a1 a2 => k a0 a1 a2 r
noncomputable def sAug (f : Expr → Operator → Expr → Bool) (e : Stmt) : Bool := match e with
  | .AugAssign t o v _ => f t o v
  | _ => false
theorem sAug_el {P : Stmt → Prop} {f : Expr → Operator → Expr → Bool} {e : Stmt} (h : sAug f e = true) (k : ∀ a0 a1 a2 a3, f a0 a1 a2 = true → P (.AugAssign a0 a1 a2 a3)) : P e := by
  cases e <;> first | exact k _ _ _ _ h | exact ff h
noncomputable def yAug (f : Expr → Operator → Expr → List Stmt → Bool) (l : List Stmt) : Bool := match l with
  | [] => false
  | e :: r => sAug (fun t o v => f t o v r) e
theorem yAug_el {P : List Stmt → Prop} {f : Expr → Operator → Expr → List Stmt → Bool} {l : List Stmt} (h : yAug f l = true) (k : ∀ a0 a1 a2 a3 r, f a0 a1 a2 r = true → P (.AugAssign a0 a1 a2 a3 :: r)) : P l := by
  cases l with
  | nil => exact ff h
  | cons e r => exact sAug_el (P := fun e => P (e :: r)) h fun a0 a1 a2 a3 => k a0 a1 a2 a3 r
noncomputable def sIf (f : Expr → (List Stmt) → (List Stmt) → Bool) (e : Stmt) : Bool := match e with
  | .If x b o _ => f x b o
  | _ => false
theorem sIf_el {P : Stmt → Prop} {f : Expr → (List Stmt) → (List Stmt) → Bool} {e : Stmt} (h : sIf f e = true) (k : ∀ a0 a1 a2 a3, f a0 a1 a2 = true → P (.If a0 a1 a2 a3)) : P e := by
  cases e <;> first | exact k _ _ _ _ h | exact ff h
noncomputable def yIf (f : Expr → (List Stmt) → (List Stmt) → List Stmt → Bool) (l : List Stmt) : Bool := match l with
  | [] => false
  | e :: r => sIf (fun x b o => f x b o r) e
theorem yIf_el {P : List Stmt → Prop} {f : Expr → (List Stmt) → (List Stmt) → List Stmt → Bool} {l : List Stmt} (h : yIf f l = true) (k : ∀ a0 a1 a2 a3 r, f a0 a1 a2 r = true → P (.If a0 a1 a2 a3 :: r)) : P l := by
  cases l with
  | nil => exact ff h
  | cons e r => exact sIf_el (P := fun e => P (e :: r)) h fun a0 a1 a2 a3 => k a0 a1 a2 a3 r
noncomputable def sWhile (f : Expr → (List Stmt) → (List Stmt) → Bool) (e : Stmt) : Bool := match e with
  | .While x b o _ => f x b o
  | _ => false
theorem sWhile_el {P : Stmt → Prop} {f : Expr → (List Stmt) → (List Stmt) → Bool} {e : Stmt} (h : sWhile f e = true) (k : ∀ a0 a1 a2 a3, f a0 a1 a2 = true → P (.While a0 a1 a2 a3)) : P e := by
  cases e <;> first | exact k _ _ _ _ h | exact ff h
noncomputable def yWhile (f : Expr → (List Stmt) → (List Stmt) → List Stmt → Bool) (l : List Stmt) : Bool := match l with
  | [] => false
  | e :: r => sWhile (fun x b o => f x b o r) e
theorem yWhile_el {P : List Stmt → Prop} {f : Expr → (List Stmt) → (List Stmt) → List Stmt → Bool} {l : List Stmt} (h : yWhile f l = true) (k : ∀ a0 a1 a2 a3 r, f a0 a1 a2 r = true → P (.While a0 a1 a2 a3 :: r)) : P l := by
  cases l with
  | nil => exact ff h
  | cons e r => exact sWhile_el (P := fun e => P (e :: r)) h fun a0 a1 a2 a3 => k a0 a1 a2 a3 r
noncomputable def sFor (f : Expr → Expr → (List Stmt) → (List Stmt) → Bool) (e : Stmt) : Bool := match e with
  | .For t x b o _ => f t x b o
  | _ => false
theorem sFor_el {P : Stmt → Prop} {f : Expr → Expr → (List Stmt) → (List Stmt) → Bool} {e : Stmt} (h : sFor f e = true) (k : ∀ a0 a1 a2 a3 a4, f a0 a1 a2 a3 = true → P (.For a0 a1 a2 a3 a4)) : P e := by
  cases e <;> first | exact k _ _ _ _ _ h | exact ff h
noncomputable def yFor (f : Expr → Expr → (List Stmt) → (List Stmt) → List Stmt → Bool) (l : List Stmt) : Bool := match l with
  | [] => false
  | e :: r => sFor (fun t x b o => f t x b o r) e
theorem yFor_el {P : List Stmt → Prop} {f : Expr → Expr → (List Stmt) → (List Stmt) → List Stmt → Bool} {l : List Stmt} (h : yFor f l = true) (k : ∀ a0 a1 a2 a3 a4 r, f a0 a1 a2 a3 r = true → P (.For a0 a1 a2 a3 a4 :: r)) : P l := by
  cases l with
  | nil => exact ff h
  | cons e r => exact sFor_el (P := fun e => P (e :: r)) h fun a0 a1 a2 a3 a4 => k a0 a1 a2 a3 a4 r
noncomputable def sExpr (f : Expr → Bool) (e : Stmt) : Bool := match e with
  | .Expr x _ => f x
  | _ => false
theorem sExpr_el {P : Stmt → Prop} {f : Expr → Bool} {e : Stmt} (h : sExpr f e = true) (k : ∀ a0 a1, f a0 = true → P (.Expr a0 a1)) : P e := by
  cases e <;> first | exact k _ _ h | exact ff h
noncomputable def yExpr (f : Expr → List Stmt → Bool) (l : List Stmt) : Bool := match l with
  | [] => false
  | e :: r => sExpr (fun x => f x r) e
theorem yExpr_el {P : List Stmt → Prop} {f : Expr → List Stmt → Bool} {l : List Stmt} (h : yExpr f l = true) (k : ∀ a0 a1 r, f a0 r = true → P (.Expr a0 a1 :: r)) : P l := by
  cases l with
  | nil => exact ff h
  | cons e r => exact sExpr_el (P := fun e => P (e :: r)) h fun a0 a1 => k a0 a1 r
noncomputable def sReturn (f : (Option Expr) → Bool) (e : Stmt) : Bool := match e with
  | .Return x _ => f x
  | _ => false
theorem sReturn_el {P : Stmt → Prop} {f : (Option Expr) → Bool} {e : Stmt} (h : sReturn f e = true) (k : ∀ a0 a1, f a0 = true → P (.Return a0 a1)) : P e := by
  cases e <;> first | exact k _ _ h | exact ff h
noncomputable def yReturn (f : (Option Expr) → List Stmt → Bool) (l : List Stmt) : Bool := match l with
  | [] => false
  | e :: r => sReturn (fun x => f x r) e
theorem yReturn_el {P : List Stmt → Prop} {f : (Option Expr) → List Stmt → Bool} {l : List Stmt} (h : yReturn f l = true) (k : ∀ a0 a1 r, f a0 r = true → P (.Return a0 a1 :: r)) : P l := by
  cases l with
  | nil => exact ff h
  | cons e r => exact sReturn_el (P := fun e => P (e :: r)) h fun a0 a1 => k a0 a1 r
noncomputable def sCont (e : Stmt) : Bool := match e with
  | .Continue _ => true
  | _ => false
noncomputable def yCont (l : List Stmt) : Bool := match l with
  | [] => false
  | e :: _ => sCont e
theorem yCont_el {P : List Stmt → Prop} {l : List Stmt} (h : yCont l = true) (k : ∀ p r, P (.Continue p :: r)) : P l := by
  cases l with
  | nil => exact ff h
  | cons e r => cases e <;> first | exact k _ _ | exact ff h

/-! ## a piece of the row's tree says the same as a piece of the small language -/
noncomputable def fnames : List Str := ["capital", "constant_end", "count_end", "hollerith", "squeeze", "squeezed", "depths", "closing",
  "name_end", "digits_end", "is_target", "is_balanced", "equals_at", "is_do_head", "word_of_if", "word_of_goto", "word_of_type",
  "word_by_begin", "classify", "_law_whole", "_law_begins", "_law_lone", "_law_outline", "_law_first", "_law_is_name",
  "_law_is_target", "_law_typed", "_law_word", "_law_spread"]
noncomputable def gnames : List Str := ["DIGITS_squeeze", "AHEAD_OF_COUNT", "DIGITS_classify", "LETTERS", "WHOLE", "TYPES", "BEGINS",
  "_law_pieces", "_law_letters", "_law_digits"]

section
variable (sc : Scope) (nm : List Str)
noncomputable def isGl (x : Str) : Bool := sc.names.lookup x == some .globalImplicit && !(x == ("__debug__" : Str))
noncomputable def isB (n : String) : Expr → Bool
  | .Name x _ => x == Str.ofString n && isGl sc x
  | _ => false
noncomputable def isF (f : Nat) : Expr → Bool
  | .Name x _ => fnames[f]? == some x && isGl sc x
  | _ => false
noncomputable def isL (i : Nat) : Expr → Bool
  | .Name x _ => nm[i]? == some x && sc.names.lookup x == some .local && !(x == ("__debug__" : Str))
  | _ => false
noncomputable def isS (x : List Nat) : Expr → Bool
  | .Constant (.str s) _ _ => s.cps.toList == x && okS x
  | _ => false
noncomputable def areS : List (List Nat) → List Expr → Bool
  | [], [] => true
  | x :: r, e :: s => isS x e && areS r s
  | _, _ => false
noncomputable def areK : List (List Nat × List Nat) → List (Option Expr) → List Expr → Bool
  | [], [], [] => true
  | (x, y) :: r, some e :: s, d :: t => isS x e && isS y d && areK r s t
  | _, _, _ => false
noncomputable def noSup : Expr → Bool
  | .Call (.Name x _) _ _ _ => !(x == ("super" : Str))
  | _ => true
noncomputable def noKw : List Keyword → Bool
  | [] => true
  | _ => false

noncomputable def mE : ME → Expr → Bool
  | .loc i => isL sc nm i
  | .int i => xConst (cInt i)
  | .neg i => xUn fun o x => isUSub o && xConst (cInt i) x
  | .str x => isS x
  | .bool b => xConst (cBool b)
  | .none => xConst cNone
  | .glob g => xName fun x => gnames[g]? == some x && isGl sc x
  | .bin o a b => xBin fun l p r => decide (o = p) && mE a l && mE b r
  | .not a => xUn fun o x => isNot o && mE a x
  | .cmp o a b => xCmp fun l ps rs => l1 (fun p => l1 (fun r => decide (o = p) && mE a l && mE b r && !behindInMarks p r) rs) ps
  | .chain a b c => xCmp fun l ps rs => l2 (fun p q => isLe p && isLe q && l2 (fun r t => mE a l && mE b r && mE c t) rs) ps
  | .and a b => xBool fun o es => l2 (fun x y => isAnd o && mE a x && mE b y) es
  | .and3 a b c => xBool fun o es => l3 (fun x y z => isAnd o && mE a x && mE b y && mE c z) es
  | .or a b => xBool fun o es => l2 (fun x y => isOr o && mE a x && mE b y) es
  | .cond c a b => xIf fun t x y => mE c t && mE a x && mE b y
  | .len a => xCall fun f xs kw _ => l1 (fun x => isB sc "len" f && mE a x && noKw kw) xs
  | .chr a => xCall fun f xs kw _ => l1 (fun x => isB sc "chr" f && mE a x && noKw kw) xs
  | .ord a => xCall fun f xs kw _ => l1 (fun x => isB sc "ord" f && mE a x && noKw kw) xs
  | .abs a => xCall fun f xs kw _ => l1 (fun x => isB sc "abs" f && mE a x && noKw kw) xs
  | .max a b => xCall fun f xs kw _ => l2 (fun x y => isB sc "max" f && mE a x && mE b y && noKw kw) xs
  | .sorted a => xCall fun f xs kw _ => l1 (fun x => isB sc "sorted" f && mE a x && noKw kw) xs
  | .call0 k => xCall fun f xs kw _ => l0 xs && isF sc k f && noKw kw
  | .call1 k a => xCall fun f xs kw _ => l1 (fun x => isF sc k f && mE a x && noKw kw) xs
  | .call2 k a b => xCall fun f xs kw _ => l2 (fun x y => isF sc k f && mE a x && mE b y && noKw kw) xs
  | .find a b => xCall fun f xs kw p => xAttr (fun o n ap => l1 (fun x => n == ("find" : Str) && noSup o && ap.endLine == p.line && mE a o && mE b x && noKw kw) xs) f
  | .starts a b => xCall fun f xs kw p => xAttr (fun o n ap => l1 (fun x => n == ("startswith" : Str) && noSup o && ap.endLine == p.line && mE a o && mE b x && noKw kw) xs) f
  | .count a b => xCall fun f xs kw p => xAttr (fun o n ap => l1 (fun x => n == ("count" : Str) && noSup o && ap.endLine == p.line && mE a o && mE b x && noKw kw) xs) f
  | .dget a b c => xCall fun f xs kw p => xAttr (fun o n ap => l2 (fun x y => n == ("get" : Str) && noSup o && ap.endLine == p.line && mE a o && mE b x && (mE c y && noKw kw)) xs) f
  | .slF a lo => xSub fun v k => xSlice (fun l u s => o1 (fun l => o0 u && o0 s && mE a v && mE lo l) l) k
  | .slT a hi => xSub fun v k => xSlice (fun l u s => o1 (fun u => o0 l && o0 s && mE a v && mE hi u) u) k
  | .sl a lo hi => xSub fun v k => xSlice (fun l u s => o1 (fun l => o1 (fun u => o0 s && mE a v && mE lo l && mE hi u) u) l) k
  | .idx a i => xSub fun v k => mE a v && mE i k
  | .tup a b => xTup fun es => l2 (fun x y => mE a x && mE b y) es
  | .list2 a b => xList fun es => l2 (fun x y => mE a x && mE b y) es
  | .texts l => xList fun es => areS l es
  | .dict l => xDict fun ks vs => areK l ks vs

noncomputable def isCall : Expr → Bool
  | .Call _ _ _ _ => true
  | _ => false
noncomputable def noStmts : List Stmt → Bool
  | [] => true
  | _ => false

noncomputable def mB : MB → List Stmt → Bool
  | .stuck => fun _ => true
  | .done => l0
  | .assign i e k => yAssign fun ts v r => l1 (fun t => isL sc nm i t && mE sc nm e v && mB k r) ts
  | .unpack i j e k => yAssign fun ts v r => l1 (xTup fun es => l2 (fun t u => isL sc nm i t && isL sc nm j u && isCall v && mE sc nm e v && mB k r) es) ts
  | .aug i o e k => yAug fun t p v r => isL sc nm i t && decide (o = p) && mE sc nm e v && mB k r
  | .ite c t e k => yIf fun x b o r => mE sc nm c x && mB t b && mB e o && mB k r
  | .whil c b k => yWhile fun x s o r => mE sc nm c x && mB b s && noStmts o && mB k r
  | .forStr i e b k => yFor fun t x s o r => isL sc nm i t && mE sc nm e x && mB b s && noStmts o && mB k r
  | .forList i e b k => yFor fun t x s o r => isL sc nm i t && mE sc nm e x && mB b s && noStmts o && mB k r
  | .forRows i j e b k => yFor fun t x s o r => xTup (fun es => l2 (fun t u => isL sc nm i t && isL sc nm j u && mE sc nm e x && mB b s && noStmts o && mB k r) es) t
  | .forRange1 i hi b k => yFor fun t x s o r => xCall (fun f xs kw _ => l1 (fun x => isL sc nm i t && isB sc "range" f && mE sc nm hi x && (noKw kw && mB b s && noStmts o && mB k r)) xs) x
  | .forRange2 i lo hi b k => yFor fun t x s o r => xCall (fun f xs kw _ => l2 (fun x y => isL sc nm i t && isB sc "range" f && mE sc nm lo x && mE sc nm hi y && (noKw kw && mB b s && noStmts o && mB k r)) xs) x
  | .forRange3 i lo hi st b k => yFor fun t x s o r => xCall (fun f xs kw _ => l3 (fun x y z => isL sc nm i t && isB sc "range" f && mE sc nm lo x && mE sc nm hi y && mE sc nm st z && (noKw kw && mB b s && noStmts o && mB k r)) xs) x
  | .append i e k => yExpr fun x r => xCall (fun f xs kw p => xAttr (fun o n ap => l1 (fun x => isL sc nm i o && n == ("append" : Str) && ap.endLine == p.line && mE sc nm e x && noKw kw && mB k r) xs) f) x
  | .ret e => yReturn fun x _ => o1 (mE sc nm e) x
  | .retOwn i => yReturn fun x _ => o1 (isL sc nm i) x
  | .cont => yCont
end

/-! ## looks at values -/
theorem nn {α : Type} {P : Prop} {q : α} (h : Option.none = some q) : P := Option.noConfusion rfl (heq_of_eq h)
theorem some_el {α : Type} {P : α → Prop} {x r : α} (h : some x = some r) (k : P x) : P r := Option.some.inj h ▸ k
theorem if_el {α : Type} {P : Prop} {c : Prop} [Decidable c] {x : Option α} {r : α} (h : (if c then x else Option.none) = some r) (k : c → x = some r → P) : P := by
  by_cases hc : c
  · rw [if_pos hc] at h; exact k hc h
  · rw [if_neg hc] at h; exact nn h
theorem if2_el {α : Type} {P : Prop} {c : Prop} [Decidable c] {x y r : Option α} (h : (if c then x else y) = r) (k : c → x = r → P) (k2 : ¬ c → y = r → P) : P := by
  by_cases hc : c
  · rw [if_pos hc] at h; exact k hc h
  · rw [if_neg hc] at h; exact k2 hc h
theorem nt {b : Bool} (h : (!b) = true) : b = false := by
  cases b
  · rfl
  · exact ff h
section
variable {α : Type} {q : α} {P : PV → Prop} {x : PV}
theorem pint_el {f : Int → Option α} (h : (match x with
    | .fl (.int i) => f i
    | _ => Option.none) = some q) (k : ∀ i, f i = some q → P (.fl (.int i))) : P x := by
  cases x <;> first | exact nn h | skip
  rename_i y; cases y <;> first | exact nn h | exact k _ h
theorem pstr_el {f : List Nat → Option α} (h : (match x with
    | .fl (.str i) => f i
    | _ => Option.none) = some q) (k : ∀ i, f i = some q → P (.fl (.str i))) : P x := by
  cases x <;> first | exact nn h | skip
  rename_i y; cases y <;> first | exact nn h | exact k _ h
theorem pone_el {f : Nat → Option α} (h : (match x with
    | .fl (.str [c]) => f c
    | _ => Option.none) = some q) (k : ∀ c, f c = some q → P (.fl (.str [c]))) : P x := by
  cases x <;> first | exact nn h | skip
  rename_i y; cases y <;> first | exact nn h | skip
  rename_i z
  cases z with
  | nil => exact nn h
  | cons c r =>
    cases r with
    | nil => exact k c h
    | cons => exact nn h
theorem plist_el {f : List Fl → Option α} (h : (match x with
    | .list l => f l
    | _ => Option.none) = some q) (k : ∀ i, f i = some q → P (.list i)) : P x := by
  cases x <;> first | exact nn h | exact k _ h
theorem pnone_el {f : Option α} (h : (match x with
    | .fl .none => f
    | _ => Option.none) = some q) (k : f = some q → P (.fl .none)) : P x := by
  cases x <;> first | exact nn h | skip
  rename_i y; cases y <;> first | exact nn h | exact k h
theorem pis_el {f : Int → Option α} {g : List Nat → Option α} (h : (match x with
    | .fl (.int i) => f i
    | .fl (.str i) => g i
    | _ => Option.none) = some q) (k : ∀ i, f i = some q → P (.fl (.int i))) (k2 : ∀ i, g i = some q → P (.fl (.str i))) : P x := by
  cases x <;> first | exact nn h | skip
  rename_i y; cases y <;> first | exact nn h | exact k _ h | exact k2 _ h
theorem padd_el {f : Int → Option α} {g : List Nat → Option α} {j : List Fl → Option α} (h : (match x with
    | .fl (.int i) => f i
    | .fl (.str i) => g i
    | .list l => j l
    | _ => Option.none) = some q) (k : ∀ i, f i = some q → P (.fl (.int i))) (k2 : ∀ i, g i = some q → P (.fl (.str i))) (k3 : ∀ i, j i = some q → P (.list i)) : P x := by
  cases x <;> first | exact nn h | exact k3 _ h | skip
  rename_i y; cases y <;> first | exact nn h | exact k _ h | exact k2 _ h
theorem pmul_el {f : Int → Option α} {g : Nat → Option α} (h : (match x with
    | .fl (.int i) => f i
    | .fl (.str [c]) => g c
    | _ => Option.none) = some q) (k : ∀ i, f i = some q → P (.fl (.int i))) (k2 : ∀ i, g i = some q → P (.fl (.str [i]))) : P x := by
  cases x <;> first | exact nn h | skip
  rename_i y; cases y <;> first | exact nn h | exact k _ h | skip
  rename_i z
  cases z with
  | nil => exact nn h
  | cons c r =>
    cases r with
    | nil => exact k2 c h
    | cons => exact nn h
theorem psd_el {g : List Nat → Option α} {f : List (List Nat × List Nat) → Option α} (h : (match x with
    | .fl (.str i) => g i
    | .dict l => f l
    | _ => Option.none) = some q) (k : ∀ i, g i = some q → P (.fl (.str i))) (k2 : ∀ i, f i = some q → P (.dict i)) : P x := by
  cases x <;> first | exact nn h | exact k2 _ h | skip
  rename_i y; cases y <;> first | exact nn h | exact k _ h
theorem pns_el {f : Option α} {g : List Nat → Option α} (h : (match x with
    | .fl .none => f
    | .fl (.str i) => g i
    | _ => Option.none) = some q) (k : f = some q → P (.fl .none)) (k2 : ∀ i, g i = some q → P (.fl (.str i))) : P x := by
  cases x <;> first | exact nn h | skip
  rename_i y; cases y <;> first | exact nn h | exact k h | exact k2 _ h
theorem pix_el {f : List Nat → Option α} {g j : List Fl → Option α} {l : List (List Nat × List Nat) → Option α} (h : (match x with
    | .fl (.str i) => f i
    | .list i => g i
    | .tup i => j i
    | .dict i => l i
    | _ => Option.none) = some q) (k : ∀ i, f i = some q → P (.fl (.str i))) (k2 : ∀ i, g i = some q → P (.list i)) (k3 : ∀ i, j i = some q → P (.tup i)) (k4 : ∀ i, l i = some q → P (.dict i)) : P x := by
  cases x <;> first | exact nn h | exact k2 _ h | exact k3 _ h | exact k4 _ h | skip
  rename_i y; cases y <;> first | exact nn h | exact k _ h
end
end Mine

end
section
open PySem PySem.W PyProof.Rows
namespace Mine

/-- capital: 1 parameters -/
noncomputable def n_capital : List Str := ["sign"]
noncomputable def m_capital : MB :=
  (.ite (.chain (.str [97]) (.loc 0) (.str [122]))
    (.ret (.chr (.bin .Sub (.ord (.loc 0)) (.int 32))))
    .done
    (.ret (.loc 0)))
/-- constant_end: 2 parameters -/
noncomputable def n_constant_end : List Str := ["text", "at", "end"]
noncomputable def m_constant_end : MB :=
  (.assign 2 (.bin .Add (.loc 1) (.int 1)) (.whil (.cmp .Lt (.loc 2) (.len (.loc 0)))
    (.ite (.cmp .Eq (.idx (.loc 0) (.loc 2)) (.str [39]))
    (.ite (.cmp .NotEq (.sl (.loc 0) (.bin .Add (.loc 2) (.int 1)) (.bin .Add (.loc 2) (.int 2))) (.str [39]))
    (.ret (.bin .Add (.loc 2) (.int 1)))
    .done
    (.aug 2 .Add (.int 1) .done))
    .done
    (.aug 2 .Add (.int 1) .done))
    .stuck))
/-- count_end: 2 parameters -/
noncomputable def n_count_end : List Str := ["text", "at", "count", "end"]
noncomputable def m_count_end : MB :=
  (.assign 2 (.neg 1) (.assign 3 (.loc 1) (.whil (.and (.cmp .Lt (.loc 3) (.len (.loc 0))) (.or (.cmp .Eq (.idx (.loc 0) (.loc 3)) (.str [32])) (.cmp .In (.idx (.loc 0) (.loc 3)) (.glob 0))))
    (.ite (.cmp .NotEq (.idx (.loc 0) (.loc 3)) (.str [32]))
    (.assign 2 (.bin .Add (.bin .Mult (.max (.loc 2) (.int 0)) (.int 10)) (.find (.glob 0) (.idx (.loc 0) (.loc 3)))) .done)
    .done
    (.aug 3 .Add (.int 1) .done))
    (.ite (.or (.cmp .Lt (.loc 2) (.int 0)) (.cmp .NotEq (.call1 0 (.sl (.loc 0) (.loc 3) (.bin .Add (.loc 3) (.int 1)))) (.str [72])))
    (.ret (.tup (.neg 1) (.loc 1)))
    .done
    (.ret (.tup (.loc 2) (.bin .Add (.loc 3) (.int 1))))))))
/-- hollerith: 2 parameters -/
noncomputable def n_hollerith : List Str := ["text", "at", "count", "begin", "inner"]
noncomputable def m_hollerith : MB :=
  (.unpack 2 3 (.call2 2 (.loc 0) (.loc 1)) (.ite (.cmp .Lt (.loc 2) (.int 0))
    (.ret (.tup (.str []) (.loc 1)))
    .done
    .stuck))
/-- squeeze: 1 parameters, its own list in slot 1 -/
noncomputable def n_squeeze : List Str := ["text", "out", "last", "at", "sign", "constant", "end", "part"]
noncomputable def m_squeeze : MB :=
  (.assign 2 (.str []) (.assign 3 (.int 0) (.whil (.cmp .Lt (.loc 3) (.len (.loc 0)))
    (.assign 4 (.idx (.loc 0) (.loc 3)) (.ite (.cmp .Eq (.loc 4) (.str [32]))
    (.aug 3 .Add (.int 1) .cont)
    .done
    (.assign 5 (.str []) (.assign 6 (.loc 3) (.ite (.cmp .Eq (.loc 4) (.str [39]))
    (.assign 6 (.call2 1 (.loc 0) (.loc 3)) (.assign 5 (.sl (.loc 0) (.loc 3) (.loc 6)) .done))
    (.ite (.and3 (.cmp .In (.loc 4) (.glob 0)) (.cmp .NotEq (.loc 2) (.str [])) (.cmp .In (.loc 2) (.glob 1)))
    (.unpack 5 6 (.call2 3 (.loc 0) (.loc 3)) .done)
    .done
    .done)
    (.ite (.cmp .Eq (.loc 5) (.str []))
    (.append 1 (.tup (.call1 0 (.loc 4)) (.bool false)) (.aug 3 .Add (.int 1) .done))
    (.forStr 7 (.loc 5)
    (.append 1 (.tup (.loc 7) (.bool true)) .done)
    (.assign 3 (.loc 6) .done))
    (.assign 2 (.loc 4) .done)))))))
    (.retOwn 1))))
/-- squeezed: 1 parameters -/
noncomputable def n_squeezed : List Str := ["text", "row", "sign", "is_inside"]
noncomputable def m_squeezed : MB :=
  (.assign 1 (.str []) (.forRows 2 3 (.call1 4 (.loc 0))
    (.aug 1 .Add (.loc 2) .done)
    (.ret (.loc 1))))
/-- depths: 1 parameters, its own list in slot 1 -/
noncomputable def n_depths : List Str := ["row", "out", "depth", "is_inside", "sign"]
noncomputable def m_depths : MB :=
  (.assign 2 (.int 0) (.assign 3 (.bool false) (.forStr 4 (.loc 0)
    (.ite (.cmp .Eq (.loc 4) (.str [39]))
    (.assign 3 (.not (.loc 3)) (.append 1 (.neg 1) .done))
    (.ite (.loc 3)
    (.append 1 (.neg 1) .done)
    (.ite (.and (.cmp .Eq (.loc 4) (.str [40])) (.cmp .GtE (.loc 2) (.int 0)))
    (.append 1 (.loc 2) (.aug 2 .Add (.int 1) .done))
    (.ite (.and (.cmp .Eq (.loc 4) (.str [41])) (.cmp .Gt (.loc 2) (.int 0)))
    (.aug 2 .Sub (.int 1) (.append 1 (.loc 2) .done))
    (.ite (.cmp .Eq (.loc 4) (.str [41]))
    (.assign 2 (.neg 2) .done)
    .done
    (.append 1 (.loc 2) .done))
    .done)
    .done)
    .done)
    .done)
    (.retOwn 1))))
/-- closing: 2 parameters -/
noncomputable def n_closing : List Str := ["row", "at", "levels", "end"]
noncomputable def m_closing : MB :=
  (.assign 2 (.call1 6 (.loc 0)) (.forRange2 3 (.bin .Add (.loc 1) (.int 1)) (.len (.loc 0))
    (.ite (.and (.cmp .Eq (.idx (.loc 0) (.loc 3)) (.str [41])) (.cmp .Eq (.idx (.loc 2) (.loc 3)) (.idx (.loc 2) (.loc 1))))
    (.ret (.loc 3))
    .done
    .done)
    (.ret (.neg 1))))
/-- name_end: 2 parameters -/
noncomputable def n_name_end : List Str := ["row", "at", "end"]
noncomputable def m_name_end : MB :=
  (.ite (.or (.cmp .Eq (.sl (.loc 0) (.loc 1) (.bin .Add (.loc 1) (.int 1))) (.str [])) (.cmp .NotIn (.idx (.loc 0) (.loc 1)) (.glob 3)))
    (.ret (.loc 1))
    .done
    (.assign 2 (.loc 1) (.whil (.and (.cmp .Lt (.loc 2) (.len (.loc 0))) (.or (.cmp .In (.idx (.loc 0) (.loc 2)) (.glob 3)) (.cmp .In (.idx (.loc 0) (.loc 2)) (.glob 2))))
    (.aug 2 .Add (.int 1) .done)
    (.ret (.loc 2)))))
/-- digits_end: 2 parameters -/
noncomputable def n_digits_end : List Str := ["row", "at", "end"]
noncomputable def m_digits_end : MB :=
  (.assign 2 (.loc 1) (.whil (.and (.cmp .Lt (.loc 2) (.len (.loc 0))) (.cmp .In (.idx (.loc 0) (.loc 2)) (.glob 2)))
    (.aug 2 .Add (.int 1) .done)
    (.ret (.loc 2))))
/-- is_target: 1 parameters -/
noncomputable def n_is_target : List Str := ["text", "at", "turn"]
noncomputable def m_is_target : MB :=
  (.assign 1 (.call2 8 (.loc 0) (.int 0)) (.ite (.cmp .Eq (.loc 1) (.int 0))
    (.ret (.bool false))
    .done
    (.forRange1 2 (.int 2)
    (.ite (.cmp .Eq (.sl (.loc 0) (.loc 1) (.bin .Add (.loc 1) (.int 1))) (.str [40]))
    (.assign 1 (.bin .Add (.call2 7 (.loc 0) (.loc 1)) (.int 1)) (.ite (.cmp .Eq (.loc 1) (.int 0))
    (.ret (.bool false))
    .done
    .done))
    .done
    .done)
    (.ret (.cmp .Eq (.loc 1) (.len (.loc 0)))))))
/-- is_balanced: 2 parameters -/
noncomputable def n_is_balanced : List Str := ["row", "levels", "depth", "place"]
noncomputable def m_is_balanced : MB :=
  (.assign 2 (.int 0) (.forRange1 3 (.len (.loc 0))
    (.ite (.cmp .Eq (.idx (.loc 1) (.loc 3)) (.neg 2))
    (.ret (.bool false))
    .done
    (.ite (.and (.cmp .GtE (.idx (.loc 1) (.loc 3)) (.int 0)) (.cmp .Eq (.idx (.loc 0) (.loc 3)) (.str [40])))
    (.aug 2 .Add (.int 1) .done)
    .done
    (.ite (.and (.cmp .GtE (.idx (.loc 1) (.loc 3)) (.int 0)) (.cmp .Eq (.idx (.loc 0) (.loc 3)) (.str [41])))
    (.aug 2 .Sub (.int 1) .done)
    .done
    .done)))
    (.ret (.cmp .Eq (.loc 2) (.int 0)))))
/-- equals_at: 2 parameters -/
noncomputable def n_equals_at : List Str := ["row", "levels", "found", "place"]
noncomputable def m_equals_at : MB :=
  (.assign 2 (.neg 1) (.forRange1 3 (.len (.loc 0))
    (.ite (.and3 (.cmp .Eq (.idx (.loc 1) (.loc 3)) (.int 0)) (.cmp .Eq (.idx (.loc 0) (.loc 3)) (.str [61])) (.cmp .Lt (.loc 2) (.int 0)))
    (.assign 2 (.loc 3) .done)
    .done
    (.ite (.and3 (.cmp .Eq (.idx (.loc 1) (.loc 3)) (.int 0)) (.cmp .Eq (.idx (.loc 0) (.loc 3)) (.str [44])) (.cmp .GtE (.loc 2) (.int 0)))
    (.ret (.tup (.loc 2) (.bool true)))
    .done
    .done))
    (.ret (.tup (.loc 2) (.bool false)))))
/-- is_do_head: 1 parameters -/
noncomputable def n_is_do_head : List Str := ["head", "end"]
noncomputable def m_is_do_head : MB :=
  (.assign 1 (.call2 9 (.loc 0) (.int 2)) (.ite (.or (.cmp .NotEq (.slT (.loc 0) (.int 2)) (.str [68, 79])) (.cmp .Eq (.loc 1) (.int 2)))
    (.ret (.bool false))
    .done
    (.ite (.cmp .Eq (.sl (.loc 0) (.loc 1) (.bin .Add (.loc 1) (.int 1))) (.str [44]))
    (.aug 1 .Add (.int 1) .done)
    .done
    (.ret (.and (.cmp .Eq (.call2 8 (.loc 0) (.loc 1)) (.len (.loc 0))) (.cmp .Lt (.loc 1) (.len (.loc 0))))))))
/-- word_of_if: 1 parameters -/
noncomputable def n_word_of_if : List Str := ["row", "rest"]
noncomputable def m_word_of_if : MB :=
  (.assign 1 (.slF (.loc 0) (.bin .Add (.call2 7 (.loc 0) (.int 2)) (.int 1))) (.ite (.cmp .Eq (.loc 1) (.str [84, 72, 69, 78]))
    (.ret (.str [105, 102]))
    .done
    (.ite (.cmp .Eq (.loc 1) (.str []))
    (.ret (.str []))
    .done
    (.ite (.cmp .In (.idx (.loc 1) (.int 0)) (.glob 2))
    (.ret (.str [97, 105, 102]))
    .done
    (.ret (.str [108, 105, 102]))))))
/-- word_of_goto: 1 parameters -/
noncomputable def n_word_of_goto : List Str := ["row"]
noncomputable def m_word_of_goto : MB :=
  (.ite (.cmp .Eq (.sl (.loc 0) (.int 4) (.int 5)) (.str [40]))
    (.ret (.str [99, 103, 111, 116, 111]))
    .done
    (.ite (.and (.cmp .NotEq (.sl (.loc 0) (.int 4) (.int 5)) (.str [])) (.cmp .Eq (.call2 9 (.loc 0) (.int 4)) (.len (.loc 0))))
    (.ret (.str [103, 111, 116, 111]))
    .done
    (.ite (.cmp .Gt (.call2 8 (.loc 0) (.int 4)) (.int 4))
    (.ret (.str [97, 103, 111, 116, 111]))
    .done
    (.ret (.str [])))))
/-- word_of_type: 1 parameters -/
noncomputable def n_word_of_type : List Str := ["row", "text", "word", "at", "end"]
noncomputable def m_word_of_type : MB :=
  (.forRows 1 2 (.glob 5)
    (.ite (.cmp .Eq (.slT (.loc 0) (.len (.loc 1))) (.loc 1))
    (.assign 3 (.len (.loc 1)) (.ite (.and (.cmp .Eq (.loc 2) (.str [99, 104, 97, 114, 97, 99, 116, 101, 114])) (.cmp .Eq (.sl (.loc 0) (.loc 3) (.bin .Add (.loc 3) (.int 1))) (.str [42])))
    (.assign 3 (.call2 9 (.loc 0) (.bin .Add (.loc 3) (.int 1))) (.ite (.cmp .Eq (.sl (.loc 0) (.loc 3) (.bin .Add (.loc 3) (.int 1))) (.str [40]))
    (.assign 3 (.bin .Add (.call2 7 (.loc 0) (.loc 3)) (.int 1)) .done)
    .done
    .done))
    .done
    (.ite (.cmp .Eq (.sl (.loc 0) (.loc 3) (.bin .Add (.loc 3) (.int 8))) (.str [70, 85, 78, 67, 84, 73, 79, 78]))
    (.assign 4 (.call2 8 (.loc 0) (.bin .Add (.loc 3) (.int 8))) (.ite (.and (.cmp .Gt (.loc 4) (.bin .Add (.loc 3) (.int 8))) (.cmp .Eq (.sl (.loc 0) (.loc 4) (.bin .Add (.loc 4) (.int 1))) (.str [40])))
    (.ret (.str [102, 117, 110, 99, 116, 105, 111, 110]))
    .done
    .done))
    .done
    (.ret (.loc 2)))))
    .done
    .done)
    (.ret (.str [])))
/-- word_by_begin: 1 parameters -/
noncomputable def n_word_by_begin : List Str := ["row", "text", "word"]
noncomputable def m_word_by_begin : MB :=
  (.forRows 1 2 (.glob 4)
    (.ite (.cmp .Eq (.loc 0) (.loc 1))
    (.ret (.loc 2))
    .done
    .done)
    (.ite (.cmp .Eq (.slT (.loc 0) (.int 3)) (.str [73, 70, 40]))
    (.ret (.call1 14 (.loc 0)))
    .done
    (.ite (.cmp .Eq (.slT (.loc 0) (.int 7)) (.str [69, 76, 83, 69, 73, 70, 40]))
    (.ret (.cond (.cmp .Eq (.slF (.loc 0) (.bin .Add (.call2 7 (.loc 0) (.int 6)) (.int 1))) (.str [84, 72, 69, 78])) (.str [101, 108, 115, 101, 105, 102]) (.str [])))
    .done
    (.ite (.cmp .Eq (.slT (.loc 0) (.int 4)) (.str [71, 79, 84, 79]))
    (.ret (.call1 15 (.loc 0)))
    .done
    (.ite (.and (.cmp .Eq (.slT (.loc 0) (.int 6)) (.str [65, 83, 83, 73, 71, 78])) (.cmp .Gt (.call2 9 (.loc 0) (.int 6)) (.int 6)))
    (.ret (.str [115, 101, 116, 108, 97, 98, 101, 108]))
    .done
    (.forRows 1 2 (.glob 6)
    (.ite (.cmp .Eq (.slT (.loc 0) (.len (.loc 1))) (.loc 1))
    (.ret (.loc 2))
    .done
    .done)
    (.ret (.call1 16 (.loc 0)))))))))
/-- classify: 1 parameters -/
noncomputable def n_classify : List Str := ["row", "levels", "at", "has_comma"]
noncomputable def m_classify : MB :=
  (.assign 1 (.call1 6 (.loc 0)) (.ite (.not (.call2 11 (.loc 0) (.loc 1)))
    (.ret (.str []))
    .done
    (.unpack 2 3 (.call2 12 (.loc 0) (.loc 1)) (.ite (.cmp .Lt (.loc 2) (.int 0))
    (.ret (.call1 17 (.loc 0)))
    .done
    (.ite (.loc 3)
    (.ret (.cond (.call1 13 (.slT (.loc 0) (.loc 2))) (.str [100, 111]) (.str [])))
    .done
    (.ite (.call1 10 (.slT (.loc 0) (.loc 2)))
    (.ret (.str [97, 115, 115, 105, 103, 110]))
    .done
    (.ite (.and (.cmp .Eq (.slT (.loc 0) (.int 3)) (.str [73, 70, 40])) (.call1 10 (.sl (.loc 0) (.bin .Add (.call2 7 (.loc 0) (.int 2)) (.int 1)) (.loc 2))))
    (.ret (.str [108, 105, 102]))
    .done
    (.ret (.str [])))))))))
/-- _law_whole: 0 parameters -/
noncomputable def n_law_whole : List Str := []
noncomputable def m_law_whole : MB :=
  (.ret (.texts [[68, 79, 49, 48, 73, 61, 49, 46, 49, 48], [68, 79, 49, 48, 73, 61, 49, 44, 49, 48], [68, 79, 49, 48, 44, 73, 61, 49, 44, 49, 48], [73, 70, 40, 51, 41, 61, 52], [73, 70, 40, 65, 46, 69, 81, 46, 66, 41, 88, 40, 49, 41, 61, 50], [73, 70, 40, 76, 41, 71, 79, 84, 79, 49, 48], [73, 70, 40, 88, 41, 49, 48, 44, 50, 48, 44, 51, 48], [73, 70, 40, 76, 41, 84, 72, 69, 78], [69, 76, 83, 69, 73, 70, 40, 76, 41, 84, 72, 69, 78], [70, 79, 82, 77, 65, 84, 40, 73, 41, 61, 49], [70, 79, 82, 77, 65, 84, 40, 73, 53, 44, 39, 61, 39, 41], [82, 69, 65, 76, 88, 61, 49], [82, 69, 65, 76, 88, 44, 89], [82, 69, 65, 76, 70, 85, 78, 67, 84, 73, 79, 78, 70, 40, 88, 41], [67, 72, 65, 82, 65, 67, 84, 69, 82, 42, 40, 42, 41, 70, 85, 78, 67, 84, 73, 79, 78, 70, 40, 41], [67, 72, 65, 82, 65, 67, 84, 69, 82, 42, 53, 65], [73, 78, 84, 69, 71, 69, 82, 65, 40, 49, 48, 41], [71, 79, 84, 79, 49, 48], [71, 79, 84, 79, 40, 49, 48, 44, 50, 48, 41, 44, 73], [71, 79, 84, 79, 73, 44, 40, 49, 48, 44, 50, 48, 41], [65, 83, 83, 73, 71, 78, 49, 48, 84, 79, 73], [65, 40, 73, 41, 40, 50, 58, 51, 41, 61, 39, 88, 39], [87, 82, 73, 84, 69, 40, 54, 44, 42, 41, 40, 65, 40, 73, 41, 44, 73, 61, 49, 44, 51, 41], [82, 69, 65, 68, 40, 53, 44, 49, 48, 44, 69, 78, 68, 61, 50, 48, 41, 88], [82, 69, 65, 68, 42, 44, 65], [80, 65, 82, 65, 77, 69, 84, 69, 82, 40, 65, 61, 49, 41], [69, 78, 68, 70, 73, 76, 69, 53], [69, 78, 68], [69, 78, 68, 73, 70], [69, 76, 83, 69], [67, 79, 78, 84, 73, 78, 85, 69], [82, 69, 84, 85, 82, 78, 49], [83, 84, 79, 80, 39, 65, 61, 66, 39], [67, 65, 76, 76, 70, 40, 88, 44, 42, 49, 48, 41], [66, 76, 79, 67, 75, 68, 65, 84, 65, 66], [68, 65, 84, 65, 88, 47, 51, 42, 49, 47], [69, 78, 84, 82, 89, 69, 40, 88, 41], [83, 65, 86, 69], [68, 79, 85, 66, 76, 69, 80, 82, 69, 67, 73, 83, 73, 79, 78, 68], [73, 77, 80, 76, 73, 67, 73, 84, 82, 69, 65, 76, 40, 65, 45, 72, 41], [69, 81, 85, 73, 86, 65, 76, 69, 78, 67, 69, 40, 65, 44, 66, 41], [80, 82, 73, 78, 84, 49, 48, 44, 88]]))
/-- _law_begins: 0 parameters -/
noncomputable def n_law_begins : List Str := []
noncomputable def m_law_begins : MB :=
  (.ret (.dict [([70, 79, 82, 77, 65, 84, 40], [102, 111, 114, 109, 97, 116]), ([67, 65, 76, 76], [99, 97, 108, 108]), ([82, 69, 84, 85, 82, 78], [114, 101, 116, 117, 114, 110]), ([83, 84, 79, 80], [115, 116, 111, 112]), ([80, 65, 85, 83, 69], [112, 97, 117, 115, 101]), ([82, 69, 65, 68], [114, 101, 97, 100]), ([87, 82, 73, 84, 69, 40], [119, 114, 105, 116, 101]), ([80, 82, 73, 78, 84], [112, 114, 105, 110, 116]), ([79, 80, 69, 78, 40], [111, 112, 101, 110]), ([67, 76, 79, 83, 69, 40], [99, 108, 111, 115, 101]), ([73, 78, 81, 85, 73, 82, 69, 40], [105, 110, 113, 117, 105, 114, 101]), ([66, 65, 67, 75, 83, 80, 65, 67, 69], [98, 97, 99, 107, 115, 112, 97, 99, 101]), ([82, 69, 87, 73, 78, 68], [114, 101, 119, 105, 110, 100]), ([69, 78, 68, 70, 73, 76, 69], [101, 110, 100, 102, 105, 108, 101]), ([73, 77, 80, 76, 73, 67, 73, 84], [105, 109, 112, 108, 105, 99, 105, 116]), ([80, 65, 82, 65, 77, 69, 84, 69, 82, 40], [112, 97, 114, 97, 109, 101, 116, 101, 114]), ([68, 73, 77, 69, 78, 83, 73, 79, 78], [100, 105, 109, 101, 110, 115, 105, 111, 110]), ([67, 79, 77, 77, 79, 78], [99, 111, 109, 109, 111, 110]), ([69, 81, 85, 73, 86, 65, 76, 69, 78, 67, 69, 40], [101, 113, 117, 105, 118, 97, 108, 101, 110, 99, 101]), ([69, 88, 84, 69, 82, 78, 65, 76], [101, 120, 116, 101, 114, 110, 97, 108]), ([73, 78, 84, 82, 73, 78, 83, 73, 67], [105, 110, 116, 114, 105, 110, 115, 105, 99]), ([83, 65, 86, 69], [115, 97, 118, 101]), ([68, 65, 84, 65], [100, 97, 116, 97]), ([80, 82, 79, 71, 82, 65, 77], [112, 114, 111, 103, 114, 97, 109]), ([83, 85, 66, 82, 79, 85, 84, 73, 78, 69], [115, 117, 98, 114, 111, 117, 116, 105, 110, 101]), ([70, 85, 78, 67, 84, 73, 79, 78], [102, 117, 110, 99, 116, 105, 111, 110]), ([66, 76, 79, 67, 75, 68, 65, 84, 65], [98, 108, 111, 99, 107, 100, 97, 116, 97]), ([69, 78, 84, 82, 89], [101, 110, 116, 114, 121]), ([73, 78, 84, 69, 71, 69, 82], [105, 110, 116, 101, 103, 101, 114]), ([82, 69, 65, 76], [114, 101, 97, 108]), ([68, 79, 85, 66, 76, 69, 80, 82, 69, 67, 73, 83, 73, 79, 78], [100, 111, 117, 98, 108, 101, 112, 114, 101, 99, 105, 115, 105, 111, 110]), ([67, 79, 77, 80, 76, 69, 88], [99, 111, 109, 112, 108, 101, 120]), ([76, 79, 71, 73, 67, 65, 76], [108, 111, 103, 105, 99, 97, 108]), ([67, 72, 65, 82, 65, 67, 84, 69, 82], [99, 104, 97, 114, 97, 99, 116, 101, 114])]))
/-- _law_lone: 0 parameters -/
noncomputable def n_law_lone : List Str := []
noncomputable def m_law_lone : MB :=
  (.ret (.dict [([69, 76, 83, 69], [101, 108, 115, 101]), ([69, 78, 68, 73, 70], [101, 110, 100, 105, 102]), ([69, 78, 68], [101, 110, 100]), ([67, 79, 78, 84, 73, 78, 85, 69], [99, 111, 110, 116, 105, 110, 117, 101]), ([73, 70, 40, 41, 84, 72, 69, 78], [105, 102]), ([69, 76, 83, 69, 73, 70, 40, 41, 84, 72, 69, 78], [101, 108, 115, 101, 105, 102])]))
/-- _law_outline: 1 parameters -/
noncomputable def n_law_outline : List Str := ["row", "out", "deep", "quoted", "sign"]
noncomputable def m_law_outline : MB :=
  (.assign 1 (.str []) (.assign 2 (.int 0) (.assign 3 (.bool false) (.forStr 4 (.loc 0)
    (.ite (.cmp .Eq (.loc 4) (.str [39]))
    (.assign 3 (.not (.loc 3)) .done)
    .done
    (.ite (.or (.cmp .Eq (.loc 4) (.str [39])) (.loc 3))
    (.assign 4 (.str [39]) .done)
    .done
    (.ite (.cmp .Eq (.loc 4) (.str [41]))
    (.aug 2 .Sub (.int 1) (.ite (.cmp .Lt (.loc 2) (.int 0))
    (.ret .none)
    .done
    .done))
    .done
    (.ite (.cmp .Eq (.loc 2) (.int 0))
    (.aug 1 .Add (.loc 4) .done)
    .done
    (.ite (.cmp .Eq (.loc 4) (.str [40]))
    (.aug 2 .Add (.int 1) .done)
    .done
    .done)))))
    (.ret (.cond (.cmp .Eq (.loc 2) (.int 0)) (.loc 1) .none))))))
/-- _law_first: 2 parameters -/
noncomputable def n_law_first : List Str := ["text", "signs", "at"]
noncomputable def m_law_first : MB :=
  (.assign 2 (.int 0) (.whil (.and (.cmp .Lt (.loc 2) (.len (.loc 0))) (.cmp .In (.idx (.loc 0) (.loc 2)) (.loc 1)))
    (.aug 2 .Add (.int 1) .done)
    (.ret (.tup (.slT (.loc 0) (.loc 2)) (.slF (.loc 0) (.loc 2))))))
/-- _law_is_name: 1 parameters -/
noncomputable def n_law_is_name : List Str := ["text"]
noncomputable def m_law_is_name : MB :=
  (.ret (.and3 (.cmp .NotEq (.slT (.loc 0) (.int 1)) (.str [])) (.cmp .In (.idx (.loc 0) (.int 0)) (.glob 8)) (.cmp .Eq (.idx (.call2 23 (.loc 0) (.bin .Add (.glob 8) (.glob 9))) (.int 1)) (.str []))))
/-- _law_is_target: 1 parameters -/
noncomputable def n_law_is_target : List Str := ["head", "turn"]
noncomputable def m_law_is_target : MB :=
  (.forRange1 1 (.int 2)
    (.ite (.cmp .Eq (.slF (.loc 0) (.neg 2)) (.str [40, 41]))
    (.assign 0 (.slT (.loc 0) (.neg 2)) .done)
    .done
    .done)
    (.ret (.call1 24 (.loc 0))))
/-- _law_typed: 1 parameters -/
noncomputable def n_law_typed : List Str := ["outline", "word", "rest", "run", "behind"]
noncomputable def m_law_typed : MB :=
  (.forList 1 (.texts [[73, 78, 84, 69, 71, 69, 82], [82, 69, 65, 76], [68, 79, 85, 66, 76, 69, 80, 82, 69, 67, 73, 83, 73, 79, 78], [67, 79, 77, 80, 76, 69, 88], [76, 79, 71, 73, 67, 65, 76], [67, 72, 65, 82, 65, 67, 84, 69, 82]])
    (.ite (.starts (.loc 0) (.loc 1))
    (.assign 2 (.slF (.loc 0) (.len (.loc 1))) (.ite (.and (.cmp .Eq (.loc 1) (.str [67, 72, 65, 82, 65, 67, 84, 69, 82])) (.cmp .Eq (.slT (.loc 2) (.int 1)) (.str [42])))
    (.assign 2 (.idx (.call2 23 (.slF (.loc 2) (.int 1)) (.glob 9)) (.int 1)) (.ite (.cmp .Eq (.slT (.loc 2) (.int 2)) (.str [40, 41]))
    (.assign 2 (.slF (.loc 2) (.int 2)) .done)
    .done
    .done))
    .done
    (.ite (.starts (.loc 2) (.str [70, 85, 78, 67, 84, 73, 79, 78]))
    (.unpack 3 4 (.call2 23 (.slF (.loc 2) (.int 8)) (.bin .Add (.glob 8) (.glob 9))) (.ret (.and (.call1 24 (.loc 3)) (.cmp .Eq (.slT (.loc 4) (.int 2)) (.str [40, 41])))))
    .done
    .done)))
    .done
    .done)
    (.ret (.bool false)))
/-- _law_word: 1 parameters -/
noncomputable def n_law_word : List Str := ["row", "outline", "spot", "head", "tail", "label", "name", "rest", "best", "opening"]
noncomputable def m_law_word : MB :=
  (.assign 1 (.call1 22 (.loc 0)) (.ite (.cmp .Is (.loc 1) .none)
    (.ret (.str []))
    .done
    (.ite (.cmp .In (.str [61]) (.loc 1))
    (.assign 2 (.find (.loc 1) (.str [61])) (.assign 3 (.slT (.loc 1) (.loc 2)) (.assign 4 (.slF (.loc 1) (.bin .Add (.loc 2) (.int 1))) (.ite (.cmp .In (.str [44]) (.loc 4))
    (.unpack 5 6 (.call2 23 (.slF (.loc 3) (.int 2)) (.glob 9)) (.ite (.cmp .Eq (.slT (.loc 6) (.int 1)) (.str [44]))
    (.assign 6 (.slF (.loc 6) (.int 1)) .done)
    .done
    (.ret (.cond (.and3 (.cmp .Eq (.slT (.loc 3) (.int 2)) (.str [68, 79])) (.cmp .NotEq (.loc 5) (.str [])) (.call1 24 (.loc 6))) (.str [100, 111]) (.str [])))))
    .done
    (.ite (.call1 25 (.loc 3))
    (.ret (.str [97, 115, 115, 105, 103, 110]))
    .done
    (.ret (.cond (.and (.cmp .Eq (.slT (.loc 3) (.int 4)) (.str [73, 70, 40, 41])) (.call1 25 (.slF (.loc 3) (.int 4)))) (.str [108, 105, 102]) (.str []))))))))
    .done
    (.ite (.cmp .In (.loc 1) (.call0 21 ))
    (.ret (.idx (.call0 21 ) (.loc 1)))
    .done
    (.ite (.cmp .Eq (.slT (.loc 1) (.int 4)) (.str [73, 70, 40, 41]))
    (.ite (.cmp .Eq (.loc 1) (.str [73, 70, 40, 41]))
    (.ret (.str []))
    .done
    (.ret (.cond (.cmp .In (.idx (.loc 1) (.int 4)) (.glob 9)) (.str [97, 105, 102]) (.str [108, 105, 102]))))
    .done
    (.ite (.cmp .Eq (.slT (.loc 1) (.int 7)) (.str [69, 76, 83, 69, 73, 70, 40]))
    (.ret (.str []))
    .done
    (.ite (.cmp .Eq (.slT (.loc 1) (.int 4)) (.str [71, 79, 84, 79]))
    (.assign 7 (.slF (.loc 1) (.int 4)) (.ite (.cmp .Eq (.slT (.loc 7) (.int 1)) (.str [40]))
    (.ret (.str [99, 103, 111, 116, 111]))
    .done
    (.ite (.and (.cmp .NotEq (.loc 7) (.str [])) (.cmp .Eq (.idx (.call2 23 (.loc 7) (.glob 9)) (.int 1)) (.str [])))
    (.ret (.str [103, 111, 116, 111]))
    .done
    (.ret (.cond (.and (.cmp .NotEq (.loc 7) (.str [])) (.cmp .In (.idx (.loc 7) (.int 0)) (.glob 8))) (.str [97, 103, 111, 116, 111]) (.str []))))))
    .done
    (.ite (.and3 (.cmp .Eq (.slT (.loc 1) (.int 6)) (.str [65, 83, 83, 73, 71, 78])) (.cmp .NotEq (.sl (.loc 1) (.int 6) (.int 7)) (.str [])) (.cmp .In (.idx (.loc 1) (.int 6)) (.glob 9)))
    (.ret (.str [115, 101, 116, 108, 97, 98, 101, 108]))
    .done
    (.ite (.call1 26 (.loc 1))
    (.ret (.str [102, 117, 110, 99, 116, 105, 111, 110]))
    .done
    (.assign 8 (.str []) (.forList 9 (.sorted (.call0 20 ))
    (.ite (.and (.starts (.loc 1) (.loc 9)) (.cmp .Gt (.len (.loc 9)) (.len (.loc 8))))
    (.assign 8 (.loc 9) .done)
    .done
    .done)
    (.ret (.dget (.call0 20 ) (.loc 8) (.str []))))))))))))))
/-- _law_spread: 2 parameters -/
noncomputable def n_law_spread : List Str := ["row", "n", "text", "quoted", "sign"]
noncomputable def m_law_spread : MB :=
  (.assign 2 (.str []) (.assign 3 (.bool false) (.forStr 4 (.loc 0)
    (.ite (.and (.not (.loc 3)) (.cmp .Eq (.bin .Mod (.loc 1) (.int 3)) (.int 1)))
    (.aug 2 .Add (.bin .Mult (.str [32]) (.bin .Add (.int 1) (.bin .Mod (.loc 1) (.int 2)))) .done)
    .done
    (.ite (.cmp .Eq (.loc 4) (.str [39]))
    (.assign 3 (.not (.loc 3)) .done)
    .done
    (.ite (.and3 (.not (.loc 3)) (.cmp .Eq (.bin .Mod (.loc 1) (.int 5)) (.int 2)) (.cmp .In (.loc 4) (.glob 8)))
    (.assign 4 (.chr (.bin .Add (.ord (.loc 4)) (.int 32))) .done)
    .done
    (.aug 2 .Add (.loc 4) (.assign 1 (.bin .Add (.bin .FloorDiv (.bin .Mult (.loc 1) (.int 7)) (.int 4)) (.int 11)) (.ite (.cmp .Gt (.loc 1) (.bin .Pow (.int 10) (.int 9)))
    (.aug 1 .Mod (.int 1009) .done)
    .done
    .done))))))
    (.ret (.loc 2)))))
/-- law: 1 parameters -/
noncomputable def n_law : List Str := ["script", "cells", "at", "n", "seed", "row", "bend", "spot", "piece", "turn", "text"]
noncomputable def m_law : MB :=
  (.assign 1 (.bin .Add (.slT (.loc 0) (.int 8)) (.list2 (.int 3) (.int 18))) (.forRange3 2 (.int 0) (.bin .Sub (.len (.loc 1)) (.int 1)) (.int 2)
    (.assign 3 (.bin .Mod (.abs (.idx (.loc 1) (.loc 2))) (.bin .Pow (.int 10) (.int 18))) (.assign 4 (.bin .Mod (.abs (.idx (.loc 1) (.bin .Add (.loc 2) (.int 1)))) (.int 1000)) (.assign 5 (.str []) (.ite (.cmp .Eq (.bin .Mod (.loc 3) (.int 3)) (.int 0))
    (.assign 5 (.idx (.call0 19 ) (.bin .Mod (.bin .FloorDiv (.bin .FloorDiv (.loc 3) (.int 3)) (.int 7)) (.len (.call0 19 )))) (.assign 6 (.bin .Mod (.bin .FloorDiv (.loc 3) (.int 3)) (.int 7)) (.ite (.cmp .Gt (.loc 6) (.int 2))
    (.assign 7 (.bin .Mod (.loc 4) (.len (.loc 5))) (.assign 8 (.idx (.glob 7) (.bin .Mod (.loc 4) (.int 32))) (.assign 5 (.bin .Add (.bin .Add (.slT (.loc 5) (.loc 7)) (.idx (.list2 (.str []) (.loc 8)) (.bin .Mod (.loc 6) (.int 2)))) (.slF (.loc 5) (.bin .Add (.loc 7) (.bin .FloorDiv (.loc 6) (.int 5))))) .done)))
    .done
    .done)))
    (.aug 3 .FloorDiv (.int 3) (.forRange1 9 (.bin .Add (.int 1) (.bin .Mod (.loc 4) (.int 9)))
    (.aug 5 .Add (.idx (.glob 7) (.bin .Mod (.loc 3) (.int 32))) (.aug 3 .FloorDiv (.int 32) .done))
    .done))
    (.ite (.cmp .NotEq (.call1 18 (.loc 5)) (.call1 27 (.loc 5)))
    (.ret (.bool false))
    .done
    (.ite (.cmp .Eq (.bin .Mod (.count (.loc 5) (.str [39])) (.int 2)) (.int 0))
    (.assign 10 (.call2 28 (.loc 5) (.loc 4)) (.ite (.or (.cmp .NotEq (.call1 5 (.loc 10)) (.loc 5)) (.cmp .NotEq (.call1 18 (.call1 5 (.loc 10))) (.call1 27 (.loc 5))))
    (.ret (.bool false))
    .done
    .done))
    .done
    .done))))))
    (.ret (.bool true))))

structure FInfo where
  name : Str
  addr : Nat
  np : Nat
  own : Option Nat
  nm : List Str
  body : MB

noncomputable def finfo : List FInfo := [
  ⟨"capital", 60, 1, none, n_capital, m_capital⟩,
  ⟨"constant_end", 67, 2, none, n_constant_end, m_constant_end⟩,
  ⟨"count_end", 74, 2, none, n_count_end, m_count_end⟩,
  ⟨"hollerith", 81, 2, none, n_hollerith, m_hollerith⟩,
  ⟨"squeeze", 88, 1, some 1, n_squeeze, m_squeeze⟩,
  ⟨"squeezed", 95, 1, none, n_squeezed, m_squeezed⟩,
  ⟨"depths", 102, 1, some 1, n_depths, m_depths⟩,
  ⟨"closing", 109, 2, none, n_closing, m_closing⟩,
  ⟨"name_end", 157, 2, none, n_name_end, m_name_end⟩,
  ⟨"digits_end", 164, 2, none, n_digits_end, m_digits_end⟩,
  ⟨"is_target", 171, 1, none, n_is_target, m_is_target⟩,
  ⟨"is_balanced", 178, 2, none, n_is_balanced, m_is_balanced⟩,
  ⟨"equals_at", 185, 2, none, n_equals_at, m_equals_at⟩,
  ⟨"is_do_head", 192, 1, none, n_is_do_head, m_is_do_head⟩,
  ⟨"word_of_if", 199, 1, none, n_word_of_if, m_word_of_if⟩,
  ⟨"word_of_goto", 206, 1, none, n_word_of_goto, m_word_of_goto⟩,
  ⟨"word_of_type", 213, 1, none, n_word_of_type, m_word_of_type⟩,
  ⟨"word_by_begin", 220, 1, none, n_word_by_begin, m_word_by_begin⟩,
  ⟨"classify", 227, 1, none, n_classify, m_classify⟩,
  ⟨"_law_whole", 235, 0, none, n_law_whole, m_law_whole⟩,
  ⟨"_law_begins", 242, 0, none, n_law_begins, m_law_begins⟩,
  ⟨"_law_lone", 249, 0, none, n_law_lone, m_law_lone⟩,
  ⟨"_law_outline", 256, 1, none, n_law_outline, m_law_outline⟩,
  ⟨"_law_first", 263, 2, none, n_law_first, m_law_first⟩,
  ⟨"_law_is_name", 270, 1, none, n_law_is_name, m_law_is_name⟩,
  ⟨"_law_is_target", 277, 1, none, n_law_is_target, m_law_is_target⟩,
  ⟨"_law_typed", 284, 1, none, n_law_typed, m_law_typed⟩,
  ⟨"_law_word", 291, 1, none, n_law_word, m_law_word⟩,
  ⟨"_law_spread", 298, 2, none, n_law_spread, m_law_spread⟩]

noncomputable def allDiff : List Str → Bool
  | [] => true
  | x :: r => !r.contains x && allDiff r

noncomputable def plainParams (p : Arguments) (nm : List Str) : Bool := match p with
  | ⟨[], as, none, [], [], none, []⟩ => as.map (·.arg) == nm
  | _ => false

noncomputable def bodyOk (f : FInfo) (sc : Scope) (b : List Stmt) : Bool := match f.own with
  | none => mB sc f.nm f.body b
  | some i => match b with
    | .Assign [t] (.List [] _) _ :: r => isL sc f.nm i t && mB sc f.nm f.body r
    | _ => false

noncomputable def fdOk (K : Frag) (f : FInfo) (fd : FuncData) : Bool :=
  (match fd.body with
    | .stmts b => bodyOk f fd.scope b
    | _ => false)
  && plainParams fd.params (f.nm.take f.np) && codeIn K fd.code fd.qualname && fd.globals == mainGlobals && fd.builtins == builtinsNs
  && fd.closure.isEmpty && fd.defaults == .none && fd.kwdefaults == .none
  && fd.scope.kind == .function && !fd.scope.isGenerator && !fd.scope.isCoroutine && fd.scope.names.all (fun p => p.2 != .cell)
  && allDiff f.nm && (f.nm.take f.np).all (fun x => fd.scope.names.lookup x == some .local)

noncomputable def funOk (K : Frag) (f : FInfo) : Bool := match K.lookup f.addr with
  | some ⟨_, _, .func fd, _⟩ => fdOk K f fd && nsIn K mainGlobals f.name == some (some (.ref f.addr))
  | _ => false

end Mine

end
section
open PySem PySem.W PyProof.Rows
namespace Mine

/-! ## how a value bears a plain value -/
inductive RepF : Value → Fl → Prop
  | none : RepF .none .none
  | bool (b : Bool) : RepF (.bool b) (.bool b)
  | int (i : Int) (t : Tok) : RepF (.int i t) (.int i)
  | str (x : List Nat) (t : Tok) : okS x = true → RepF (.str ⟨x.toArray⟩ t) (.str x)

inductive All2 {α β : Type} (R : α → β → Prop) : List α → List β → Prop
  | nil : All2 R [] []
  | cons {a b l k} : R a b → All2 R l k → All2 R (a :: l) (b :: k)

theorem All2.length {α β : Type} {R : α → β → Prop} : ∀ {l : List α} {k : List β}, All2 R l k → l.length = k.length
  | _, _, .nil => rfl
  | _, _, .cons _ h => congrArg (· + 1) h.length
theorem All2.imp {α β : Type} {R S : α → β → Prop} (f : ∀ a b, R a b → S a b) : ∀ {l : List α} {k : List β}, All2 R l k → All2 S l k
  | _, _, .nil => .nil
  | _, _, .cons h r => .cons (f _ _ h) (r.imp f)
theorem All2.get {α β : Type} {R : α → β → Prop} : ∀ {l : List α} {k : List β}, All2 R l k → ∀ (n : Nat) (b : β), k[n]? = some b → ∃ a, l[n]? = some a ∧ R a b
  | _, _, .nil, n, b, e => by simp at e
  | _, _, .cons h r, 0, b, e => by simp at e; subst e; exact ⟨_, rfl, h⟩
  | _, _, .cons h r, n + 1, b, e => by
    obtain ⟨a, e1, h1⟩ := r.get n b (by simpa using e)
    exact ⟨a, by simpa using e1, h1⟩
theorem All2.append {α β : Type} {R : α → β → Prop} : ∀ {l : List α} {k : List β} {l' : List α} {k' : List β}, All2 R l k → All2 R l' k' → All2 R (l ++ l') (k ++ k')
  | _, _, _, _, .nil, h => h
  | _, _, _, _, .cons h r, h' => .cons h (r.append h')
theorem All2.take {α β : Type} {R : α → β → Prop} : ∀ {l : List α} {k : List β}, All2 R l k → ∀ n : Nat, All2 R (l.take n) (k.take n)
  | _, _, _, 0 => .nil
  | _, _, .nil, _ + 1 => .nil
  | _, _, .cons h r, n + 1 => .cons h (r.take n)

noncomputable def RepT (h : Heap) (v : Value) (l : List Fl) : Prop := ∃ a vs, v = .ref a ∧ h.IsTuple a (List.toArray vs) ∧ All2 RepF vs l

noncomputable def Rep (prog : Program) (w : World) (h : Heap) (v : Value) : PV → Prop
  | .undef => False
  | .fl f => RepF v f
  | .tup l => RepT h v l
  | .list l => ∃ a vs, v = .ref a ∧ h.IsList a (List.toArray vs) ∧ All2 RepF vs l ∧ l.length ≤ lim
  | .rows l => ∃ a vs, v = .ref a ∧ h.IsList a (List.toArray vs) ∧ All2 (RepT h) vs l ∧ l.length ≤ lim
  | .dict l => ∃ a kvs, v = .ref a ∧ (a == sysModules) = false ∧ h.DictOf (strKind prog w) a kvs ∧ All2 (fun (p : Str × Value) q => p.1.cps.toList = q.1 ∧ RepF p.2 (.str q.2)) kvs l
  | .olist _ => False
  | .orows _ => False

abbrev Keep (h h' : Heap) : Prop := ∀ b o, h.get? b = some o → h'.get? b = some o
theorem Keep.refl (h : Heap) : Keep h h := fun _ _ e => e
theorem Keep.trans {h h' h'' : Heap} (k : Keep h h') (k' : Keep h' h'') : Keep h h'' := fun b o e => k' b o (k b o e)
theorem Keep.push (h : Heap) (o : Obj) : Keep h (h.push o) := fun _ _ e => Heap.get?_push_of_some _ e

theorem RepT.keep {h h' : Heap} {v : Value} {l : List Fl} (k : Keep h h') (r : RepT h v l) : RepT h' v l :=
  let ⟨a, vs, e, ⟨o, ho, q⟩, x⟩ := r; ⟨a, vs, e, ⟨o, k _ _ ho, q⟩, x⟩
theorem Rep.keep {prog : Program} {w : World} {h h' : Heap} {v : Value} {p : PV} (k : Keep h h') (r : Rep prog w h v p) : Rep prog w h' v p := by
  cases p with
  | undef => exact r
  | fl f => exact r
  | tup l => exact RepT.keep k r
  | list l => obtain ⟨a, vs, e, ⟨o, ho, q⟩, x⟩ := r; exact ⟨a, vs, e, ⟨o, k _ _ ho, q⟩, x⟩
  | rows l => obtain ⟨a, vs, e, ⟨o, ho, q⟩, x, y⟩ := r; exact ⟨a, vs, e, ⟨o, k _ _ ho, q⟩, x.imp fun _ _ => RepT.keep k, y⟩
  | dict l => obtain ⟨a, kvs, e, n, d, x⟩ := r; exact ⟨a, kvs, e, n, d.keep k, x⟩
  | olist l => exact r
  | orows l => exact r

/-- one step on: the heap has grown, tokens have gone on -/
noncomputable def Step (s s' : Shared) : Prop := ∃ h' tk, s' = { s with heap := h', toks := tk } ∧ Keep s.heap h'
theorem Step.refl (s : Shared) : Step s s := ⟨s.heap, s.toks, rfl, Keep.refl _⟩
theorem Step.trans {s s' s'' : Shared} (x : Step s s') (y : Step s' s'') : Step s s'' := by
  obtain ⟨h, t, rfl, k⟩ := x
  obtain ⟨h', t', rfl, k'⟩ := y
  exact ⟨h', t', rfl, Keep.trans k k'⟩
theorem Step.keep {s s' : Shared} (x : Step s s') : Keep s.heap s'.heap := by
  obtain ⟨h, t, rfl, k⟩ := x; exact k
theorem Step.toks (s : Shared) (tk : Nat) : Step s { s with toks := tk } := ⟨s.heap, tk, rfl, Keep.refl _⟩
theorem Step.both (s : Shared) (h : Heap) (tk : Nat) (k : Keep s.heap h) : Step s { s with heap := h, toks := tk } := ⟨h, tk, rfl, k⟩
theorem Step.heap (s : Shared) (h : Heap) (k : Keep s.heap h) : Step s { s with heap := h } := ⟨h, s.toks, rfl, k⟩

abbrev NoE : Value → Shared → Prop := fun _ _ => False
/-- an expression's end -/
noncomputable def EPost (prog : Program) (w : World) (s : Shared) (p : PV) (v : Value) (s' : Shared) : Prop := Step s s' ∧ Rep prog w s'.heap v p

section
variable {prog : Program} {w : World} {A : Around} {s : Shared}

theorem EPost.of {s₁ s₂ : Shared} {p : PV} {v : Value} (x : Step s s₁) (y : EPost prog w s₁ p v s₂) : EPost prog w s p v s₂ := ⟨x.trans y.1, y.2⟩
theorem EPost.fl {f : Fl} {v : Value} {s' : Shared} (x : Step s s') (y : RepF v f) : EPost prog w s (.fl f) v s' := ⟨x, y⟩

theorem okS_iff {x : List Nat} : okS x = true ↔ x.length ≤ lim ∧ ∀ c ∈ x, c < 128 := by
  unfold okS; simp
theorem okS_nil : okS [] = true := by decide
theorem okS_one {c : Nat} (h : c < 128) : okS [c] = true := okS_iff.mpr ⟨by show 1 ≤ lim; decide, by simp [h]⟩
theorem okS_mem {x : List Nat} (h : okS x = true) {c : Nat} (hc : c ∈ x) : c < 128 := (okS_iff.mp h).2 c hc
theorem okS_append {x y : List Nat} (h : okS x = true) (h' : okS y = true) (hl : x.length + y.length ≤ lim) : okS (x ++ y) = true :=
  okS_iff.mpr ⟨by simpa using hl, fun c hc => (List.mem_append.mp hc).elim (okS_mem h) (okS_mem h')⟩
theorem okS_sub {x y : List Nat} (h : okS x = true) (hl : y.length ≤ x.length) (hm : ∀ c ∈ y, c ∈ x) : okS y = true :=
  okS_iff.mpr ⟨Nat.le_trans hl (okS_iff.mp h).1, fun c hc => okS_mem h (hm c hc)⟩

theorem len_le {x : List Nat} (h : okS x = true) : x.length ≤ 1048576 := (okS_iff.mp h).1
theorem str_len (x : List Nat) : (⟨x.toArray⟩ : Str).length = x.length := by simp [Str.length]
theorem append_str (x y : List Nat) : (⟨x.toArray⟩ : Str) ++ (⟨y.toArray⟩ : Str) = ⟨(x ++ y).toArray⟩ := by
  apply Str.ext'; simp [Str.cps_append]
theorem sz : sizeLine = 16777216 := sizeLine_eq

theorem small_log {i : Int} (h : smallI i = true) : i.natAbs.log2 < 4096 := by
  have h' : i.natAbs < 2 ^ 4096 := by simpa [smallI] using h
  by_cases h0 : i.natAbs = 0
  · rw [h0]; simp
  · exact (Nat.log2_lt h0).mpr h'
theorem mul_ok {i j : Int} (hi : smallI i = true) (hj : smallI j = true) : IntMulOk i j := by
  unfold IntMulOk
  have b : ∀ k : Int, smallI k = true → Builtin.Int.intBits k ≤ 4097 := fun k hk => by
    have := small_log hk
    unfold Builtin.Int.intBits
    split <;> omega
  have h1 := b i hi
  have h2 := b j hj
  have e : Builtin.Int.intTooBig (Builtin.Int.intBits i + Builtin.Int.intBits j) = false := by
    have hb := bitsLine_eq
    unfold Builtin.Int.intTooBig
    first
      | (apply decide_eq_false; omega)
      | (simp; omega)
  rw [e]; simp
theorem no_pylong {i j : Int} (hj : smallI j = true) : Builtin.divisionGoesByPylong i j = false := by
  have h := small_log hj
  unfold Builtin.divisionGoesByPylong
  have : ¬ ((if (j == 0) = true then 0 else j.natAbs.log2 / 30 + 1) > 300) := by split <;> omega
  simp only [decide_eq_false this, Bool.false_and]

theorem list_plus {l b : Addr} {vs ws : List Value} {Q : Value → Shared → Prop} (hl : s.heap.IsList l vs.toArray) (hb : s.heap.IsList b ws.toArray)
    (h : Q (.ref s.heap.objs.size) { s with heap := s.heap.push { cls := .type "list", data := .seq (vs ++ ws).toArray } }) (hsz : vs.length + ws.length ≤ sizeLine) :
    wpAny (model prog w) A (binaryOp .Add (.ref l) (.ref b)) Q NoE s := by
  obtain ⟨⟨cls, dd, data, sl⟩, ho, hc, n, hd⟩ := id hl
  obtain ⟨⟨cls2, dd2, data2, sl2⟩, ho2, hc2, n2, hd2⟩ := id hb
  simp only at hc hd hc2 hd2
  subst hc hd hc2 hd2
  have e : vs.toArray ++ ws.toArray = (vs ++ ws).toArray := by simp
  refine concat_meets ⟨_, ho, rfl⟩ ⟨_, ho2, rfl⟩ noFill_list_add seq_list_add PySem.F.slot_list_add PySem.F.entry_list_add (PySem.F.args_list_add_2 _ _) (list_addW l b vs.toArray ws.toArray n n2 dd dd2 sl sl2 (by simpa using hsz)) ⟨ho, ho2, ?_⟩
  rw [e]
  exact h

theorem foldl_rep (c : Nat) : ∀ (k : Nat) (acc : Array Nat), ((List.replicate k #[c]).foldl (· ++ ·) acc).toList = acc.toList ++ List.replicate k c
  | 0, acc => by simp
  | k + 1, acc => by
    rw [List.replicate_succ, List.foldl_cons, foldl_rep c k]
    simp [List.replicate_succ]
theorem mul_text (c : Nat) (n : Int) : Txt.mul ⟨[c].toArray⟩ n = ⟨(List.replicate n.toNat c).toArray⟩ := by
  unfold Txt.mul
  apply Str.ext'
  apply Array.toList_inj.mp
  by_cases h1 : n < 1
  · rw [if_pos h1]
    have : n.toNat = 0 := by omega
    rw [this]; rfl
  · rw [if_neg h1]
    split
    · rename_i h2
      have h3 : n = 1 := by simpa [Str.length] using h2
      subst h3; rfl
    · have := foldl_rep c n.toNat #[]
      simpa using this

theorem dict_look {x : List Nat} : ∀ {kvs : List (Str × Value)} {l : List (List Nat × List Nat)}, All2 (fun (p : Str × Value) q => p.1.cps.toList = q.1 ∧ RepF p.2 (.str q.2)) kvs l →
    (∃ y v, l.lookup x = some y ∧ valueAt kvs ⟨x.toArray⟩ = some v ∧ RepF v (.str y)) ∨ (l.lookup x = none ∧ valueAt kvs ⟨x.toArray⟩ = none)
  | _, _, .nil => .inr ⟨rfl, rfl⟩
  | (k, v) :: kr, (z, y) :: lr, .cons h r => by
    obtain ⟨h1, h2⟩ := h
    simp only at h1 h2
    have hk : (k = ⟨x.toArray⟩) ↔ x = z := by
      constructor
      · intro e; subst e; rw [← h1]
      · intro e; apply Str.ext'; apply Array.toList_inj.mp; rw [h1, ← e]
    by_cases e : x = z
    · refine .inl ⟨y, v, ?_, ?_, h2⟩
      · rw [List.lookup_cons]; simp [e]
      · unfold valueAt; rw [List.find?_cons]; simp [hk.mpr e]
    · have hb : (x == z) = false := by simpa using e
      have hk' : ¬ (k = ⟨x.toArray⟩) := fun q => e (hk.mp q)
      have e1 : ((z, y) :: lr).lookup x = lr.lookup x := by rw [List.lookup_cons]; simp [hb]
      have e2 : valueAt ((k, v) :: kr) ⟨x.toArray⟩ = valueAt kr ⟨x.toArray⟩ := by unfold valueAt; rw [List.find?_cons]; simp [hk']
      rw [e1, e2]
      exact dict_look r
theorem any_lookup (x : List Nat) : ∀ l : List (List Nat × List Nat), l.any (fun p => p.1 == x) = (l.lookup x).isSome
  | [] => rfl
  | (z, y) :: r => by
    rw [List.any_cons, List.lookup_cons, any_lookup x r]
    by_cases e : z = x
    · subst e; simp
    · have h1 : (z == x) = false := by simpa using e
      have h2 : (x == z) = false := by simpa using fun q : x = z => e q.symm
      simp [h1, h2]
theorem contains_dec (c : Nat) (y : List Nat) : y.contains c = decide (c ∈ y) := by
  rw [Bool.eq_iff_iff]; simp
theorem strIs (x : List Nat) (t : Tok) : (strKind prog w).is ⟨x.toArray⟩ (.str ⟨x.toArray⟩ t) = true := strKind_is prog w _ t

theorem bin_ok {o : Operator} {va vb : Value} {a b r : PV} (ha : Rep prog w s.heap va a) (hb : Rep prog w s.heap vb b) (hr : pBin o a b = some r) :
    wpAny (model prog w) A (binaryOp o va vb) (EPost prog w s r) NoE s := by
  revert ha hb
  cases o <;> first | exact nn hr | skip
  case Add =>
    apply padd_el hr
    · intro i hr
      apply pint_el hr
      intro j hr
      apply some_el hr
      intro ha hb
      cases ha; cases hb
      exact add_int (EPost.fl (Step.toks ..) (.int ..))
    · intro x hr
      apply pstr_el hr
      intro y hr
      apply if_el hr
      intro hl hr
      apply some_el hr
      intro ha hb
      cases ha; cases hb
      rename_i t hx u hy
      have hl' := hl
      unfold lim at hl'
      refine SB.add (fun t' k => EPost.fl (Step.toks ..) ?_) (by simp only [str_len, sz]; omega)
      rw [append_str]
      exact .str _ _ (okS_append hx hy hl)
    · intro l hr
      apply plist_el hr
      intro k hr
      apply if_el hr
      intro hl hr
      apply some_el hr
      intro ha hb
      obtain ⟨l, vs, rfl, xl, hvs, _⟩ := ha
      obtain ⟨b, ws, rfl, xb, hws, _⟩ := hb
      have e1 := hvs.length
      have e2 := hws.length
      have hl' := hl
      unfold lim at hl'
      refine list_plus xl xb ?_ (by rw [sz]; omega)
      exact ⟨Step.heap _ _ (Keep.push _ _), s.heap.objs.size, vs ++ ws, rfl, ⟨_, Heap.get?_push_size _ rfl, rfl, _, rfl⟩, hvs.append hws, by rw [List.length_append]; exact hl⟩
  case Sub =>
    apply pint_el hr
    intro i hr
    apply pint_el hr
    intro j hr
    apply some_el hr
    intro ha hb
    cases ha; cases hb
    exact sub_int (EPost.fl (Step.toks ..) (.int ..))
  case Mult =>
    apply pint_el hr
    intro j hr
    apply pmul_el hr
    · intro i hr
      apply if_el hr
      intro hl hr
      apply some_el hr
      intro ha hb
      cases ha; cases hb
      rw [Bool.and_eq_true] at hl
      exact mul_int (EPost.fl (Step.toks ..) (.int ..)) (mul_ok hl.1 hl.2)
    · intro c hr
      apply if_el hr
      intro hl hr
      apply some_el hr
      intro ha hb
      cases ha; cases hb
      simp only [Bool.and_eq_true, decide_eq_true_eq] at hl
      rename_i t hc u
      refine SB.mul (mulOk_of 1 1000 (by rw [str_len]; exact Nat.le_refl 1) (by omega) (by omega) (by omega) (by omega)) fun t' k => EPost.fl (Step.toks ..) ?_
      rw [mul_text]
      refine .str _ _ (okS_iff.mpr ⟨?_, fun d hd => ?_⟩)
      · rw [List.length_replicate]; unfold lim; omega
      · rw [List.eq_of_mem_replicate hd]; exact okS_mem hc (List.mem_singleton.mpr rfl)
  case FloorDiv =>
    apply pint_el hr
    intro i hr
    apply pint_el hr
    intro j hr
    apply if_el hr
    intro hl hr
    apply some_el hr
    intro ha hb
    cases ha; cases hb
    simp only [Bool.and_eq_true, decide_eq_true_eq] at hl
    refine floordiv_int (by omega) ?_ (Or.inl (no_pylong hl.1.2))
    rw [Int.fdiv_eq_ediv_of_nonneg _ (by omega)]
    exact EPost.fl (Step.toks ..) (.int ..)
  case Mod =>
    apply pint_el hr
    intro i hr
    apply pint_el hr
    intro j hr
    apply if_el hr
    intro hl hr
    apply some_el hr
    intro ha hb
    cases ha; cases hb
    simp only [decide_eq_true_eq] at hl
    refine mod_int' (by omega) ?_
    rw [Int.fmod_eq_emod_of_nonneg _ (by omega)]
    exact EPost.fl (Step.toks ..) (.int ..)
  case Pow =>
    apply pint_el hr
    intro i hr
    apply pint_el hr
    intro j hr
    apply if_el hr
    intro hl hr
    apply some_el hr
    intro ha hb
    cases ha; cases hb
    simp only [Bool.and_eq_true, decide_eq_true_eq] at hl
    exact pow_int_small hl.1.1 (by omega) hl.2 (EPost.fl (Step.toks ..) (.int ..))

theorem cmp_ok {o : CmpOp} {va vb : Value} {a b : PV} {r : Bool} (ha : Rep prog w s.heap va a) (hb : Rep prog w s.heap vb b) (hr : pCmp o a b = some r) :
    wpAny (model prog w) A (compareOp o va vb) (EPost prog w s (.fl (.bool r))) NoE s := by
  revert ha hb
  cases o <;> first | exact nn hr | skip
  case Eq =>
    apply pis_el hr
    · intro i hr
      apply pint_el hr
      intro j hr
      apply some_el hr
      intro ha hb
      cases ha; cases hb
      exact eq_int (EPost.fl (Step.refl _) (.bool _))
    · intro x hr
      apply pstr_el hr
      intro y hr
      apply some_el hr
      intro ha hb
      cases ha; cases hb
      exact P.eq_str (EPost.fl (Step.refl _) (.bool _))
  case NotEq =>
    apply pis_el hr
    · intro i hr
      apply pint_el hr
      intro j hr
      apply some_el hr
      intro ha hb
      cases ha; cases hb
      exact ne_int (EPost.fl (Step.refl _) (.bool _))
    · intro x hr
      apply pstr_el hr
      intro y hr
      apply some_el hr
      intro ha hb
      cases ha; cases hb
      exact P.ne_str (EPost.fl (Step.refl _) (.bool _))
  case Lt =>
    apply pint_el hr
    intro i hr
    apply pint_el hr
    intro j hr
    apply some_el hr
    intro ha hb
    cases ha; cases hb
    exact lt_int (EPost.fl (Step.refl _) (.bool _))
  case Gt =>
    apply pint_el hr
    intro i hr
    apply pint_el hr
    intro j hr
    apply some_el hr
    intro ha hb
    cases ha; cases hb
    exact gt_int (EPost.fl (Step.refl _) (.bool _))
  case GtE =>
    apply pint_el hr
    intro i hr
    apply pint_el hr
    intro j hr
    apply some_el hr
    intro ha hb
    cases ha; cases hb
    exact ge_int (EPost.fl (Step.refl _) (.bool _))
  case LtE =>
    apply pstr_el hr
    intro i hr
    apply pstr_el hr
    intro j hr
    apply some_el hr
    intro ha hb
    cases ha; cases hb
    exact P.le_str (EPost.fl (Step.refl _) (.bool _))
  case In =>
    apply psd_el hr
    · intro y hr
      apply pone_el hr
      intro c hr
      apply some_el hr
      intro ha hb
      cases ha; cases hb
      refine P.in_str ?_
      rw [StrLaws.found_one, ← contains_dec]
      exact EPost.fl (Step.refl _) (.bool _)
    · intro l hr
      apply pstr_el hr
      intro x hr
      apply some_el hr
      intro ha hb
      cases ha
      obtain ⟨d, kvs, rfl, hn, hd, hx⟩ := hb
      rename_i t hx0
      refine wpAny_in_of (strIs x t) hn hd.mapOf ?_
      rw [any_lookup]
      rcases dict_look (x := x) hx with ⟨y, v, e1, e2, _⟩ | ⟨e1, e2⟩
      · rw [e1, e2]; exact EPost.fl (Step.toks ..) (.bool _)
      · rw [e1, e2]; exact EPost.fl (Step.toks ..) (.bool _)
  case NotIn =>
    apply pstr_el hr
    intro y hr
    apply pone_el hr
    intro c hr
    apply some_el hr
    intro ha hb
    cases ha; cases hb
    refine P.notIn_str ?_
    rw [StrLaws.found_one, ← contains_dec]
    exact EPost.fl (Step.refl _) (.bool _)
  case Is =>
    apply pnone_el hr
    intro hr
    apply pns_el hr
    · intro hr
      apply some_el hr
      intro ha hb
      cases ha; cases hb
      exact is_none_none (EPost.fl (Step.refl _) (.bool _))
    · intro x hr
      apply some_el hr
      intro ha hb
      cases ha; cases hb
      exact is_str_none (EPost.fl (Step.refl _) (.bool _))
end
end Mine

end
section
open PySem PySem.W PyProof.Rows
namespace Mine
section
variable {prog : Program} {w : World} {A : Around} {s : Shared}

theorem aug_ok {o : Operator} {va vb : Value} {a b r : PV} (ha : Rep prog w s.heap va a) (hb : Rep prog w s.heap vb b) (hr : pAug o a b = some r) :
    wpAny (model prog w) A (inplaceOp o va vb) (EPost prog w s r) NoE s := by
  revert ha hb
  cases o <;> first | exact nn hr | skip
  case Add =>
    apply pis_el hr
    · intro i hr
      apply pint_el hr
      intro j hr
      apply some_el hr
      intro ha hb
      cases ha; cases hb
      exact iadd_int (EPost.fl (Step.toks ..) (.int ..))
    · intro x hr
      apply pstr_el hr
      intro y hr
      apply if_el hr
      intro hl hr
      apply some_el hr
      intro ha hb
      cases ha; cases hb
      rename_i t hx u hy
      have hl' := hl
      unfold lim at hl'
      refine SB.iadd (fun t' k => EPost.fl (Step.toks ..) ?_) (by simp only [str_len, sz]; omega)
      rw [append_str]
      exact .str _ _ (okS_append hx hy hl)
  case Sub =>
    apply pint_el hr
    intro i hr
    apply pint_el hr
    intro j hr
    apply some_el hr
    intro ha hb
    cases ha; cases hb
    exact AutoIntOps.isub_0 (EPost.fl (Step.toks ..) (.int ..))
  case FloorDiv =>
    apply pint_el hr
    intro i hr
    apply pint_el hr
    intro j hr
    apply if_el hr
    intro hl hr
    apply some_el hr
    intro ha hb
    cases ha; cases hb
    simp only [Bool.and_eq_true, decide_eq_true_eq] at hl
    refine ifloordiv_int (by omega) ?_ (Or.inl (no_pylong hl.1.2))
    rw [Int.fdiv_eq_ediv_of_nonneg _ (by omega)]
    exact EPost.fl (Step.toks ..) (.int ..)
  case Mod =>
    apply pint_el hr
    intro i hr
    apply pint_el hr
    intro j hr
    apply if_el hr
    intro hl hr
    apply some_el hr
    intro ha hb
    cases ha; cases hb
    simp only [decide_eq_true_eq] at hl
    refine imod_int (by omega) ?_
    rw [Int.fmod_eq_emod_of_nonneg _ (by omega)]
    exact EPost.fl (Step.toks ..) (.int ..)

/-! ## subscripts -/
noncomputable def isSlice : Expr → Bool
  | .Slice _ _ _ _ => true
  | _ => false
theorem sub_plain {slice : Expr} {o i : Value} (h : isSlice slice = false) : subscripted slice false o i = operate [o, i] (getItem o i) := by
  cases slice <;> first | rfl | cases h

theorem isTup_of {h : Heap} {a : Addr} {items : Array Value} (x : h.IsTuple a items) : IsTup h a items := x

theorem idx_ok {value slice : Expr} {va vi : Value} {a i r : PV} (hsl : isSlice slice = false) (ha : Rep prog w s.heap va a) (hi : Rep prog w s.heap vi i) (hr : pIdx a i = some r) :
    wpAny (model prog w) A (subscriptTail value slice va vi) (EPost prog w s r) NoE s := by
  revert ha hi
  apply pix_el hr
  · intro x hr
    apply pint_el hr
    intro k hr
    apply if_el hr
    intro h0 hr ha hi
    obtain ⟨c, hc, rfl⟩ := Option.map_eq_some_iff.mp hr
    cases ha; cases hi
    rename_i t hx u
    have hlt : k.toNat < x.length := (List.getElem?_eq_some_iff.mp hc).1
    have hl := len_le hx
    refine tail_any (typeIs_str s _ t) F.slot_str_getitem.lookup (P.getItem_str (c := c) ?_ ?_ ?_) (sub_plain hsl)
    · simp only [Bool.or_eq_false_iff, decide_eq_false_iff_not]; omega
    · rw [seqIndex_of h0 (by rw [str_len]; omega)]; simpa using hc
    · exact EPost.fl (Step.toks ..) (RepF.str [c] _ (okS_one (okS_mem hx (List.mem_of_getElem? hc))))
  · intro l hr
    apply pint_el hr
    intro k hr
    apply if_el hr
    intro h0 hr ha hi
    obtain ⟨f, hf, rfl⟩ := Option.map_eq_some_iff.mp hr
    obtain ⟨b, vs, rfl, xb, hvs, hl⟩ := ha
    cases hi
    rename_i u
    obtain ⟨v, hv, hq⟩ := hvs.get _ _ hf
    have hlt : k.toNat < l.length := (List.getElem?_eq_some_iff.mp hf).1
    unfold lim at hl
    exact tail_any xb.typeIs slot_list_getitem.lookup (wpAny_getItem_list xb h0 (by omega) (by simpa using hv) (EPost.fl (Step.refl _) hq)) (sub_plain hsl)
  · intro l hr
    apply pint_el hr
    intro k hr
    apply if_el hr
    intro h0 hr ha hi
    obtain ⟨f, hf, rfl⟩ := Option.map_eq_some_iff.mp hr
    obtain ⟨b, vs, rfl, xb, hvs⟩ := ha
    cases hi
    rename_i u
    obtain ⟨v, hv, hq⟩ := hvs.get _ _ hf
    have hlt : k.toNat < vs.length := (List.getElem?_eq_some_iff.mp hv).1
    exact tail_any xb.typeIs slot_tuple_getitem.lookup (getItem_tuple (isTup_of xb) (by omega) (by omega) (seqIndex_of h0.1 (by simp; omega)) (by simpa using hv) (EPost.fl (Step.refl _) hq)) (sub_plain hsl)
  · intro l hr
    apply pstr_el hr
    intro x hr ha hi
    obtain ⟨y, hy, rfl⟩ := Option.map_eq_some_iff.mp hr
    obtain ⟨d, kvs, rfl, hn, hd, hx⟩ := ha
    cases hi
    rename_i t hx0
    rcases dict_look (x := x) hx with ⟨y', v, e1, e2, e3⟩ | ⟨e1, e2⟩
    · rw [hy] at e1; cases e1
      exact tail_any hd.typeIs slot_dict_getitem.lookup (wpAny_getItem_of (strIs x t) hd.mapOf e2 (EPost.fl (Step.toks ..) e3)) (sub_plain hsl)
    · rw [hy] at e1; cases e1

/-! ## slices of texts -/
noncomputable def loI (l : Option Int) (n : Nat) : Nat := match l with
  | none => 0
  | some k => clampI n k
noncomputable def hiI (l : Option Int) (n : Nat) : Nat := match l with
  | none => n
  | some k => clampI n k
theorem clampI_le (n : Nat) (k : Int) : clampI n k ≤ n := by
  unfold clampI; split <;> omega
theorem clamp_eq (n : Nat) (k : Int) : max 0 (min (if k < 0 then k + n else k) (n : Int)) = (clampI n k : Int) := by
  unfold clampI; split <;> omega
theorem hiI_le (l : Option Int) (n : Nat) : hiI l n ≤ n := by
  cases l with
  | none => exact Nat.le_refl n
  | some k => exact clampI_le n k
theorem idx_range (l u : Option Int) (n : Nat) : Builtin.Str.strSliceIndices l u 1 n = (List.range (hiI u n - loI l n)).map (fun k => loI l n + k) := by
  have e : Builtin.Str.strSliceIndices l u 1 n = sliceRange (loI l n : Nat) (hiI u n : Nat) 1 := by
    unfold Builtin.Str.strSliceIndices
    simp only [show (1 : Int) > 0 from by decide, if_true]
    cases l <;> cases u <;> simp only [loI, hiI, clamp_eq] <;> rfl
  rw [e, sliceRange_one]
noncomputable def cut (x : List Nat) (l u : Option Int) : List Nat := (x.drop (loI l x.length)).take (hiI u x.length - loI l x.length)
theorem cut_len (x : List Nat) (l u : Option Int) : (cut x l u).length ≤ x.length := by
  unfold cut; rw [List.length_take, List.length_drop]; omega
theorem cut_mem {x : List Nat} {l u : Option Int} {c : Nat} (h : c ∈ cut x l u) : c ∈ x := List.mem_of_mem_drop (List.mem_of_mem_take h)
theorem slice_post {x : List Nat} {t : Tok} {l u : Option (Int × Tok)} {Q : Value → Shared → Prop} (hx : okS x = true)
    (h : ∀ t' k, Q (.str ⟨(cut x (l.map (·.1)) (u.map (·.1))).toArray⟩ t') { s with toks := k }) : (sliceMade ⟨x.toArray⟩ t l u none).post Q s := by
  have hp : slicePicked ⟨x.toArray⟩ l u none = (List.range (hiI (u.map (·.1)) x.length - loI (l.map (·.1)) x.length)).map (fun k => loI (l.map (·.1)) x.length + k) := by
    unfold slicePicked
    rw [str_len]
    exact idx_range _ _ _
  have hf : (slicePicked ⟨x.toArray⟩ l u none).filterMap ((⟨x.toArray⟩ : Str).cps[·]?) = cut x (l.map (·.1)) (u.map (·.1)) := by
    rw [hp]
    have := pick_run x.toArray (loI (l.map (·.1)) x.length) (hiI (u.map (·.1)) x.length - loI (l.map (·.1)) x.length)
    simpa [cut] using this
  unfold sliceMade
  rw [hf]
  split
  · rename_i hc
    have hlen : (slicePicked ⟨x.toArray⟩ l u none).length = x.length := by simpa [str_len] using hc
    rw [hp, List.length_map, List.length_range] at hlen
    have h2 := hiI_le (u.map (·.1)) x.length
    have h1 : loI (l.map (·.1)) x.length = 0 ∨ x.length = 0 := by omega
    have e : cut x (l.map (·.1)) (u.map (·.1)) = x := by
      unfold cut
      rcases h1 with h1 | h1
      · rw [hlen, h1, List.drop_zero, List.take_length]
      · have : x = [] := List.eq_nil_of_length_eq_zero h1
        subst this; simp
    have := h t s.toks
    rw [e] at this
    exact this
  · refine ⟨?_, h _ _⟩
    have h1 := cut_len x (l.map (·.1)) (u.map (·.1))
    have h2 := len_le hx
    rw [str_len, sz]; omega

theorem sub_slice {l u : Option Expr} {p : Pos} {o i : Value} : subscripted (.Slice l u none p) false o i = operate [i, o] (getItem o i) := rfl

/-- the cut of a text, where the bounds have been reckoned -/
theorem slice_ok {value : Expr} {el eu : Option Expr} {p : Pos} {x : List Nat} {t : Tok} {l u : Option (Int × Tok)} {s₀ : Shared} (hst : Step s₀ s) (hx : okS x = true) :
    wpAny (model prog w) A (subscriptTail value (.Slice el eu none p) (.str ⟨x.toArray⟩ t) (.ref s.heap.objs.size))
      (EPost prog w s₀ (.fl (.str (cut x (l.map (·.1)) (u.map (·.1)))))) NoE { s with heap := s.heap.push { cls := .type "slice", data := .fields #[partValue l, partValue u, .none] } } := by
  refine tail_any (typeIs_str _ _ t) F.slot_str_getitem.lookup (wpAny_getItem_str_slice (l := l) (u := u) (st := none) ⟨_, Heap.get?_push_size _ rfl, rfl, rfl⟩ rfl ?_) sub_slice
  refine slice_post hx fun t' k => EPost.fl (hst.trans (Step.both s _ k (Keep.push _ _))) (.str _ _ (okS_sub hx (cut_len ..) fun c => cut_mem))

theorem pSl_eq (x : List Nat) (lo hi : Int) : pSl x lo hi = cut x (some lo) (some hi) := by
  unfold pSl cut loI hiI; rw [List.drop_take]
theorem pSlF_eq (x : List Nat) (lo : Int) : pSlF x lo = cut x (some lo) none := by
  unfold pSlF cut loI hiI
  rw [List.take_of_length_le (by rw [List.length_drop]; exact Nat.le_refl _)]
theorem pSlT_eq (x : List Nat) (hi : Int) : pSlT x hi = cut x none (some hi) := by
  unfold pSlT cut loI hiI; simp

/-- the head of a list -/
theorem sliceL_ok {value : Expr} {eu : Option Expr} {p : Pos} {b : Addr} {vs : List Value} {l : List Fl} {k : Int} {u : Tok} {s₀ : Shared} (hst : Step s₀ s) (hb : s.heap.IsList b vs.toArray) (hl : All2 RepF vs l) (hlen : l.length ≤ lim) (h0 : 0 ≤ k) :
    wpAny (model prog w) A (subscriptTail value (.Slice none eu none p) (.ref b) (.ref s.heap.objs.size))
      (EPost prog w s₀ (.list (l.take k.toNat))) NoE { s with heap := s.heap.push { cls := .type "slice", data := .fields #[.none, .int k u, .none] } } := by
  have hlen' := hlen
  unfold lim at hlen'
  have e := hl.length
  refine tail_any (s := { s with heap := s.heap.push { cls := .type "slice", data := .fields #[.none, .int k u, .none] } }) (Heap.IsList.typeIs (s := { s with heap := s.heap.push { cls := .type "slice", data := .fields #[.none, .int k u, .none] } }) (hb.push _)) list_getitem_lookup
    (wpAny_getItem_list_slice (hb.push _) (Heap.IsSliceOf.new ..) .none (.int k u) .none (by simp) ?_ (by rw [sz]; simp; omega)) sub_slice
  have hp : slicePick vs.toArray none (some k) none = (vs.take k.toNat).toArray := by
    by_cases hk : k ≤ vs.length
    · have := slicePick_upto vs.toArray k.toNat (by simp; omega)
      rw [show ((k.toNat : Nat) : Int) = k by omega] at this
      simpa using this
    · have e2 : slicePick vs.toArray none (some k) none = slicePick vs.toArray none (some (vs.length : Int)) none := by
        unfold slicePick
        congr 3
        unfold sliceBounds
        simp only [List.size_toArray]
        have q1 : ¬ k < 0 := by omega
        have q2 : ¬ ((vs.length : Int) < 0) := by omega
        simp only [q1, q2, if_false]
        simp only [show min k (vs.length : Int) = vs.length by omega, Int.min_self, Option.getD_none, show (1 : Int) > 0 from by decide, if_true]
      rw [e2]
      have := slicePick_upto vs.toArray vs.length (by simp)
      rw [this]
      simp [List.take_of_length_le (show vs.length ≤ k.toNat by omega)]
  rw [hp]
  refine ⟨hst.trans (Step.heap s _ (Keep.trans (Keep.push _ _) (Keep.push _ _))), _, vs.take k.toNat, rfl, ⟨_, Heap.get?_push_size _ rfl, rfl, _, rfl⟩, hl.take _, ?_⟩
  rw [List.length_take]; omega
end
end Mine

end
section
open PySem PySem.W PyProof.Rows
namespace Mine

/-- what a slot bears -/
noncomputable def Slot (prog : Program) (w : World) (h : Heap) (own : Option (Nat × Addr)) (i : Nat) (mv : Option Value) : PV → Prop
  | .undef => True
  | .olist l => ∃ a vs n, own = some (i, a) ∧ mv = some (.ref a) ∧ h.get? a = some { cls := .type "list", data := .seq (List.toArray vs) n } ∧ All2 RepF vs l ∧ l.length ≤ lim
  | .orows l => ∃ a vs n, own = some (i, a) ∧ mv = some (.ref a) ∧ h.get? a = some { cls := .type "list", data := .seq (List.toArray vs) n } ∧ All2 (RepT h) vs l ∧ l.length ≤ lim
  | p => ∃ v, mv = some v ∧ Rep prog w h v p ∧ (own = none ∨ p.isFl = true) ∧ p.storable = true

noncomputable def Sim (prog : Program) (w : World) (h : Heap) (own : Option (Nat × Addr)) (nm : List Str) (m : Str → Option Value) (ρ : List PV) : Prop :=
  ∀ i x p, nm[i]? = some x → ρ[i]? = some p → Slot prog w h own i (m x) p

theorem Slot.keep {prog : Program} {w : World} {h h' : Heap} {own : Option (Nat × Addr)} {i : Nat} {mv : Option Value} {p : PV} (k : Keep h h') (x : Slot prog w h own i mv p) : Slot prog w h' own i mv p := by
  cases p with
  | undef => trivial
  | olist l => obtain ⟨a, vs, n, e1, e2, e3, e4⟩ := x; exact ⟨a, vs, n, e1, e2, k _ _ e3, e4⟩
  | orows l => obtain ⟨a, vs, n, e1, e2, e3, e4, e5⟩ := x; exact ⟨a, vs, n, e1, e2, k _ _ e3, e4.imp fun _ _ => RepT.keep k, e5⟩
  | fl f => obtain ⟨v, e, r, q⟩ := x; exact ⟨v, e, r.keep k, q⟩
  | tup f => obtain ⟨v, e, r, q⟩ := x; exact ⟨v, e, r.keep k, q⟩
  | list f => obtain ⟨v, e, r, q⟩ := x; exact ⟨v, e, r.keep k, q⟩
  | rows f => obtain ⟨v, e, r, q⟩ := x; exact ⟨v, e, r.keep k, q⟩
  | dict f => obtain ⟨v, e, r, q⟩ := x; exact ⟨v, e, r.keep k, q⟩

noncomputable def bnames : List (String × Value) := [("len", .builtin "len"), ("chr", .builtin "chr"), ("ord", .builtin "ord"), ("abs", .builtin "abs"), ("max", .builtin "max"), ("sorted", .builtin "sorted"), ("range", .type "range")]

/-- the module's names and what they bear -/
structure Gl (prog : Program) (w : World) (K : Frag) (mg mb : Str → Option Value) (fa : Nat → Addr) (gl : Nat → Option PV) (h : Heap) : Prop where
  inK : K.In h
  g : h.Ns mainGlobals mg
  b : h.Ns builtinsNs mb
  nolimit : h.NoLimit
  bi : ∀ n v, (n, v) ∈ bnames → mg (Str.ofString n) = none ∧ mb (Str.ofString n) = some v
  gls : ∀ g x p, gnames[g]? = some x → gl g = some p → ∃ v, mg x = some v ∧ Rep prog w h v p
  fns : ∀ f x, fnames[f]? = some x → mg x = some (.ref (fa f)) ∧ ∃ o fd, h.get? (fa f) = some o ∧ o.data = .func fd

section
variable {prog : Program} {w : World} {K : Frag} {mg mb : Str → Option Value} {fa : Nat → Addr} {gl : Nat → Option PV}
theorem Gl.keep {h h' : Heap} (k : Keep h h') (x : Gl prog w K mg mb fa gl h) : Gl prog w K mg mb fa gl h' where
  inK := x.inK.keeps k
  g := x.g.keeps k
  b := x.b.keeps k
  nolimit := x.nolimit.keeps k
  bi := x.bi
  gls := fun g n p e1 e2 => let ⟨v, e3, r⟩ := x.gls g n p e1 e2; ⟨v, e3, r.keep k⟩
  fns := fun f n e => let ⟨e1, o, fd, e2, e3⟩ := x.fns f n e; ⟨e1, o, fd, k _ _ e2, e3⟩

/-- a def's frame -/
structure Env0 (env : Env) : Prop where
  kind : env.scope.kind = .function
  globals : env.globals = mainGlobals
  builtins : env.builtins = builtinsNs

/-- what holds at a state within a frame -/
structure EC (prog : Program) (w : World) (K : Frag) (mg mb : Str → Option Value) (fa : Nat → Addr) (gl : Nat → Option PV) (env : Env) (own : Option (Nat × Addr)) (nm : List Str) (m : Str → Option Value) (ρ : List PV) (h : Heap) : Prop where
  ns : h.Ns env.locals m
  gl : Gl prog w K mg mb fa gl h
  sim : Sim prog w h own nm m ρ

variable {env : Env} {own : Option (Nat × Addr)} {nm : List Str} {m : Str → Option Value} {ρ : List PV} {A : Around} {s : Shared}
theorem EC.keep {h h' : Heap} (k : Keep h h') (x : EC prog w K mg mb fa gl env own nm m ρ h) : EC prog w K mg mb fa gl env own nm m ρ h' where
  ns := x.ns.keeps k
  gl := x.gl.keep k
  sim := fun i y p e1 e2 => (x.sim i y p e1 e2).keep k

/-- the def table's word -/
noncomputable def FnOK (prog : Program) (w : World) (K : Frag) (mg mb : Str → Option Value) (fa : Nat → Addr) (gl : Nat → Option PV) (A : Around) (fn : Nat → List PV → Option PV) : Prop :=
  ∀ f ps r vs s, fn f ps = some r → Gl prog w K mg mb fa gl s.heap → All2 (Rep prog w s.heap) vs ps →
    wpAny (model prog w) A (call (.ref (fa f)) vs) (EPost prog w s r) NoE s

theorem isGl_of {sc : Scope} {x : Str} (h : isGl sc x = true) : sc.names.lookup x = some .globalImplicit ∧ (x == ("__debug__" : Str)) = false := by
  unfold isGl at h
  rw [Bool.and_eq_true] at h
  exact ⟨by simpa using h.1, by simpa using h.2⟩

theorem name_gl {x : Str} {pos : Pos} {v : Value} {Q : Value → Shared → Prop} (E0 : Env0 env) (G : Gl prog w K mg mb fa gl s.heap) (hx : isGl env.scope x = true) (hv : mg x = some v) (h : Q v s) :
    wpAny (model prog w) A (eval (.Name x pos) env) Q NoE s :=
  Calls.Name_function_global E0.kind (isGl_of hx).1 (Calls.loadGlobal_global (env := env) (by rw [E0.globals]; exact G.g) hv h) (isGl_of hx).2
theorem name_bi {x : Str} {pos : Pos} {v : Value} {Q : Value → Shared → Prop} (E0 : Env0 env) (G : Gl prog w K mg mb fa gl s.heap) (hx : isGl env.scope x = true) (hm : mg x = none) (hv : mb x = some v) (h : Q v s) :
    wpAny (model prog w) A (eval (.Name x pos) env) Q NoE s :=
  Calls.Name_function_global E0.kind (isGl_of hx).1 (Calls.loadGlobal_builtin (env := env) (by rw [E0.globals]; exact G.g) hm (by rw [E0.builtins]; exact G.b) hv h) (isGl_of hx).2

theorem isF_name {k : Nat} {f : Expr} {Q : Value → Shared → Prop} (E0 : Env0 env) (G : Gl prog w K mg mb fa gl s.heap) (hf : isF env.scope k f = true) (h : Q (.ref (fa k)) s) : wpAny (model prog w) A (eval f env) Q NoE s := by
  unfold isF at hf
  split at hf
  · rw [Bool.and_eq_true] at hf
    exact name_gl E0 G hf.2 (G.fns k _ (by simpa using hf.1)).1 h
  · cases hf
theorem isB_name {n : String} {v : Value} {f : Expr} {Q : Value → Shared → Prop} (E0 : Env0 env) (G : Gl prog w K mg mb fa gl s.heap) (hm : (n, v) ∈ bnames) (hf : isB env.scope n f = true) (h : Q v s) : wpAny (model prog w) A (eval f env) Q NoE s := by
  unfold isB at hf
  split at hf
  · rw [Bool.and_eq_true] at hf
    have e := eq_of_beq hf.1
    obtain ⟨b1, b2⟩ := G.bi n v hm
    exact name_bi E0 G hf.2 (e ▸ b1) (e ▸ b2) h
  · cases hf

/-- no tree of the small language is a starred one, a slice or a comprehension -/
noncomputable def plainE : Expr → Bool
  | .Starred _ _ => false
  | .Slice _ _ _ _ => false
  | .ListComp _ _ _ _ => false
  | .SetComp _ _ _ _ => false
  | .DictComp _ _ _ _ _ => false
  | .Set _ _ _ => false
  | _ => true
theorem isS_plainE {x : List Nat} {e : Expr} (h : isS x e = true) : plainE e = true := by
  cases e <;> first | rfl | exact ff h
theorem isL_plainE {sc : Scope} {nm : List Str} {i : Nat} {e : Expr} (h : isL sc nm i e = true) : plainE e = true := by
  cases e <;> first | rfl | exact ff h
theorem mE_plain {sc : Scope} {nm : List Str} {a : ME} {e : Expr} (h : mE sc nm a e = true) : plainE e = true := by
  cases a
  case loc => exact isL_plainE h
  case str => exact isS_plainE h
  case int => apply xConst_el h; intros; rfl
  case bool => apply xConst_el h; intros; rfl
  case none => apply xConst_el h; intros; rfl
  case neg => apply xUn_el h; intros; rfl
  case not => apply xUn_el h; intros; rfl
  case glob => apply xName_el h; intros; rfl
  case bin => apply xBin_el h; intros; rfl
  case cmp => apply xCmp_el h; intros; rfl
  case chain => apply xCmp_el h; intros; rfl
  case and => apply xBool_el h; intros; rfl
  case and3 => apply xBool_el h; intros; rfl
  case or => apply xBool_el h; intros; rfl
  case cond => apply xIf_el h; intros; rfl
  case slF => apply xSub_el h; intros; rfl
  case slT => apply xSub_el h; intros; rfl
  case sl => apply xSub_el h; intros; rfl
  case idx => apply xSub_el h; intros; rfl
  case tup => apply xTup_el h; intros; rfl
  case list2 => apply xList_el h; intros; rfl
  case texts => apply xList_el h; intros; rfl
  case dict => apply xDict_el h; intros; rfl
  all_goals (apply xCall_el h; intros; rfl)
theorem plain_slice {e : Expr} (h : plainE e = true) : isSlice e = false := by
  cases e <;> first | rfl | cases h
theorem star_one {e : Expr} {rest : List Expr} (h : plainE e = true) : starEach (e :: rest) env = (false, eval e env) :: starEach rest env := by
  cases e <;> first | rfl | cases h
theorem kw_nil {kw : List Keyword} (h : noKw kw = true) : kw = [] := by cases kw <;> first | rfl | cases h
theorem fold_plain {e : Expr} (h : plainE e = true) (x : Value) : foldedSetIterable e env x = pure x := by
  cases e <;> first | rfl | cases h
theorem call_shape {f : Expr} {args : List Expr} {pos : Pos} (h : ∀ o n p, f ≠ .Attribute o n p) :
    eval (.Call f args [] pos) env = (do callWith pos (← eval f env) [] (backTo pos (starEach args env)) (backToKw pos (keywordEach [] env))) := by
  cases f <;> first | rfl | exact absurd rfl (h _ _ _)
theorem isF_shape {sc : Scope} {k : Nat} {f : Expr} (h : isF sc k f = true) : ∀ o n p, f ≠ .Attribute o n p := by
  intro o n p e; subst e; cases h
theorem isB_shape {sc : Scope} {k : String} {f : Expr} (h : isB sc k f = true) : ∀ o n p, f ≠ .Attribute o n p := by
  intro o n p e; subst e; cases h

/-- the arguments, one after the other -/
theorem arg1 {e : Expr} {pos : Pos} {p : PV} {Q : List Value → Shared → Prop} (hp : plainE e = true) (h : wpAny (model prog w) A (eval e env) (EPost prog w s p) NoE s)
    (k : ∀ v s', Step s s' → Rep prog w s'.heap v p → Q [v] s') : wpAny (model prog w) A (spliced (backTo pos (starEach [e] env))) Q NoE s :=
  args_cons (wpAny_mono h (fun v s' h' => args_nil (k v s' h'.1 h'.2)) fun _ _ x => x) (star_one hp)
theorem arg2 {e d : Expr} {pos : Pos} {p q : PV} {Q : List Value → Shared → Prop} (hp : plainE e = true) (hq : plainE d = true) (h : wpAny (model prog w) A (eval e env) (EPost prog w s p) NoE s)
    (h2 : ∀ s', Step s s' → wpAny (model prog w) A (eval d env) (EPost prog w s' q) NoE s')
    (k : ∀ v u s', Step s s' → Rep prog w s'.heap v p → Rep prog w s'.heap u q → Q [v, u] s') : wpAny (model prog w) A (spliced (backTo pos (starEach [e, d] env))) Q NoE s :=
  args_cons (wpAny_mono h (fun v s' h' => arg1 hq (h2 s' h'.1) fun u s'' st r => k v u s'' (h'.1.trans st) (h'.2.keep st.keep) r) fun _ _ x => x) (star_one hp)

theorem noStar {pos : Pos} : ∀ {es : List Expr}, es.all plainE = true → (backTo pos (starEach es env)).any (·.1) = false
  | [], _ => rfl
  | e :: r, h => by
    rw [List.all_cons, Bool.and_eq_true] at h
    rw [star_one h.1]
    show (false || (backTo pos (starEach r env)).any (·.1)) = false
    rw [noStar h.2]; rfl

theorem callF0 {k : Nat} {f : Expr} {pos : Pos} {r : PV} {fn : Nat → List PV → Option PV} (E0 : Env0 env) (G : Gl prog w K mg mb fa gl s.heap) (hF : FnOK prog w K mg mb fa gl A fn) (hk : k < fnames.length)
    (hf : isF env.scope k f = true) (hr : fn k [] = some r) : wpAny (model prog w) A (eval (.Call f [] [] pos) env) (EPost prog w s r) NoE s := by
  refine Call_ (isF_name E0 G hf ?_) (call_shape (isF_shape hf))
  obtain ⟨_, o, fd, ho, hd⟩ := G.fns k _ (List.getElem?_eq_getElem hk)
  exact Calls.callWith_function (o := o) (fd := fd) (PyProof.Rows.evalArgs_none ⟨⟨ho, hd⟩, hF k [] r [] s hr G .nil⟩)
theorem callF1 {k : Nat} {f e : Expr} {pos : Pos} {p r : PV} {fn : Nat → List PV → Option PV} (E0 : Env0 env) (G : Gl prog w K mg mb fa gl s.heap) (hF : FnOK prog w K mg mb fa gl A fn) (hk : k < fnames.length)
    (hf : isF env.scope k f = true) (hp : plainE e = true) (h : wpAny (model prog w) A (eval e env) (EPost prog w s p) NoE s) (hr : fn k [p] = some r) :
    wpAny (model prog w) A (eval (.Call f [e] [] pos) env) (EPost prog w s r) NoE s := by
  refine Call_ (isF_name E0 G hf ?_) (call_shape (isF_shape hf))
  obtain ⟨_, o, fd, ho, hd⟩ := G.fns k _ (List.getElem?_eq_getElem hk)
  refine callWith_def (o := o) (fd := fd) hd (arg1 hp h fun v s' st hv => ⟨st.keep _ _ ho, ?_⟩) (star_one hp)
  exact wpAny_mono (hF k [p] r [v] s' hr (G.keep st.keep) (.cons hv .nil)) (fun _ _ x => EPost.of st x) fun _ _ x => x
theorem callF2 {k : Nat} {f e d : Expr} {pos : Pos} {p q r : PV} {fn : Nat → List PV → Option PV} (E0 : Env0 env) (G : Gl prog w K mg mb fa gl s.heap) (hF : FnOK prog w K mg mb fa gl A fn) (hk : k < fnames.length)
    (hf : isF env.scope k f = true) (hp : plainE e = true) (hq : plainE d = true) (h : wpAny (model prog w) A (eval e env) (EPost prog w s p) NoE s)
    (h2 : ∀ s', Step s s' → wpAny (model prog w) A (eval d env) (EPost prog w s' q) NoE s') (hr : fn k [p, q] = some r) :
    wpAny (model prog w) A (eval (.Call f [e, d] [] pos) env) (EPost prog w s r) NoE s := by
  refine Call_ (isF_name E0 G hf ?_) (call_shape (isF_shape hf))
  obtain ⟨_, o, fd, ho, hd⟩ := G.fns k _ (List.getElem?_eq_getElem hk)
  refine callWith_def (o := o) (fd := fd) hd (arg2 hp hq h h2 fun v u s' st hv hu => ⟨st.keep _ _ ho, ?_⟩) (star_one hp)
  exact wpAny_mono (hF k [p, q] r [v, u] s' hr (G.keep st.keep) (.cons hv (.cons hu .nil))) (fun _ _ x => EPost.of st x) fun _ _ x => x

theorem callB1 {n : String} {f e : Expr} {pos : Pos} {p r : PV} (E0 : Env0 env) (G : Gl prog w K mg mb fa gl s.heap) (hm : (n, .builtin n) ∈ bnames)
    (hf : isB env.scope n f = true) (hp : plainE e = true) (h : wpAny (model prog w) A (eval e env) (EPost prog w s p) NoE s)
    (k : ∀ v s', Step s s' → Rep prog w s'.heap v p → wpAny (model prog w) A (call (.builtin n) [v]) (EPost prog w s' r) NoE s') :
    wpAny (model prog w) A (eval (.Call f [e] [] pos) env) (EPost prog w s r) NoE s := by
  refine Call_ (isB_name E0 G hm hf ?_) (call_shape (isB_shape hf))
  refine callWith_builtin1 (arg1 hp h fun v s' st hv => ?_) (star_one hp)
  exact wpAny_mono (k v s' st hv) (fun _ _ x => EPost.of st x) fun _ _ x => x
theorem callB2 {n : String} {f e d : Expr} {pos : Pos} {p q r : PV} (E0 : Env0 env) (G : Gl prog w K mg mb fa gl s.heap) (hm : (n, .builtin n) ∈ bnames)
    (hf : isB env.scope n f = true) (hp : plainE e = true) (hq : plainE d = true) (h : wpAny (model prog w) A (eval e env) (EPost prog w s p) NoE s)
    (h2 : ∀ s', Step s s' → wpAny (model prog w) A (eval d env) (EPost prog w s' q) NoE s')
    (k : ∀ v u s', Step s s' → Rep prog w s'.heap v p → Rep prog w s'.heap u q → wpAny (model prog w) A (call (.builtin n) [v, u]) (EPost prog w s' r) NoE s') :
    wpAny (model prog w) A (eval (.Call f [e, d] [] pos) env) (EPost prog w s r) NoE s := by
  refine Call_ (isB_name E0 G hm hf ?_) (call_shape (isB_shape hf))
  refine callWith_builtin1 (arg2 hp hq h h2 fun v u s' st hv hu => ?_) (star_one hp) (by exact noStar (by rw [List.all_cons, hq]; rfl))
  exact wpAny_mono (k v u s' st hv hu) (fun _ _ x => EPost.of st x) fun _ _ x => x

/-- a text for a key, a constant of the tree -/
theorem isS_eval {x : List Nat} {e : Expr} (h : isS x e = true) : wpAny (model prog w) A (eval e env) (EPost prog w s (.fl (.str x))) NoE s := by
  unfold isS at h
  split at h
  · rename_i t _ _
    rw [Bool.and_eq_true] at h
    have e : t = ⟨x.toArray⟩ := by
      apply Str.ext'; apply Array.toList_inj.mp; rw [eq_of_beq h.1]
    subst e
    exact Calls.Constant_str (EPost.fl (Step.toks ..) (.str _ _ h.2))
  · cases h
theorem isS_plain {x : List Nat} {e : Expr} (h : isS x e = true) : plainE e = true := by
  unfold isS at h
  split at h
  · rfl
  · cases h

theorem isL_eval {i : Nat} {e : Expr} {p : PV} (E0 : Env0 env) (C : EC prog w K mg mb fa gl env own nm m ρ s.heap) (h : isL env.scope nm i e = true) (hp : evalM (fun _ _ => none) gl ρ (.loc i) = some p) :
    wpAny (model prog w) A (eval e env) (EPost prog w s p) NoE s := by
  unfold isL at h
  split at h
  · rename_i x pos
    simp only [Bool.and_eq_true, Bool.not_eq_true'] at h
    have hx : nm[i]? = some x := by simpa using h.1.1
    have hk : env.kindOf x = some .local := by simpa [Env.kindOf] using h.1.2
    have key : ∀ v, m x = some v → Rep prog w s.heap v p → wpAny (model prog w) A (eval (.Name x pos) env) (EPost prog w s p) NoE s := fun v hv hr =>
      wpAny_Name (wpAny_loadName_local E0.kind hk C.ns hv ⟨Step.refl _, hr⟩) h.2
    simp only [evalM] at hp
    split at hp
    · rename_i f he; cases hp
      obtain ⟨v, e1, r, _⟩ := C.sim i x _ hx he
      exact key v e1 r
    · rename_i f he; cases hp
      obtain ⟨v, e1, r, _⟩ := C.sim i x _ hx he
      exact key v e1 r
    · rename_i f he; cases hp
      obtain ⟨v, e1, r, _⟩ := C.sim i x _ hx he
      exact key v e1 r
    · cases hp
  · cases h
end
end Mine

end
section
open PySem PySem.W PyProof.Rows PySem.Spec
namespace Mine

theorem findC_none (c : Nat) : ∀ (x : List Nat) (n : Nat), c ∉ x → findC c x n = -1
  | [], _, _ => rfl
  | d :: r, n, h => by
    have hd : (d == c) = false := by
      have : ¬ d = c := fun e => h (by rw [e]; exact List.mem_cons_self ..)
      simpa using this
    show (if d == c then (n : Int) else findC c r (n + 1)) = -1
    rw [hd]
    exact findC_none c r (n + 1) fun hm => h (List.mem_cons_of_mem _ hm)
theorem findC_some (c : Nat) : ∀ (x : List Nat) (n i : Nat), x[i]? = some c → (∀ k, k < i → x[k]? ≠ some c) → findC c x n = ((n + i : Nat) : Int)
  | [], _, i, h, _ => by simp at h
  | d :: r, n, 0, h, _ => by
    simp at h; subst h
    show (if d == d then (n : Int) else findC d r (n + 1)) = _
    simp
  | d :: r, n, i + 1, h, hk => by
    have h0 := hk 0 (by omega)
    simp at h0
    have hd : (d == c) = false := by simpa using h0
    show (if d == c then (n : Int) else findC c r (n + 1)) = _
    rw [hd]
    have := findC_some c r (n + 1) i (by simpa using h) fun k hlt => by
      have := hk (k + 1) (by omega)
      simpa using this
    rw [show n + (i + 1) = n + 1 + i by omega]
    exact this

theorem find_val (x : List Nat) (c : Nat) : Txt.find ⟨x.toArray⟩ ⟨[c].toArray⟩ = findC c x 0 := by
  rcases find_whole (⟨x.toArray⟩ : Str) ⟨#[c]⟩ with ⟨h1, h2⟩ | ⟨i, h1, h2, h3⟩
  · show Txt.find ⟨x.toArray⟩ ⟨#[c]⟩ = _
    rw [h1, findC_none]
    intro hm
    obtain ⟨j, hj⟩ := List.getElem?_of_mem hm
    exact h2 j ((StrLaws.subAt_one _ c j).mpr (by simpa using hj))
  · show Txt.find ⟨x.toArray⟩ ⟨#[c]⟩ = _
    rw [h1]
    have := findC_some c x 0 i (by simpa using (StrLaws.subAt_one _ c i).mp h2) fun k hk e => h3 k hk ((StrLaws.subAt_one _ c k).mpr (by simpa using e))
    rw [this]; simp

theorem starts_val (x y : List Nat) : Txt.startswith ⟨x.toArray⟩ ⟨y.toArray⟩ = y.isPrefixOf x := by
  unfold Txt.startswith
  rw [StrLaws.subAt_eq, str_len, str_len]
  simp only [Nat.zero_add, List.drop_zero]
  rw [Bool.eq_iff_iff, Bool.and_eq_true, decide_eq_true_eq, beq_iff_eq, List.isPrefixOf_iff_prefix, List.prefix_iff_eq_take]
  constructor
  · intro h; exact h.2.symm
  · intro h
    refine ⟨?_, h.symm⟩
    have := congrArg List.length h
    rw [List.length_take] at this
    omega

theorem count_val (x : List Nat) (c : Nat) : Txt.count ⟨x.toArray⟩ ⟨[c].toArray⟩ = (x.count c : Nat) := by
  have h : ∀ l : List Nat, cnt c l = (l.count c : Nat) := by
    intro l
    induction l with
    | nil => rfl
    | cons n r ih =>
      rw [cnt_cons, ih, List.count_cons]
      by_cases e : n = c
      · simp [e]; omega
      · simp [e]
  exact (count_is (⟨x.toArray⟩ : Str) c).trans (h x)

section
variable {prog : Program} {w : World} {env : Env} {A : Around}

/-! ## sorted over a dict -/
theorem insS_perm (x : List Nat) : ∀ l, (insS x l).Perm (x :: l)
  | [] => .refl _
  | y :: r => by
    unfold insS
    split
    · exact ((insS_perm x r).cons y).trans (.swap x y r)
    · exact .refl _
theorem sortS_perm : ∀ l, (sortS l).Perm l
  | [] => .refl _
  | x :: r => (insS_perm x (sortS r)).trans ((sortS_perm r).cons x)

theorem le_trans' {a b c : List Nat} (h1 : ¬ b < a) (h2 : ¬ c < b) : ¬ c < a := by
  intro h
  have h1' : a ≤ b := h1
  have h2' : b ≤ c := h2
  exact (List.le_trans h1' h2') h
theorem insS_sorted (x : List Nat) : ∀ l, l.Pairwise (fun a b => ¬ b < a) → (insS x l).Pairwise (fun a b => ¬ b < a)
  | [], _ => by simp [insS]
  | y :: r, h => by
    rw [List.pairwise_cons] at h
    unfold insS
    split
    · rename_i hlt
      have hlt' : y < x := by simpa using hlt
      rw [List.pairwise_cons]
      refine ⟨fun z hz => ?_, insS_sorted x r h.2⟩
      rcases List.mem_cons.mp ((insS_perm x r).mem_iff.mp hz) with rfl | hz'
      · exact fun q => absurd (List.lt_trans q hlt') (List.lt_irrefl _)
      · exact h.1 z hz'
    · rename_i hlt
      have hlt' : ¬ y < x := by simpa using hlt
      rw [List.pairwise_cons]
      refine ⟨fun z hz => ?_, List.pairwise_cons.mpr h⟩
      rcases List.mem_cons.mp hz with rfl | hz'
      · exact hlt'
      · exact le_trans' hlt' (h.1 z hz')
theorem sortS_sorted : ∀ l, (sortS l).Pairwise (fun a b => ¬ b < a)
  | [] => .nil
  | x :: r => insS_sorted x _ (sortS_sorted r)

theorem sorted_eq {l k : List (List Nat)} (hp : l.Perm k) (h1 : l.Pairwise (fun a b => ¬ b < a)) (h2 : k.Pairwise (fun a b => ¬ b < a)) : l = k := by
  have anti : ∀ a b : List Nat, ¬ b < a → ¬ a < b → a = b := fun a b h1 h2 => List.le_antisymm h1 h2
  exact hp.eq_of_pairwise (fun a b _ _ => anti a b) h1 h2

theorem strs_of {vs : List Value} {ss : List Str} (h : StrsAre vs ss) (hk : ∀ z ∈ ss, okS z.cps.toList = true) : All2 RepF vs ((ss.map (·.cps.toList)).map .str) := by
  induction h with
  | nil => exact .nil
  | cons x t r ih =>
    refine .cons ?_ (ih fun z hz => hk z (List.mem_cons_of_mem _ hz))
    have := RepF.str x.cps.toList t (hk x (List.mem_cons_self ..))
    simpa using this

theorem rising_pw : ∀ (l : List Str) (p : Str), risingS p l = true → ((p :: l).map (·.cps.toList)).Pairwise (fun a b => ¬ b < a)
  | [], p, _ => by simp
  | x :: r, p, h => by
    have h' : (!ltCps x.cps.toList p.cps.toList && risingS x r) = true := h
    rw [Bool.and_eq_true, ltCps_eq] at h'
    have ih := rising_pw r x h'.2
    have h0 : ¬ x.cps.toList < p.cps.toList := by simpa using h'.1
    rw [List.map_cons, List.pairwise_cons]
    refine ⟨fun z hz => ?_, ih⟩
    rw [List.map_cons] at hz
    rcases List.mem_cons.mp hz with rfl | hz'
    · exact h0
    · rw [List.map_cons, List.pairwise_cons] at ih
      exact le_trans' h0 (ih.1 z hz')
theorem sorted_pw : ∀ (l : List Str), sortedS l = true → (l.map (·.cps.toList)).Pairwise (fun a b => ¬ b < a)
  | [], _ => .nil
  | x :: r, h => rising_pw r x h

theorem strs_are : ∀ {kvs : List (Str × Value)} {vs : List Value}, vs.length = kvs.length → (∀ (j : Nat) (v : Value), vs[j]? = some v → ∃ k x, kvs[j]? = some (k, x) ∧ (strKind prog w).is k v = true) → StrsAre vs (kvs.map (·.1))
  | [], [], _, _ => .nil
  | (k, x) :: r, v :: l, hn, h => by
    obtain ⟨k', x', e, hk⟩ := h 0 v rfl
    simp at e
    obtain ⟨rfl, rfl⟩ := e
    obtain ⟨t, rfl⟩ := Value.isStrOf_shape hk
    exact .cons _ t (strs_are (by simpa using hn) fun j v hj => by
      have := h (j + 1) v (by simpa using hj)
      simpa using this)
  | [], _ :: _, hn, _ => by simp at hn
  | _ :: _, [], hn, _ => by simp at hn

theorem keys_eq {kvs : List (Str × Value)} {l : List (List Nat × List Nat)} (h : All2 (fun (p : Str × Value) q => p.1.cps.toList = q.1 ∧ RepF p.2 (.str q.2)) kvs l) : kvs.map (fun p => p.1.cps.toList) = l.map (·.1) := by
  induction h with
  | nil => rfl
  | cons h _ ih => rw [List.map_cons, List.map_cons, ih, h.1]

theorem sorted_call {s : Shared} {v : Value} {l : List (List Nat × List Nat)} (hh : A.handled = none) (hl : l.length < 64) (hk : l.all (fun p => okS p.1) = true) (hv : Rep prog w s.heap v (.dict l)) :
    wpAny (model prog w) A (call (.builtin "sorted") [v]) (EPost prog w s (.list ((sortS (l.map (·.1))).map .str))) NoE s := by
  obtain ⟨d, kvs, rfl, hn, hd, hx⟩ := hv
  have hlen := hx.length
  obtain ⟨ep, hat⟩ := hd.dictAt
  refine Calls.call_function_entry kind_sorted plain_sorted entry_sorted (args_sorted1 _) ?_
  unfold Builtin.«sorted»
  refine wpAny_bind (m := checkCount "sorted" 1 1 _) (wpAny_pure ?_)
  refine wpAny_bind (kdu_collect (A := A.in1) (kdl_dict (knd := PySem.strKind prog w) (kvs := kvs) (ep := ep) hn) hh hat (kdl_size (by omega)) fun h' tk acc hkp hacc => ?_)
  have hal : acc.toList.length = kvs.length := by rw [Array.length_toList]; exact hacc.1
  have hS : StrsAre acc.toList (kvs.map (·.1)) := strs_are (prog := prog) (w := w) hal fun j v e => hacc.2 j v (by rw [← Array.getElem?_toList]; exact e)
  have hsz : acc.size ≤ 16777216 := by rw [hacc.1]; omega
  refine wpAny_bind (wpAny_newList ?_ (by show acc.toList.length ≤ _; rw [Array.length_toList]; exact hsz))
  have hoL : (h'.push { cls := .type "list", data := .seq acc.toList.toArray }).get? h'.objs.size = some (seqObj "list" acc.toList.toArray 0) := Heap.get?_push_size _ rfl
  refine wpAny_bind (wpAny_holding (wpAny_call_entry slot_list_sort ⟨_, hoL, rfl⟩ entry_list_sort (list_sort_treeK strKind_oneLt hoL hS.keysOf (fun v₁ v₂ rest e => keyKind_strs (by rw [← e]; exact hS)) (by rw [hal]; omega) fun st' a1 a2 => ⟨_, rfl, ?_⟩) (args_list_sort _)))
  obtain ⟨ss', b1, b2, b3⟩ := sorted_out_str hS a1 a2
  obtain ⟨e, he⟩ := sortedHeap_at (out := (arrOf st').map (·.2)) hoL
  refine wpAny_pure ⟨_, rfl, ⟨_, tk, rfl, ?_⟩, ?_⟩
  · intro b o ho
    have h1 := hkp b o ho
    have hlt : b < h'.objs.size := Heap.lt_size h1
    show (sortedHeap _ _ _ _).get? b = some o
    rw [sortedHeap_old (Nat.ne_of_lt hlt) (by rw [Heap.size_push]; exact Nat.lt_succ_of_lt hlt)]
    exact Heap.get?_push_of_some _ h1
  · have hkeys : ss'.map (·.cps.toList) = sortS (l.map (·.1)) := by
      have p1 : (ss'.map (·.cps.toList)).Perm (l.map (·.1)) := by
        have := b2.map (fun z : Str => z.cps.toList)
        rw [List.map_map] at this
        rw [← keys_eq hx]
        exact this
      exact sorted_eq (p1.trans (sortS_perm _).symm) (sorted_pw _ b3) (sortS_sorted _)
    have hok : ∀ z ∈ ss', okS z.cps.toList = true := by
      intro z hz
      have hz' : z.cps.toList ∈ sortS (l.map (·.1)) := by rw [← hkeys]; exact List.mem_map_of_mem hz
      have hz2 := (sortS_perm _).mem_iff.mp hz'
      obtain ⟨p, hp, e⟩ := List.mem_map.mp hz2
      rw [← e]
      exact List.all_eq_true.mp hk p hp
    refine ⟨h'.objs.size, ((arrOf st').map (·.2)).toList, rfl, ⟨_, he, rfl, e, by rfl⟩, ?_, ?_⟩
    · rw [← hkeys]
      exact strs_of b1 hok
    · rw [List.length_map, (sortS_perm _).length_eq, List.length_map]
      unfold lim; omega
end
end Mine

end
section
open PySem PySem.W PyProof.Rows PySem.Spec
namespace Mine
section
variable {prog : Program} {w : World} {env : Env} {A : Around}

abbrev KV (p : Str × Value) (q : List Nat × List Nat) : Prop := p.1.cps.toList = q.1 ∧ RepF p.2 (.str q.2)
/-- one pair's trees: a text, and a text -/
noncomputable def PairOK (prog : Program) (w : World) (p : Sem Value × Sem Value) (q : List Nat × List Nat) : Prop :=
  ∀ (A : Around) (s : Shared), wpAny (model prog w) A p.1 (EPost prog w s (.fl (.str q.1))) NoE s ∧ wpAny (model prog w) A p.2 (EPost prog w s (.fl (.str q.2))) NoE s

theorem Keep.but {h h' h'' : Heap} {d : Addr} (k : Keep h h') (b : Heap.SameBut d h' h'') (hd : h.get? d = none) : Keep h h'' := fun x o e => by
  have hne : x ≠ d := by intro q; rw [q, hd] at e; cases e
  exact (b.2 x hne).trans (k x o e)
theorem Keep.fresh {h h' : Heap} (k : Keep h h') : h.get? h'.objs.size = none := by
  cases e : h.get? h'.objs.size with
  | none => rfl
  | some o => exact absurd (Heap.lt_size (k _ _ e)) (Nat.lt_irrefl _)

noncomputable def kvOf (q : List Nat × List Nat) (v : Value) : Str × Value := (⟨q.1.toArray⟩, v)
theorem key_is {q : List Nat} {v : Value} (h : RepF v (.str q)) : (strKind prog w).is ⟨q.toArray⟩ v = true := by
  cases h with
  | str x t hk => simp [PySem.strKind, Value.isStrOf]

theorem keys_kv {kvs : List (Str × Value)} {l : List (List Nat × List Nat)} (h : All2 KV kvs l) : kvs.map (·.1.cps.toList) = l.map (·.1) := keys_eq h
theorem nodup_kv {kvs : List (Str × Value)} {l : List (List Nat × List Nat)} (h : All2 KV kvs l) (hn : (l.map (·.1)).Nodup) : (kvs.map (·.1)).Nodup := by
  have e := keys_kv h
  rw [← e] at hn
  have : (kvs.map (·.1.cps.toList)) = (kvs.map (·.1)).map (fun x : Str => x.cps.toList) := by rw [List.map_map]; rfl
  rw [this] at hn
  exact List.Pairwise.of_map _ (fun a b hab => by intro e; exact hab (by rw [e])) hn
theorem All2.app {α β : Type} {R : α → β → Prop} {a b : List α} {c d : List β} (h : All2 R a c) (h' : All2 R b d) : All2 R (a ++ b) (c ++ d) := by
  induction h with
  | nil => exact h'
  | cons x _ ih => exact .cons x ih
theorem diffS_nodup : ∀ l : List (List Nat), diffS l = true → l.Nodup
  | [], _ => .nil
  | x :: r, h => by
    unfold diffS at h
    rw [Bool.and_eq_true] at h
    rw [List.nodup_cons]
    refine ⟨?_, diffS_nodup r h.2⟩
    have := h.1
    simp at this
    exact this

/-- the state of a dict under construction -/
noncomputable def Mk (prog : Program) (w : World) (h₀ : Heap) (d : Addr) (l : List (List Nat × List Nat)) (h : Heap) : Prop :=
  ∃ kvs, Keep h₀ h ∧ h₀.get? d = none ∧ h.DictOf (strKind prog w) d kvs ∧ All2 KV kvs l
theorem Mk.step {h₀ h h' : Heap} {d : Addr} {l : List (List Nat × List Nat)} (k : Keep h h') (x : Mk prog w h₀ d l h) : Mk prog w h₀ d l h' := by
  obtain ⟨kvs, a, b, c, e⟩ := x
  exact ⟨kvs, a.trans k, b, c.keep k, e⟩

theorem dictSet_one {h₀ : Heap} {d : Addr} {l : List (List Nat × List Nat)} {q : List Nat × List Nat} {kv vv : Value} {s : Shared} {Q : Unit → Shared → Prop}
    (x : Mk prog w h₀ d l s.heap) (hk : RepF kv (.str q.1)) (hv : RepF vv (.str q.2)) (hn : ((l ++ [q]).map (·.1)).Nodup) (hl : l.length < 64)
    (hQ : ∀ h' tk, Mk prog w h₀ d (l ++ [q]) h' → Q () { s with heap := h', toks := tk }) : wpAny (model prog w) A (dictSet d kv vv) Q NoE s := by
  obtain ⟨kvs, a, b, c, e⟩ := x
  have hlen := e.length
  refine wpAny_dictSet_pairs (hsz := by rw [sizeLine_eq]; omega) (key_is hk) c fun h₁ hm₁ hs₁ => ?_
  refine hQ h₁ _ ⟨kvs ++ [kvOf q vv], a.but hs₁ b, b, ?_, e.app (.cons ⟨by simp [kvOf], hv⟩ .nil)⟩
  have : stored kvs ⟨q.1.toArray⟩ vv = kvs ++ [kvOf q vv] := by
    have := merged_append_of_fresh kvs [kvOf q vv] (nodup_kv (e.app (.cons (a := kvOf q vv) (b := q) ⟨by simp [kvOf], hv⟩ .nil)) hn)
    rw [← this]; rfl
  rw [← this]; exact hm₁

theorem evalPairs_ok {s₀ : Shared} {pairs : List (Sem Value × Sem Value)} {l : List (List Nat × List Nat)} (h : All2 (PairOK prog w) pairs l) : ∀ {s : Shared}, Step s₀ s →
    wpAny (model prog w) A (evalPairs pairs) (fun vs s' => Step s₀ s' ∧ All2 (fun (p : Value × Value) q => RepF p.1 (.str q.1) ∧ RepF p.2 (.str q.2)) vs l) NoE s := by
  induction h with
  | nil => exact fun st => evalPairs_nil ⟨st, .nil⟩
  | cons h r ih =>
    intro s st
    rename_i p q ps l
    obtain ⟨k, v⟩ := p
    refine evalPairs_cons (wpAny_mono (h A s).1 (fun kv s1 h1 => ?_) fun _ _ e => e)
    refine wpAny_mono (h A s1).2 (fun vv s2 h2 => ?_) fun _ _ e => e
    exact wpAny_mono (ih (st.trans (h1.1.trans h2.1))) (fun vs s3 h3 => ⟨h3.1, .cons ⟨h1.2, h2.2⟩ h3.2⟩) fun _ _ e => e

theorem store_ok {s₀ : Shared} {d : Addr} {h₀ : Heap} {vs : List (Value × Value)} {l : List (List Nat × List Nat)}
    (hvs : All2 (fun (p : Value × Value) q => RepF p.1 (.str q.1) ∧ RepF p.2 (.str q.2)) vs l) : ∀ {done : List (List Nat × List Nat)} {s : Shared}, (∃ h tk, s = { s₀ with heap := h, toks := tk } ∧ Mk prog w h₀ d done h) →
    ((done ++ l).map (·.1)).Nodup → (done ++ l).length < 64 →
    wpAny (model prog w) A (storeAll d vs) (fun _ s' => ∃ h tk, s' = { s₀ with heap := h, toks := tk } ∧ Mk prog w h₀ d (done ++ l) h) NoE s := by
  induction hvs with
  | nil =>
    intro done s st _ _
    unfold storeAll
    rw [List.forIn_nil, List.append_nil]
    exact wpAny_pure st
  | cons hx r ih =>
    intro done s st hn hl
    rename_i p q vs l
    obtain ⟨k, v⟩ := p
    obtain ⟨h, tk, rfl, hm⟩ := st
    unfold storeAll
    rw [List.forIn_cons]
    have e : done ++ q :: l = (done ++ [q]) ++ l := by rw [List.append_assoc]; rfl
    rw [e] at hn hl ⊢
    have hn' : ((done ++ [q]).map (·.1)).Nodup := by
      rw [List.map_append] at hn; exact (List.nodup_append.mp hn).1
    refine wpAny_bind (wpAny_bind (dictSet_one hm hx.1 hx.2 hn' (by simp at hl; omega) fun h' tk' hm' => wpAny_pure ?_))
    exact ih ⟨h', tk', rfl, hm'⟩ hn hl

theorem Mk.new (h : Heap) : Mk prog w h h.objs.size [] (h.push { cls := .type "dict", data := .dict #[] }) :=
  ⟨[], Keep.push _ _, (Keep.refl h).fresh, Heap.DictOf.new h, .nil⟩

theorem subDict_ok {s : Shared} {pairs : List (Sem Value × Sem Value)} {l : List (List Nat × List Nat)} (hp : All2 (PairOK prog w) pairs l) (hn : (l.map (·.1)).Nodup) (hl : l.length < 64) :
    wpAny (model prog w) A (subDict pairs) (fun d s' => ∃ h tk, s' = { s with heap := h, toks := tk } ∧ d = s.heap.objs.size ∧ Mk prog w s.heap d l h) NoE s := by
  by_cases hle : pairs.length ≤ 15
  · refine wpAny_subDict_any hle ?_
    refine wpAny_mono (evalPairs_ok hp (Step.refl _)) (fun vs s1 h1 => ?_) fun _ _ e => e
    obtain ⟨⟨h, tk, rfl, k⟩, hx⟩ := h1
    refine wpAny_mono (store_ok (done := []) (s₀ := s) (h₀ := s.heap) hx ⟨h, tk, rfl, (Mk.new s.heap).step k⟩ hn hl) (fun _ s2 h2 => ?_) fun _ _ e => e
    obtain ⟨h', tk', rfl, hm⟩ := h2
    exact ⟨h', tk', rfl, rfl, hm⟩
  · unfold subDict
    refine wpAny_bind (wpAny_alloc ?_)
    refine wpAny_bind (wpAny_holding ?_)
    rw [if_neg hle]
    refine wpAny_bind (wpAny_rule ?_)
    refine wpAny_bind ?_
    refine wpAny_forIn_list _ (fun rest _ s' => ∃ done todo h tk, l = done ++ todo ∧ All2 (PairOK prog w) rest todo ∧ s' = { s with heap := h, toks := tk } ∧ Mk prog w s.heap s.heap.objs.size done h)
      _ ?_ ?_ _ _ ⟨[], l, _, s.toks, rfl, hp, rfl, Mk.new s.heap⟩
    · rintro ⟨k, v⟩ rest b s' ⟨done, todo, h, tk, e, hr, rfl, hm⟩
      cases hr with
      | cons hx hr =>
        rename_i q todo
        rw [show done ++ q :: todo = (done ++ [q]) ++ todo by simp] at e
        have hn' : ((done ++ [q]).map (·.1)).Nodup := by
          rw [e, List.map_append] at hn; exact (List.nodup_append.mp hn).1
        have hl' : done.length < 64 := by rw [e] at hl; simp at hl; omega
        refine wpAny_bind (wpAny_mono (hx _ _).1 (fun kv s1 h1 => ?_) fun _ _ e => e)
        obtain ⟨⟨h1', tk1, rfl, k1⟩, hk⟩ := h1
        refine wpAny_bind (wpAny_holding (wpAny_mono (hx _ _).2 (fun vv s2 h2 => ?_) fun _ _ e => e))
        obtain ⟨⟨h2', tk2, rfl, k2⟩, hv⟩ := h2
        refine wpAny_bind (wpAny_holding (dictSet_one ((hm.step k1).step k2) hk hv hn' hl' fun h' tk' hm' => wpAny_pure ?_))
        exact ⟨done ++ [q], todo, h', tk', e, hr, rfl, hm'⟩
    · rintro b s' ⟨done, todo, h, tk, e, hr, rfl, hm⟩
      cases hr
      rw [List.append_nil] at e
      subst e
      exact wpAny_pure (wpAny_pure ⟨h, tk, rfl, rfl, hm⟩)
end
end Mine

end
section
open PySem PySem.W PyProof.Rows PySem.Spec
namespace Mine
section
variable {prog : Program} {w : World} {env : Env} {A : Around}

theorem dictPut_one {h₀ : Heap} {d : Addr} {l : List (List Nat × List Nat)} {q : List Nat × List Nat} {kv vv : Value} {s : Shared} {Q : Unit → Shared → Prop}
    (x : Mk prog w h₀ d l s.heap) (hkey : (PySem.strKind prog w).is ⟨q.1.toArray⟩ kv = true) (hv : RepF vv (.str q.2)) (hn : ((l ++ [q]).map (·.1)).Nodup) (hl : l.length < 64)
    (hQ : ∀ h', Heap.SameBut d s.heap h' → Mk prog w h₀ d (l ++ [q]) h' → Q () { s with heap := h' }) : wpAny (model prog w) A (dictPut d ((PySem.strKind prog w).hash ⟨q.1.toArray⟩) kv vv) Q NoE s := by
  obtain ⟨kvs, a, b, c, e⟩ := x
  have hlen := e.length
  have hnd : ((kvs ++ [kvOf q vv]).map (·.1)).Nodup := nodup_kv (e.app (.cons (a := kvOf q vv) (b := q) ⟨by simp [kvOf], hv⟩ .nil)) hn
  obtain ⟨o, es, ep, ho, hc, hd, hkk, hp, hnn⟩ := id c
  have hes : es.size ≤ sizeLine := by
    have e1 := hp.length
    have e2 : es.toList.length = es.size := by simp
    rw [sizeLine_eq]; omega
  have hidx : (es.findIdx? fun e => (PySem.strKind prog w).is ⟨q.1.toArray⟩ e.key) = kvs.findIdx? fun kv => decide (kv.1 = ⟨q.1.toArray⟩) := by
    rw [← hp.findIdx _]; obtain ⟨l⟩ := es; simp
  have hnot : (⟨q.1.toArray⟩ : Str) ∉ kvs.map (·.1) := by
    rw [List.map_append, List.nodup_append] at hnd
    exact fun hm => hnd.2.2 _ hm _ (by simp [kvOf]) rfl
  have hno : (es.findIdx? fun e => (PySem.strKind prog w).is ⟨q.1.toArray⟩ e.key) = none := by
    rw [hidx, List.findIdx?_eq_none_iff]
    intro p hp
    have : ¬ p.1 = (⟨q.1.toArray⟩ : Str) := fun e => hnot (by rw [← e]; exact List.mem_map_of_mem hp)
    simpa using this
  unfold dictPut
  refine wpAny_bind (wpAny_dictFind_of hkey ho hd hkk ?_)
  rw [hno]
  refine wpAny_updateDictKeys (hz := hes) ho hd ?_
  refine hQ _ (Heap.SameBut.update ..) ⟨kvs ++ [kvOf q vv], a.but (Heap.SameBut.update ..) b, b, ?_, e.app (.cons ⟨by simp [kvOf], hv⟩ .nil)⟩
  refine ⟨_, _, ep + 1, Heap.get?_update_self _ ho (Obj.isFreed_of_dict (Obj.data_mapDictKeys hd _)),
      hc.mapDictKeys _, Obj.data_mapDictKeys hd _, hkk.push hkey _, ?_, hnd⟩
  have := hp.append hkey ((PySem.strKind prog w).hash ⟨q.1.toArray⟩) vv
  obtain ⟨l⟩ := es
  simpa [kvOf] using this

theorem merge_ok {s : Shared} {h₀ : Heap} {d a : Addr} {l m : List (List Nat × List Nat)} (ha : (a == sysModules) = false) (hda : d ≠ a) (hl0 : l ≠ []) (hd : Mk prog w h₀ d l s.heap)
    (hm : ∃ kvs, s.heap.DictOf (PySem.strKind prog w) a kvs ∧ All2 KV kvs m) (hn : ((l ++ m).map (·.1)).Nodup) (hl : (l ++ m).length < 64) :
    wpAny (model prog w) A (mergeMapping d (.ref a) false) (fun _ s' => ∃ h, s' = { s with heap := h } ∧ Mk prog w h₀ d (l ++ m) h) NoE s := by
  obtain ⟨more, ho, hmx⟩ := hm
  obtain ⟨kvs, a1, a2, a3, a4⟩ := id hd
  obtain ⟨od, esd, epd, hod, hcd, hdd, hkd, hpd, hnd⟩ := id a3
  obtain ⟨oo, eso, epo, hoo, hco, hdo', hko, hpo, hno⟩ := id ho
  have hlen : more.length = eso.size := by rw [← hpo.length]; simp
  unfold mergeMapping
  refine wpAny_bind (wpAny_isInstance ho.typeIs isSubtype_dict_dict ?_)
  dsimp only
  rw [if_pos rfl]
  refine wpAny_bind (wpAny_specialOf ho.typeIs F.slot_dict_iter.lookup ?_)
  refine wpAny_bind (wpAny_pure ?_)
  simp only [beq_self_eq_true]
  rw [if_neg (by rw [ha]; exact Bool.false_ne_true)]
  refine wpAny_bind (wpAny_dictEntries hod hdd ?_)
  have hne : esd.isEmpty = false := by
    cases hE : esd.isEmpty with
    | false => rfl
    | true =>
      exfalso
      have h0 : esd = #[] := Array.isEmpty_iff.mp hE
      have h1 := hpd.length
      rw [h0] at h1
      have h2 := a4.length
      exact hl0 (List.length_eq_zero_iff.mp (by rw [← h2, ← h1]; rfl))
  rw [if_neg (by rw [hne]; exact Bool.false_ne_true)]
  refine wpAny_bind (wpAny_dictEntries hoo hdo' ?_)
  refine wpAny_bind (wpAny_dictEpoch hoo hdo' ?_)
  refine wpAny_bind ?_
  refine wpAny_forIn_list _ (fun rest _ s' => ∃ h i, s' = { s with heap := h } ∧ rest = List.range' i (eso.size - i) ∧ i ≤ eso.size ∧ Mk prog w h₀ d (l ++ m.take i) h ∧ h.get? a = some oo)
      _ ?_ ?_ (List.range eso.size) PUnit.unit ⟨s.heap, 0, rfl, by rw [List.range_eq_range']; rfl, Nat.zero_le _, by simpa using hd, hoo⟩
  · rintro x rest b s' ⟨h', i, rfl, hr, hi, hd', hoo'⟩
    have hlt : i < eso.size := by
      rcases Nat.lt_or_ge i eso.size with h | h
      · exact h
      · rw [Nat.sub_eq_zero_of_le h] at hr; simp at hr
    obtain ⟨rfl, hrest⟩ : x = i ∧ rest = List.range' (i + 1) (eso.size - (i + 1)) := by
      have e : eso.size - i = (eso.size - (i + 1)) + 1 := by omega
      rw [e, List.range'_succ] at hr
      injection hr with h1 h2
      exact ⟨h1, h2⟩
    have hlm := hmx.length
    refine wpAny_bind (wpAny_dictEntries hoo' hdo' ?_)
    rw [Array.getElem?_eq_getElem hlt]
    obtain ⟨kv, hkv⟩ : ∃ kv, more[x]? = some kv := ⟨more[x]'(by rw [hlen]; exact hlt), List.getElem?_eq_getElem _⟩
    obtain ⟨q, hq⟩ : ∃ q, m[x]? = some q := ⟨m[x]'(by omega), List.getElem?_eq_getElem _⟩
    have hkvq : KV kv q := by
      obtain ⟨p, e1, e2⟩ := hmx.get x q hq
      rw [hkv] at e1; cases e1; exact e2
    obtain ⟨k, v⟩ := kv
    obtain ⟨hkey, hval⟩ := hpo.get? (e := eso[x]) (by simp [hlt]) hkv
    obtain ⟨k', hkey', hhash⟩ := hko eso[x] (Array.getElem_mem hlt)
    obtain rfl : k' = k := (PySem.strKind prog w).inj _ _ _ hkey' hkey
    have htake : m.take (x + 1) = m.take x ++ [q] := by rw [List.take_add_one, hq]; rfl
    have hqk : k' = ⟨q.1.toArray⟩ := by
      apply Str.ext'; apply Array.toList_inj.mp; rw [hkvq.1]
    have hkk : (PySem.strKind prog w).is ⟨q.1.toArray⟩ eso[x].key = true := by rw [← hqk]; exact hkey
    have hvv : RepF eso[x].val (.str q.2) := by rw [hval]; exact hkvq.2
    have hnx : ((l ++ m.take x ++ [q]).map (·.1)).Nodup := by
      rw [List.append_assoc, ← htake]
      refine List.Nodup.sublist (List.Sublist.map _ (List.Sublist.append_left (List.take_sublist _ _) _)) hn
    have hlx : (l ++ m.take x).length < 64 := by
      have : (l ++ m.take x).length ≤ (l ++ m).length := by simp; omega
      omega
    dsimp only
    rw [if_neg Bool.false_ne_true]
    rw [hhash, hqk]
    refine wpAny_bind (wpAny_holding (dictPut_one hd' hkk hvv hnx hlx fun h'' hs'' hm'' => ?_))
    have hoo'' : h''.get? a = some oo := (hs''.2 a (Ne.symm hda)).trans hoo'
    refine wpAny_bind (wpAny_dictEpoch hoo'' hdo' ?_)
    rw [if_neg (by simp)]
    exact wpAny_pure ⟨h'', x + 1, rfl, hrest, hlt, by rw [htake, ← List.append_assoc]; exact hm'', hoo''⟩
  · rintro b s' ⟨h', i, rfl, hr, hi, hd', hoo'⟩
    have hin : i = eso.size := by
      rcases Nat.lt_or_ge i eso.size with h | h
      · have e : eso.size - i = (eso.size - (i + 1)) + 1 := by omega
        rw [e, List.range'_succ] at hr; exact nomatch hr
      · exact Nat.le_antisymm hi h
    have hlm := hmx.length
    refine wpAny_pure ⟨h', rfl, ?_⟩
    rw [hin, ← hlen, hlm, List.take_length] at hd'; exact hd'
end
end Mine

end
section
open PySem PySem.W PyProof.Rows PySem.Spec
namespace Mine
section
variable {prog : Program} {w : World} {env : Env} {A : Around}

noncomputable def MainI (prog : Program) (w : World) (s : Shared) (main : Option Addr) (done : List (List Nat × List Nat)) (s' : Shared) : Prop :=
  ∃ h tk, s' = { s with heap := h, toks := tk } ∧ Keep s.heap h ∧ match main with
    | none => done = []
    | some d => done ≠ [] ∧ (d == sysModules) = false ∧ Mk prog w s.heap d done h

theorem areK_pairs : ∀ {l : List (List Nat × List Nat)} {ks : List (Option Expr)} {es : List Expr} {pos : Pos}, areK l ks es = true → ks.all (·.isSome) = true ∧ ks.length = es.length ∧ All2 (PairOK prog w) (pairTrees ks es env pos) l
  | [], [], [], _, _ => ⟨rfl, rfl, .nil⟩
  | (x, y) :: r, some e :: s, d :: t, pos, h => by
    unfold areK at h
    rw [Bool.and_eq_true, Bool.and_eq_true] at h
    obtain ⟨h1, h2, h3⟩ := areK_pairs (pos := pos) h.2
    refine ⟨by simpa using h1, by simpa using h2, .cons (fun A s => ⟨isS_eval h.1.1, ?_⟩) h3⟩
    refine wpAny_bind (wpAny_mono (isS_eval h.1.2) (fun v s1 h1 => ?_) fun _ _ e => e)
    exact wpAny_bind (wpAny_standAt (wpAny_pure h1))
  | [], _ :: _, _, _, h => by cases h
  | [], [], _ :: _, _, h => by cases h
  | _ :: _, [], _, _, h => by cases h
  | _ :: _, none :: _, _, _, h => by cases h
  | _ :: _, some _ :: _, [], _, h => by cases h

theorem flush_ok {s s1 : Shared} {main : Option Addr} {done cur : List (List Nat × List Nat)} {run : List (Sem Value × Sem Value)} (hbig : s.heap.NoLimit)
    (hm : MainI prog w s main done s1) (hr : All2 (PairOK prog w) run cur) (hn : ((done ++ cur).map (·.1)).Nodup) (hl : (done ++ cur).length < 64) :
    wpAny (model prog w) A (if run.isEmpty = true then pure main else match main with
      | none => do
        let d ← subDict run
        pure (some d)
      | some d => do
        let sub ← holding [.ref d] (subDict run)
        (holding [.ref d, .ref sub] (mergeMapping d (.ref sub) false)).onRaise fun x => do let _ ← holding [.ref d, x] (runValue (.builtin "proto.let_go" {}))
        pure (some d)) (fun main' s' => MainI prog w s main' (done ++ cur) s') NoE s1 := by
  obtain ⟨h, tk, rfl, k, hmm⟩ := hm
  cases hr with
  | nil => rw [List.append_nil]; exact wpAny_pure ⟨h, tk, rfl, k, hmm⟩
  | cons hx hr =>
    rename_i p q run cur
    rw [if_neg (by simp)]
    have hge : 2 < h.objs.size := by
      obtain ⟨mc, ⟨o, es, ep, ho, _⟩, _⟩ := hbig
      exact Heap.lt_size (k _ _ ho)
    have hsz : (h.objs.size == sysModules) = false := beq_eq_false_iff_ne.mpr (Nat.ne_of_gt (Nat.lt_trans (by decide) hge))
    have hcur : ((q :: cur).map (·.1)).Nodup := by rw [List.map_append] at hn; exact (List.nodup_append.mp hn).2.1
    have hcl : (q :: cur).length < 64 := by rw [List.length_append] at hl; omega
    cases main with
    | none =>
      dsimp only at hmm ⊢
      subst hmm
      refine wpAny_bind (wpAny_mono (subDict_ok (.cons hx hr) hcur hcl) (fun d s2 h2 => ?_) fun _ _ e => e)
      obtain ⟨h', tk', rfl, rfl, kvs, a, b, c, e⟩ := h2
      refine wpAny_pure ⟨h', tk', rfl, k.trans a, by simp, hsz, kvs, k.trans a, ?_, c, e⟩
      exact k.fresh
    | some d =>
      dsimp only at hmm ⊢
      obtain ⟨hne, hdm, hmk⟩ := hmm
      refine wpAny_bind (wpAny_holding (wpAny_mono (subDict_ok (.cons hx hr) hcur hcl) (fun sub s2 h2 => ?_) fun _ _ e => e))
      obtain ⟨h', tk', rfl, rfl, kvs, a, b, c, e⟩ := h2
      have hdlt : d < h.objs.size := by
        obtain ⟨kv, _, _, ⟨o, es, ep, ho, _⟩, _⟩ := hmk
        exact Heap.lt_size ho
      refine wpAny_bind (wpAny_onRaise (wpAny_holding (wpAny_mono (merge_ok (h₀ := s.heap) (l := done) (m := q :: cur) hsz (Nat.ne_of_lt hdlt) hne (hmk.step a) ⟨kvs, c, e⟩ hn hl) (fun _ s3 h3 => ?_) fun _ _ e => e.elim)))
      · obtain ⟨h3', rfl, hm3⟩ := h3
        refine wpAny_pure ⟨h3', _, rfl, ?_, by simp, hdm, hm3⟩
        obtain ⟨_, k3, _⟩ := hm3
        exact k3

theorem display_ok {s : Shared} {pairs : List (Sem Value × Sem Value)} {l : List (List Nat × List Nat)} (hbig : s.heap.NoLimit) (h0 : l ≠ []) (hp : All2 (PairOK prog w) pairs l) (hn : (l.map (·.1)).Nodup) (hl : l.length < 64) :
    wpAny (model prog w) A (dictDisplay (pairs.map fun p => (some p.1, p.2))) (EPost prog w s (.dict l)) NoE s := by
  unfold dictDisplay
  dsimp only
  refine wpAny_bind ?_
  refine wpAny_forIn_list _ (fun rest (st : Option Addr × List (Sem Value × Sem Value)) s' => ∃ done cur todo ps, l = done ++ cur ++ todo ∧ rest = ps.map (fun p => (some p.1, p.2)) ∧ All2 (PairOK prog w) ps todo ∧ All2 (PairOK prog w) st.2 cur ∧ MainI prog w s st.1 done s')
      _ ?_ ?_ (pairs.map fun p => (some p.1, p.2)) ((none : Option Addr), []) ⟨[], [], l, pairs, rfl, rfl, hp, .nil, s.heap, s.toks, rfl, Keep.refl _, rfl⟩
  · rintro x rest ⟨main, run⟩ s' ⟨done, cur, todo, ps, e, er, hps, hrun, hm⟩
    cases hps with
    | nil => cases er
    | cons hx hps =>
      rename_i p q ps todo
      rw [List.map_cons] at er
      injection er with e1 e2
      subst e1
      have hrun' : All2 (PairOK prog w) (run ++ [(p.1, p.2)]) (cur ++ [q]) := hrun.append (.cons hx .nil)
      have e' : l = done ++ (cur ++ [q]) ++ todo := by rw [e]; simp
      dsimp only
      split
      · refine wpAny_bind (wpAny_mono (flush_ok hbig hm hrun' ?_ ?_) (fun main' s2 h2 => ?_) fun _ _ e => e)
        · rw [e', List.map_append] at hn; exact (List.nodup_append.mp hn).1
        · rw [e', List.length_append] at hl; omega
        · exact wpAny_pure ⟨done ++ (cur ++ [q]), [], todo, ps, by rw [e']; simp, e2, hps, .nil, h2⟩
      · exact wpAny_pure ⟨done, cur ++ [q], todo, ps, e', e2, hps, hrun', hm⟩
  · rintro ⟨main, run⟩ s' ⟨done, cur, todo, ps, e, er, hps, hrun, hm⟩
    cases ps with
    | cons _ _ => cases er
    | nil =>
      cases hps
      rw [List.append_nil] at e
      subst e
      refine wpAny_bind (wpAny_mono (flush_ok hbig hm hrun hn hl) (fun main' s2 h2 => ?_) fun _ _ e => e)
      obtain ⟨h, tk, rfl, k, hmm⟩ := h2
      cases main' with
      | none => exact absurd hmm h0
      | some d =>
        obtain ⟨_, hdm, kvs, a, b, c, e⟩ := hmm
        exact wpAny_pure ⟨⟨h, tk, rfl, k⟩, d, kvs, rfl, hdm, c, e⟩

/-- the dict display -/
theorem dict_eval {s : Shared} {l : List (List Nat × List Nat)} {ks : List (Option Expr)} {es : List Expr} {pos : Pos} (hl : okD l = true) (hlim : s.heap.NoLimit) (h : areK l ks es = true) :
    wpAny (model prog w) A (eval (.Dict ks es pos) env) (EPost prog w s (.dict l)) NoE s := by
  obtain ⟨h1, h2, h3⟩ := areK_pairs (prog := prog) (w := w) (env := env) (pos := pos) h
  unfold okD at hl
  rw [Bool.and_eq_true, Bool.and_eq_true, decide_eq_true_eq, decide_eq_true_eq] at hl
  rw [arm_eval_Dict, zip_pairTrees ks es env pos h1 h2]
  refine wpAny_bind (wpAny_standAt ?_)
  exact display_ok hlim (fun e => by rw [e] at hl; exact absurd hl.1.1 (by decide)) h3 (diffS_nodup _ hl.2) hl.1.2
end
end Mine

end
section
open PySem PySem.W PyProof.Rows
namespace Mine
section
variable {prog : Program} {w : World} {K : Frag} {mg mb : Str → Option Value} {fa : Nat → Addr} {gl : Nat → Option PV}
variable {env : Env} {own : Option (Nat × Addr)} {nm : List Str} {m : Str → Option Value} {ρ : List PV} {A : Around} {s : Shared}

theorem truthy_of {b : Bool} {v : Value} {s' : Shared} (h : EPost prog w s (.fl (.bool b)) v s') : wpAny (model prog w) A (truthy v) (fun c s'' => c = b ∧ s'' = s') NoE s' := by
  obtain ⟨_, h⟩ := h
  cases h
  exact wpAny_truthy_bool ⟨rfl, rfl⟩

theorem isF_lt {sc : Scope} {k : Nat} {f : Expr} (h : isF sc k f = true) : k < fnames.length := by
  unfold isF at h
  split at h
  · rw [Bool.and_eq_true] at h
    have e : fnames[k]? = some _ := eq_of_beq h.1
    exact (List.getElem?_eq_some_iff.mp e).1
  · cases h

theorem base_plain {o : Expr} {n : Str} (h : noSup o = true) : attributeBase o n env (eval o env) = eval o env := by
  unfold attributeBase
  split
  · rename_i id p1 p2
    have : (id != Str.ofString "super") = true := by simpa [noSup, bne] using h
    simp only [this, Bool.true_or]
    rfl
  · rfl

theorem spl1 {e : Expr} (hp : plainE e = true) : starEach [e] env = [(false, eval e env)] := star_one hp
theorem spl2 {e d : Expr} (hp : plainE e = true) (hq : plainE d = true) : starEach [e, d] env = [(false, eval e env), (false, eval d env)] := by
  rw [star_one hp, star_one hq]; rfl

theorem strs_args {pos : Pos} : ∀ {l : List (List Nat)} {es : List Expr} {s : Shared} {Q : List Value → Shared → Prop}, areS l es = true →
    (∀ vs s', Step s s' → All2 RepF vs (l.map .str) → Q vs s') → wpAny (model prog w) A (spliced (backTo pos (starEach es env))) Q NoE s
  | [], [], s, Q, _, k => args_nil (k [] s (Step.refl _) .nil)
  | x :: l, e :: es, s, Q, h, k => by
    unfold areS at h
    rw [Bool.and_eq_true] at h
    refine args_cons (wpAny_mono (isS_eval h.1) (fun v s1 h1 => ?_) fun _ _ x => x) (star_one (isS_plain h.1))
    exact strs_args h.2 fun vs s2 st hv => k _ s2 (h1.1.trans st) (.cons h1.2 hv)
  | [], _ :: _, _, _, h, _ => by cases h
  | _ :: _, [], _, _, h, _ => by cases h
theorem areS_len : ∀ {l : List (List Nat)} {es : List Expr}, areS l es = true → l.length = es.length
  | [], [], _ => rfl
  | _ :: _, _ :: _, h => by
    unfold areS at h
    rw [Bool.and_eq_true] at h
    exact congrArg (· + 1) (areS_len h.2)
  | [], _ :: _, h => by cases h
  | _ :: _, [], h => by cases h

/-- a test's end -/
noncomputable def TPost (s : Shared) (b : Bool) (c : Bool) (s' : Shared) : Prop := c = b ∧ Step s s'
theorem TPost.of {s₁ s₂ : Shared} {b c : Bool} (x : Step s s₁) (y : TPost s₁ b c s₂) : TPost s b c s₂ := ⟨y.1, x.trans y.2⟩

noncomputable def plainT : Expr → Bool
  | .UnaryOp _ _ _ => false
  | .BoolOp _ _ _ => false
  | .IfExp _ _ _ _ => false
  | .Compare _ _ _ _ => false
  | _ => true
noncomputable def isTest : ME → Bool
  | .not _ | .cmp _ _ _ | .chain _ _ _ | .and _ _ | .and3 _ _ _ | .or _ _ | .cond _ _ _ | .neg _ => true
  | _ => false
theorem isS_plainT {x : List Nat} {e : Expr} (h : isS x e = true) : plainT e = true := by
  cases e <;> first | rfl | exact ff h
theorem isL_plainT {sc : Scope} {nm : List Str} {i : Nat} {e : Expr} (h : isL sc nm i e = true) : plainT e = true := by
  cases e <;> first | rfl | exact ff h
theorem mE_plainT {sc : Scope} {a : ME} {e : Expr} (h : mE sc nm a e = true) (h' : isTest a = false) : plainT e = true := by
  cases a
  case loc => exact isL_plainT h
  case str => exact isS_plainT h
  case int => apply xConst_el h; intros; rfl
  case bool => apply xConst_el h; intros; rfl
  case none => apply xConst_el h; intros; rfl
  case neg => exact ff h'.symm
  case not => exact ff h'.symm
  case glob => apply xName_el h; intros; rfl
  case bin => apply xBin_el h; intros; rfl
  case cmp => exact ff h'.symm
  case chain => exact ff h'.symm
  case and => exact ff h'.symm
  case and3 => exact ff h'.symm
  case or => exact ff h'.symm
  case cond => exact ff h'.symm
  case slF => apply xSub_el h; intros; rfl
  case slT => apply xSub_el h; intros; rfl
  case sl => apply xSub_el h; intros; rfl
  case idx => apply xSub_el h; intros; rfl
  case tup => apply xTup_el h; intros; rfl
  case list2 => apply xList_el h; intros; rfl
  case texts => apply xList_el h; intros; rfl
  case dict => apply xDict_el h; intros; rfl
  all_goals (apply xCall_el h; intros; rfl)
theorem isT_plain {e : Expr} {b : Bool} (hp : plainT e = true) (h : wpAny (model prog w) A (eval e env) (EPost prog w s (.fl (.bool b))) NoE s) :
    wpAny (model prog w) A (isTrue e env (eval e env)) (TPost s b) NoE s := by
  refine isTrue_plain (wpAny_mono h (fun v s1 h1 => ?_) fun _ _ x => x) (by cases e <;> first | rfl | cases hp)
  refine wpAny_mono (truthy_of h1) (fun c s2 h2 => ?_) fun _ _ x => x
  obtain ⟨rfl, rfl⟩ := h2
  exact ⟨rfl, h1.1⟩
theorem marks_plain {r t : Expr} (h : plainE t = true) : lastMarks [.LtE, .LtE] [r, t] = false := by
  show behindInMarks .LtE t = false
  cases t <;> first | rfl | cases h
theorem and_of {P Q : Prop} (p : P) (f : P → Q) : P ∧ Q := ⟨p, f p⟩

set_option maxHeartbeats 4000000 in
theorem evalM_sound {fn : Nat → List PV → Option PV} (E0 : Env0 env) (hh : A.handled = none) (hF : FnOK prog w K mg mb fa gl A fn) : ∀ (a : ME),
    (∀ (e : Expr) (s : Shared) (r : PV), mE env.scope nm a e = true → evalM fn gl ρ a = some r → EC prog w K mg mb fa gl env own nm m ρ s.heap → wpAny (model prog w) A (eval e env) (EPost prog w s r) NoE s) ∧
    (∀ (e : Expr) (s : Shared) (b : Bool), mE env.scope nm a e = true → evalM fn gl ρ a = some (.fl (.bool b)) → EC prog w K mg mb fa gl env own nm m ρ s.heap → wpAny (model prog w) A (isTrue e env (eval e env)) (TPost s b) NoE s) := by
  intro a
  induction a with
  | loc i =>
    refine and_of ?_ (fun h1 e s b hm hr C => isT_plain (mE_plainT hm rfl) (h1 e s _ hm hr C))
    intro e s r hm hr C
    refine isL_eval E0 C (i := i) ?_ (by simpa only [evalM] using hr)
    exact hm
  | int i =>
    refine and_of ?_ (fun h1 e s b hm hr C => isT_plain (mE_plainT hm rfl) (h1 e s _ hm hr C))
    intro e s r hm hr C
    apply xConst_el hm
    intro c k1 k2 hm
    apply cInt_el hm
    simp only [evalM] at hr; cases hr
    exact wpAny_Constant_int (EPost.fl (Step.toks ..) (.int ..))
  | neg i =>
    refine ⟨?_, ?_⟩
    · intro e s r hm hr C
      apply xUn_el hm
      intro o x p hm
      obtain ⟨ho, hm⟩ := an2 hm
      apply isUSub_el ho
      apply xConst_el hm
      intro c k1 k2 hm
      apply cInt_el hm
      simp only [evalM] at hr; cases hr
      exact UnaryOp_ (wpAny_Constant_int (neg_int (EPost.fl (Step.toks s _) (.int ..))))
    · intro e s b hm hr C
      simp only [evalM] at hr; cases hr
  | str x =>
    refine and_of ?_ (fun h1 e s b hm hr C => isT_plain (mE_plainT hm rfl) (h1 e s _ hm hr C))
    intro e s r hm hr C
    simp only [evalM] at hr; cases hr
    refine isS_eval ?_
    exact hm
  | bool b =>
    refine and_of ?_ (fun h1 e s b hm hr C => isT_plain (mE_plainT hm rfl) (h1 e s _ hm hr C))
    intro e s r hm hr C
    apply xConst_el hm
    intro c k1 k2 hm
    apply cBool_el hm
    simp only [evalM] at hr; cases hr
    exact Constant_bool (EPost.fl (Step.refl _) (.bool _))
  | none =>
    refine and_of ?_ (fun h1 e s b hm hr C => isT_plain (mE_plainT hm rfl) (h1 e s _ hm hr C))
    intro e s r hm hr C
    apply xConst_el hm
    intro c k1 k2 hm
    apply cNone_el hm
    simp only [evalM] at hr; cases hr
    exact Constant_none (EPost.fl (Step.refl _) .none)
  | glob g =>
    refine and_of ?_ (fun h1 e s b hm hr C => isT_plain (mE_plainT hm rfl) (h1 e s _ hm hr C))
    intro e s r hm hr C
    apply xName_el hm
    intro x p hm
    have hm := an2 hm
    simp only [evalM] at hr
    obtain ⟨v, e1, rv⟩ := C.gl.gls g _ r (by simpa using hm.1) hr
    exact name_gl E0 C.gl hm.2 e1 ⟨Step.refl _, rv⟩
  | bin o a b iha ihb =>
    refine and_of ?_ (fun h1 e s b hm hr C => isT_plain (mE_plainT hm rfl) (h1 e s _ hm hr C))
    intro e s r hm hr C
    apply xBin_el hm
    intro l o' r' p hm
    obtain ⟨ho, ha, hb⟩ := an3 hm
    have ho := of_decide_eq_true ho
    subst ho
    simp only [evalM] at hr
    split at hr <;> first | contradiction | skip
    rename_i va hva
    split at hr <;> first | contradiction | skip
    rename_i vb hvb
    refine wpAny_BinOp (wpAny_mono (iha.1 _ _ _ ha hva C) (fun v s1 h1 => ?_) fun _ _ x => x)
    refine wpAny_mono (ihb.1 _ _ _ hb hvb (C.keep h1.1.keep)) (fun u s2 h2 => ?_) fun _ _ x => x
    exact wpAny_mono (bin_ok (h1.2.keep h2.1.keep) h2.2 hr) (fun _ _ x => EPost.of (h1.1.trans h2.1) x) fun _ _ x => x
  | not a iha =>
    refine ⟨?_, ?_⟩
    · intro e s r hm hr C
      apply xUn_el hm
      intro o x p hm
      obtain ⟨ho, hm⟩ := an2 hm
      apply isNot_el ho
      simp only [evalM] at hr
      split at hr <;> first | contradiction | skip
      rename_i b hb
      cases hr
      refine UnaryOp_ (wpAny_mono (iha.1 _ _ _ hm hb C) (fun v s1 h1 => ?_) fun _ _ x => x)
      refine not_of (wpAny_mono (truthy_of h1) (fun c s2 h2 => ?_) fun _ _ x => x)
      obtain ⟨rfl, rfl⟩ := h2
      exact EPost.fl h1.1 (.bool _)
    · intro e s b hm hr C
      apply xUn_el hm
      intro o x p hm
      obtain ⟨ho, hm⟩ := an2 hm
      apply isNot_el ho
      simp only [evalM] at hr
      split at hr <;> first | contradiction | skip
      rename_i b hb
      cases hr
      refine isTrue_not (wpAny_mono (iha.2 _ _ _ hm hb C) (fun c s2 h2 => ?_) fun _ _ x => x)
      exact ⟨by rw [h2.1], h2.2⟩
  | cmp o a b iha ihb =>
    refine ⟨?_, ?_⟩
    · intro e s r hm hr C
      apply xCmp_el hm
      intro l ps rs p hm
      apply l1_el hm
      intro q hm
      apply l1_el hm
      intro t hm
      obtain ⟨ho, ha, hb, hmk⟩ := an4 hm
      have ho := of_decide_eq_true ho
      subst ho
      have hmk := nt hmk
      simp only [evalM] at hr
      split at hr <;> first | contradiction | skip
      rename_i va hva
      split at hr <;> first | contradiction | skip
      rename_i vb hvb
      obtain ⟨c, hc, rfl⟩ := Option.map_eq_some_iff.mp hr
      refine wpAny_Compare1 (wpAny_mono (iha.1 _ _ _ ha hva C) (fun v s1 h1 => ?_) fun _ _ x => x) hmk
      refine wpAny_mono (ihb.1 _ _ _ hb hvb (C.keep h1.1.keep)) (fun u s2 h2 => ?_) fun _ _ x => x
      exact wpAny_mono (cmp_ok (h1.2.keep h2.1.keep) h2.2 hc) (fun _ _ x => EPost.of (h1.1.trans h2.1) x) fun _ _ x => x
    · intro e s b hm hr C
      apply xCmp_el hm
      intro l ps rs p hm
      apply l1_el hm
      intro q hm
      apply l1_el hm
      intro t hm
      obtain ⟨ho, ha, hb, hmk⟩ := an4 hm
      have ho := of_decide_eq_true ho
      subst ho
      have hmk := nt hmk
      simp only [evalM] at hr
      split at hr <;> first | contradiction | skip
      rename_i va hva
      split at hr <;> first | contradiction | skip
      rename_i vb hvb
      obtain ⟨c, hc, he⟩ := Option.map_eq_some_iff.mp hr
      cases he
      refine wpAny_isTrue_Compare1 (wpAny_mono (iha.1 _ _ _ ha hva C) (fun v s1 h1 => ?_) fun _ _ x => x) hmk
      refine wpAny_mono (ihb.1 _ _ _ hb hvb (C.keep h1.1.keep)) (fun u s2 h2 => ?_) fun _ _ x => x
      refine wpAny_mono (cmp_ok (h1.2.keep h2.1.keep) h2.2 hc) (fun _ s3 h3 => ?_) fun _ _ x => x
      refine wpAny_mono (truthy_of h3) (fun c s4 h4 => ?_) fun _ _ x => x
      obtain ⟨rfl, rfl⟩ := h4
      exact ⟨rfl, (h1.1.trans h2.1).trans h3.1⟩
  | chain a b c iha ihb ihc =>
    refine ⟨?_, ?_⟩
    · intro e s r hm hr C
      apply xCmp_el hm
      intro l ps rs p hm
      apply l2_el hm
      intro q1 q2 hm
      obtain ⟨hq1, hq2, hm⟩ := an3 hm
      apply isLe_el hq1
      apply isLe_el hq2
      apply l2_el hm
      intro t1 t2 hm
      obtain ⟨ha, hb, hc⟩ := an3 hm
      simp only [evalM] at hr
      split at hr <;> first | contradiction | skip
      rename_i x hva
      split at hr <;> first | contradiction | skip
      rename_i y hvb
      refine Compare_chain (wpAny_mono (iha.1 _ _ _ ha hva C) (fun v s1 h1 => ?_) fun _ _ x => x) (marks_plain (mE_plain hc))
      refine chain_link (wpAny_mono (ihb.1 _ _ _ hb hvb (C.keep h1.1.keep)) (fun u s2 h2 => ?_) fun _ _ x => x)
      refine wpAny_mono (cmp_ok (o := .LtE) (h1.2.keep h2.1.keep) h2.2 rfl) (fun q s3 h3 => ?_) fun _ _ x => x
      refine wpAny_mono (truthy_of h3) (fun c s4 h4 => ?_) fun _ _ x => x
      obtain ⟨rfl, rfl⟩ := h4
      have st := (h1.1.trans h2.1).trans h3.1
      split at hr
      · rename_i hlt
        cases hr
        simp only [hlt, Bool.not_true, Bool.false_eq_true, if_false]
        refine ⟨st, ?_⟩
        have := h3.2
        rw [hlt] at this
        exact this
      · rename_i hlt
        split at hr <;> first | contradiction | skip
        rename_i z hvc
        cases hr
        have hf : decide (y < x) = false := by simpa using hlt
        simp only [hf, Bool.not_false, if_true]
        refine chain_last (wpAny_mono (ihc.1 _ _ _ hc hvc (C.keep st.keep)) (fun t s5 h5 => ?_) fun _ _ x => x)
        exact wpAny_mono (cmp_ok (o := .LtE) (h2.2.keep (h3.1.trans h5.1).keep) h5.2 rfl) (fun _ _ x => EPost.of (st.trans h5.1) x) fun _ _ x => x
    · intro e s r hm hr C
      apply xCmp_el hm
      intro l ps rs p hm
      apply l2_el hm
      intro q1 q2 hm
      obtain ⟨hq1, hq2, hm⟩ := an3 hm
      apply isLe_el hq1
      apply isLe_el hq2
      apply l2_el hm
      intro t1 t2 hm
      obtain ⟨ha, hb, hc⟩ := an3 hm
      simp only [evalM] at hr
      split at hr <;> first | contradiction | skip
      rename_i x hva
      split at hr <;> first | contradiction | skip
      rename_i y hvb
      refine isTrue_chain (wpAny_mono (iha.1 _ _ _ ha hva C) (fun v s1 h1 => ?_) fun _ _ x => x) (marks_plain (mE_plain hc))
      refine test_link (wpAny_mono (ihb.1 _ _ _ hb hvb (C.keep h1.1.keep)) (fun u s2 h2 => ?_) fun _ _ x => x)
      refine wpAny_mono (cmp_ok (o := .LtE) (h1.2.keep h2.1.keep) h2.2 rfl) (fun q s3 h3 => ?_) fun _ _ x => x
      refine wpAny_mono (truthy_of h3) (fun c s4 h4 => ?_) fun _ _ x => x
      obtain ⟨rfl, rfl⟩ := h4
      have st := (h1.1.trans h2.1).trans h3.1
      split at hr
      · rename_i hlt
        cases hr
        simp only [hlt, Bool.not_true, Bool.false_eq_true, if_false]
        exact ⟨rfl, st⟩
      · rename_i hlt
        split at hr <;> first | contradiction | skip
        rename_i z hvc
        cases hr
        have hf : decide (y < x) = false := by simpa using hlt
        simp only [hf, Bool.not_false, if_true]
        refine test_last (wpAny_mono (ihc.1 _ _ _ hc hvc (C.keep st.keep)) (fun t s5 h5 => ?_) fun _ _ x => x)
        refine wpAny_mono (cmp_ok (o := .LtE) (h2.2.keep (h3.1.trans h5.1).keep) h5.2 rfl) (fun _ s6 h6 => ?_) fun _ _ x => x
        refine wpAny_mono (truthy_of h6) (fun c s7 h7 => ?_) fun _ _ x => x
        obtain ⟨rfl, rfl⟩ := h7
        exact ⟨rfl, (st.trans h5.1).trans h6.1⟩
  | and a b iha ihb =>
    refine ⟨?_, ?_⟩
    · intro e s r hm hr C
      apply xBool_el hm
      intro o es p hm
      apply l2_el hm
      intro x y hm
      obtain ⟨ho, ha, hb⟩ := an3 hm
      apply isAnd_el ho
      simp only [evalM] at hr
      split at hr <;> first | contradiction | skip
      · rename_i hva
        cases hr
        refine BoolOp_and (wpAny_mono (iha.1 _ _ _ ha hva C) (fun v s1 h1 => ?_) fun _ _ x => x)
        refine wpAny_mono (truthy_of h1) (fun c s2 h2 => ?_) fun _ _ x => x
        obtain ⟨rfl, rfl⟩ := h2
        exact h1
      · rename_i hva
        split at hr <;> first | contradiction | skip
        rename_i c hvb
        cases hr
        refine BoolOp_and (wpAny_mono (iha.1 _ _ _ ha hva C) (fun v s1 h1 => ?_) fun _ _ x => x)
        refine wpAny_mono (truthy_of h1) (fun c s2 h2 => ?_) fun _ _ x => x
        obtain ⟨rfl, rfl⟩ := h2
        exact BoolOp_one (wpAny_mono (ihb.1 _ _ _ hb hvb (C.keep h1.1.keep)) (fun _ _ x => EPost.of h1.1 x) fun _ _ x => x)
    · intro e s r hm hr C
      apply xBool_el hm
      intro o es p hm
      apply l2_el hm
      intro x y hm
      obtain ⟨ho, ha, hb⟩ := an3 hm
      apply isAnd_el ho
      simp only [evalM] at hr
      split at hr <;> first | contradiction | skip
      · rename_i hva
        cases hr
        refine isTrue_and (wpAny_mono (iha.2 _ _ _ ha hva C) (fun c s1 h1 => ?_) fun _ _ x => x)
        obtain ⟨rfl, st⟩ := h1
        exact ⟨rfl, st⟩
      · rename_i hva
        split at hr <;> first | contradiction | skip
        rename_i c hvb
        cases hr
        refine isTrue_and (wpAny_mono (iha.2 _ _ _ ha hva C) (fun c s1 h1 => ?_) fun _ _ x => x)
        obtain ⟨rfl, st⟩ := h1
        refine isTrue_and (wpAny_mono (ihb.2 _ _ _ hb hvb (C.keep st.keep)) (fun c s2 h2 => ?_) fun _ _ x => x)
        obtain ⟨rfl, st2⟩ := h2
        cases c
        · exact ⟨rfl, st.trans st2⟩
        · exact isTrue_and_nil ⟨rfl, st.trans st2⟩
  | and3 a b c iha ihb ihc =>
    refine ⟨?_, ?_⟩
    · intro e s r hm hr C
      apply xBool_el hm
      intro o es p hm
      apply l3_el hm
      intro x y z hm
      obtain ⟨ho, ha, hb, hc⟩ := an4 hm
      apply isAnd_el ho
      simp only [evalM] at hr
      split at hr <;> first | contradiction | skip
      · rename_i hva
        cases hr
        refine BoolOp_and (wpAny_mono (iha.1 _ _ _ ha hva C) (fun v s1 h1 => ?_) fun _ _ x => x)
        refine wpAny_mono (truthy_of h1) (fun c s2 h2 => ?_) fun _ _ x => x
        obtain ⟨rfl, rfl⟩ := h2
        exact h1
      · rename_i hva
        split at hr <;> first | contradiction | skip
        · rename_i hvb
          cases hr
          refine BoolOp_and (wpAny_mono (iha.1 _ _ _ ha hva C) (fun v s1 h1 => ?_) fun _ _ x => x)
          refine wpAny_mono (truthy_of h1) (fun c s2 h2 => ?_) fun _ _ x => x
          obtain ⟨rfl, rfl⟩ := h2
          refine BoolOp_and (wpAny_mono (ihb.1 _ _ _ hb hvb (C.keep h1.1.keep)) (fun v s3 h3 => ?_) fun _ _ x => x)
          refine wpAny_mono (truthy_of h3) (fun c s4 h4 => ?_) fun _ _ x => x
          obtain ⟨rfl, rfl⟩ := h4
          exact EPost.of h1.1 h3
        · rename_i hvb
          split at hr <;> first | contradiction | skip
          rename_i d hvc
          cases hr
          refine BoolOp_and (wpAny_mono (iha.1 _ _ _ ha hva C) (fun v s1 h1 => ?_) fun _ _ x => x)
          refine wpAny_mono (truthy_of h1) (fun c s2 h2 => ?_) fun _ _ x => x
          obtain ⟨rfl, rfl⟩ := h2
          refine BoolOp_and (wpAny_mono (ihb.1 _ _ _ hb hvb (C.keep h1.1.keep)) (fun v s3 h3 => ?_) fun _ _ x => x)
          refine wpAny_mono (truthy_of h3) (fun c s4 h4 => ?_) fun _ _ x => x
          obtain ⟨rfl, rfl⟩ := h4
          have st := h1.1.trans h3.1
          exact BoolOp_one (wpAny_mono (ihc.1 _ _ _ hc hvc (C.keep st.keep)) (fun _ _ x => EPost.of st x) fun _ _ x => x)
    · intro e s r hm hr C
      apply xBool_el hm
      intro o es p hm
      apply l3_el hm
      intro x y z hm
      obtain ⟨ho, ha, hb, hc⟩ := an4 hm
      apply isAnd_el ho
      simp only [evalM] at hr
      split at hr <;> first | contradiction | skip
      · rename_i hva
        cases hr
        refine isTrue_and (wpAny_mono (iha.2 _ _ _ ha hva C) (fun c s1 h1 => ?_) fun _ _ x => x)
        obtain ⟨rfl, st⟩ := h1
        exact ⟨rfl, st⟩
      · rename_i hva
        refine isTrue_and (wpAny_mono (iha.2 _ _ _ ha hva C) (fun c s1 h1 => ?_) fun _ _ x => x)
        obtain ⟨rfl, st⟩ := h1
        split at hr <;> first | contradiction | skip
        · rename_i hvb
          cases hr
          refine isTrue_and (wpAny_mono (ihb.2 _ _ _ hb hvb (C.keep st.keep)) (fun c s2 h2 => ?_) fun _ _ x => x)
          obtain ⟨rfl, st2⟩ := h2
          exact ⟨rfl, st.trans st2⟩
        · rename_i hvb
          refine isTrue_and (wpAny_mono (ihb.2 _ _ _ hb hvb (C.keep st.keep)) (fun c s2 h2 => ?_) fun _ _ x => x)
          obtain ⟨rfl, st2⟩ := h2
          split at hr <;> first | contradiction | skip
          rename_i d hvc
          cases hr
          have st12 := st.trans st2
          refine isTrue_and (wpAny_mono (ihc.2 _ _ _ hc hvc (C.keep st12.keep)) (fun c s3 h3 => ?_) fun _ _ x => x)
          obtain ⟨rfl, st3⟩ := h3
          cases c
          · exact ⟨rfl, st12.trans st3⟩
          · exact isTrue_and_nil ⟨rfl, st12.trans st3⟩
  | or a b iha ihb =>
    refine ⟨?_, ?_⟩
    · intro e s r hm hr C
      apply xBool_el hm
      intro o es p hm
      apply l2_el hm
      intro x y hm
      obtain ⟨ho, ha, hb⟩ := an3 hm
      apply isOr_el ho
      simp only [evalM] at hr
      split at hr <;> first | contradiction | skip
      · rename_i hva
        cases hr
        refine BoolOp_or (wpAny_mono (iha.1 _ _ _ ha hva C) (fun v s1 h1 => ?_) fun _ _ x => x)
        refine wpAny_mono (truthy_of h1) (fun c s2 h2 => ?_) fun _ _ x => x
        obtain ⟨rfl, rfl⟩ := h2
        exact h1
      · rename_i hva
        split at hr <;> first | contradiction | skip
        rename_i c hvb
        cases hr
        refine BoolOp_or (wpAny_mono (iha.1 _ _ _ ha hva C) (fun v s1 h1 => ?_) fun _ _ x => x)
        refine wpAny_mono (truthy_of h1) (fun c s2 h2 => ?_) fun _ _ x => x
        obtain ⟨rfl, rfl⟩ := h2
        exact BoolOp_one (wpAny_mono (ihb.1 _ _ _ hb hvb (C.keep h1.1.keep)) (fun _ _ x => EPost.of h1.1 x) fun _ _ x => x)
    · intro e s r hm hr C
      apply xBool_el hm
      intro o es p hm
      apply l2_el hm
      intro x y hm
      obtain ⟨ho, ha, hb⟩ := an3 hm
      apply isOr_el ho
      simp only [evalM] at hr
      split at hr <;> first | contradiction | skip
      · rename_i hva
        cases hr
        refine isTrue_or (wpAny_mono (iha.2 _ _ _ ha hva C) (fun c s1 h1 => ?_) fun _ _ x => x)
        obtain ⟨rfl, st⟩ := h1
        exact ⟨rfl, st⟩
      · rename_i hva
        split at hr <;> first | contradiction | skip
        rename_i c hvb
        cases hr
        refine isTrue_or (wpAny_mono (iha.2 _ _ _ ha hva C) (fun c s1 h1 => ?_) fun _ _ x => x)
        obtain ⟨rfl, st⟩ := h1
        refine isTrue_or (wpAny_mono (ihb.2 _ _ _ hb hvb (C.keep st.keep)) (fun c s2 h2 => ?_) fun _ _ x => x)
        obtain ⟨rfl, st2⟩ := h2
        cases c
        · exact isTrue_or_nil ⟨rfl, st.trans st2⟩
        · exact ⟨rfl, st.trans st2⟩
  | cond c a b ihc iha ihb =>
    refine ⟨?_, ?_⟩
    · intro e s r hm hr C
      apply xIf_el hm
      intro t x y p hm
      obtain ⟨hc, ha, hb⟩ := an3 hm
      simp only [evalM] at hr
      split at hr <;> first | contradiction | skip
      · rename_i hvc
        refine IfExp_ (wpAny_mono (ihc.2 _ _ _ hc hvc C) (fun c s1 h1 => ?_) fun _ _ x => x)
        obtain ⟨rfl, st⟩ := h1
        exact wpAny_mono (iha.1 _ _ _ ha hr (C.keep st.keep)) (fun _ _ x => EPost.of st x) fun _ _ x => x
      · rename_i hvc
        refine IfExp_ (wpAny_mono (ihc.2 _ _ _ hc hvc C) (fun c s1 h1 => ?_) fun _ _ x => x)
        obtain ⟨rfl, st⟩ := h1
        exact wpAny_mono (ihb.1 _ _ _ hb hr (C.keep st.keep)) (fun _ _ x => EPost.of st x) fun _ _ x => x
    · intro e s r hm hr C
      apply xIf_el hm
      intro t x y p hm
      obtain ⟨hc, ha, hb⟩ := an3 hm
      simp only [evalM] at hr
      split at hr <;> first | contradiction | skip
      · rename_i hvc
        refine isTrue_IfExp (wpAny_mono (ihc.2 _ _ _ hc hvc C) (fun c s1 h1 => ?_) fun _ _ x => x)
        obtain ⟨rfl, st⟩ := h1
        exact wpAny_mono (iha.2 _ _ _ ha hr (C.keep st.keep)) (fun _ _ x => TPost.of st x) fun _ _ x => x
      · rename_i hvc
        refine isTrue_IfExp (wpAny_mono (ihc.2 _ _ _ hc hvc C) (fun c s1 h1 => ?_) fun _ _ x => x)
        obtain ⟨rfl, st⟩ := h1
        exact wpAny_mono (ihb.2 _ _ _ hb hr (C.keep st.keep)) (fun _ _ x => TPost.of st x) fun _ _ x => x
  | len a iha =>
    refine and_of ?_ (fun h1 e s b hm hr C => isT_plain (mE_plainT hm rfl) (h1 e s _ hm hr C))
    intro e s r hm hr C
    apply xCall_el hm
    intro f xs kw p hm
    apply l1_el hm
    intro x hm
    obtain ⟨hf, ha, hk⟩ := an3 hm
    have hk' := kw_nil hk
    subst hk'
    simp only [evalM] at hr
    split at hr <;> first | contradiction | skip
    · rename_i x hva
      cases hr
      refine callB1 E0 C.gl (by simp [bnames]) hf (mE_plain ha) (iha.1 _ _ _ ha hva C) fun v s' st hv => ?_
      cases hv
      rename_i t hx
      have := len_le hx
      refine P.len_str (by rw [str_len]; omega) ?_
      rw [str_len]
      exact EPost.fl (Step.toks ..) (.int ..)
    · rename_i x hva
      cases hr
      refine callB1 E0 C.gl (by simp [bnames]) hf (mE_plain ha) (iha.1 _ _ _ ha hva C) fun v s' st hv => ?_
      obtain ⟨b, vs, rfl, xb, hvs, hl⟩ := hv
      have e := hvs.length
      unfold lim at hl
      refine wpAny_mono (Calls.call_len_list (Q := fun v s'' => v = .int vs.length (s'.toks + 1) ∧ s'' = { s' with toks := s'.toks + 1 + 1 }) xb (by simp; omega) (by simp)) (fun v s'' h => ?_) fun _ _ x => x
      obtain ⟨rfl, rfl⟩ := h
      rw [e]
      exact EPost.fl (Step.toks ..) (.int ..)
  | chr a iha =>
    refine and_of ?_ (fun h1 e s b hm hr C => isT_plain (mE_plainT hm rfl) (h1 e s _ hm hr C))
    intro e s r hm hr C
    apply xCall_el hm
    intro f xs kw p hm
    apply l1_el hm
    intro x hm
    obtain ⟨hf, ha, hk⟩ := an3 hm
    have hk' := kw_nil hk
    subst hk'
    simp only [evalM] at hr
    split at hr <;> first | contradiction | skip
    rename_i i hva
    split at hr <;> first | contradiction | skip
    rename_i hi
    cases hr
    simp only [Bool.and_eq_true, decide_eq_true_eq] at hi
    refine callB1 E0 C.gl (by simp [bnames]) hf (mE_plain ha) (iha.1 _ _ _ ha hva C) fun v s' st hv => ?_
    cases hv
    exact chr_of_range hi.1 (by omega) (EPost.fl (Step.toks ..) (RepF.str [i.toNat] _ (okS_one (by omega))))
  | ord a iha =>
    refine and_of ?_ (fun h1 e s b hm hr C => isT_plain (mE_plainT hm rfl) (h1 e s _ hm hr C))
    intro e s r hm hr C
    apply xCall_el hm
    intro f xs kw p hm
    apply l1_el hm
    intro x hm
    obtain ⟨hf, ha, hk⟩ := an3 hm
    have hk' := kw_nil hk
    subst hk'
    simp only [evalM] at hr
    split at hr <;> first | contradiction | skip
    rename_i c hva
    cases hr
    refine callB1 E0 C.gl (by simp [bnames]) hf (mE_plain ha) (iha.1 _ _ _ ha hva C) fun v s' st hv => ?_
    cases hv
    exact P.ord_of_char (EPost.fl (Step.toks ..) (.int ..))
  | abs a iha =>
    refine and_of ?_ (fun h1 e s b hm hr C => isT_plain (mE_plainT hm rfl) (h1 e s _ hm hr C))
    intro e s r hm hr C
    apply xCall_el hm
    intro f xs kw p hm
    apply l1_el hm
    intro x hm
    obtain ⟨hf, ha, hk⟩ := an3 hm
    have hk' := kw_nil hk
    subst hk'
    simp only [evalM] at hr
    split at hr <;> first | contradiction | skip
    rename_i i hva
    cases hr
    refine callB1 E0 C.gl (by simp [bnames]) hf (mE_plain ha) (iha.1 _ _ _ ha hva C) fun v s' st hv => ?_
    cases hv
    exact call_abs_int fun u tk => EPost.fl (Step.toks ..) (.int ..)
  | max a b iha ihb =>
    refine and_of ?_ (fun h1 e s b hm hr C => isT_plain (mE_plainT hm rfl) (h1 e s _ hm hr C))
    intro e s r hm hr C
    apply xCall_el hm
    intro f xs kw p hm
    apply l2_el hm
    intro x y hm
    obtain ⟨hf, ha, hb, hk⟩ := an4 hm
    have hk' := kw_nil hk
    subst hk'
    simp only [evalM] at hr
    split at hr <;> first | contradiction | skip
    rename_i i hva
    split at hr <;> first | contradiction | skip
    rename_i j hvb
    cases hr
    refine callB2 E0 C.gl (by simp [bnames]) hf (mE_plain ha) (mE_plain hb) (iha.1 _ _ _ ha hva C) (fun s' st => ihb.1 _ _ _ hb hvb (C.keep st.keep)) fun v u s' st hv hu => ?_
    cases hv; cases hu
    refine max_two_ints hh fun h' tk k => ⟨Step.both _ _ _ k, ?_⟩
    split <;> exact RepF.int _ _
  | call0 f =>
    refine and_of ?_ (fun h1 e s b hm hr C => isT_plain (mE_plainT hm rfl) (h1 e s _ hm hr C))
    intro e s r hm hr C
    apply xCall_el hm
    intro f xs kw p hm
    obtain ⟨hx, hf, hk⟩ := an3 hm
    apply l0_el hx
    have hk' := kw_nil hk
    subst hk'
    simp only [evalM] at hr
    exact callF0 E0 C.gl hF (isF_lt hf) hf hr
  | call1 f a iha =>
    refine and_of ?_ (fun h1 e s b hm hr C => isT_plain (mE_plainT hm rfl) (h1 e s _ hm hr C))
    intro e s r hm hr C
    apply xCall_el hm
    intro f xs kw p hm
    apply l1_el hm
    intro x hm
    obtain ⟨hf, ha, hk⟩ := an3 hm
    have hk' := kw_nil hk
    subst hk'
    simp only [evalM] at hr
    split at hr <;> first | contradiction | skip
    rename_i va hva
    exact callF1 E0 C.gl hF (isF_lt hf) hf (mE_plain ha) (iha.1 _ _ _ ha hva C) hr
  | call2 f a b iha ihb =>
    refine and_of ?_ (fun h1 e s b hm hr C => isT_plain (mE_plainT hm rfl) (h1 e s _ hm hr C))
    intro e s r hm hr C
    apply xCall_el hm
    intro f xs kw p hm
    apply l2_el hm
    intro x y hm
    obtain ⟨hf, ha, hb, hk⟩ := an4 hm
    have hk' := kw_nil hk
    subst hk'
    simp only [evalM] at hr
    split at hr <;> first | contradiction | skip
    rename_i va hva
    split at hr <;> first | contradiction | skip
    rename_i vb hvb
    exact callF2 E0 C.gl hF (isF_lt hf) hf (mE_plain ha) (mE_plain hb) (iha.1 _ _ _ ha hva C) (fun s' st => ihb.1 _ _ _ hb hvb (C.keep st.keep)) hr
  | find a b iha ihb =>
    refine and_of ?_ (fun h1 e s b hm hr C => isT_plain (mE_plainT hm rfl) (h1 e s _ hm hr C))
    intro e s r hm hr C
    apply xCall_el hm
    intro f xs kw p hm
    apply xAttr_el hm
    intro o n ap hm
    apply l1_el hm
    intro x hm
    obtain ⟨hn, hs, hl, ha, hb, hk⟩ := an6 hm
    have hk' := kw_nil hk
    subst hk'
    have hn' := eq_of_beq hn
    subst hn'
    simp only [evalM] at hr
    split at hr <;> first | contradiction | skip
    rename_i x hva
    split at hr <;> first | contradiction | skip
    rename_i c hvb
    cases hr
    refine Call_method1 (base_plain hs) (spl1 (mE_plain hb)) hl (wpAny_mono (iha.1 _ _ _ ha hva C) (fun v s1 h1 => ?_) fun _ _ x => x)
    obtain ⟨st, hv⟩ := h1
    cases hv
    refine SB.find (wpAny_mono (ihb.1 _ _ _ hb hvb (C.keep st.keep)) (fun u s2 h2 => ?_) fun _ _ x => x)
    obtain ⟨st2, hu⟩ := h2
    cases hu
    refine ⟨_, _, rfl, ?_⟩
    rw [find_val]
    exact EPost.fl ((st.trans st2).trans (Step.toks ..)) (.int ..)
  | starts a b iha ihb =>
    refine and_of ?_ (fun h1 e s b hm hr C => isT_plain (mE_plainT hm rfl) (h1 e s _ hm hr C))
    intro e s r hm hr C
    apply xCall_el hm
    intro f xs kw p hm
    apply xAttr_el hm
    intro o n ap hm
    apply l1_el hm
    intro x hm
    obtain ⟨hn, hs, hl, ha, hb, hk⟩ := an6 hm
    have hk' := kw_nil hk
    subst hk'
    have hn' := eq_of_beq hn
    subst hn'
    simp only [evalM] at hr
    split at hr <;> first | contradiction | skip
    rename_i x hva
    split at hr <;> first | contradiction | skip
    rename_i y hvb
    cases hr
    refine Call_method1 (base_plain hs) (spl1 (mE_plain hb)) hl (wpAny_mono (iha.1 _ _ _ ha hva C) (fun v s1 h1 => ?_) fun _ _ x => x)
    obtain ⟨st, hv⟩ := h1
    cases hv
    refine SB.startswith (wpAny_mono (ihb.1 _ _ _ hb hvb (C.keep st.keep)) (fun u s2 h2 => ?_) fun _ _ x => x)
    obtain ⟨st2, hu⟩ := h2
    cases hu
    refine ⟨_, _, rfl, ?_⟩
    rw [starts_val]
    exact EPost.fl (st.trans st2) (.bool _)
  | count a b iha ihb =>
    refine and_of ?_ (fun h1 e s b hm hr C => isT_plain (mE_plainT hm rfl) (h1 e s _ hm hr C))
    intro e s r hm hr C
    apply xCall_el hm
    intro f xs kw p hm
    apply xAttr_el hm
    intro o n ap hm
    apply l1_el hm
    intro x hm
    obtain ⟨hn, hs, hl, ha, hb, hk⟩ := an6 hm
    have hk' := kw_nil hk
    subst hk'
    have hn' := eq_of_beq hn
    subst hn'
    simp only [evalM] at hr
    split at hr <;> first | contradiction | skip
    rename_i x hva
    split at hr <;> first | contradiction | skip
    rename_i c hvb
    cases hr
    refine Call_method1 (base_plain hs) (spl1 (mE_plain hb)) hl (wpAny_mono (iha.1 _ _ _ ha hva C) (fun v s1 h1 => ?_) fun _ _ x => x)
    obtain ⟨st, hv⟩ := h1
    cases hv
    refine SB.count (wpAny_mono (ihb.1 _ _ _ hb hvb (C.keep st.keep)) (fun u s2 h2 => ?_) fun _ _ x => x)
    obtain ⟨st2, hu⟩ := h2
    cases hu
    refine ⟨_, _, rfl, ?_⟩
    rw [count_val]
    exact EPost.fl ((st.trans st2).trans (Step.toks ..)) (.int ..)
  | dget a b c iha ihb ihc =>
    refine and_of ?_ (fun h1 e s b hm hr C => isT_plain (mE_plainT hm rfl) (h1 e s _ hm hr C))
    intro e s r hm hr C
    apply xCall_el hm
    intro f xs kw p hm
    apply xAttr_el hm
    intro o n ap hm
    apply l2_el hm
    intro x y hm
    obtain ⟨hn, hs, hl, ha, hb, hck⟩ := an6 hm
    obtain ⟨hc, hk⟩ := an2 hck
    have hk' := kw_nil hk
    subst hk'
    have hn' := eq_of_beq hn
    subst hn'
    simp only [evalM] at hr
    split at hr <;> first | contradiction | skip
    rename_i l hva
    split at hr <;> first | contradiction | skip
    rename_i x hvb
    split at hr <;> first | contradiction | skip
    rename_i y hvc
    cases hr
    refine Call_method2 (base_plain hs) (spl2 (mE_plain hb) (mE_plain hc)) hl (wpAny_mono (iha.1 _ _ _ ha hva C) (fun v s1 h1 => ?_) fun _ _ x => x)
    obtain ⟨st, d, kvs, rfl, hnm, hd, hx⟩ := h1
    refine ⟨"dict", "dict.get", F.plainAttrs_dict, PySem.F.slot_dict_get, PySem.F.type_dict_get, hd.typeIs, hd.mapOf.noDict, ?_⟩
    refine Calls.callWith_builtin rfl (Calls.evalArgs_plain (Calls.spliced_cons (wpAny_mono (ihb.1 _ _ _ hb hvb (C.keep st.keep)) (fun u s2 h2 => ?_) fun _ _ x => x)))
    have st12 := st.trans h2.1
    refine Calls.spliced_cons (wpAny_mono (ihc.1 _ _ _ hc hvc (C.keep st12.keep)) (fun t s3 h3 => ?_) fun _ _ x => x)
    refine Calls.spliced_nil ?_
    have hu := h2.2
    cases hu
    rename_i tk hx0
    have hd3 := (hd.keep h2.1.keep).keep h3.1.keep
    refine call_meetsIn PySem.F.slot_dict_get hd3.typeIs PySem.F.entry_dict_get (PySem.F.args_dict_get_3 _ _ _) (meets_dict_get_default (strKind prog w) d (strIs x tk) hnm t) ⟨_, hd3.mapOf, ?_⟩
    rcases dict_look (x := x) hx with ⟨y', v, e1, e2, e3⟩ | ⟨e1, e2⟩
    · rw [e1, e2]
      exact EPost.fl ((st12.trans h3.1).trans (Step.toks ..)) e3
    · rw [e1, e2]
      exact EPost.fl ((st12.trans h3.1).trans (Step.toks ..)) h3.2
  | idx a i iha ihi =>
    refine and_of ?_ (fun h1 e s b hm hr C => isT_plain (mE_plainT hm rfl) (h1 e s _ hm hr C))
    intro e s r hm hr C
    apply xSub_el hm
    intro v k p hm
    obtain ⟨ha, hi⟩ := an2 hm
    simp only [evalM] at hr
    split at hr <;> first | contradiction | skip
    rename_i va hva
    split at hr <;> first | contradiction | skip
    rename_i vi hvi
    refine Subscript_ (wpAny_mono (iha.1 _ _ _ ha hva C) (fun v s1 h1 => ?_) fun _ _ x => x)
    refine wpAny_mono (ihi.1 _ _ _ hi hvi (C.keep h1.1.keep)) (fun u s2 h2 => ?_) fun _ _ x => x
    exact wpAny_mono (idx_ok (plain_slice (mE_plain hi)) (h1.2.keep h2.1.keep) h2.2 hr) (fun _ _ x => EPost.of (h1.1.trans h2.1) x) fun _ _ x => x
  | slF a lo iha ihl =>
    refine and_of ?_ (fun h1 e s b hm hr C => isT_plain (mE_plainT hm rfl) (h1 e s _ hm hr C))
    intro e s r hm hr C
    apply xSub_el hm
    intro v k p hm
    apply xSlice_el hm
    intro l u t p' hm
    apply o1_el hm
    intro l' hm
    obtain ⟨hu, ht, ha, hl⟩ := an4 hm
    apply o0_el hu
    apply o0_el ht
    simp only [evalM] at hr
    split at hr <;> first | contradiction | skip
    rename_i x hva
    split at hr <;> first | contradiction | skip
    rename_i k hvl
    split at hr <;> first | contradiction | skip
    cases hr
    refine Subscript_ (wpAny_mono (iha.1 _ _ _ ha hva C) (fun v s1 h1 => ?_) fun _ _ x => x)
    obtain ⟨st, hv⟩ := h1
    cases hv
    rename_i t hx
    refine wpAny_Slice ?_
    rw [evalPart_some]
    refine wpAny_mono (ihl.1 _ _ _ hl hvl (C.keep st.keep)) (fun u s2 h2 => ?_) fun _ _ x => x
    obtain ⟨st2, hu⟩ := h2
    cases hu
    rename_i tu
    rw [evalPart_none]
    refine wpAny_pure (wpAny_pure ?_)
    rw [pSlF_eq]
    exact slice_ok (l := some (k, tu)) (u := none) (st.trans st2) hx
  | slT a hi iha ihh =>
    refine and_of ?_ (fun h1 e s b hm hr C => isT_plain (mE_plainT hm rfl) (h1 e s _ hm hr C))
    intro e s r hm hr C
    apply xSub_el hm
    intro v k p hm
    apply xSlice_el hm
    intro l u t p' hm
    apply o1_el hm
    intro l' hm
    obtain ⟨hu, ht, ha, hl⟩ := an4 hm
    apply o0_el hu
    apply o0_el ht
    simp only [evalM] at hr
    split at hr <;> first | contradiction | skip
    · rename_i x hva
      split at hr <;> first | contradiction | skip
      rename_i k hvl
      split at hr <;> first | contradiction | skip
      cases hr
      refine Subscript_ (wpAny_mono (iha.1 _ _ _ ha hva C) (fun v s1 h1 => ?_) fun _ _ x => x)
      obtain ⟨st, hv⟩ := h1
      cases hv
      rename_i t hx
      refine wpAny_Slice ?_
      rw [evalPart_none]
      refine wpAny_pure ?_
      rw [evalPart_some]
      refine wpAny_mono (ihh.1 _ _ _ hl hvl (C.keep st.keep)) (fun u s2 h2 => ?_) fun _ _ x => x
      obtain ⟨st2, hu⟩ := h2
      cases hu
      rename_i tu
      refine wpAny_pure ?_
      rw [pSlT_eq]
      exact slice_ok (l := none) (u := some (k, tu)) (st.trans st2) hx
    · rename_i x hva
      split at hr <;> first | contradiction | skip
      rename_i k hvl
      split at hr <;> first | contradiction | skip
      rename_i hk
      simp only [Bool.and_eq_true, decide_eq_true_eq] at hk
      cases hr
      refine Subscript_ (wpAny_mono (iha.1 _ _ _ ha hva C) (fun v s1 h1 => ?_) fun _ _ x => x)
      obtain ⟨st, b, vs, rfl, xb, hvs, hlen⟩ := h1
      refine wpAny_Slice ?_
      rw [evalPart_none]
      refine wpAny_pure ?_
      rw [evalPart_some]
      refine wpAny_mono (ihh.1 _ _ _ hl hvl (C.keep st.keep)) (fun u s2 h2 => ?_) fun _ _ x => x
      obtain ⟨st2, hu⟩ := h2
      cases hu
      rename_i tu
      refine wpAny_pure ?_
      obtain ⟨o, ho, q⟩ := xb
      exact sliceL_ok (st.trans st2) ⟨o, st2.keep _ _ ho, q⟩ hvs hlen hk.1
  | sl a lo hi iha ihl ihh =>
    refine and_of ?_ (fun h1 e s b hm hr C => isT_plain (mE_plainT hm rfl) (h1 e s _ hm hr C))
    intro e s r hm hr C
    apply xSub_el hm
    intro v k p hm
    apply xSlice_el hm
    intro l u t p' hm
    apply o1_el hm
    intro l' hm
    apply o1_el hm
    intro u' hm
    obtain ⟨ht, ha, hl, hh2⟩ := an4 hm
    apply o0_el ht
    simp only [evalM] at hr
    split at hr <;> first | contradiction | skip
    rename_i x hva
    split at hr <;> first | contradiction | skip
    rename_i k hvl
    split at hr <;> first | contradiction | skip
    rename_i j hvh
    split at hr <;> first | contradiction | skip
    cases hr
    refine Subscript_ (wpAny_mono (iha.1 _ _ _ ha hva C) (fun v s1 h1 => ?_) fun _ _ x => x)
    obtain ⟨st, hv⟩ := h1
    cases hv
    rename_i t hx
    refine wpAny_Slice ?_
    rw [evalPart_some, evalPart_some]
    refine wpAny_mono (ihl.1 _ _ _ hl hvl (C.keep st.keep)) (fun u s2 h2 => ?_) fun _ _ x => x
    obtain ⟨st2, hu⟩ := h2
    cases hu
    rename_i tu
    have st12 := st.trans st2
    refine wpAny_mono (ihh.1 _ _ _ hh2 hvh (C.keep st12.keep)) (fun u s3 h3 => ?_) fun _ _ x => x
    obtain ⟨st3, hu⟩ := h3
    cases hu
    rename_i tw
    rw [evalPart_none]
    refine wpAny_pure ?_
    rw [pSl_eq]
    exact slice_ok (l := some (k, tu)) (u := some (j, tw)) (st12.trans st3) hx
  | tup a b iha ihb =>
    refine and_of ?_ (fun h1 e s b hm hr C => isT_plain (mE_plainT hm rfl) (h1 e s _ hm hr C))
    intro e s r hm hr C
    apply xTup_el hm
    intro es c p hm
    apply l2_el hm
    intro x y hm
    obtain ⟨ha, hb⟩ := an2 hm
    simp only [evalM] at hr
    split at hr <;> first | contradiction | skip
    rename_i x hva
    split at hr <;> first | contradiction | skip
    rename_i y hvb
    cases hr
    refine Tuple_ (arg2 (mE_plain ha) (mE_plain hb) (iha.1 _ _ _ ha hva C) (fun s' st => ihb.1 _ _ _ hb hvb (C.keep st.keep)) fun v u s' st hv hu => ?_)
    refine wpAny_newObj_type ?_ (by show _ ≤ sizeLine; rw [sz]; simp)
    exact ⟨st.trans (Step.heap _ _ (Keep.push _ _)), _, [v, u], rfl, ⟨_, Heap.get?_push_size _ rfl, rfl, _, rfl⟩, .cons hv (.cons hu .nil)⟩
  | list2 a b iha ihb =>
    refine and_of ?_ (fun h1 e s b hm hr C => isT_plain (mE_plainT hm rfl) (h1 e s _ hm hr C))
    intro e s r hm hr C
    apply xList_el hm
    intro es p hm
    apply l2_el hm
    intro x y hm
    obtain ⟨ha, hb⟩ := an2 hm
    simp only [evalM] at hr
    split at hr <;> first | contradiction | skip
    rename_i x hva
    split at hr <;> first | contradiction | skip
    rename_i y hvb
    cases hr
    refine List_ (arg2 (mE_plain ha) (mE_plain hb) (iha.1 _ _ _ ha hva C) (fun s' st => ihb.1 _ _ _ hb hvb (C.keep st.keep)) fun v u s' st hv hu => ?_)
    refine wpAny_newObj_type ?_ (by show _ ≤ sizeLine; rw [sz]; simp)
    exact ⟨st.trans (Step.heap _ _ (Keep.push _ _)), _, [v, u], rfl, ⟨_, Heap.get?_push_size _ rfl, rfl, _, rfl⟩, .cons hv (.cons hu .nil), by show 2 ≤ lim; decide⟩
  | texts l =>
    refine and_of ?_ (fun h1 e s b hm hr C => isT_plain (mE_plainT hm rfl) (h1 e s _ hm hr C))
    intro e s r hm hr C
    apply xList_el hm
    intro es p hm
    simp only [evalM] at hr
    split at hr <;> first | contradiction | skip
    rename_i hl
    cases hr
    refine List_ (strs_args hm fun vs s' st hv => ?_)
    have e := hv.length
    rw [List.length_map] at e
    have hl' := hl
    unfold lim at hl'
    refine wpAny_newObj_type ?_ (by show _ ≤ sizeLine; rw [sz]; simp; omega)
    exact ⟨st.trans (Step.heap _ _ (Keep.push _ _)), _, vs, rfl, ⟨_, Heap.get?_push_size _ rfl, rfl, _, rfl⟩, hv, by rw [List.length_map]; exact hl⟩
  | dict l =>
    refine and_of ?_ (fun h1 e s b hm hr C => isT_plain (mE_plainT hm rfl) (h1 e s _ hm hr C))
    intro e s r hm hr C
    apply xDict_el hm
    intro ks vs p hm
    simp only [evalM] at hr
    split at hr <;> first | contradiction | skip
    rename_i hl
    cases hr
    exact dict_eval hl C.gl.nolimit hm
  | sorted a iha =>
    refine and_of ?_ (fun h1 e s b hm hr C => isT_plain (mE_plainT hm rfl) (h1 e s _ hm hr C))
    intro e s r hm hr C
    apply xCall_el hm
    intro f xs kw p hm
    apply l1_el hm
    intro x hm
    obtain ⟨hf, ha, hk⟩ := an3 hm
    have hk' := kw_nil hk
    subst hk'
    simp only [evalM] at hr
    split at hr <;> first | contradiction | skip
    rename_i l hva
    split at hr <;> first | contradiction | skip
    rename_i hl
    rw [Bool.and_eq_true, decide_eq_true_eq] at hl
    cases hr
    exact callB1 E0 C.gl (by simp [bnames]) hf (mE_plain ha) (iha.1 _ _ _ ha hva C) fun v s' st hv => sorted_call hh hl.1 hl.2 hv
end
end Mine

end
section
open PySem PySem.W PyProof.Rows
namespace Mine

/-- all but the frame's own objects is kept -/
noncomputable def KB (L : Addr) (own : Option (Nat × Addr)) (h h' : Heap) : Prop :=
  ∀ b o, b ≠ L → (∀ k a, own = some (k, a) → b ≠ a) → h.get? b = some o → h'.get? b = some o
theorem KB.refl (L : Addr) (own : Option (Nat × Addr)) (h : Heap) : KB L own h h := fun _ _ _ _ e => e
theorem KB.trans {L : Addr} {own : Option (Nat × Addr)} {h h' h'' : Heap} (x : KB L own h h') (y : KB L own h' h'') : KB L own h h'' :=
  fun b o n1 n2 e => y b o n1 n2 (x b o n1 n2 e)
theorem KB.of {L : Addr} {own : Option (Nat × Addr)} {h h' : Heap} (k : Keep h h') : KB L own h h' := fun b o _ _ e => k b o e
theorem KB.ext {L : Addr} {own : Option (Nat × Addr)} {h h' : Heap} (k : Heap.ExtBut L h h') : KB L own h h' := fun b o n _ e => k b o n e

section
variable {prog : Program} {w : World} {h h' : Heap}

/-- the heap is kept but at one place that bears no sequence -/
noncomputable def NoSeq (h : Heap) (c : Addr) : Prop := ∀ o, h.get? c = some o → ∀ it n, o.data ≠ .seq it n
theorem RepT.only {c : Addr} {v : Value} {l : List Fl} (hs : Heap.ExtBut c h h') (hc : NoSeq h c) (r : RepT h v l) : RepT h' v l := by
  obtain ⟨a, vs, e, ⟨o, ho, q, n, d⟩, x⟩ := r
  have hne : a ≠ c := fun q => hc o (q ▸ ho) _ _ d
  exact ⟨a, vs, e, ⟨o, hs a o hne ho, q, n, d⟩, x⟩
theorem Rep.only {c : Addr} {v : Value} {p : PV} (hs : Heap.ExtBut c h h') (hc : NoSeq h c) (hp : p.storable = true) (r : Rep prog w h v p) : Rep prog w h' v p := by
  cases p with
  | fl f => exact r
  | list l =>
    obtain ⟨a, vs, e, ⟨o, ho, q, n, d⟩, x⟩ := r
    have hne : a ≠ c := fun q => hc o (q ▸ ho) _ _ d
    exact ⟨a, vs, e, ⟨o, hs a o hne ho, q, n, d⟩, x⟩
  | rows l =>
    obtain ⟨a, vs, e, ⟨o, ho, q, n, d⟩, x, y⟩ := r
    have hne : a ≠ c := fun q => hc o (q ▸ ho) _ _ d
    exact ⟨a, vs, e, ⟨o, hs a o hne ho, q, n, d⟩, x.imp fun _ _ => RepT.only hs hc, y⟩
  | _ => cases hp
theorem Slot.only {c : Addr} {own : Option (Nat × Addr)} {i : Nat} {mv : Option Value} {p : PV} (hs : Heap.ExtBut c h h') (hc : NoSeq h c) (x : Slot prog w h own i mv p) : Slot prog w h' own i mv p := by
  cases p with
  | undef => trivial
  | olist l =>
    obtain ⟨a, vs, n, e1, e2, e3, e4⟩ := x
    have hne : a ≠ c := fun q => hc _ (q ▸ e3) _ _ rfl
    exact ⟨a, vs, n, e1, e2, hs _ _ hne e3, e4⟩
  | orows l =>
    obtain ⟨a, vs, n, e1, e2, e3, e4, e5⟩ := x
    have hne : a ≠ c := fun q => hc _ (q ▸ e3) _ _ rfl
    exact ⟨a, vs, n, e1, e2, hs _ _ hne e3, e4.imp fun _ _ => RepT.only hs hc, e5⟩
  | fl f => obtain ⟨v, e, r, q, st⟩ := x; exact ⟨v, e, r.only hs hc st, q, st⟩
  | list f => obtain ⟨v, e, r, q, st⟩ := x; exact ⟨v, e, r.only hs hc st, q, st⟩
  | rows f => obtain ⟨v, e, r, q, st⟩ := x; exact ⟨v, e, r.only hs hc st, q, st⟩
  | tup f => obtain ⟨v, e, r, q, st⟩ := x; cases st
  | dict f => obtain ⟨v, e, r, q, st⟩ := x; cases st
end

theorem putM_eq {ρ ρ' : List PV} {i : Nat} {v : PV} (h : putM ρ i v = some ρ') :
    ρ' = ρ.set i v ∧ v.storable = true ∧ (v.isFl = true ∨ ρ.any PV.isOwn = false) ∧ ∃ old, ρ[i]? = some old ∧ old.isOwn = false := by
  unfold putM at h
  split at h
  · rename_i old ho
    split at h
    · rename_i hc
      cases h
      simp only [Bool.and_eq_true, Bool.or_eq_true, Bool.not_eq_true'] at hc
      exact ⟨rfl, hc.1.2, hc.2, old, ho, hc.1.1⟩
    · cases h
  · cases h

theorem allDiff_inj : ∀ {l : List Str} {i j : Nat} {x : Str}, allDiff l = true → l[i]? = some x → l[j]? = some x → i = j
  | [], i, j, x, _, h, _ => by simp at h
  | y :: r, 0, 0, x, _, _, _ => rfl
  | y :: r, 0, j + 1, x, h, h1, h2 => by
    unfold allDiff at h
    rw [Bool.and_eq_true] at h
    simp at h1 h2
    subst h1
    have : y ∈ r := List.mem_of_getElem? h2
    have h3 := h.1
    simp at h3
    exact absurd this h3
  | y :: r, i + 1, 0, x, h, h1, h2 => by
    unfold allDiff at h
    rw [Bool.and_eq_true] at h
    simp at h1 h2
    subst h2
    have : y ∈ r := List.mem_of_getElem? h1
    have h3 := h.1
    simp at h3
    exact absurd this h3
  | y :: r, i + 1, j + 1, x, h, h1, h2 => by
    unfold allDiff at h
    rw [Bool.and_eq_true] at h
    simp at h1 h2
    rw [allDiff_inj h.2 h1 h2]

section
variable {prog : Program} {w : World} {K : Frag} {mg mb : Str → Option Value} {fa : Nat → Addr} {gl : Nat → Option PV}
variable {env : Env} {own : Option (Nat × Addr)} {nm : List Str} {A : Around} {h₀ : Heap}

/-- what holds between the statements of a def -/
structure EX (prog : Program) (w : World) (env : Env) (own : Option (Nat × Addr)) (nm : List Str) (h₀ : Heap) (m : Str → Option Value) (ρ : List PV) (h : Heap) : Prop where
  ns : h.Ns env.locals m
  k0 : Keep h₀ h
  sim : Sim prog w h own nm m ρ
  hown : ∀ k a, own = some (k, a) → ∃ p, ρ[k]? = some p ∧ p.isOwn = true
  hoa : ∀ k a, own = some (k, a) → ∃ it n, h.get? a = some { cls := .type "list", data := .seq it n }

/-- the def's own facts -/
structure DF (prog : Program) (w : World) (K : Frag) (mg mb : Str → Option Value) (fa : Nat → Addr) (gl : Nat → Option PV) (env : Env) (own : Option (Nat × Addr)) (nm : List Str) (h₀ : Heap) (A : Around) (fn : Nat → List PV → Option PV) : Prop where
  E0 : Env0 env
  hh : A.handled = none
  hF : FnOK prog w K mg mb fa gl A fn
  G0 : Gl prog w K mg mb fa gl h₀
  L0 : h₀.get? env.locals = none
  O0 : ∀ k a, own = some (k, a) → h₀.get? a = none ∧ a ≠ env.locals
  nd : allDiff nm = true

variable {fn : Nat → List PV → Option PV}

theorem EX.ec {m : Str → Option Value} {ρ : List PV} {h : Heap} (D : DF prog w K mg mb fa gl env own nm h₀ A fn) (X : EX prog w env own nm h₀ m ρ h) : EC prog w K mg mb fa gl env own nm m ρ h :=
  ⟨X.ns, D.G0.keep X.k0, X.sim⟩
theorem EX.keep {m : Str → Option Value} {ρ : List PV} {h h' : Heap} (X : EX prog w env own nm h₀ m ρ h) (k : Keep h h') : EX prog w env own nm h₀ m ρ h' :=
  ⟨X.ns.keeps k, Keep.trans X.k0 k, fun i x p e1 e2 => (X.sim i x p e1 e2).keep k, X.hown, fun j a e => let ⟨it, n, q⟩ := X.hoa j a e; ⟨it, n, k _ _ q⟩⟩
/-- an object of the machine's own (an iterator) turns -/
theorem EX.iter {m : Str → Option Value} {ρ : List PV} {h h' : Heap} {I : Addr} (X : EX prog w env own nm h₀ m ρ h) (hs : Heap.ExtBut I h h') (hI : NoSeq h I) (hL : I ≠ env.locals) (h0 : h₀.get? I = none) : EX prog w env own nm h₀ m ρ h' :=
  ⟨X.ns.extBut hs (Ne.symm hL), fun b o e => hs b o (fun q => by rw [q, h0] at e; cases e) (X.k0 b o e), fun i x p e1 e2 => (X.sim i x p e1 e2).only hs hI, X.hown,
    fun j a e => let ⟨it, n, q⟩ := X.hoa j a e; ⟨it, n, hs _ _ (fun z => hI _ (z ▸ q) _ _ rfl) q⟩⟩

theorem Ns.noSeq {h : Heap} {L : Addr} {m : Str → Option Value} (n : h.Ns L m) : NoSeq h L := by
  intro o ho it k e
  obtain ⟨o', es, ep, ho', hd, _⟩ := n
  rw [ho] at ho'; cases ho'
  rw [hd] at e; cases e

theorem frame_ok (E0 : Env0 env) : (env.scope.kind == .class || (env.scope.kind == .module && env.locals != env.globals)) = false := by
  rw [E0.kind]; rfl

/-- a store of a name -/
theorem store1 {s : Shared} {m : Str → Option Value} {ρ ρ' : List PV} {i : Nat} {t : Expr} {v : Value} {p : PV} (D : DF prog w K mg mb fa gl env own nm h₀ A fn) (X : EX prog w env own nm h₀ m ρ s.heap)
    (ht : isL env.scope nm i t = true) (hv : Rep prog w s.heap v p) (hp : putM ρ i p = some ρ') :
    ∃ x pos, t = .Name x pos ∧ wpAny (model prog w) A (storeName env x v) (fun _ s' => ∃ h' tk m', s' = { s with heap := h', toks := tk } ∧ Heap.ExtBut env.locals s.heap h' ∧ EX prog w env own nm h₀ m' ρ' h') NoE s := by
  unfold isL at ht
  split at ht
  · rename_i x pos
    simp only [Bool.and_eq_true, Bool.not_eq_true'] at ht
    have hx : nm[i]? = some x := by simpa using ht.1.1
    have hk : env.kindOf x = some .local := by simpa [Env.kindOf] using ht.1.2
    refine ⟨x, pos, rfl, wpAny_storeName_local hk X.ns (fun h' hn hs => ⟨h', _, fun y => if y = x then some v else m y, rfl, hs.extBut, ?_⟩) (frame_ok D.E0)⟩
    obtain ⟨rfl, hst, hfl, old, ho, hoo⟩ := putM_eq hp
    have hseq := Ns.noSeq X.ns
    refine ⟨hn, fun b o e => hs.extBut b o (fun q => by rw [q, D.L0] at e; cases e) (X.k0 b o e), fun j y q e1 e2 => ?_, fun k a e => ?_,
      fun j a e => let ⟨it, n, q⟩ := X.hoa j a e; ⟨it, n, hs.extBut _ _ (D.O0 j a e).2 q⟩⟩
    · by_cases hj : j = i
      · subst hj
        rw [hx] at e1; cases e1
        have hlen : j < ρ.length := (List.getElem?_eq_some_iff.mp ho).1
        rw [List.getElem?_set_self hlen] at e2
        cases e2
        have hr := hv.only hs.extBut hseq hst
        have hq : own = none ∨ p.isFl = true := by
          rcases hfl with hf | hf
          · exact .inr hf
          · cases hown : own with
            | none => exact .inl rfl
            | some ka =>
              obtain ⟨k, a⟩ := ka
              obtain ⟨p', e3, e4⟩ := X.hown k a hown
              have := List.any_eq_false.mp hf p' (List.mem_of_getElem? e3)
              exact absurd e4 this
        have goal : ∃ u, (if x = x then some v else m x) = some u ∧ Rep prog w h' u p ∧ (own = none ∨ p.isFl = true) ∧ p.storable = true := ⟨v, by rw [if_pos rfl], hr, hq, hst⟩
        cases p <;> first | exact goal | (exfalso; cases hst)
      · rw [List.getElem?_set_ne (Ne.symm hj)] at e2
        have hy : y ≠ x := fun q => hj (allDiff_inj D.nd e1 (q ▸ hx))
        have := (X.sim j y q e1 e2).only hs.extBut hseq
        rw [if_neg hy]
        exact this
    · obtain ⟨p', e3, e4⟩ := X.hown k a e
      by_cases hki : k = i
      · subst hki
        rw [ho] at e3; cases e3
        rw [hoo] at e4; cases e4
      · exact ⟨p', by rw [List.getElem?_set_ne (Ne.symm hki)]; exact e3, e4⟩
  · cases ht

theorem assign1 {s : Shared} {m : Str → Option Value} {ρ ρ' : List PV} {i : Nat} {t : Expr} {v : Value} {p : PV} (D : DF prog w K mg mb fa gl env own nm h₀ A fn) (X : EX prog w env own nm h₀ m ρ s.heap)
    (ht : isL env.scope nm i t = true) (hv : Rep prog w s.heap v p) (hp : putM ρ i p = some ρ') :
    wpAny (model prog w) A (assign t env v) (fun _ s' => ∃ h' tk m', s' = { s with heap := h', toks := tk } ∧ Heap.ExtBut env.locals s.heap h' ∧ EX prog w env own nm h₀ m' ρ' h') NoE s := by
  obtain ⟨x, pos, rfl, h⟩ := store1 D X ht hv hp
  exact wpAny_assign_Name h

theorem isL_star {sc : Scope} {i : Nat} {t : Expr} (h : isL sc nm i t = true) : plainE t = true := by
  unfold isL at h
  split at h
  · rfl
  · cases h

/-- a pair unpacked into two names -/
theorem assign2 {s : Shared} {m : Str → Option Value} {ρ ρ' : List PV} {i j : Nat} {t u : Expr} {k : Nat} {pos : Pos} {v : Value} {p : PV} (D : DF prog w K mg mb fa gl env own nm h₀ A fn) (X : EX prog w env own nm h₀ m ρ s.heap)
    (ht : isL env.scope nm i t = true) (hu : isL env.scope nm j u = true) (hv : Rep prog w s.heap v p) (hp : put2 ρ i j p = some ρ') :
    wpAny (model prog w) A (assign (.Tuple [t, u] k pos) env v) (fun _ s' => ∃ h' tk m', s' = { s with heap := h', toks := tk } ∧ Heap.ExtBut env.locals s.heap h' ∧ EX prog w env own nm h₀ m' ρ' h') NoE s := by
  unfold put2 at hp
  split at hp
  · rename_i x y
    split at hp
    · rename_i ρ1 hp1
      obtain ⟨a, vs, rfl, xt, hvs⟩ := hv
      cases hvs with
      | cons hx hr =>
        rename_i v1 l1
        cases hr with
        | cons hy hr =>
          rename_i v2 l2
          cases hr
          have he : assignEach [t, u] env = [(false, assign t env), (false, assign u env)] := by
            have h1 := isL_star ht
            have h2 := isL_star hu
            have e2 : assignEach [u] env = [(false, assign u env)] := by cases u <;> first | rfl | cases h2
            have e1 : assignEach (t :: [u]) env = (false, assign t env) :: assignEach [u] env := by cases t <;> first | rfl | cases h1
            rw [e1, e2]
          refine wpAny_assign_Tuple D.hh xt (by rw [he]; rfl) (by rw [he]; rfl) fun h1 e1 => ?_
          rw [he]
          have kp : Keep s.heap h1 := fun b o e => e1 b o (Nat.ne_of_lt (Heap.lt_size e)) e
          show wpAny _ _ (assignInOrder [assign t env, assign u env] [v1, v2]) _ _ _
          unfold assignInOrder
          refine wpAny_bind (wpAny_holding (wpAny_mono (assign1 (s := { s with heap := h1 }) D (X.keep kp) ht (p := .fl x) hx hp1) (fun _ s2 h2 => ?_) fun _ _ x => x))
          obtain ⟨h2', tk2, m2, rfl, b2, X2⟩ := h2
          unfold assignInOrder
          refine wpAny_bind (wpAny_holding (wpAny_mono (assign1 (s := { s with heap := h2', toks := tk2 }) D X2 hu (p := .fl y) hy hp) (fun _ s3 h3 => ?_) fun _ _ x => x))
          obtain ⟨h3', tk3, m3, rfl, b3, X3⟩ := h3
          unfold assignInOrder
          exact wpAny_pure ⟨h3', tk3, m3, rfl, fun b o n e => b3 b o n (b2 b o n (kp b o e)), X3⟩
    · cases hp
  · cases hp
end
end Mine

end
section
open PySem PySem.W PyProof.Rows
namespace Mine
section
variable {prog : Program} {w : World} {K : Frag} {mg mb : Str → Option Value} {fa : Nat → Addr} {gl : Nat → Option PV}
variable {env : Env} {own : Option (Nat × Addr)} {nm : List Str} {A : Around} {h₀ : Heap} {fn : Nat → List PV → Option PV}

/-- a statement's end -/
noncomputable def XPost (prog : Program) (w : World) (env : Env) (own : Option (Nat × Addr)) (nm : List Str) (h₀ : Heap) (s : Shared) (r : Res) (f : Flow) (s' : Shared) : Prop :=
  ∃ h' tk, s' = { s with heap := h', toks := tk } ∧ KB env.locals own s.heap h' ∧ Keep h₀ h' ∧
    match r with
    | .next ρ => f = .next ∧ ∃ m, EX prog w env own nm h₀ m ρ h'
    | .cont ρ => f = .cont ∧ ∃ m, EX prog w env own nm h₀ m ρ h'
    | .ret p => ∃ v, f = .ret v ∧ Rep prog w h' v p

theorem XPost.of {s : Shared} {r : Res} {f : Flow} {s' : Shared} {h : Heap} {tk : Nat} (kb : KB env.locals own s.heap h) (x : XPost prog w env own nm h₀ { s with heap := h, toks := tk } r f s') : XPost prog w env own nm h₀ s r f s' := by
  obtain ⟨h', tk', rfl, kb', q⟩ := x
  exact ⟨h', tk', rfl, kb.trans kb', q⟩
theorem XPost.step {s s1 : Shared} {r : Res} {f : Flow} {s' : Shared} (st : Step s s1) (x : XPost prog w env own nm h₀ s1 r f s') : XPost prog w env own nm h₀ s r f s' := by
  obtain ⟨h, tk, rfl, k⟩ := st
  exact XPost.of (KB.of k) x

theorem seq_ok {s : Shared} {st : Stmt} {rest : List Stmt} {q r : Res} {k : List PV → Option Res} (hq : wpAny (model prog w) A (exec st env) (XPost prog w env own nm h₀ s q) NoE s) (hr : thenM (some q) k = some r)
    (hk : ∀ ρ1 m1 s1, k ρ1 = some r → EX prog w env own nm h₀ m1 ρ1 s1.heap → wpAny (model prog w) A (execs rest env) (XPost prog w env own nm h₀ s1 r) NoE s1) :
    wpAny (model prog w) A (execs (st :: rest) env) (XPost prog w env own nm h₀ s r) NoE s := by
  refine wpAny_execs_cons (wpAny_mono hq (fun f s1 h1 => ?_) fun _ _ x => x)
  obtain ⟨h', tk, rfl, kb, k0, h1⟩ := h1
  cases q with
  | next ρ1 =>
    obtain ⟨rfl, m1, X1⟩ := h1
    exact wpAny_mono (hk ρ1 m1 { s with heap := h', toks := tk } hr X1) (fun f s' x => XPost.of kb x) fun _ _ x => x
  | cont ρ1 =>
    obtain ⟨rfl, m1, X1⟩ := h1
    cases hr
    exact ⟨h', tk, rfl, kb, k0, rfl, m1, X1⟩
  | ret p =>
    obtain ⟨v, rfl, hv⟩ := h1
    cases hr
    exact ⟨h', tk, rfl, kb, k0, v, rfl, hv⟩

theorem EX.next {s : Shared} {m : Str → Option Value} {ρ : List PV} {h : Heap} {tk : Nat} (X : EX prog w env own nm h₀ m ρ h) (kb : KB env.locals own s.heap h) : XPost prog w env own nm h₀ s (.next ρ) .next { s with heap := h, toks := tk } :=
  ⟨h, tk, rfl, kb, X.k0, rfl, m, X⟩

theorem swaps_plain {e : Expr} {t : Option Expr} {l : Nat} (h : plainE e = true) : swapsWith e t l env = pure false := by
  cases e <;> first | rfl | cases h

/-- a name's load -/
theorem load1 {s : Shared} {m : Str → Option Value} {ρ : List PV} {i : Nat} {x : Str} {pos : Pos} {p : PV} (E0 : Env0 env) (X : EX prog w env own nm h₀ m ρ s.heap) (ht : isL env.scope nm i (.Name x pos) = true)
    (hp : evalM fn gl ρ (.loc i) = some p) : wpAny (model prog w) A (loadName env x) (EPost prog w s p) NoE s := by
  unfold isL at ht
  simp only [Bool.and_eq_true, Bool.not_eq_true'] at ht
  have hx : nm[i]? = some x := by simpa using ht.1.1
  have hk : env.kindOf x = some .local := by simpa [Env.kindOf] using ht.1.2
  have key : ∀ v, m x = some v → Rep prog w s.heap v p → wpAny (model prog w) A (loadName env x) (EPost prog w s p) NoE s := fun v hv hr =>
    wpAny_loadName_local E0.kind hk X.ns hv ⟨Step.refl _, hr⟩
  simp only [evalM] at hp
  split at hp
  · rename_i f he; cases hp
    obtain ⟨v, e1, r, _⟩ := X.sim i x _ hx he
    exact key v e1 r
  · rename_i f he; cases hp
    obtain ⟨v, e1, r, _⟩ := X.sim i x _ hx he
    exact key v e1 r
  · rename_i f he; cases hp
    obtain ⟨v, e1, r, _⟩ := X.sim i x _ hx he
    exact key v e1 r
  · cases hp

/-! ## loops -/
structure Proto (prog : Program) (w : World) (A : Around) (L : Addr) (own : Option (Nat × Addr)) (I : Addr) (items : List PV) (St : Nat → Heap → Prop) : Prop where
  item : ∀ i p s, items[i]? = some p → St i s.heap → wpAny (model prog w) A (pyNext (.ref I)) (fun r s' => ∃ v h' tk, r = some v ∧ s' = { s with heap := h', toks := tk } ∧ Heap.ExtBut I s.heap h' ∧ St (i + 1) h' ∧ Rep prog w h' v p) NoE s
  fin : ∀ s, St items.length s.heap → wpAny (model prog w) A (pyNext (.ref I)) (fun r s' => ∃ h' tk, r = none ∧ s' = { s with heap := h', toks := tk } ∧ Heap.ExtBut I s.heap h') NoE s
  stay : ∀ i h h', St i h → NoSeq h L → KB L own h h' → St i h'
  noseq : ∀ i h, St i h → NoSeq h I

theorem never {α : Type} {s : Shared} {t : Sem α} {Q : α → Shared → Prop} {E : Value → Shared → Prop} (h : wpAny (model prog w) A t Q NoE s) : wpAny (model prog w) A t Q E s :=
  wpAny_mono h (fun _ _ x => x) fun _ _ x => x.elim

theorem for_ok {items : List PV} {bind : List PV → PV → Option (List PV)} {bd : List PV → Option Res} {target : Expr} {body : List Stmt} {I : Addr} {St : Nat → Heap → Prop} {s : Shared} {m : Str → Option Value} {ρ : List PV} {q : Res} {h1 : Heap} {tk1 : Nat}
    (P : Proto prog w A env.locals own I items St)
    (hbind : ∀ s m ρ ρ' v p, EX prog w env own nm h₀ m ρ s.heap → Rep prog w s.heap v p → bind ρ p = some ρ' →
      wpAny (model prog w) A (assign target env v) (fun _ s' => ∃ h' tk m', s' = { s with heap := h', toks := tk } ∧ Heap.ExtBut env.locals s.heap h' ∧ EX prog w env own nm h₀ m' ρ' h') NoE s)
    (hgo : ∀ i (s : Shared) v (p : PV) (Q : Unit → Shared → Prop), St i s.heap → Rep prog w s.heap v p → p ∈ items → Q () s → wpAny (model prog w) A (letOwnedTupleGo target (.ref I) v) Q NoE s)
    (hbody : ∀ s m ρ r, EX prog w env own nm h₀ m ρ s.heap → bd ρ = some r → wpAny (model prog w) A (execs body env) (XPost prog w env own nm h₀ s r) NoE s)
    (X : EX prog w env own nm h₀ m ρ s.heap) (hk : Keep s.heap h1) (hI : s.heap.get? I = none) (h0 : St 0 h1)
    (hq : loopM (fun v ρ => match bind ρ v with | some ρ' => bd ρ' | none => none) items ρ = some q) :
    codeAny (model prog w) A (.forLoop target (.ref I) body [] env) (fun r s' => match r with | .ok f => XPost prog w env own nm h₀ s q f s' | .error e => cameBackBy (model prog w) A env NoE e s') { s with heap := h1, toks := tk1 } := by
  have hIL : I ≠ env.locals := by
    intro e
    obtain ⟨o, _, _, ho, _⟩ := X.ns
    rw [← e, hI] at ho; cases ho
  have hI0 : h₀.get? I = none := by
    cases e : h₀.get? I with
    | none => rfl
    | some o => rw [X.k0 I o e] at hI; cases hI
  refine codeAny_forLoop_any (fun n s' => ∃ i h' tk m' ρ', s' = { s with heap := h', toks := tk } ∧ KB env.locals own s.heap h' ∧ EX prog w env own nm h₀ m' ρ' h' ∧ St i h' ∧ i ≤ items.length ∧ n = items.length - i ∧
      loopM (fun v ρ => match bind ρ v with | some ρ' => bd ρ' | none => none) (items.drop i) ρ' = some q) ?_ items.length
    ⟨0, h1, tk1, m, ρ, rfl, KB.of hk, X.keep hk, h0, Nat.zero_le _, rfl, by rw [List.drop_zero]; exact hq⟩
  rintro n s' ⟨i, h', tk, m', ρ', rfl, kb, X', hSt, hi, rfl, hl⟩
  cases hp : items[i]? with
  | none =>
    have hlen : items.length ≤ i := List.getElem?_eq_none_iff.mp hp
    have hie : i = items.length := Nat.le_antisymm hi hlen
    subst hie
    refine never (wpAny_mono (P.fin { s with heap := h', toks := tk } hSt) (fun r s1 h => ?_) fun _ _ x => x)
    obtain ⟨h2, tk2, rfl, rfl, e2⟩ := h
    refine wpAny_execs_nil ?_
    rw [List.drop_length] at hl
    cases hl
    have X2 := X'.iter e2 (P.noseq _ _ hSt) hIL hI0
    exact X2.next (fun b o n1 n2 e => e2 b o (fun q => by rw [q, hI] at e; cases e) (kb b o n1 n2 e))
  | some p =>
    have hlt : i < items.length := (List.getElem?_eq_some_iff.mp hp).1
    have hdrop : items.drop i = p :: items.drop (i + 1) := by
      rw [List.drop_eq_getElem_cons hlt]
      have := (List.getElem?_eq_some_iff.mp hp).2
      rw [this]
    rw [hdrop] at hl
    simp only [loopM] at hl
    refine never (wpAny_mono (P.item i p { s with heap := h', toks := tk } hp hSt) (fun r s1 h => ?_) fun _ _ x => x)
    obtain ⟨v, h2, tk2, rfl, rfl, e2, St2, rv⟩ := h
    have X2 := X'.iter e2 (P.noseq _ _ hSt) hIL hI0
    have kb2 : KB env.locals own s.heap h2 := fun b o n1 n2 e => e2 b o (fun q => by rw [q, hI] at e; cases e) (kb b o n1 n2 e)
    refine never (hgo (i + 1) { s with heap := h2, toks := tk2 } v p _ St2 rv (List.mem_of_getElem? hp) ?_)
    cases hb : bind ρ' p with
    | none => rw [hb] at hl; cases hl
    | some ρ2 =>
      rw [hb] at hl
      simp only at hl
      refine never (wpAny_mono (hbind { s with heap := h2, toks := tk2 } m' ρ' ρ2 v p X2 rv hb) (fun _ s3 h => ?_) fun _ _ x => x)
      obtain ⟨h3, tk3, m3, rfl, e3, X3⟩ := h
      have St3 := P.stay _ _ _ St2 (Ns.noSeq X2.ns) (KB.ext e3)
      have kb3 : KB env.locals own s.heap h3 := kb2.trans (KB.ext e3)
      cases hbd : bd ρ2 with
      | none => rw [hbd] at hl; cases hl
      | some rb =>
        rw [hbd] at hl
        refine never (wpAny_mono (hbody { s with heap := h3, toks := tk3 } m3 ρ2 rb X3 hbd) (fun f s4 h => ?_) fun _ _ x => x)
        obtain ⟨h4, tk4, rfl, kb4, k04, h⟩ := h
        have St4 := P.stay _ _ _ St3 (Ns.noSeq X3.ns) kb4
        cases rb with
        | next ρ4 =>
          obtain ⟨rfl, m4, X4⟩ := h
          exact ⟨items.length - (i + 1), by omega, i + 1, h4, tk4, m4, ρ4, rfl, kb3.trans kb4, X4, St4, hlt, rfl, hl⟩
        | cont ρ4 =>
          obtain ⟨rfl, m4, X4⟩ := h
          exact ⟨items.length - (i + 1), by omega, i + 1, h4, tk4, m4, ρ4, rfl, kb3.trans kb4, X4, St4, hlt, rfl, hl⟩
        | ret p4 =>
          obtain ⟨v4, rfl, r4⟩ := h
          cases hl
          exact ⟨h4, tk4, rfl, kb3.trans kb4, k04, v4, rfl, r4⟩

theorem while_ok {test : Expr} {tm : List PV → Option Bool} {bd : List PV → Option Res} {body : List Stmt} {fuel : Nat} {s : Shared} {m : Str → Option Value} {ρ : List PV} {q : Res}
    (htest : ∀ s m ρ b, EX prog w env own nm h₀ m ρ s.heap → tm ρ = some b → wpAny (model prog w) A (isTrue test env (eval test env)) (TPost s b) NoE s)
    (hbody : ∀ s m ρ r, EX prog w env own nm h₀ m ρ s.heap → bd ρ = some r → wpAny (model prog w) A (execs body env) (XPost prog w env own nm h₀ s r) NoE s)
    (X : EX prog w env own nm h₀ m ρ s.heap) (hq : whileM tm bd fuel ρ = some q) :
    codeAny (model prog w) A (.whileLoop test body [] env) (fun r s' => match r with | .ok f => XPost prog w env own nm h₀ s q f s' | .error e => cameBackBy (model prog w) A env NoE e s') s := by
  refine codeAny_whileLoop (fun n s' => ∃ h' tk m' ρ', s' = { s with heap := h', toks := tk } ∧ KB env.locals own s.heap h' ∧ EX prog w env own nm h₀ m' ρ' h' ∧ whileM tm bd n ρ' = some q) ?_ fuel
    ⟨s.heap, s.toks, m, ρ, rfl, KB.refl _ _ _, X, hq⟩
  rintro n s' ⟨h', tk, m', ρ', rfl, kb, X', hl⟩
  cases n with
  | zero => cases hl
  | succ n =>
    simp only [whileM] at hl
    cases ht : tm ρ' with
    | none => rw [ht] at hl; cases hl
    | some b =>
      rw [ht] at hl
      refine never (wpAny_mono (htest { s with heap := h', toks := tk } m' ρ' b X' ht) (fun c s1 h => ?_) fun _ _ x => x)
      obtain ⟨rfl, h2, tk2, rfl, k2⟩ := h
      have X2 := X'.keep k2
      have kb2 : KB env.locals own s.heap h2 := kb.trans (KB.of k2)
      cases c with
      | false =>
        cases hl
        exact wpAny_execs_nil (X2.next kb2)
      | true =>
        simp only [if_true]
        cases hbd : bd ρ' with
        | none => rw [hbd] at hl; cases hl
        | some rb =>
          rw [hbd] at hl
          refine never (wpAny_mono (hbody { s with heap := h2, toks := tk2 } m' ρ' rb X2 hbd) (fun f s4 h => ?_) fun _ _ x => x)
          obtain ⟨h4, tk4, rfl, kb4, k04, h⟩ := h
          cases rb with
          | next ρ4 =>
            obtain ⟨rfl, m4, X4⟩ := h
            exact ⟨n, Nat.lt_succ_self n, h4, tk4, m4, ρ4, rfl, kb2.trans kb4, X4, hl⟩
          | cont ρ4 =>
            obtain ⟨rfl, m4, X4⟩ := h
            exact ⟨n, Nat.lt_succ_self n, h4, tk4, m4, ρ4, rfl, kb2.trans kb4, X4, hl⟩
          | ret p4 =>
            obtain ⟨v4, rfl, r4⟩ := h
            cases hl
            exact ⟨h4, tk4, rfl, kb2.trans kb4, k04, v4, rfl, r4⟩

/-! ## the iterators -/
theorem noSeq_fields {h : Heap} {I : Addr} {o : Obj} {vs : Array Value} (ho : h.get? I = some o) (hd : o.data = .fields vs) : NoSeq h I := by
  intro o' ho' it n e
  rw [ho] at ho'; cases ho'
  rw [hd] at e; cases e

theorem proto_str {L I : Addr} {x : List Nat} {t : Tok} (hh : A.handled = none) (hIL : I ≠ L) (hIO : ∀ k a, own = some (k, a) → I ≠ a) (hx : okS x = true) :
    Proto prog w A L own I (x.map fun c => .fl (.str [c])) (fun i h => h.IsStrIter I "str_ascii_iterator" ⟨x.toArray⟩ t i) where
  item := fun i p s hp hs => by
    rw [List.getElem?_map] at hp
    obtain ⟨c, hc, rfl⟩ := Option.map_eq_some_iff.mp hp
    refine wpAny_pyNext_ascii_item hs (by simpa using hc) fun h' hs' e => ⟨_, h', _, rfl, rfl, e.extBut, hs', ?_⟩
    exact RepF.str [c] _ (okS_one (okS_mem hx (List.mem_of_getElem? hc)))
  fin := fun s hs => by
    rw [List.length_map] at hs
    exact wpAny_pyNext_ascii_end hh hs (by simp) fun h' e => ⟨h', s.toks, rfl, rfl, e⟩
  stay := fun i h h' hs _ kb => by
    obtain ⟨o, ho, r⟩ := hs
    exact ⟨o, kb I o hIL hIO ho, r⟩
  noseq := fun i h hs => by
    obtain ⟨o, ho, _, hd⟩ := hs
    exact noSeq_fields ho hd

theorem proto_list {L I ax : Addr} {vs : List Value} {l : List Fl} (hh : A.handled = none) (hIL : I ≠ L) (haL : ax ≠ L) (haI : ax ≠ I) (hvs : All2 RepF vs l) :
    Proto prog w A L none I (l.map .fl) (fun i h => h.IsListIter I ax i ∧ h.IsList ax vs.toArray) where
  item := fun i p s hp hs => by
    rw [List.getElem?_map] at hp
    obtain ⟨f, hf, rfl⟩ := Option.map_eq_some_iff.mp hp
    obtain ⟨v, hv, rv⟩ := hvs.get _ _ hf
    exact wpAny_pyNext_list_item hs.1 hs.2 (by simpa using hv) fun h' hs' e => ⟨v, h', s.toks, rfl, rfl, e.extBut, ⟨hs', hs.2.extBut e.extBut haI⟩, rv⟩
  fin := fun s hs => by
    rw [List.length_map, ← hvs.length] at hs
    exact wpAny_pyNext_list_end hh hs.1 hs.2 (by simp) fun h' e => ⟨h', s.toks, rfl, rfl, e⟩
  stay := fun i h h' hs _ kb => by
    obtain ⟨⟨o, ho, r⟩, o', ho', r'⟩ := hs
    exact ⟨⟨o, kb I o hIL (fun _ _ e => nomatch e) ho, r⟩, o', kb ax o' haL (fun _ _ e => nomatch e) ho', r'⟩
  noseq := fun i h hs => by
    obtain ⟨⟨o, ho, _, hd⟩, _⟩ := hs
    exact noSeq_fields ho hd

theorem proto_rows {L I ax : Addr} {vs : List Value} {l : List (List Fl)} (hh : A.handled = none) (hIL : I ≠ L) (haL : ax ≠ L) (haI : ax ≠ I) (hlen : vs.length = l.length) :
    Proto prog w A L none I (l.map .tup) (fun i h => (h.IsListIter I ax i ∧ h.IsList ax vs.toArray) ∧ All2 (RepT h) vs l) where
  item := fun i p s hp hs => by
    rw [List.getElem?_map] at hp
    obtain ⟨f, hf, rfl⟩ := Option.map_eq_some_iff.mp hp
    obtain ⟨⟨h1, h2⟩, h3⟩ := hs
    obtain ⟨v, hv, _⟩ := h3.get _ _ hf
    have hI : NoSeq s.heap I := by
      obtain ⟨o, ho, _, hd⟩ := h1
      exact noSeq_fields ho hd
    refine wpAny_pyNext_list_item h1 h2 (by simpa using hv) fun h' hs' e => ?_
    have h3' : All2 (RepT h') vs l := h3.imp fun _ _ => RepT.only e.extBut hI
    obtain ⟨v', hv', rv⟩ := h3'.get _ _ hf
    rw [hv] at hv'; cases hv'
    exact ⟨v, h', s.toks, rfl, rfl, e.extBut, ⟨⟨hs', h2.extBut e.extBut haI⟩, h3'⟩, rv⟩
  fin := fun s hs => by
    rw [List.length_map, ← hlen] at hs
    exact wpAny_pyNext_list_end hh hs.1.1 hs.1.2 (by simp) fun h' e => ⟨h', s.toks, rfl, rfl, e⟩
  stay := fun i h h' hs hn kb => by
    obtain ⟨⟨⟨o, ho, r⟩, o', ho', r'⟩, h3⟩ := hs
    refine ⟨⟨⟨o, kb I o hIL (fun _ _ e => nomatch e) ho, r⟩, o', kb ax o' haL (fun _ _ e => nomatch e) ho', r'⟩, h3.imp fun _ _ => RepT.only (c := L) (fun b o n e => kb b o n (fun _ _ e => nomatch e) e) hn⟩
  noseq := fun i h hs => by
    obtain ⟨⟨⟨o, ho, _, hd⟩, _⟩, _⟩ := hs
    exact noSeq_fields ho hd

theorem proto_range {L I : Addr} {a c : Int} {n : Nat} (hh : A.handled = none) (hIL : I ≠ L) (hIO : ∀ k a, own = some (k, a) → I ≠ a) :
    Proto prog w A L own I ((List.range n).map fun (k : Nat) => PV.fl (.int (a + c * (k : Int)))) (fun i h => IsRangeIter h I (a + c * (i : Int)) ((n : Int) - i) c) where
  item := fun i p s hp hs => by
    rw [List.getElem?_map] at hp
    obtain ⟨k, hk, rfl⟩ := Option.map_eq_some_iff.mp hp
    obtain ⟨hlt, hke⟩ := List.getElem?_eq_some_iff.mp hk
    rw [List.getElem_range] at hke
    subst hke
    rw [List.length_range] at hlt
    refine wpAny_pyNext_range_item hs (by omega) fun h' hs' e => ⟨_, h', _, rfl, rfl, e.extBut, ?_, .int _ _⟩
    have e1 : a + c * ((i + 1 : Nat) : Int) = a + c * (i : Int) + c := by push_cast; rw [Int.mul_add, Int.mul_one, Int.add_assoc]
    have e2 : (n : Int) - ((i + 1 : Nat) : Int) = (n : Int) - (i : Int) - 1 := by push_cast; omega
    show IsRangeIter h' I (a + c * ((i + 1 : Nat) : Int)) ((n : Int) - ((i + 1 : Nat) : Int)) c
    rw [e1, e2]
    exact hs'
  fin := fun s hs => by
    rw [List.length_map, List.length_range] at hs
    exact wpAny_pyNext_range_end hh hs (by omega) fun h' e => ⟨h', s.toks, rfl, rfl, e⟩
  stay := fun i h h' hs _ kb => kb I _ hIL hIO hs
  noseq := fun i h hs => noSeq_fields hs rfl
end
end Mine

end
section
open PySem PySem.W PyProof.Rows
namespace Mine
section
variable {prog : Program} {w : World} {K : Frag} {mg mb : Str → Option Value} {fa : Nat → Addr} {gl : Nat → Option PV}
variable {env : Env} {own : Option (Nat × Addr)} {nm : List Str} {A : Around} {h₀ : Heap} {fn : Nat → List PV → Option PV} {fuel : Nat}

theorem stmts_nil {l : List Stmt} (h : noStmts l = true) : l = [] := by cases l <;> first | rfl | cases h
theorem isL_go {sc : Scope} {i : Nat} {t : Expr} (h : isL sc nm i t = true) (it : Value) (v : Value) : letOwnedTupleGo t it v = pure () := by
  unfold isL at h
  split at h
  · rfl
  · cases h

theorem testM_of {ρ : List PV} {c : ME} {b : Bool} (h : testM fn gl ρ c = some b) : evalM fn gl ρ c = some (.fl (.bool b)) := by
  unfold testM at h
  split at h
  · rename_i b' hb; cases h; exact hb
  · cases h

theorem thenM_some {o : Option Res} {k : List PV → Option Res} {r : Res} (h : thenM o k = some r) : ∃ q, o = some q ∧ thenM (some q) k = some r := by
  cases o with
  | none => cases h
  | some q => exact ⟨q, rfl, h⟩

/-- a for over what an expression gives -/
theorem for_stmt {items : List PV} {bind : List PV → PV → Option (List PV)} {bd : List PV → Option Res} {target iter : Expr} {body : List Stmt} {pos : Pos} {s : Shared} {m : Str → Option Value} {ρ : List PV} {q : Res} {Pv : Value → Shared → Prop}
    (hi : plainE iter = true) (X : EX prog w env own nm h₀ m ρ s.heap)
    (he : wpAny (model prog w) A (eval iter env) (fun v s1 => Step s s1 ∧ Pv v s1) NoE s)
    (hit : ∀ v (s1 : Shared), EX prog w env own nm h₀ m ρ s1.heap → Pv v s1 → wpAny (model prog w) A (pyIter v) (fun it s2 => it = .ref s1.heap.objs.size ∧ ∃ h' tk St, s2 = { s1 with heap := h', toks := tk } ∧ Keep s1.heap h' ∧ St 0 h' ∧
      Proto prog w A env.locals own s1.heap.objs.size items St ∧
      ∀ i (s : Shared) v (p : PV) (Q : Unit → Shared → Prop), St i s.heap → Rep prog w s.heap v p → p ∈ items → Q () s → wpAny (model prog w) A (letOwnedTupleGo target (.ref s1.heap.objs.size) v) Q NoE s) NoE s1)
    (hbind : ∀ s m ρ ρ' v p, EX prog w env own nm h₀ m ρ s.heap → Rep prog w s.heap v p → bind ρ p = some ρ' →
      wpAny (model prog w) A (assign target env v) (fun _ s' => ∃ h' tk m', s' = { s with heap := h', toks := tk } ∧ Heap.ExtBut env.locals s.heap h' ∧ EX prog w env own nm h₀ m' ρ' h') NoE s)
    (hbody : ∀ s m ρ r, EX prog w env own nm h₀ m ρ s.heap → bd ρ = some r → wpAny (model prog w) A (execs body env) (XPost prog w env own nm h₀ s r) NoE s)
    (hq : loopM (fun v ρ => match bind ρ v with | some ρ' => bd ρ' | none => none) items ρ = some q) :
    wpAny (model prog w) A (exec (.For target iter body [] pos) env) (XPost prog w env own nm h₀ s q) NoE s := by
  refine wpAny_For (wpAny_mono he (fun v s1 h1 => ?_) fun _ _ x => x) (fun x => fold_plain hi x)
  have X1 := X.keep h1.1.keep
  refine wpAny_mono (hit v s1 X1 h1.2) (fun it s2 h2 => ?_) fun _ _ x => x
  obtain ⟨rfl, h', tk, St, rfl, k2, St0, P, hgo⟩ := h2
  have hnone : s1.heap.get? s1.heap.objs.size = none := by
    cases e : s1.heap.get? s1.heap.objs.size with
    | none => rfl
    | some o => exact absurd (Heap.lt_size e) (Nat.lt_irrefl _)
  refine codeAny_mono (for_ok P hbind hgo hbody X1 k2 hnone St0 hq) (fun r s' x => ?_)
  cases r with
  | ok f => exact XPost.step h1.1 x
  | error e => exact x

theorem any_own_none {ρ : List PV} {m : Str → Option Value} {h : Heap} (X : EX prog w env own nm h₀ m ρ h) (ha : ¬ (ρ.any PV.isOwn = true)) : own = none := by
  cases e : own with
  | none => rfl
  | some ka =>
    obtain ⟨k, a⟩ := ka
    obtain ⟨p, e1, e2⟩ := X.hown k a e
    exact absurd (List.any_eq_true.mpr ⟨p, List.mem_of_getElem? e1, e2⟩) ha

theorem size_ne {h : Heap} {L : Addr} {m : Str → Option Value} (n : h.Ns L m) : h.objs.size ≠ L := Ne.symm (Nat.ne_of_lt n.lt)

theorem own_lt {m : Str → Option Value} {ρ : List PV} {h : Heap} (X : EX prog w env own nm h₀ m ρ h) (k : Nat) (a : Addr) (e : own = some (k, a)) : h.objs.size ≠ a := by
  obtain ⟨it, n, q⟩ := X.hoa k a e
  exact Ne.symm (Nat.ne_of_lt (Heap.lt_size q))

theorem iter_str {target : Expr} {m : Str → Option Value} {ρ : List PV} {x : List Nat} {v : Value} {s1 : Shared} (hh : A.handled = none) (hgo : ∀ it v, letOwnedTupleGo target it v = pure ())
    (X : EX prog w env own nm h₀ m ρ s1.heap) (hv : Rep prog w s1.heap v (.fl (.str x))) :
    wpAny (model prog w) A (pyIter v) (fun it s2 => it = .ref s1.heap.objs.size ∧ ∃ h' tk St, s2 = { s1 with heap := h', toks := tk } ∧ Keep s1.heap h' ∧ St 0 h' ∧
      Proto prog w A env.locals own s1.heap.objs.size (x.map fun c => .fl (.str [c])) St ∧
      ∀ i (s : Shared) v (p : PV) (Q : Unit → Shared → Prop), St i s.heap → Rep prog w s.heap v p → p ∈ (x.map fun c => PV.fl (.str [c])) → Q () s → wpAny (model prog w) A (letOwnedTupleGo target (.ref s1.heap.objs.size) v) Q NoE s) NoE s1 := by
  cases hv
  rename_i t hx
  refine wpAny_pyIter_ascii (by simpa using fun c hc => okS_mem hx hc) ?_
  refine ⟨rfl, _, s1.toks, _, rfl, Keep.push _ _, ⟨_, Heap.get?_push_size _ rfl, rfl, rfl⟩, proto_str hh (size_ne X.ns) (own_lt X) hx, ?_⟩
  intro i s v p Q _ _ _ hQ
  exact wpAny_of_eq (hgo _ _) hQ

theorem iter_list {target : Expr} {m : Str → Option Value} {ρ : List PV} {l : List Fl} {v : Value} {s1 : Shared} (hh : A.handled = none) (hgo : ∀ it v, letOwnedTupleGo target it v = pure ())
    (X : EX prog w env none nm h₀ m ρ s1.heap) (hv : Rep prog w s1.heap v (.list l)) :
    wpAny (model prog w) A (pyIter v) (fun it s2 => it = .ref s1.heap.objs.size ∧ ∃ h' tk St, s2 = { s1 with heap := h', toks := tk } ∧ Keep s1.heap h' ∧ St 0 h' ∧
      Proto prog w A env.locals none s1.heap.objs.size (l.map .fl) St ∧
      ∀ i (s : Shared) v (p : PV) (Q : Unit → Shared → Prop), St i s.heap → Rep prog w s.heap v p → p ∈ (l.map PV.fl) → Q () s → wpAny (model prog w) A (letOwnedTupleGo target (.ref s1.heap.objs.size) v) Q NoE s) NoE s1 := by
  obtain ⟨a, vs, rfl, xl, hvs, _⟩ := hv
  have haL : a ≠ env.locals := by
    obtain ⟨o, ho, _, n, d⟩ := xl
    intro e
    exact Ns.noSeq X.ns o (e ▸ ho) _ _ d
  have haI : a ≠ s1.heap.objs.size := by
    obtain ⟨o, ho, _⟩ := xl
    exact Nat.ne_of_lt (Heap.lt_size ho)
  refine wpAny_pyIter_list xl ?_
  refine ⟨rfl, _, s1.toks, _, rfl, Keep.push _ _, ⟨⟨_, Heap.get?_push_size _ rfl, rfl, rfl⟩, xl.push _⟩, proto_list hh (size_ne X.ns) haL haI hvs, ?_⟩
  intro i s v p Q _ _ _ hQ
  exact wpAny_of_eq (hgo _ _) hQ

theorem iter_rows {elts : List Expr} {k : Nat} {pos : Pos} {m : Str → Option Value} {ρ : List PV} {l : List (List Fl)} {v : Value} {s1 : Shared} (hh : A.handled = none)
    (X : EX prog w env none nm h₀ m ρ s1.heap) (hv : Rep prog w s1.heap v (.rows l)) :
    wpAny (model prog w) A (pyIter v) (fun it s2 => it = .ref s1.heap.objs.size ∧ ∃ h' tk St, s2 = { s1 with heap := h', toks := tk } ∧ Keep s1.heap h' ∧ St 0 h' ∧
      Proto prog w A env.locals none s1.heap.objs.size (l.map .tup) St ∧
      ∀ i (s : Shared) v (p : PV) (Q : Unit → Shared → Prop), St i s.heap → Rep prog w s.heap v p → p ∈ (l.map PV.tup) → Q () s → wpAny (model prog w) A (letOwnedTupleGo (.Tuple elts k pos) (.ref s1.heap.objs.size) v) Q NoE s) NoE s1 := by
  obtain ⟨a, vs, rfl, xl, hvs, _⟩ := hv
  have haL : a ≠ env.locals := by
    obtain ⟨o, ho, _, n, d⟩ := xl
    intro e
    exact Ns.noSeq X.ns o (e ▸ ho) _ _ d
  have haI : a ≠ s1.heap.objs.size := by
    obtain ⟨o, ho, _⟩ := xl
    exact Nat.ne_of_lt (Heap.lt_size ho)
  refine wpAny_pyIter_list xl ?_
  refine ⟨rfl, _, s1.toks, _, rfl, Keep.push _ _, ⟨⟨⟨_, Heap.get?_push_size _ rfl, rfl, rfl⟩, xl.push _⟩, hvs.imp fun _ _ => RepT.keep (Keep.push _ _)⟩, proto_rows hh (size_ne X.ns) haL haI hvs.length, ?_⟩
  intro i s v p Q hSt hr hm hQ
  obtain ⟨q, _, rfl⟩ := List.mem_map.mp hm
  obtain ⟨b, us, rfl, _⟩ := hr
  exact wpAny_letOwnedTupleGo_listiter hSt.1.1 hQ

theorem range_size {a b c : Int} (hc : 0 < c) : (Builtin.Range.rangeSize a b c).toNat = ((b - a + c - 1) / c).toNat ∧ 0 ≤ Builtin.Range.rangeSize a b c ∧ Builtin.Range.rangeSize a b c ≤ (if a < b then b - a else 0) := by
  unfold Builtin.Range.rangeSize
  rw [if_pos hc]
  split
  · rename_i h
    have e : (b - a + c - 1) / c = (b - a - 1) / c + 1 := by
      rw [show b - a + c - 1 = (b - a - 1) + 1 * c by omega, Int.add_mul_ediv_right _ _ (by omega)]
    have h1 : 0 ≤ (b - a - 1) / c := Int.ediv_nonneg (by omega) (by omega)
    have h2 : (b - a - 1) / c ≤ b - a - 1 := Int.ediv_le_self _ (by omega)
    refine ⟨by rw [e], by omega, by omega⟩
  · rename_i h
    have h1 : (b - a + c - 1) / c ≤ (c - 1) / c := Int.ediv_le_ediv hc (by omega)
    have h2 : (c - 1) / c = 0 := Int.ediv_eq_zero_of_lt (by omega) (by omega)
    refine ⟨by simp; omega, by omega, by omega⟩
theorem range_small {a b c : Int} (ha : fitI a = true) (hb : fitI b = true) (hc : 0 < c) (hc' : c ≤ 1000) : Builtin.Range.small a b c = true := by
  simp only [fitI, Bool.and_eq_true, decide_eq_true_eq] at ha hb
  obtain ⟨_, h1, h2⟩ := range_size (a := a) (b := b) hc
  unfold Builtin.Range.small
  simp only [Builtin.Range.rangeFitsLong, Bool.and_eq_true, Bool.or_eq_true, decide_eq_true_eq, beq_iff_eq, if_pos hc]
  have h3 : Builtin.Range.rangeSize a b c ≤ 2 ^ 62 := by
    refine Int.le_trans h2 ?_
    split <;> omega
  refine ⟨⟨⟨⟨?_, ?_⟩, ?_⟩, ?_⟩, ?_⟩
  all_goals first | omega | (right; omega)

theorem iter_range {target : Expr} {m : Str → Option Value} {ρ : List PV} {a b c : Int} {t u v : Tok} {r : Addr} {s1 : Shared} (hh : A.handled = none) (hgo : ∀ it v, letOwnedTupleGo target it v = pure ())
    (X : EX prog w env own nm h₀ m ρ s1.heap) (hr : IsRange s1.heap r a b c t u v) (ha : fitI a = true) (hb : fitI b = true) (hc : 0 < c) (hc' : c ≤ 1000) :
    wpAny (model prog w) A (pyIter (.ref r)) (fun it s2 => it = .ref s1.heap.objs.size ∧ ∃ h' tk St, s2 = { s1 with heap := h', toks := tk } ∧ Keep s1.heap h' ∧ St 0 h' ∧
      Proto prog w A env.locals own s1.heap.objs.size ((List.range ((b - a + c - 1) / c).toNat).map fun (k : Nat) => PV.fl (.int (a + c * (k : Int)))) St ∧
      ∀ i (s : Shared) v (p : PV) (Q : Unit → Shared → Prop), St i s.heap → Rep prog w s.heap v p → p ∈ ((List.range ((b - a + c - 1) / c).toNat).map fun (k : Nat) => PV.fl (.int (a + c * (k : Int)))) → Q () s → wpAny (model prog w) A (letOwnedTupleGo target (.ref s1.heap.objs.size) v) Q NoE s) NoE s1 := by
  refine wpAny_pyIter_range hr (range_small ha hb hc hc') ?_
  obtain ⟨e1, h1, _⟩ := range_size (a := a) (b := b) hc
  have e2 : Builtin.Range.rangeSize a b c = ((((b - a + c - 1) / c).toNat : Nat) : Int) := by rw [← e1]; omega
  refine ⟨rfl, _, s1.toks, _, rfl, Keep.push _ _, ?_, proto_range (a := a) (c := c) hh (size_ne X.ns) (own_lt X), ?_⟩
  · show IsRangeIter _ _ (a + c * ((0 : Nat) : Int)) (((((b - a + c - 1) / c).toNat : Nat) : Int) - ((0 : Nat) : Int)) c
    rw [e2]
    have e3 : a + c * ((0 : Nat) : Int) = a := by simp
    have e4 : ((((b - a + c - 1) / c).toNat : Nat) : Int) - ((0 : Nat) : Int) = ((((b - a + c - 1) / c).toNat : Nat) : Int) := by simp
    rw [e3, e4]
    exact Heap.get?_push_size _ rfl
  · intro i s v p Q _ _ _ hQ
    exact wpAny_of_eq (hgo _ _) hQ
end
end Mine

end
section
open PySem PySem.W PyProof.Rows
namespace Mine
section
variable {prog : Program} {w : World} {K : Frag} {mg mb : Str → Option Value} {fa : Nat → Addr} {gl : Nat → Option PV}
variable {env : Env} {own : Option (Nat × Addr)} {nm : List Str} {A : Around} {h₀ : Heap} {fn : Nat → List PV → Option PV} {fuel : Nat}

/-- the range that a head asks for -/
noncomputable def RangeOf (a b c : Int) (v : Value) (s : Shared) : Prop := ∃ r t u x, v = .ref r ∧ IsRange s.heap r a b c t u x

theorem eval_range1 {s : Shared} {f x : Expr} {pos : Pos} {b : Int} (E0 : Env0 env) (G : Gl prog w K mg mb fa gl s.heap) (hf : isB env.scope "range" f = true) (hp : plainE x = true)
    (h : wpAny (model prog w) A (eval x env) (EPost prog w s (.fl (.int b))) NoE s) :
    wpAny (model prog w) A (eval (.Call f [x] [] pos) env) (fun v s1 => Step s s1 ∧ RangeOf 0 b 1 v s1) NoE s := by
  refine Call_ (isB_name (v := .type "range") E0 G (by simp [bnames]) hf ?_) (call_shape (isB_shape hf))
  refine callWith_type1 (arg1 hp h fun v s' st hv => ?_) (star_one hp)
  cases hv
  exact call_range_1 ⟨st.trans (Step.both _ _ _ (Keep.push _ _)), _, _, _, _, rfl, IsRange.new ..⟩
theorem eval_range2 {s : Shared} {f x y : Expr} {pos : Pos} {a b : Int} (E0 : Env0 env) (G : Gl prog w K mg mb fa gl s.heap) (hf : isB env.scope "range" f = true) (hp : plainE x = true) (hq : plainE y = true)
    (h : wpAny (model prog w) A (eval x env) (EPost prog w s (.fl (.int a))) NoE s)
    (h2 : ∀ s', Step s s' → wpAny (model prog w) A (eval y env) (EPost prog w s' (.fl (.int b))) NoE s') :
    wpAny (model prog w) A (eval (.Call f [x, y] [] pos) env) (fun v s1 => Step s s1 ∧ RangeOf a b 1 v s1) NoE s := by
  refine Call_ (isB_name (v := .type "range") E0 G (by simp [bnames]) hf ?_) (call_shape (isB_shape hf))
  refine callWith_type1 (arg2 hp hq h h2 fun v u s' st hv hu => ?_) (star_one hp) (by exact noStar (by rw [List.all_cons, hq]; rfl))
  cases hv; cases hu
  exact call_range_2 ⟨st.trans (Step.both _ _ _ (Keep.push _ _)), _, _, _, _, rfl, IsRange.new ..⟩
theorem eval_range3 {s : Shared} {f x y z : Expr} {pos : Pos} {a b c : Int} (E0 : Env0 env) (G : Gl prog w K mg mb fa gl s.heap) (hf : isB env.scope "range" f = true) (hp : plainE x = true) (hq : plainE y = true) (hz : plainE z = true)
    (h : wpAny (model prog w) A (eval x env) (EPost prog w s (.fl (.int a))) NoE s)
    (h2 : ∀ s', Step s s' → wpAny (model prog w) A (eval y env) (EPost prog w s' (.fl (.int b))) NoE s')
    (h3 : ∀ s', Step s s' → wpAny (model prog w) A (eval z env) (EPost prog w s' (.fl (.int c))) NoE s') (hc : 0 < c) (hc' : c ≤ 1000) :
    wpAny (model prog w) A (eval (.Call f [x, y, z] [] pos) env) (fun v s1 => Step s s1 ∧ RangeOf a b c v s1) NoE s := by
  refine Call_ (isB_name (v := .type "range") E0 G (by simp [bnames]) hf ?_) (call_shape (isB_shape hf))
  refine callWith_type1 ?_ (star_one hp) (by exact noStar (by rw [List.all_cons, List.all_cons, hq, hz]; rfl))
  refine args_cons (wpAny_mono h (fun v s1 h1 => ?_) fun _ _ x => x) (star_one hp)
  refine arg2 hq hz (h2 _ h1.1) (fun s' st => h3 s' (h1.1.trans st)) fun v2 v3 s' st hv2 hv3 => ?_
  have hv := h1.2
  cases hv; cases hv2; cases hv3
  refine call_range_3 (by omega) ⟨(h1.1.trans st).trans (Step.both _ _ _ (Keep.push _ _)), _, _, _, _, rfl, IsRange.new ..⟩ (Or.inl (no_pylong ?_))
  unfold smallI
  apply decide_eq_true
  have : c.natAbs ≤ 1000 := by omega
  exact Nat.lt_of_le_of_lt this (by decide)

theorem interactive_no (E0 : Env0 env) : interactive env = false := by
  unfold interactive; rw [E0.kind]; rfl

/-- an item appended to the def's own list -/
theorem append_ok {s : Shared} {m : Str → Option Value} {ρ : List PV} {i : Nat} {o x : Expr} {ap p pos : Pos} {q q' : PV} {e : ME}
    (D : DF prog w K mg mb fa gl env own nm h₀ A fn) (X : EX prog w env own nm h₀ m ρ s.heap) (ho : isL env.scope nm i o = true) (hl : (ap.endLine == p.line) = true) (he : mE env.scope nm e x = true)
    (hev : evalM fn gl ρ e = some q) (hq' : (∃ f l, q = .fl f ∧ ρ[i]? = some (.olist l) ∧ l.length < lim ∧ q' = .olist (l ++ [f])) ∨ (∃ f l, q = .tup f ∧ ρ[i]? = some (.orows l) ∧ l.length < lim ∧ q' = .orows (l ++ [f]))) :
    wpAny (model prog w) A (exec (.Expr (.Call (.Attribute o ("append" : Str) ap) [x] [] p) pos) env) (XPost prog w env own nm h₀ s (.next (ρ.set i q'))) NoE s := by
  refine wpAny_Expr ?_ (interactive_no D.E0) rfl
  have hpx := mE_plain he
  have hoc := ho
  unfold isL at ho
  split at ho
  · rename_i nmx px
    simp only [Bool.and_eq_true, Bool.not_eq_true'] at ho
    have hx : nm[i]? = some nmx := by simpa using ho.1.1
    have hk : env.kindOf nmx = some .local := by simpa [Env.kindOf] using ho.1.2
    refine wpAny_Call_append (base_plain rfl) (by rw [spl1 hpx]; rfl) hl (by rw [spl1 hpx]; rfl) ?_
    -- the list
    have key : ∃ a vs n, own = some (i, a) ∧ m nmx = some (.ref a) ∧ s.heap.get? a = some { cls := .type "list", data := .seq (List.toArray vs) n } ∧ vs.length < lim ∧
        ∀ h' v, Keep s.heap h' → Rep prog w h' v q → ∀ h'', Heap.SameBut a h' h'' → h''.get? a = some { cls := .type "list", data := .seq (List.toArray (vs ++ [v])) (n + 1) } →
          Slot prog w h'' own i (m nmx) q' ∧ q'.isOwn = true := by
      rcases hq' with ⟨f, l, rfl, hl1, hl2, rfl⟩ | ⟨f, l, rfl, hl1, hl2, rfl⟩
      · obtain ⟨a, vs, n, e1, e2, e3, e4, e5⟩ := X.sim i nmx _ hx hl1
        refine ⟨a, vs, n, e1, e2, e3, by rw [e4.length]; exact hl2, fun h' v k r h'' hs hg => ⟨⟨a, vs ++ [v], n + 1, e1, e2, hg, e4.append (.cons r .nil), by rw [List.length_append]; exact hl2⟩, rfl⟩⟩
      · obtain ⟨a, vs, n, e1, e2, e3, e4, e5⟩ := X.sim i nmx _ hx hl1
        refine ⟨a, vs, n, e1, e2, e3, by rw [e4.length]; exact hl2, fun h' v k r h'' hs hg => ?_⟩
        have tup : ∀ u t, RepT h' u t → RepT h'' u t := fun u t ⟨b, us, e6, ⟨ob, ho, hc, n', hd⟩, e7⟩ => by
          have hne : b ≠ a := by
            intro z; subst z
            have := k _ _ e3
            rw [ho] at this
            cases this
            exact absurd hc (by simp)
          exact ⟨b, us, e6, ⟨ob, (hs.2 b hne).trans ho, hc, n', hd⟩, e7⟩
        have e4' : All2 (RepT h'') vs l := e4.imp fun u t z => tup u t (RepT.keep k z)
        exact ⟨⟨a, vs ++ [v], n + 1, e1, e2, hg, e4'.append (.cons (tup _ _ r) .nil), by rw [List.length_append]; exact hl2⟩, rfl⟩
    obtain ⟨a, vs, n, e1, e2, e3, e4, e5⟩ := key
    refine wpAny_Name (wpAny_loadName_local D.E0.kind hk X.ns e2 ?_) ho.2
    refine ⟨a, _, rfl, ⟨_, n, e3, rfl, rfl, rfl⟩, ?_⟩
    refine wpAny_mono ((evalM_sound D.E0 D.hh D.hF e).1 x s q he hev (X.ec D)) (fun v s1 h1 => ?_) fun _ _ x => x
    obtain ⟨⟨h', tk, rfl, k⟩, rv⟩ := h1
    have e4' := e4
    unfold lim at e4'
    refine append_at (k _ _ e3) (fun h'' hs hg => ?_) (by rw [sz]; simp; omega)
    have hg' : h''.get? a = some { cls := .type "list", data := .seq (List.toArray (vs ++ [v])) (n + 1) } := by
      rw [hg]; simp
    obtain ⟨hsl, hqo⟩ := e5 h' v k rv h'' hs hg'
    have haL := (D.O0 i a e1).2
    have ha0 := (D.O0 i a e1).1
    have hilen : i < ρ.length := by
      rcases hq' with ⟨f, l, _, hl1, _⟩ | ⟨f, l, _, hl1, _⟩ <;> exact (List.getElem?_eq_some_iff.mp hl1).1
    refine ⟨h'', tk, rfl, fun b o n1 n2 e => (hs.2 b (n2 i a e1)).trans (k b o e), fun b o e => (hs.2 b (fun z => by rw [z, ha0] at e; cases e)).trans (k b o (X.k0 b o e)), rfl, m, ?_⟩
    refine ⟨?_, fun b o e => (hs.2 b (fun z => by rw [z, ha0] at e; cases e)).trans (k b o (X.k0 b o e)), fun j y r f1 f2 => ?_, fun j b e => ?_, fun j b e => ?_⟩
    · exact (X.ns.keeps k).sameBut hs (Ne.symm haL)
    · by_cases hj : j = i
      · subst hj
        rw [hx] at f1; cases f1
        rw [List.getElem?_set_self hilen] at f2
        cases f2
        exact hsl
      · rw [List.getElem?_set_ne (Ne.symm hj)] at f2
        have hold := X.sim j y r f1 f2
        cases r with
        | undef => trivial
        | olist l => obtain ⟨b, us, n', g1, _⟩ := hold; rw [e1] at g1; cases g1; exact absurd rfl hj
        | orows l => obtain ⟨b, us, n', g1, _⟩ := hold; rw [e1] at g1; cases g1; exact absurd rfl hj
        | fl f => obtain ⟨u, g1, g2, g3⟩ := hold; exact ⟨u, g1, g2, g3⟩
        | list f =>
          obtain ⟨u, g1, g2, g3, g4⟩ := hold
          rcases g3 with g3 | g3
          · rw [e1] at g3; cases g3
          · cases g3
        | rows f =>
          obtain ⟨u, g1, g2, g3, g4⟩ := hold
          rcases g3 with g3 | g3
          · rw [e1] at g3; cases g3
          · cases g3
        | tup f => obtain ⟨u, g1, g2, g3, g4⟩ := hold; cases g4
        | dict f => obtain ⟨u, g1, g2, g3, g4⟩ := hold; cases g4
    · rw [e1] at e; cases e
      exact ⟨q', List.getElem?_set_self hilen, hqo⟩
    · rw [e1] at e; cases e
      exact ⟨_, _, hg'⟩
  · cases ho

theorem swaps_sole {e t : Expr} {l : Nat} (h : plainE e = true) : swapsWithSole [t] e l env = pure false := by
  unfold swapsWithSole
  exact swaps_plain h
theorem isL_name {sc : Scope} {i : Nat} {t : Expr} (h : isL sc nm i t = true) : ∃ x px, t = .Name x px := by
  unfold isL at h
  split at h
  · exact ⟨_, _, rfl⟩
  · cases h

set_option maxHeartbeats 4000000 in
theorem execM_sound (D : DF prog w K mg mb fa gl env own nm h₀ A fn) : ∀ (b : MB) (st : List Stmt) (s : Shared) (m : Str → Option Value) (ρ : List PV) (r : Res),
    mB env.scope nm b st = true → execM fn gl fuel b ρ = some r → EX prog w env own nm h₀ m ρ s.heap → wpAny (model prog w) A (execs st env) (XPost prog w env own nm h₀ s r) NoE s := by
  intro b
  induction b with
  | done =>
    intro st s m ρ r hm hr X
    apply l0_el hm
    simp only [execM] at hr
    cases hr
    exact wpAny_execs_nil (X.next (KB.refl _ _ _))
  | assign i e k ihk =>
    intro st s m ρ r hm hr X
    apply yAssign_el hm
    intro ts vv pp rest hm
    apply l1_el hm
    intro tt hm
    obtain ⟨ht, he, hk⟩ := an3 hm
    simp only [execM] at hr
    split at hr <;> first | contradiction | skip
    rename_i p hp
    split at hr <;> first | contradiction | skip
    rename_i ρ' hρ
    refine seq_ok (q := .next ρ') (k := execM fn gl fuel k) ?_ hr (fun ρ1 m1 s1 h1 X1 => ihk _ s1 m1 ρ1 r hk h1 X1)
    obtain ⟨x, px, rfl⟩ := isL_name ht
    refine wpAny_Assign_Name (wpAny_mono ((evalM_sound D.E0 D.hh D.hF e).1 _ s p he hp (X.ec D)) (fun v s1 h1 => ?_) fun _ _ x => x) (swaps_plain (mE_plain he))
    obtain ⟨⟨h', tk, rfl, kp⟩, rv⟩ := h1
    obtain ⟨x', px', e', hs⟩ := store1 (s := { s with heap := h', toks := tk }) D (X.keep kp) ht rv hρ
    cases e'
    refine wpAny_mono hs (fun _ s2 h2 => ?_) fun _ _ x => x
    obtain ⟨h2', tk2, m2, rfl, b2, X2⟩ := h2
    exact X2.next ((KB.of kp).trans (KB.ext b2))
  | unpack i j e k ihk =>
    intro st s m ρ r hm hr X
    apply yAssign_el hm
    intro ts vv pp rest hm
    apply l1_el hm
    intro t0 hm
    apply xTup_el hm
    intro es cx px hm
    apply l2_el hm
    intro tt uu hm
    obtain ⟨ht, hu, hc, he, hk⟩ := an5 hm
    simp only [execM] at hr
    split at hr <;> first | contradiction | skip
    rename_i p hp
    split at hr <;> first | contradiction | skip
    rename_i ρ' hρ
    refine seq_ok (q := .next ρ') (k := execM fn gl fuel k) ?_ hr (fun ρ1 m1 s1 h1 X1 => ihk _ s1 m1 ρ1 r hk h1 X1)
    refine Assign_Tuple (wpAny_mono ((evalM_sound D.E0 D.hh D.hF e).1 _ s p he hp (X.ec D)) (fun v s1 h1 => ?_) fun _ _ x => x) (swaps_sole (mE_plain he)) ?_
    · obtain ⟨⟨h', tk, rfl, kp⟩, rv⟩ := h1
      refine wpAny_mono (assign2 (s := { s with heap := h', toks := tk }) D (X.keep kp) ht hu rv hρ) (fun _ s2 h2 => ?_) fun _ _ x => x
      obtain ⟨h2', tk2, m2, rfl, b2, X2⟩ := h2
      exact X2.next ((KB.of kp).trans (KB.ext b2))
    · cases vv <;> first | rfl | exact ff hc
  | aug i o e k ihk =>
    intro st s m ρ r hm hr X
    apply yAug_el hm
    intro tt po vv pp rest hm
    obtain ⟨ht, ho, he, hk⟩ := an4 hm
    have ho := of_decide_eq_true ho
    subst ho
    simp only [execM] at hr
    split at hr <;> first | contradiction | skip
    rename_i old hold
    split at hr <;> first | contradiction | skip
    rename_i p hp
    split at hr <;> first | contradiction | skip
    rename_i q hq
    split at hr <;> first | contradiction | skip
    rename_i ρ' hρ
    refine seq_ok (q := .next ρ') (k := execM fn gl fuel k) ?_ hr (fun ρ1 m1 s1 h1 X1 => ihk _ s1 m1 ρ1 r hk h1 X1)
    obtain ⟨x, px, rfl⟩ := isL_name ht
    refine wpAny_AugAssign_Name (wpAny_mono (load1 D.E0 X ht hold) (fun v0 s0 h0 => ?_) fun _ _ x => x)
    refine wpAny_mono ((evalM_sound D.E0 D.hh D.hF e).1 _ s0 p he hp ((X.keep h0.1.keep).ec D)) (fun v s1 h1 => ?_) fun _ _ x => x
    refine wpAny_mono (aug_ok (h0.2.keep h1.1.keep) h1.2 hq) (fun u s2 h2 => ?_) fun _ _ x => x
    obtain ⟨h', tk, rfl, kp⟩ := (h0.1.trans h1.1).trans h2.1
    obtain ⟨x', px', e', hs⟩ := store1 (s := { s with heap := h', toks := tk }) D (X.keep kp) ht h2.2 hρ
    cases e'
    refine wpAny_mono hs (fun _ s3 h3 => ?_) fun _ _ x => x
    obtain ⟨h3', tk3, m3, rfl, b3, X3⟩ := h3
    exact X3.next ((KB.of kp).trans (KB.ext b3))
  | ite c t e k iht ihe ihk =>
    intro st s m ρ r hm hr X
    apply yIf_el hm
    intro xx bb oo pp rest hm
    obtain ⟨hc, ht, he, hk⟩ := an4 hm
    simp only [execM] at hr
    split at hr <;> first | contradiction | skip
    · rename_i hct
      obtain ⟨q, hq, hr'⟩ := thenM_some hr
      refine seq_ok (q := q) (k := execM fn gl fuel k) ?_ hr' (fun ρ1 m1 s1 h1 X1 => ihk _ s1 m1 ρ1 r hk h1 X1)
      refine wpAny_If (wpAny_mono ((evalM_sound D.E0 D.hh D.hF c).2 _ s true hc (testM_of hct) (X.ec D)) (fun b s1 h1 => ?_) fun _ _ x => x)
      obtain ⟨rfl, st⟩ := h1
      exact wpAny_mono (iht _ s1 m ρ q ht hq (X.keep st.keep)) (fun _ _ x => XPost.step st x) fun _ _ x => x
    · rename_i hct
      obtain ⟨q, hq, hr'⟩ := thenM_some hr
      refine seq_ok (q := q) (k := execM fn gl fuel k) ?_ hr' (fun ρ1 m1 s1 h1 X1 => ihk _ s1 m1 ρ1 r hk h1 X1)
      refine wpAny_If (wpAny_mono ((evalM_sound D.E0 D.hh D.hF c).2 _ s false hc (testM_of hct) (X.ec D)) (fun b s1 h1 => ?_) fun _ _ x => x)
      obtain ⟨rfl, st⟩ := h1
      exact wpAny_mono (ihe _ s1 m ρ q he hq (X.keep st.keep)) (fun _ _ x => XPost.step st x) fun _ _ x => x
  | whil c b k ihb ihk =>
    intro st s m ρ r hm hr X
    apply yWhile_el hm
    intro xx bb oo pp rest hm
    obtain ⟨hc, hb, ho, hk⟩ := an4 hm
    have ho' := stmts_nil ho
    subst ho'
    simp only [execM] at hr
    obtain ⟨q, hq, hr'⟩ := thenM_some hr
    refine seq_ok (q := q) (k := execM fn gl fuel k) ?_ hr' (fun ρ1 m1 s1 h1 X1 => ihk _ s1 m1 ρ1 r hk h1 X1)
    exact wpAny_While (while_ok (fun s m ρ b X ht => (evalM_sound D.E0 D.hh D.hF c).2 _ s b hc (testM_of ht) (X.ec D)) (fun s m ρ r X h => ihb _ s m ρ r hb h X) X hq)
  | forStr i e b k ihb ihk =>
    intro st s m ρ r hm hr X
    apply yFor_el hm
    intro tt xx bb oo pp rest hm
    obtain ⟨ht, he, hb, ho, hk⟩ := an5 hm
    have ho' := stmts_nil ho
    subst ho'
    simp only [execM] at hr
    split at hr <;> first | contradiction | skip
    rename_i x hx
    obtain ⟨q, hq, hr'⟩ := thenM_some hr
    refine seq_ok (q := q) (k := execM fn gl fuel k) ?_ hr' (fun ρ1 m1 s1 h1 X1 => ihk _ s1 m1 ρ1 r hk h1 X1)
    exact for_stmt (bind := fun ρ v => putM ρ i v) (bd := execM fn gl fuel b) (mE_plain he) X ((evalM_sound D.E0 D.hh D.hF e).1 _ s _ he hx (X.ec D)) (fun v s1 X1 rv => iter_str D.hh (isL_go ht) X1 rv)
      (fun s m ρ ρ' v p X hv hp => assign1 D X ht hv hp) (fun s m ρ r X h => ihb _ s m ρ r hb h X) hq
  | forList i e b k ihb ihk =>
    intro st s m ρ r hm hr X
    apply yFor_el hm
    intro tt xx bb oo pp rest hm
    obtain ⟨ht, he, hb, ho, hk⟩ := an5 hm
    have ho' := stmts_nil ho
    subst ho'
    simp only [execM] at hr
    split at hr <;> first | contradiction | skip
    rename_i x hx
    split at hr <;> first | contradiction | skip
    rename_i hno
    have hown := any_own_none X hno
    subst hown
    obtain ⟨q, hq, hr'⟩ := thenM_some hr
    refine seq_ok (q := q) (k := execM fn gl fuel k) ?_ hr' (fun ρ1 m1 s1 h1 X1 => ihk _ s1 m1 ρ1 r hk h1 X1)
    exact for_stmt (bind := fun ρ v => putM ρ i v) (bd := execM fn gl fuel b) (mE_plain he) X ((evalM_sound D.E0 D.hh D.hF e).1 _ s _ he hx (X.ec D)) (fun v s1 X1 rv => iter_list D.hh (isL_go ht) X1 rv)
      (fun s m ρ ρ' v p X hv hp => assign1 D X ht hv hp) (fun s m ρ r X h => ihb _ s m ρ r hb h X) hq
  | forRows i j e b k ihb ihk =>
    intro st s m ρ r hm hr X
    apply yFor_el hm
    intro t0 xx bb oo pp rest hm
    apply xTup_el hm
    intro es cx px hm
    apply l2_el hm
    intro tt uu hm
    obtain ⟨ht, hu, he, hb, ho, hk⟩ := an6 hm
    have ho' := stmts_nil ho
    subst ho'
    simp only [execM] at hr
    split at hr <;> first | contradiction | skip
    rename_i x hx
    split at hr <;> first | contradiction | skip
    rename_i hno
    have hown := any_own_none X hno
    subst hown
    obtain ⟨q, hq, hr'⟩ := thenM_some hr
    refine seq_ok (q := q) (k := execM fn gl fuel k) ?_ hr' (fun ρ1 m1 s1 h1 X1 => ihk _ s1 m1 ρ1 r hk h1 X1)
    exact for_stmt (bind := fun ρ v => put2 ρ i j v) (bd := execM fn gl fuel b) (mE_plain he) X ((evalM_sound D.E0 D.hh D.hF e).1 _ s _ he hx (X.ec D)) (fun v s1 X1 rv => iter_rows D.hh X1 rv)
      (fun s m ρ ρ' v p X hv hp => assign2 D X ht hu hv hp) (fun s m ρ r X h => ihb _ s m ρ r hb h X) hq
  | forRange1 i hi b k ihb ihk =>
    intro st s m ρ r hm hr X
    apply yFor_el hm
    intro tt x0 bb oo pp rest hm
    apply xCall_el hm
    intro ff xs kw cp hm
    apply l1_el hm
    intro a1 hm
    obtain ⟨ht, hf, he, hm⟩ := an4 hm
    obtain ⟨hkw, hb, ho, hk⟩ := an4 hm
    have ho' := stmts_nil ho
    have hkw' := kw_nil hkw
    subst ho' hkw'
    simp only [execM] at hr
    split at hr <;> first | contradiction | skip
    rename_i y hy
    split at hr <;> first | contradiction | skip
    rename_i l hl
    obtain ⟨q, hq, hr'⟩ := thenM_some hr
    refine seq_ok (q := q) (k := execM fn gl fuel k) ?_ hr' (fun ρ1 m1 s1 h1 X1 => ihk _ s1 m1 ρ1 r hk h1 X1)
    unfold rangeM at hl
    split at hl <;> first | contradiction | skip
    rename_i hc
    cases hl
    simp only [Bool.and_eq_true, decide_eq_true_eq] at hc
    exact for_stmt (bind := fun ρ v => putM ρ i v) (bd := execM fn gl fuel b) rfl X (eval_range1 D.E0 (X.ec D).gl hf (mE_plain he) ((evalM_sound D.E0 D.hh D.hF hi).1 _ s _ he hy (X.ec D)))
      (fun v s1 X1 rv => by obtain ⟨r, t, u, x, rfl, hr⟩ := rv; exact iter_range D.hh (isL_go ht) X1 hr hc.1.1.1 hc.1.1.2 hc.1.2 hc.2)
      (fun s m ρ ρ' v p X hv hp => assign1 D X ht hv hp) (fun s m ρ r X h => ihb _ s m ρ r hb h X) hq
  | forRange2 i lo hi b k ihb ihk =>
    intro st s m ρ r hm hr X
    apply yFor_el hm
    intro tt x0 bb oo pp rest hm
    apply xCall_el hm
    intro ff xs kw cp hm
    apply l2_el hm
    intro a1 a2 hm
    obtain ⟨ht, hf, he, he2, hm⟩ := an5 hm
    obtain ⟨hkw, hb, ho, hk⟩ := an4 hm
    have ho' := stmts_nil ho
    have hkw' := kw_nil hkw
    subst ho' hkw'
    simp only [execM] at hr
    split at hr <;> first | contradiction | skip
    rename_i x hx
    split at hr <;> first | contradiction | skip
    rename_i y hy
    split at hr <;> first | contradiction | skip
    rename_i l hl
    obtain ⟨q, hq, hr'⟩ := thenM_some hr
    refine seq_ok (q := q) (k := execM fn gl fuel k) ?_ hr' (fun ρ1 m1 s1 h1 X1 => ihk _ s1 m1 ρ1 r hk h1 X1)
    unfold rangeM at hl
    split at hl <;> first | contradiction | skip
    rename_i hc
    cases hl
    simp only [Bool.and_eq_true, decide_eq_true_eq] at hc
    exact for_stmt (bind := fun ρ v => putM ρ i v) (bd := execM fn gl fuel b) rfl X (eval_range2 D.E0 (X.ec D).gl hf (mE_plain he) (mE_plain he2) ((evalM_sound D.E0 D.hh D.hF lo).1 _ s _ he hx (X.ec D)) (fun s' st => (evalM_sound D.E0 D.hh D.hF hi).1 _ s' _ he2 hy ((X.keep st.keep).ec D)))
      (fun v s1 X1 rv => by obtain ⟨r, t, u, x, rfl, hr⟩ := rv; exact iter_range D.hh (isL_go ht) X1 hr hc.1.1.1 hc.1.1.2 hc.1.2 hc.2)
      (fun s m ρ ρ' v p X hv hp => assign1 D X ht hv hp) (fun s m ρ r X h => ihb _ s m ρ r hb h X) hq
  | forRange3 i lo hi sp b k ihb ihk =>
    intro st s m ρ r hm hr X
    apply yFor_el hm
    intro tt x0 bb oo pp rest hm
    apply xCall_el hm
    intro ff xs kw cp hm
    apply l3_el hm
    intro a1 a2 a3 hm
    obtain ⟨ht, hf, he, he2, he3, hm⟩ := an6 hm
    obtain ⟨hkw, hb, ho, hk⟩ := an4 hm
    have ho' := stmts_nil ho
    have hkw' := kw_nil hkw
    subst ho' hkw'
    simp only [execM] at hr
    split at hr <;> first | contradiction | skip
    rename_i x hx
    split at hr <;> first | contradiction | skip
    rename_i y hy
    split at hr <;> first | contradiction | skip
    rename_i z hz
    split at hr <;> first | contradiction | skip
    rename_i l hl
    obtain ⟨q, hq, hr'⟩ := thenM_some hr
    refine seq_ok (q := q) (k := execM fn gl fuel k) ?_ hr' (fun ρ1 m1 s1 h1 X1 => ihk _ s1 m1 ρ1 r hk h1 X1)
    unfold rangeM at hl
    split at hl <;> first | contradiction | skip
    rename_i hc
    cases hl
    simp only [Bool.and_eq_true, decide_eq_true_eq] at hc
    exact for_stmt (bind := fun ρ v => putM ρ i v) (bd := execM fn gl fuel b) rfl X (eval_range3 D.E0 (X.ec D).gl hf (mE_plain he) (mE_plain he2) (mE_plain he3) ((evalM_sound D.E0 D.hh D.hF lo).1 _ s _ he hx (X.ec D)) (fun s' st => (evalM_sound D.E0 D.hh D.hF hi).1 _ s' _ he2 hy ((X.keep st.keep).ec D)) (fun s' st => (evalM_sound D.E0 D.hh D.hF sp).1 _ s' _ he3 hz ((X.keep st.keep).ec D)) hc.1.2 hc.2)
      (fun v s1 X1 rv => by obtain ⟨r, t, u, x, rfl, hr⟩ := rv; exact iter_range D.hh (isL_go ht) X1 hr hc.1.1.1 hc.1.1.2 hc.1.2 hc.2)
      (fun s m ρ ρ' v p X hv hp => assign1 D X ht hv hp) (fun s m ρ r X h => ihb _ s m ρ r hb h X) hq
  | append i e k ihk =>
    intro st s m ρ r hm hr X
    apply yExpr_el hm
    intro x0 pp rest hm
    apply xCall_el hm
    intro ff xs kw cp hm
    apply xAttr_el hm
    intro oo nn ap hm
    apply l1_el hm
    intro xx hm
    obtain ⟨ho, hn, hl, he, hkw, hk⟩ := an6 hm
    have hkw' := kw_nil hkw
    subst hkw'
    have hn' := eq_of_beq hn
    subst hn'
    simp only [execM] at hr
    split at hr <;> first | contradiction | skip
    · rename_i f hf
      split at hr <;> first | contradiction | skip
      rename_i l hl2
      split at hr <;> first | contradiction | skip
      rename_i hlt
      exact seq_ok (k := execM fn gl fuel k) (append_ok D X ho hl he hf (.inl ⟨f, l, rfl, hl2, hlt, rfl⟩)) hr (fun ρ1 m1 s1 h1 X1 => ihk _ s1 m1 ρ1 r hk h1 X1)
    · rename_i f hf
      split at hr <;> first | contradiction | skip
      rename_i l hl2
      split at hr <;> first | contradiction | skip
      rename_i hlt
      exact seq_ok (k := execM fn gl fuel k) (append_ok D X ho hl he hf (.inr ⟨f, l, rfl, hl2, hlt, rfl⟩)) hr (fun ρ1 m1 s1 h1 X1 => ihk _ s1 m1 ρ1 r hk h1 X1)
  | ret e =>
    intro st s m ρ r hm hr X
    apply yReturn_el hm
    intro x0 pp rest hm
    apply o1_el hm
    intro xx hm
    simp only [execM] at hr
    obtain ⟨p, hp, rfl⟩ := Option.map_eq_some_iff.mp hr
    refine wpAny_execs_cons (wpAny_Return_some (wpAny_mono ((evalM_sound D.E0 D.hh D.hF e).1 _ s p hm hp (X.ec D)) (fun v s1 h1 => ?_) fun _ _ x => x))
    obtain ⟨⟨h', tk, rfl, kp⟩, rv⟩ := h1
    exact ⟨h', tk, rfl, KB.of kp, Keep.trans X.k0 kp, v, rfl, rv⟩
  | retOwn i =>
    intro st s m ρ r hm hr X
    apply yReturn_el hm
    intro x0 pp rest hm
    apply o1_el hm
    intro xx hm
    unfold isL at hm
    split at hm <;> first | contradiction | skip
    rename_i x px
    simp only [Bool.and_eq_true, Bool.not_eq_true'] at hm
    have hx : nm[i]? = some x := by simpa using hm.1.1
    have hk : env.kindOf x = some .local := by simpa [Env.kindOf] using hm.1.2
    simp only [execM] at hr
    refine wpAny_execs_cons (wpAny_Return_some ?_)
    split at hr <;> first | contradiction | skip
    · rename_i l hl
      cases hr
      obtain ⟨a, vs, n, e1, e2, e3, e4, e5⟩ := X.sim i x _ hx hl
      refine wpAny_Name (wpAny_loadName_local D.E0.kind hk X.ns e2 ?_) hm.2
      exact ⟨s.heap, s.toks, rfl, KB.refl _ _ _, X.k0, .ref a, rfl, a, vs, rfl, ⟨_, e3, rfl, n, rfl⟩, e4, e5⟩
    · rename_i l hl
      cases hr
      obtain ⟨a, vs, n, e1, e2, e3, e4, e5⟩ := X.sim i x _ hx hl
      refine wpAny_Name (wpAny_loadName_local D.E0.kind hk X.ns e2 ?_) hm.2
      exact ⟨s.heap, s.toks, rfl, KB.refl _ _ _, X.k0, .ref a, rfl, a, vs, rfl, ⟨_, e3, rfl, n, rfl⟩, e4, e5⟩
  | cont =>
    intro st s m ρ r hm hr X
    apply yCont_el hm
    intro pp rest
    simp only [execM] at hr
    cases hr
    exact wpAny_execs_cons (wpAny_Continue ⟨s.heap, s.toks, rfl, KB.refl _ _ _, X.k0, rfl, m, X⟩)
  | stuck =>
    intro st s m ρ r hm hr X
    simp only [execM] at hr
    cases hr
end
end Mine

end
section
open PySem PySem.W PyProof.Rows
namespace Mine

theorem seq_none : seqItems? Value.none = pure none := by rfl

theorem bind0 {fd : FuncData} (hp : fd.params = ⟨[], [], none, [], [], none, []⟩) (hd : fd.defaults = .none) :
    bindArgs fd ⟨[], []⟩ = pure [] := by
  unfold bindArgs
  rw [hp, hd, seq_none]
  rfl
theorem bind1 {fd : FuncData} {a : Arg} {v : Value} (hp : fd.params = ⟨[], [a], none, [], [], none, []⟩) (hd : fd.defaults = .none) :
    bindArgs fd ⟨[v], []⟩ = pure [(a.arg, v)] := by
  unfold bindArgs
  rw [hp, hd, seq_none]
  simp
theorem bind2 {fd : FuncData} {a b : Arg} {v u : Value} (hab : (b.arg == a.arg) = false) (hp : fd.params = ⟨[], [a, b], none, [], [], none, []⟩) (hd : fd.defaults = .none) :
    bindArgs fd ⟨[v, u], []⟩ = pure [(a.arg, v), (b.arg, u)] := by
  unfold bindArgs
  rw [hp, hd, seq_none]
  simp [List.lookup, hab]

noncomputable def frame0 (f : FInfo) (own0 : PV) (ps : List PV) : List PV := match f.own with
  | none => ps ++ List.replicate (f.nm.length - f.np) PV.undef
  | some i => (ps ++ List.replicate (f.nm.length - f.np) PV.undef).set i own0
noncomputable def runM (fn : Nat → List PV → Option PV) (gl : Nat → Option PV) (fuel : Nat) (f : FInfo) (own0 : PV) (ps : List PV) : Option PV :=
  match execM fn gl fuel f.body (frame0 f own0 ps) with
  | some (.ret v) => some v
  | _ => none

section
variable {prog : Program} {w : World} {K : Frag} {mg mb : Str → Option Value} {fa : Nat → Addr} {gl : Nat → Option PV} {fn : Nat → List PV → Option PV} {fuel : Nat}

/-- a def's contract: its value at some plain values, within so many frames -/
noncomputable def CallL (prog : Program) (w : World) (K : Frag) (mg mb : Str → Option Value) (fa : Nat → Addr) (gl : Nat → Option PV) (lvl : Nat) (a : Addr) (ps : List PV) (r : PV) : Prop :=
  ∀ (A : Around) (s : Shared) (vs : List Value), A.handled = none → A.depth + lvl < recursionLimit → Gl prog w K mg mb fa gl s.heap → All2 (Rep prog w s.heap) vs ps →
    wpAny (model prog w) A (call (.ref a) vs) (EPost prog w s r) NoE s
theorem CallL.more {lvl lvl' : Nat} {a : Addr} {ps : List PV} {r : PV} (h : CallL prog w K mg mb fa gl lvl a ps r) (hl : lvl ≤ lvl') : CallL prog w K mg mb fa gl lvl' a ps r :=
  fun A s vs h1 h2 G x => h A s vs h1 (by omega) G x

noncomputable def FnL (prog : Program) (w : World) (K : Frag) (mg mb : Str → Option Value) (fa : Nat → Addr) (gl : Nat → Option PV) (lvl : Nat) (fn : Nat → List PV → Option PV) : Prop :=
  ∀ f ps r, fn f ps = some r → CallL prog w K mg mb fa gl lvl (fa f) ps r

structure FdFacts (K : Frag) (f : FInfo) (fd : FuncData) : Prop where
  body : ∃ b, fd.body = .stmts b ∧ bodyOk f fd.scope b = true
  params : plainParams fd.params (f.nm.take f.np) = true
  code : codeIn K fd.code fd.qualname = true
  globals : fd.globals = mainGlobals
  builtins : fd.builtins = builtinsNs
  closure : fd.closure = []
  defaults : fd.defaults = .none
  kind : fd.scope.kind = .function
  gen : fd.scope.isGenerator = false
  co : fd.scope.isCoroutine = false
  cells : ∀ x ∈ fd.scope.names, x.2 ≠ .cell
  nd : allDiff f.nm = true
  loc : ∀ x ∈ f.nm.take f.np, fd.scope.names.lookup x = some .local

theorem fdFacts {f : FInfo} {fd : FuncData} (h : fdOk K f fd = true) : FdFacts K f fd := by
  unfold fdOk at h
  simp only [Bool.and_eq_true] at h
  obtain ⟨⟨⟨⟨⟨⟨⟨⟨⟨⟨⟨⟨⟨h1, h2⟩, h3⟩, h4⟩, h5⟩, h6⟩, h7⟩, _⟩, h9⟩, h10⟩, h11⟩, h12⟩, h13⟩, h14⟩ := h
  refine ⟨?_, h2, h3, by simpa using h4, by simpa using h5, by simpa using h6, by simpa using h7, by simpa using h9, by simpa using h10, by simpa using h11, ?_, h13, ?_⟩
  · split at h1
    · rename_i b hb; exact ⟨b, hb, h1⟩
    · cases h1
  · intro x hx
    have := List.all_eq_true.mp h12 x hx
    simpa using this
  · intro x hx
    have := List.all_eq_true.mp h14 x hx
    simpa using this

theorem plain_shape {p : Arguments} {nm : List Str} (h : plainParams p nm = true) : ∃ as, p = ⟨[], as, none, [], [], none, []⟩ ∧ as.map (·.arg) = nm := by
  unfold plainParams at h
  split at h
  · exact ⟨_, rfl, by simpa using h⟩
  · cases h

theorem binds_ok {f : FInfo} {fd : FuncData} {vs : List Value} (F : FdFacts K f fd) (hn : vs.length = f.np) (h2 : f.np ≤ 2) (hlen : f.np ≤ f.nm.length) :
    bindArgs fd ⟨vs, []⟩ = pure ((f.nm.take f.np).zip vs) ∧ ∀ (i : Nat) (x : Str) (v : Value), f.nm[i]? = some x → vs[i]? = some v → ((f.nm.take f.np).zip vs).reverse.lookup x = some v := by
  obtain ⟨as, hp, ha⟩ := plain_shape F.params
  have hal : as.length = f.np := by
    have := congrArg List.length ha
    rw [List.length_map, List.length_take] at this
    omega
  match vs, as, hn, hal with
  | [], [], hn, hal =>
    rw [← ha]
    exact ⟨bind0 hp F.defaults, fun i x v _ e => by simp at e⟩
  | [v], [a], hn, hal =>
    rw [← ha]
    refine ⟨bind1 hp F.defaults, fun i x u e1 e2 => ?_⟩
    have hi : i = 0 := by
      have := (List.getElem?_eq_some_iff.mp e2).1
      simp at this; exact this
    subst hi
    simp at e2; subst e2
    have e3 : (f.nm.take f.np)[0]? = some x := by
      rw [List.getElem?_take]; simp at hn; rw [if_pos (by omega)]; exact e1
    rw [← ha] at e3
    simp at e3
    subst e3
    simp
  | [v, u], [a, b], hn, hal =>
    have hne : a.arg ≠ b.arg := by
      intro e
      have e0 : (f.nm.take f.np)[0]? = some a.arg := by rw [← ha]; rfl
      have e1 : (f.nm.take f.np)[1]? = some b.arg := by rw [← ha]; rfl
      simp at hn
      rw [List.getElem?_take, if_pos (by omega)] at e0 e1
      rw [← e] at e1
      have := allDiff_inj F.nd e0 e1
      omega
    have hab : (b.arg == a.arg) = false := by simpa using Ne.symm hne
    rw [← ha]
    refine ⟨bind2 hab hp F.defaults, fun i x t e1 e2 => ?_⟩
    have hi : i < 2 := by
      have := (List.getElem?_eq_some_iff.mp e2).1
      simpa using this
    have e3 : (f.nm.take f.np)[i]? = some x := by
      rw [List.getElem?_take]; simp at hn; rw [if_pos (by omega)]; exact e1
    rw [← ha] at e3
    have hba : (a.arg == b.arg) = false := by simpa using hne
    match i, hi with
    | 0, _ =>
      simp at e2 e3; subst e2 e3
      simp [List.lookup, hba]
    | 1, _ =>
      simp at e2 e3; subst e2 e3
      simp [List.lookup]
  | [], _ :: _, hn, hal => simp at hn hal; omega
  | _ :: _, [], hn, hal => simp at hn hal; omega
  | [_], _ :: _ :: _, hn, hal => simp at hn hal; omega
  | _ :: _ :: _, [_], hn, hal => simp at hn hal; omega
  | _ :: _ :: _ :: _, _, hn, hal => simp at hn; omega
  | _, _ :: _ :: _ :: _, hn, hal => simp at hal; omega

theorem call_ok {f : FInfo} {lvl : Nat} {ps : List PV} {r own0 : PV} (hf : funOk K f = true) (hnp : f.np ≤ 2) (hlen : f.np ≤ f.nm.length) (hps : ps.length = f.np) (hst : ps.all PV.storable = true)
    (hfn : FnL prog w K mg mb fa gl lvl fn) (hown : own0 = .olist [] ∨ own0 = .orows []) (hfl : f.own = none ∨ (ps.all PV.isFl = true ∧ ∃ i, f.own = some i ∧ f.np ≤ i))
    (hr : runM fn gl fuel f own0 ps = some r) : CallL prog w K mg mb fa gl (lvl + 1) f.addr ps r := by
  intro A s vs hh hd G hvs
  have hr' : execM fn gl fuel f.body (frame0 f own0 ps) = some (.ret r) := by
    unfold runM at hr
    split at hr
    · rename_i v hv; cases hr; exact hv
    · cases hr
  unfold funOk at hf
  split at hf
  · rename_i cls dd fd sl hK
    rw [Bool.and_eq_true] at hf
    have F := fdFacts hf.1
    have ho := G.inK _ _ hK
    obtain ⟨b, hb, hbody⟩ := F.body
    have hvl : vs.length = f.np := by rw [hvs.length]; exact hps
    obtain ⟨hbind, hlook⟩ := binds_ok (vs := vs) F hvl hnp hlen
    have hloc : ∀ x ∈ (f.nm.take f.np).zip vs, fd.scope.names.lookup x.1 = some .local := fun x hx => F.loc _ (List.of_mem_zip hx).1
    have hL0 : s.heap.get? s.heap.objs.size = none := by
      cases e : s.heap.get? s.heap.objs.size with
      | none => rfl
      | some o => exact absurd (Heap.lt_size e) (Nat.lt_irrefl _)
    refine wpAny_call (codeAny_call_def (binds := (f.nm.take f.np).zip vs) (body := b) (by omega) ho rfl G.nolimit (codeRec_of G.inK F.code) hb (BindsTo.of_eq hbind) F.cells hloc (fun h0 hns hk0 => ?_) F.co F.gen F.kind)
    have E0 : Env0 (callEnv fd s.heap.objs.size f.addr) := ⟨F.kind, F.globals, F.builtins⟩
    have hFn : FnOK prog w K mg mb fa gl (A.deeper (callEnv fd s.heap.objs.size f.addr)) fn := fun k ps r vs s e G' x =>
      hfn k ps r e _ s vs hh (by show A.depth + 1 + lvl < recursionLimit; omega) G' x
    have hsim : ∀ own, (own = none ∨ ps.all PV.isFl = true) → ∀ h', Keep h0 h' → ∀ (m : Str → Option Value), (∀ (i : Nat) (x : Str) (v : Value), f.nm[i]? = some x → vs[i]? = some v → m x = some v) →
        ∀ (i : Nat) (x : Str) (p : PV), f.nm[i]? = some x → (ps ++ List.replicate (f.nm.length - f.np) PV.undef)[i]? = some p → Slot prog w h' own i (m x) p := by
      intro own ho' h' hk' m hm i x p e1 e2
      by_cases hi : i < ps.length
      · rw [List.getElem?_append_left hi] at e2
        obtain ⟨v, e3, rv⟩ := hvs.get _ _ e2
        have e4 := hm i x v e1 e3
        have hs := List.all_eq_true.mp hst p (List.mem_of_getElem? e2)
        have hq : own = none ∨ p.isFl = true := ho'.imp id fun q => List.all_eq_true.mp q p (List.mem_of_getElem? e2)
        have rv' := rv.keep (Keep.trans hk0 hk')
        have goal : ∃ u, m x = some u ∧ Rep prog w h' u p ∧ (own = none ∨ p.isFl = true) ∧ p.storable = true := ⟨v, e4, rv', hq, hs⟩
        cases p <;> first | exact goal | (exfalso; cases hs)
      · rw [List.getElem?_append_right (by omega)] at e2
        have := List.mem_of_getElem? e2
        rw [List.eq_of_mem_replicate this]
        trivial
    have hend : ∀ (f' : Flow) (s' : Shared) (h1 : Heap) (tk : Nat) (own : Option (Nat × Addr)), XPost prog w (callEnv fd s.heap.objs.size f.addr) own f.nm s.heap { s with heap := h1, toks := tk } (.ret r) f' s' →
        EPost prog w s r (match f' with | .ret v => v | _ => .none) s' := by
      intro f' s' h1 tk own hx
      obtain ⟨h', tk', rfl, _, k0, v, rfl, rv⟩ := hx
      exact ⟨⟨h', tk', rfl, k0⟩, rv⟩
    cases hfo : f.own with
    | none =>
      unfold bodyOk at hbody
      rw [hfo] at hbody
      simp only at hbody
      unfold frame0 at hr'
      rw [hfo] at hr'
      simp only at hr'
      have D : DF prog w K mg mb fa gl (callEnv fd s.heap.objs.size f.addr) none f.nm s.heap (A.deeper (callEnv fd s.heap.objs.size f.addr)) fn :=
        ⟨E0, hh, hFn, G, hL0, fun _ _ e => (by cases e), F.nd⟩
      refine never (wpAny_mono (execM_sound D f.body b _ _ _ (.ret r) hbody hr' ⟨hns, hk0, ?_, fun _ _ e => (by cases e), fun _ _ e => (by cases e)⟩) (fun f' s' hx => hend f' s' _ _ none hx) fun _ _ x => x)
      exact hsim none (.inl rfl) h0 (Keep.refl _) _ hlook
    | some i =>
      obtain ⟨hall, j, hj, hij⟩ : ps.all PV.isFl = true ∧ ∃ j, f.own = some j ∧ f.np ≤ j := by
        rcases hfl with q | q
        · rw [hfo] at q; cases q
        · exact q
      rw [hfo] at hj; cases hj
      unfold bodyOk at hbody
      rw [hfo] at hbody
      simp only at hbody
      unfold frame0 at hr'
      rw [hfo] at hr'
      simp only at hr'
      split at hbody
      · rename_i t p1 p2 rest
        rw [Bool.and_eq_true] at hbody
        obtain ⟨ht, hrest⟩ := hbody
        have ht' := ht
        unfold isL at ht'
        split at ht'
        · rename_i x px
          simp only [Bool.and_eq_true, Bool.not_eq_true'] at ht'
          have hx : f.nm[i]? = some x := by simpa using ht'.1.1
          have hk : (callEnv fd s.heap.objs.size f.addr).kindOf x = some .local := by
            show fd.scope.names.lookup x = some .local
            simpa using ht'.1.2
          have hil : i < f.nm.length := (List.getElem?_eq_some_iff.mp hx).1
          refine wpAny_execs_cons (wpAny_Assign_Name (List_ (args_nil ?_)) rfl)
          refine wpAny_newObj_type ?_ (by show 0 ≤ sizeLine; exact Nat.zero_le _)
          refine wpAny_storeName_local hk (hns.push _) (fun h2 hn2 hs2 => ?_) (frame_ok E0)
          have haL : h0.objs.size ≠ s.heap.objs.size := Ne.symm (Nat.ne_of_lt hns.lt)
          have ha0 : s.heap.get? h0.objs.size = none := by
            cases e : s.heap.get? h0.objs.size with
            | none => rfl
            | some o => exact absurd (Heap.lt_size (hk0 _ _ e)) (Nat.lt_irrefl _)
          have hobj : h2.get? h0.objs.size = some { cls := .type "list", data := .seq (List.toArray ([] : List Value)) 0 } := (hs2.2 _ haL).trans (Heap.get?_push_size _ rfl)
          have hk2 : Keep s.heap h2 := fun c o e => (hs2.2 c (fun z => by rw [z] at e; rw [show (callEnv fd s.heap.objs.size f.addr).locals = s.heap.objs.size from rfl, hL0] at e; cases e)).trans (Heap.get?_push_of_some _ (hk0 _ _ e))
          have D : DF prog w K mg mb fa gl (callEnv fd s.heap.objs.size f.addr) (some (i, h0.objs.size)) f.nm s.heap (A.deeper (callEnv fd s.heap.objs.size f.addr)) fn :=
            ⟨E0, hh, hFn, G, hL0, fun k a e => by cases e; exact ⟨ha0, haL⟩, F.nd⟩
          have hlenρ : i < (ps ++ List.replicate (f.nm.length - f.np) PV.undef).length := by
            rw [List.length_append, List.length_replicate]; omega
          refine never (wpAny_mono (execM_sound D f.body rest { s with heap := h2, toks := _ } _ _ (.ret r) hrest hr' ⟨hn2, hk2, ?_, ?_, ?_⟩) (fun f' s' hx => hend f' s' _ _ (some (i, h0.objs.size)) hx) fun _ _ x => x)
          · intro j y p e1 e2
            by_cases hji : j = i
            · subst hji
              rw [hx] at e1; cases e1
              rw [List.getElem?_set_self hlenρ] at e2
              cases e2
              show Slot prog w h2 _ j (if x = x then some (Value.ref h0.objs.size) else ((f.nm.take f.np).zip vs).reverse.lookup x) own0
              rw [if_pos rfl]
              rcases hown with rfl | rfl
              · exact ⟨_, [], 0, rfl, rfl, hobj, .nil, Nat.zero_le _⟩
              · exact ⟨_, [], 0, rfl, rfl, hobj, .nil, Nat.zero_le _⟩
            · rw [List.getElem?_set_ne (Ne.symm hji)] at e2
              have hyx : y ≠ x := fun z => hji (allDiff_inj F.nd e1 (z ▸ hx))
              show Slot prog w h2 _ j (if y = x then some (Value.ref h0.objs.size) else ((f.nm.take f.np).zip vs).reverse.lookup y) p
              rw [if_neg hyx]
              by_cases hjl : j < ps.length
              · rw [List.getElem?_append_left hjl] at e2
                obtain ⟨v, e3, rv⟩ := hvs.get _ _ e2
                have e4 := hlook j y v e1 e3
                have hfl' := List.all_eq_true.mp hall p (List.mem_of_getElem? e2)
                cases p with
                | fl q => exact ⟨v, e4, rv, .inr rfl, rfl⟩
                | _ => cases hfl'
              · rw [List.getElem?_append_right (by omega)] at e2
                rw [List.eq_of_mem_replicate (List.mem_of_getElem? e2)]
                trivial
          · intro k a e
            cases e
            refine ⟨own0, List.getElem?_set_self hlenρ, ?_⟩
            rcases hown with rfl | rfl <;> rfl
          · intro k a e
            cases e
            exact ⟨_, _, hobj⟩
        · cases ht'
      · cases hbody
  · cases hf
end
end Mine

end
section
open PySem PySem.W PyProof.Rows
namespace Mine

noncomputable def g_digits : List Nat := [48, 49, 50, 51, 52, 53, 54, 55, 56, 57]
noncomputable def g_ahead : List Nat := [40, 44, 47, 58]
noncomputable def g_letters : List Nat := [65, 66, 67, 68, 69, 70, 71, 72, 73, 74, 75, 76, 77, 78, 79, 80, 81, 82, 83, 84, 85, 86, 87, 88, 89, 90]
noncomputable def g_whole : List (List Nat × List Nat) := [([69, 76, 83, 69], [101, 108, 115, 101]), ([69, 78, 68, 73, 70], [101, 110, 100, 105, 102]), ([69, 78, 68], [101, 110, 100]), ([67, 79, 78, 84, 73, 78, 85, 69], [99, 111, 110, 116, 105, 110, 117, 101])]
noncomputable def g_types : List (List Nat × List Nat) := [([73, 78, 84, 69, 71, 69, 82], [105, 110, 116, 101, 103, 101, 114]), ([82, 69, 65, 76], [114, 101, 97, 108]), ([68, 79, 85, 66, 76, 69, 80, 82, 69, 67, 73, 83, 73, 79, 78], [100, 111, 117, 98, 108, 101, 112, 114, 101, 99, 105, 115, 105, 111, 110]), ([67, 79, 77, 80, 76, 69, 88], [99, 111, 109, 112, 108, 101, 120]), ([76, 79, 71, 73, 67, 65, 76], [108, 111, 103, 105, 99, 97, 108]), ([67, 72, 65, 82, 65, 67, 84, 69, 82], [99, 104, 97, 114, 97, 99, 116, 101, 114])]
noncomputable def g_begins : List (List Nat × List Nat) := [([70, 79, 82, 77, 65, 84, 40], [102, 111, 114, 109, 97, 116]), ([67, 65, 76, 76], [99, 97, 108, 108]), ([82, 69, 84, 85, 82, 78], [114, 101, 116, 117, 114, 110]), ([83, 84, 79, 80], [115, 116, 111, 112]), ([80, 65, 85, 83, 69], [112, 97, 117, 115, 101]), ([82, 69, 65, 68], [114, 101, 97, 100]), ([87, 82, 73, 84, 69, 40], [119, 114, 105, 116, 101]), ([80, 82, 73, 78, 84], [112, 114, 105, 110, 116]), ([79, 80, 69, 78, 40], [111, 112, 101, 110]), ([67, 76, 79, 83, 69, 40], [99, 108, 111, 115, 101]), ([73, 78, 81, 85, 73, 82, 69, 40], [105, 110, 113, 117, 105, 114, 101]), ([66, 65, 67, 75, 83, 80, 65, 67, 69], [98, 97, 99, 107, 115, 112, 97, 99, 101]), ([82, 69, 87, 73, 78, 68], [114, 101, 119, 105, 110, 100]), ([69, 78, 68, 70, 73, 76, 69], [101, 110, 100, 102, 105, 108, 101]), ([73, 77, 80, 76, 73, 67, 73, 84], [105, 109, 112, 108, 105, 99, 105, 116]), ([80, 65, 82, 65, 77, 69, 84, 69, 82, 40], [112, 97, 114, 97, 109, 101, 116, 101, 114]), ([68, 73, 77, 69, 78, 83, 73, 79, 78], [100, 105, 109, 101, 110, 115, 105, 111, 110]), ([67, 79, 77, 77, 79, 78], [99, 111, 109, 109, 111, 110]), ([69, 81, 85, 73, 86, 65, 76, 69, 78, 67, 69, 40], [101, 113, 117, 105, 118, 97, 108, 101, 110, 99, 101]), ([69, 88, 84, 69, 82, 78, 65, 76], [101, 120, 116, 101, 114, 110, 97, 108]), ([73, 78, 84, 82, 73, 78, 83, 73, 67], [105, 110, 116, 114, 105, 110, 115, 105, 99]), ([83, 65, 86, 69], [115, 97, 118, 101]), ([68, 65, 84, 65], [100, 97, 116, 97]), ([80, 82, 79, 71, 82, 65, 77], [112, 114, 111, 103, 114, 97, 109]), ([83, 85, 66, 82, 79, 85, 84, 73, 78, 69], [115, 117, 98, 114, 111, 117, 116, 105, 110, 101]), ([70, 85, 78, 67, 84, 73, 79, 78], [102, 117, 110, 99, 116, 105, 111, 110]), ([66, 76, 79, 67, 75, 68, 65, 84, 65], [98, 108, 111, 99, 107, 100, 97, 116, 97]), ([69, 78, 84, 82, 89], [101, 110, 116, 114, 121])]
noncomputable def g_pieces : List (List Nat) := [[68, 79], [49, 48], [73], [61], [49], [44], [40], [41], [39, 65, 44, 61, 40, 39], [73, 70], [71, 79, 84, 79], [70, 79, 82, 77, 65, 84], [82, 69, 65, 68], [82, 69, 65, 76], [70, 85, 78, 67, 84, 73, 79, 78], [84, 72, 69, 78], [69, 78, 68], [69, 76, 83, 69], [70, 73, 76, 69], [42], [88], [65, 83, 83, 73, 71, 78], [84, 79], [67, 72, 65, 82, 65, 67, 84, 69, 82], [42, 40, 42, 41], [46], [66, 76, 79, 67, 75, 68, 65, 84, 65], [40, 73, 44, 74, 41], [69, 78, 68, 73, 70], [68, 65, 84, 65], [87, 82, 73, 84, 69], [68, 79, 85, 66, 76, 69, 80, 82, 69, 67, 73, 83, 73, 79, 78]]

noncomputable def gtab : Nat → Option PV
  | 0 => some (.fl (.str g_digits))
  | 1 => some (.fl (.str g_ahead))
  | 2 => some (.fl (.str g_digits))
  | 3 => some (.fl (.str g_letters))
  | 4 => some (.rows (g_whole.map fun p => [.str p.1, .str p.2]))
  | 5 => some (.rows (g_types.map fun p => [.str p.1, .str p.2]))
  | 6 => some (.rows (g_begins.map fun p => [.str p.1, .str p.2]))
  | 7 => some (.list (g_pieces.map .str))
  | 8 => some (.fl (.str g_letters))
  | 9 => some (.fl (.str g_digits))
  | _ => none

noncomputable def own0Of : Nat → PV
  | 4 => .orows []
  | _ => .olist []
noncomputable def argsOkM (f : FInfo) (ps : List PV) : Bool := (ps.length == f.np) && ps.all PV.storable && (f.own == none || ps.all PV.isFl)
/-- the defs, closed over themselves, to a depth -/
noncomputable def FN (F : Nat) : Nat → Nat → List PV → Option PV
  | 0, _, _ => none
  | l + 1, i, ps => match finfo[i]? with
    | some f => if argsOkM f ps then runM (FN F l) gtab F f (own0Of i) ps else none
    | none => none
noncomputable def f_law : FInfo := ⟨"law", 305, 1, none, n_law, m_law⟩

noncomputable def faddr (i : Nat) : Addr := match finfo[i]? with
  | some f => f.addr
  | none => 0

theorem finfo_shape : finfo.all (fun f => decide (f.np ≤ 2) && decide (f.np ≤ f.nm.length) && (match f.own with
  | none => true
  | some i => decide (f.np ≤ i))) = true := by decide
theorem own0Of_cases (i : Nat) : own0Of i = .olist [] ∨ own0Of i = .orows [] := by
  unfold own0Of; split
  · exact .inr rfl
  · exact .inl rfl

theorem FN_sound (F : Nat) {prog : Program} {w : World} {K : Frag} {mg mb : Str → Option Value} (hall : finfo.all (funOk K) = true) : ∀ l, FnL prog w K mg mb faddr gtab l (FN F l)
  | 0 => by
    intro f ps r h
    simp only [FN] at h
    cases h
  | l + 1 => by
    intro i ps r h
    unfold FN at h
    split at h
    · rename_i f hf
      split at h
      · rename_i hargs
        have hmem : f ∈ finfo := List.mem_of_getElem? hf
        have h1 := List.all_eq_true.mp finfo_shape f hmem
        simp only [Bool.and_eq_true, decide_eq_true_eq] at h1
        unfold argsOkM at hargs
        simp only [Bool.and_eq_true, Bool.or_eq_true, beq_iff_eq] at hargs
        have hfa : faddr i = f.addr := by unfold faddr; rw [hf]
        rw [hfa]
        refine call_ok (List.all_eq_true.mp hall f hmem) h1.1.1 h1.1.2 hargs.1.1 hargs.1.2 (FN_sound F hall l) (own0Of_cases i) ?_ h
        rcases hargs.2 with h2 | h2
        · exact .inl h2
        · cases hown : f.own with
          | none => exact .inl rfl
          | some k =>
            rw [hown] at h1
            exact .inr ⟨h2, k, rfl, by simpa using h1.2⟩
      · cases h
    · cases h
end Mine

end
section
open PySem PySem.W PyProof.Rows
namespace Mine

abbrev S (x : List Nat) : PV := .fl (.str x)
abbrev I (k : Int) : PV := .fl (.int k)
abbrev B (b : Bool) : PV := .fl (.bool b)

theorem FN_step {F l i : Nat} {ps : List PV} {f : FInfo} (hf : finfo[i]? = some f) (ha : argsOkM f ps = true) : FN F (l + 1) i ps = runM (FN F l) gtab F f (own0Of i) ps := by
  unfold FN
  rw [hf]
  simp only [ha, if_true]

theorem fitI_nat {n : Nat} (h : n < 2 ^ 61) : fitI (n : Int) = true := by
  unfold fitI
  simp only [Bool.and_eq_true, decide_eq_true_eq]
  omega
theorem clampI_nat (n k : Nat) : clampI n (k : Int) = min k n := by
  unfold clampI
  rw [if_neg (by omega)]
  simp
theorem pSlF_nat (x : List Nat) (k : Nat) : pSlF x (k : Int) = x.drop k := by
  unfold pSlF
  rw [clampI_nat]
  by_cases h : k ≤ x.length
  · rw [Nat.min_eq_left h]
  · rw [Nat.min_eq_right (by omega), List.drop_length, List.drop_eq_nil_of_le (by omega)]
theorem pSlT_nat (x : List Nat) (k : Nat) : pSlT x (k : Int) = x.take k := by
  unfold pSlT
  rw [clampI_nat]
  by_cases h : k ≤ x.length
  · rw [Nat.min_eq_left h]
  · rw [Nat.min_eq_right (by omega), List.take_length, List.take_of_length_le (by omega)]
theorem pSl_nat (x : List Nat) (k j : Nat) : pSl x (k : Int) (j : Int) = (x.take j).drop k := by
  unfold pSl
  rw [clampI_nat, clampI_nat]
  have e : x.take (min j x.length) = x.take j := by
    by_cases h : j ≤ x.length
    · rw [Nat.min_eq_left h]
    · rw [Nat.min_eq_right (by omega), List.take_length, List.take_of_length_le (by omega)]
  rw [e]
  by_cases h : k ≤ x.length
  · rw [Nat.min_eq_left h]
  · rw [Nat.min_eq_right (by omega), List.drop_eq_nil_of_le (by simp; omega), List.drop_eq_nil_of_le (by simp; omega)]
theorem pSl_one (x : List Nat) (k : Nat) : pSl x (k : Int) ((k : Int) + 1) = (x.drop k).take 1 := by
  have : ((k : Int) + 1) = ((k + 1 : Nat) : Int) := by simp
  rw [this, pSl_nat, List.drop_take]; simp

/-! ## signs -/
noncomputable def isDig (c : Nat) : Bool := g_digits.contains c
noncomputable def isLet (c : Nat) : Bool := g_letters.contains c
noncomputable def isAln (c : Nat) : Bool := isLet c || isDig c
/-- the end of a run of signs -/
noncomputable def scanEnd (f : Nat → Bool) (row : List Nat) (k : Nat) : Nat := k + ((row.drop k).takeWhile f).length

theorem scanEnd_step {f : Nat → Bool} {row : List Nat} {k : Nat} (h : k < row.length) (hd : f row[k] = true) : scanEnd f row k = scanEnd f row (k + 1) := by
  unfold scanEnd
  rw [List.drop_eq_getElem_cons h, List.takeWhile_cons, if_pos hd, List.length_cons]; omega
theorem scanEnd_stop {f : Nat → Bool} {row : List Nat} {k : Nat} (h : k < row.length) (hd : f row[k] = false) : scanEnd f row k = k := by
  unfold scanEnd
  rw [List.drop_eq_getElem_cons h, List.takeWhile_cons, hd]; rfl
theorem scanEnd_over {f : Nat → Bool} {row : List Nat} {k : Nat} (h : row.length ≤ k) : scanEnd f row k = k := by
  unfold scanEnd
  rw [List.drop_eq_nil_of_le h]; rfl

theorem while_stop {T : List PV → Option Bool} {Bd : List PV → Option Res} {n : Nat} {ρ : List PV} (hn : 0 < n) (h : T ρ = some false) : whileM T Bd n ρ = some (.next ρ) := by
  obtain ⟨f, rfl⟩ : ∃ f, n = f + 1 := ⟨n - 1, by omega⟩
  unfold whileM; rw [h]
theorem while_next {T : List PV → Option Bool} {Bd : List PV → Option Res} {n : Nat} {ρ ρ' : List PV} (h : T ρ = some true) (hb : Bd ρ = some (.next ρ')) : whileM T Bd (n + 1) ρ = whileM T Bd n ρ' := by
  rw [whileM, h]; simp only [hb]
theorem while_cont {T : List PV → Option Bool} {Bd : List PV → Option Res} {n : Nat} {ρ ρ' : List PV} (h : T ρ = some true) (hb : Bd ρ = some (.cont ρ')) : whileM T Bd (n + 1) ρ = whileM T Bd n ρ' := by
  rw [whileM, h]; simp only [hb]
theorem while_ret {T : List PV → Option Bool} {Bd : List PV → Option Res} {n : Nat} {ρ : List PV} {v : PV} (h : T ρ = some true) (hb : Bd ρ = some (.ret v)) : whileM T Bd (n + 1) ρ = some (.ret v) := by
  rw [whileM, h]; simp only [hb]

theorem while_scan {T : List PV → Option Bool} {Bd : List PV → Option Res} (f : Nat → Bool) (row : List Nat) (mk : Nat → List PV)
    (hT : ∀ j (h : j < row.length), T (mk j) = some (f row[j])) (hT' : ∀ j, row.length ≤ j → T (mk j) = some false)
    (hB : ∀ j (h : j < row.length), f row[j] = true → Bd (mk j) = some (.next (mk (j + 1)))) : ∀ (n j fuel : Nat), row.length - j = n → n < fuel →
      whileM T Bd fuel (mk j) = some (.next (mk (scanEnd f row j))) := by
  intro n
  induction n with
  | zero =>
    intro j fuel hj hf
    rw [scanEnd_over (row := row) (k := j) (by omega)]
    exact while_stop (by omega) (hT' j (by omega))
  | succ n ih =>
    intro j fuel hj hf
    obtain ⟨g, rfl⟩ : ∃ g, fuel = g + 1 := ⟨fuel - 1, by omega⟩
    have hlt : j < row.length := by omega
    cases hd : f row[j] with
    | true =>
      rw [scanEnd_step hlt hd]
      exact (while_next ((hT j hlt).trans (congrArg some hd)) (hB j hlt hd)).trans (ih (j + 1) g (by omega) (by omega))
    | false =>
      rw [scanEnd_stop hlt hd]
      exact while_stop (by omega) ((hT j hlt).trans (congrArg some hd))

theorem digs_contains (c : Nat) : decide (c ∈ g_digits) = isDig c := by simp [isDig]
theorem lets_contains (c : Nat) : decide (c ∈ g_letters) = isLet c := by simp [isLet]
theorem cast_succ (j : Nat) : ((j : Int) + 1) = ((j + 1 : Nat) : Int) := by simp

section
variable {fn : Nat → List PV → Option PV} {gl : Nat → Option PV} {F : Nat}
theorem x_ite {c : ME} {t e k : MB} {ρ : List PV} {b : Bool} (h : testM fn gl ρ c = some b) : execM fn gl F (.ite c t e k) ρ = thenM (if b then execM fn gl F t ρ else execM fn gl F e ρ) (execM fn gl F k) := by
  rw [execM, h]; cases b <;> rfl
theorem x_yes {c : ME} {t e k : MB} {ρ : List PV} {r : Option Res} (h : testM fn gl ρ c = some true) (h2 : thenM (execM fn gl F t ρ) (execM fn gl F k) = r) : execM fn gl F (.ite c t e k) ρ = r := by
  rw [x_ite h]; exact h2
theorem x_no {c : ME} {t e k : MB} {ρ : List PV} {r : Option Res} (h : testM fn gl ρ c = some false) (h2 : thenM (execM fn gl F e ρ) (execM fn gl F k) = r) : execM fn gl F (.ite c t e k) ρ = r := by
  rw [x_ite h]; exact h2
/-- a test that fails and has no else -/
theorem x_skip {c : ME} {t k : MB} {ρ : List PV} {r : Option Res} (h : testM fn gl ρ c = some false) (h2 : execM fn gl F k ρ = r) : execM fn gl F (.ite c t .done k) ρ = r := by
  rw [x_ite h]; exact h2
theorem x_assign {i : Nat} {e : ME} {k : MB} {ρ ρ' : List PV} {v : PV} {r : Option Res} (h : evalM fn gl ρ e = some v) (hp : putM ρ i v = some ρ') (h2 : execM fn gl F k ρ' = r) : execM fn gl F (.assign i e k) ρ = r := by
  rw [execM, h]; simp only [hp]; exact h2
theorem x_unpack {i j : Nat} {e : ME} {k : MB} {ρ ρ' : List PV} {v : PV} {r : Option Res} (h : evalM fn gl ρ e = some v) (hp : put2 ρ i j v = some ρ') (h2 : execM fn gl F k ρ' = r) : execM fn gl F (.unpack i j e k) ρ = r := by
  rw [execM, h]; simp only [hp]; exact h2
theorem x_while {c : ME} {b k : MB} {ρ ρ' : List PV} {r : Option Res} (h : whileM (fun ρ => testM fn gl ρ c) (execM fn gl F b) F ρ = some (.next ρ')) (h2 : execM fn gl F k ρ' = r) : execM fn gl F (.whil c b k) ρ = r := by
  rw [execM, h]; exact h2
theorem x_while_ret {c : ME} {b k : MB} {ρ : List PV} {v : PV} (h : whileM (fun ρ => testM fn gl ρ c) (execM fn gl F b) F ρ = some (.ret v)) : execM fn gl F (.whil c b k) ρ = some (.ret v) := by
  rw [execM, h]; rfl
theorem x_ret {e : ME} {ρ : List PV} {v : PV} (h : evalM fn gl ρ e = some v) : execM fn gl F (.ret e) ρ = some (.ret v) := by
  rw [execM, h]; rfl
theorem x_done {ρ : List PV} : execM fn gl F .done ρ = some (.next ρ) := rfl
theorem t_next {ρ : List PV} {r : Option Res} {x : Option Res} {k : List PV → Option Res} (h : x = some (.next ρ)) (h2 : k ρ = r) : thenM x k = r := by
  rw [h]; exact h2
theorem t_ret {v : PV} {x : Option Res} {k : List PV → Option Res} (h : x = some (.ret v)) : thenM x k = some (.ret v) := by
  rw [h]; rfl
theorem x_forStr {i : Nat} {e : ME} {b k : MB} {ρ : List PV} {x : List Nat} {r : Option Res} (h : evalM fn gl ρ e = some (S x))
    (h2 : thenM (loopM (fun v ρ => match putM ρ i v with
        | some ρ' => execM fn gl F b ρ'
        | none => none) (x.map fun c => .fl (.str [c])) ρ) (execM fn gl F k) = r) : execM fn gl F (.forStr i e b k) ρ = r := by
  rw [execM, h]; exact h2
end
section
variable {step : PV → List PV → Option Res}
theorem l_next {v : PV} {r : List PV} {ρ ρ' : List PV} {x : Option Res} (h : step v ρ = some (.next ρ')) (h2 : loopM step r ρ' = x) : loopM step (v :: r) ρ = x := by
  rw [loopM, h]; exact h2
theorem l_cont {v : PV} {r : List PV} {ρ ρ' : List PV} {x : Option Res} (h : step v ρ = some (.cont ρ')) (h2 : loopM step r ρ' = x) : loopM step (v :: r) ρ = x := by
  rw [loopM, h]; exact h2
theorem l_ret {v u : PV} {r : List PV} {ρ : List PV} (h : step v ρ = some (.ret u)) : loopM step (v :: r) ρ = some (.ret u) := by
  rw [loopM, h]
end

section
variable {fn : Nat → List PV → Option PV} {gl : Nat → Option PV} {ρ : List PV} {a b c e : ME}
theorem v_loc {i : Nat} {f : Fl} (h : ρ[i]? = some (.fl f)) : evalM fn gl ρ (.loc i) = some (.fl f) := by rw [evalM, h]
theorem v_idx {x : List Nat} {k d : Nat} (ha : evalM fn gl ρ a = some (S x)) (hi : evalM fn gl ρ b = some (I k)) (h : x[k]? = some d) : evalM fn gl ρ (.idx a b) = some (S [d]) := by
  rw [evalM, ha]; simp only [hi, pIdx]; rw [if_pos (by omega)]; simp only [Int.toNat_natCast, h]; rfl
theorem v_idxL {x : List Fl} {k : Nat} {d : Fl} (ha : evalM fn gl ρ a = some (.list x)) (hi : evalM fn gl ρ b = some (I k)) (h : x[k]? = some d) : evalM fn gl ρ (.idx a b) = some (.fl d) := by
  rw [evalM, ha]; simp only [hi, pIdx]; rw [if_pos (by omega)]; simp only [Int.toNat_natCast, h]; rfl
theorem v_add {i j : Int} (ha : evalM fn gl ρ a = some (I i)) (hb : evalM fn gl ρ b = some (I j)) : evalM fn gl ρ (.bin .Add a b) = some (I (i + j)) := by
  rw [evalM, ha]; simp only [hb, pBin]
theorem v_len {x : List Nat} (ha : evalM fn gl ρ a = some (S x)) : evalM fn gl ρ (.len a) = some (I x.length) := by
  rw [evalM, ha]
theorem v_slF {x : List Nat} {k : Nat} (ha : evalM fn gl ρ a = some (S x)) (hb : evalM fn gl ρ b = some (I k)) (hk : k < 2000000) : evalM fn gl ρ (.slF a b) = some (S (x.drop k)) := by
  rw [evalM, ha]; simp only [hb]; rw [if_pos (fitI_nat (by omega)), pSlF_nat]
theorem v_slT {x : List Nat} {k : Nat} (ha : evalM fn gl ρ a = some (S x)) (hb : evalM fn gl ρ b = some (I k)) (hk : k < 2000000) : evalM fn gl ρ (.slT a b) = some (S (x.take k)) := by
  rw [evalM, ha]; simp only [hb]; rw [if_pos (fitI_nat (by omega)), pSlT_nat]
theorem v_sl {x : List Nat} {k j : Nat} (ha : evalM fn gl ρ a = some (S x)) (hb : evalM fn gl ρ b = some (I k)) (hc : evalM fn gl ρ c = some (I j)) (hk : k < 2000000) (hj : j < 2000000) : evalM fn gl ρ (.sl a b c) = some (S ((x.drop k).take (j - k))) := by
  rw [evalM, ha]; simp only [hb, hc]; rw [if_pos (by rw [fitI_nat (by omega), fitI_nat (by omega)]; rfl), pSl_nat, List.drop_take]
theorem v_sl1 {x : List Nat} {k : Nat} (ha : evalM fn gl ρ a = some (S x)) (hb : evalM fn gl ρ b = some (I k)) (hk : k < 1000000) : evalM fn gl ρ (.sl a b (.bin .Add b (.int 1))) = some (S ((x.drop k).take 1)) := by
  have h := v_sl (c := .bin .Add b (.int 1)) (j := k + 1) ha hb (v_add hb (j := 1) (by rw [evalM])) (by omega) (by omega)
  rw [h]
  have : k + 1 - k = 1 := by omega
  rw [this]
theorem v_call1 {i : Nat} {v r : PV} (ha : evalM fn gl ρ a = some v) (h : fn i [v] = some r) : evalM fn gl ρ (.call1 i a) = some r := by
  rw [evalM, ha]; exact h
theorem v_call2 {i : Nat} {v u r : PV} (ha : evalM fn gl ρ a = some v) (hb : evalM fn gl ρ b = some u) (h : fn i [v, u] = some r) : evalM fn gl ρ (.call2 i a b) = some r := by
  rw [evalM, ha]; simp only [hb]; exact h
theorem v_test {r : Bool} (h : testM fn gl ρ a = some r) : evalM fn gl ρ a = some (B r) := by
  unfold testM at h
  split at h
  · rename_i b hb; cases h; exact hb
  · cases h
theorem t_val {r : Bool} (h : evalM fn gl ρ a = some (B r)) : testM fn gl ρ a = some r := by
  unfold testM; rw [h]
theorem t_cmp {o : CmpOp} {v u : PV} {r : Bool} (ha : evalM fn gl ρ a = some v) (hb : evalM fn gl ρ b = some u) (h : pCmp o v u = some r) : testM fn gl ρ (.cmp o a b) = some r := by
  refine t_val ?_
  rw [evalM, ha]; simp only [hb, h]; rfl
theorem t_not {r : Bool} (h : testM fn gl ρ a = some r) : testM fn gl ρ (.not a) = some (!r) := by
  refine t_val ?_
  rw [evalM, v_test h]
theorem t_and_f (h : testM fn gl ρ a = some false) : testM fn gl ρ (.and a b) = some false := by
  refine t_val ?_
  rw [evalM, v_test h]
theorem t_and_t {r : Bool} (h : testM fn gl ρ a = some true) (h2 : testM fn gl ρ b = some r) : testM fn gl ρ (.and a b) = some r := by
  refine t_val ?_
  rw [evalM, v_test h]; simp only [v_test h2]
theorem t_and {r q : Bool} (h : testM fn gl ρ a = some r) (h2 : testM fn gl ρ b = some q) : testM fn gl ρ (.and a b) = some (r && q) := by
  cases r
  · exact t_and_f h
  · exact t_and_t h h2
theorem t_or_t (h : testM fn gl ρ a = some true) : testM fn gl ρ (.or a b) = some true := by
  refine t_val ?_
  rw [evalM, v_test h]
theorem t_or_f {r : Bool} (h : testM fn gl ρ a = some false) (h2 : testM fn gl ρ b = some r) : testM fn gl ρ (.or a b) = some r := by
  refine t_val ?_
  rw [evalM, v_test h]; simp only [v_test h2]
theorem t_or {r q : Bool} (h : testM fn gl ρ a = some r) (h2 : testM fn gl ρ b = some q) : testM fn gl ρ (.or a b) = some (r || q) := by
  cases r
  · exact t_or_f h h2
  · exact t_or_t h
theorem t_and3_f (h : testM fn gl ρ a = some false) : testM fn gl ρ (.and3 a b c) = some false := by
  refine t_val ?_
  rw [evalM, v_test h]
theorem t_and3_tf (h : testM fn gl ρ a = some true) (h2 : testM fn gl ρ b = some false) : testM fn gl ρ (.and3 a b c) = some false := by
  refine t_val ?_
  rw [evalM, v_test h]; simp only [v_test h2]
theorem t_and3_tt {r : Bool} (h : testM fn gl ρ a = some true) (h2 : testM fn gl ρ b = some true) (h3 : testM fn gl ρ c = some r) : testM fn gl ρ (.and3 a b c) = some r := by
  refine t_val ?_
  rw [evalM, v_test h]; simp only [v_test h2, v_test h3]
theorem t_and3 {r q p : Bool} (h : testM fn gl ρ a = some r) (h2 : testM fn gl ρ b = some q) (h3 : testM fn gl ρ c = some p) : testM fn gl ρ (.and3 a b c) = some (r && q && p) := by
  cases r
  · exact t_and3_f h
  · cases q
    · exact t_and3_tf h h2
    · exact t_and3_tt h h2 h3
theorem v_cond {r : Bool} {v : PV} (h : testM fn gl ρ c = some r) (h2 : evalM fn gl ρ (if r then a else b) = some v) : evalM fn gl ρ (.cond c a b) = some v := by
  rw [evalM, v_test h]; cases r <;> exact h2
end
theorem one_lt {x : List Nat} {k : Nat} (h : k < x.length) : (x.drop k).take 1 = [x[k]] := by
  rw [List.drop_eq_getElem_cons h]; rfl
theorem one_ge {x : List Nat} {k : Nat} (h : x.length ≤ k) : (x.drop k).take 1 = [] := by
  rw [List.drop_eq_nil_of_le h]; rfl
theorem lt_int {a b : Nat} : pCmp .Lt (I a) (I b) = some (decide (a < b)) := by simp [pCmp]

theorem FN_run {F l i : Nat} {ps : List PV} {f : FInfo} {ρ : List PV} {v : PV} (hf : finfo[i]? = some f) (ha : argsOkM f ps = true) (hρ : frame0 f (own0Of i) ps = ρ)
    (h : execM (FN F l) gtab F f.body ρ = some (.ret v)) : FN F (l + 1) i ps = some v := by
  rw [FN_step hf ha]
  unfold runM
  rw [hρ, h]

theorem r_digits_end {F : Nat} (hF : 200000 < F) (l : Nat) (row : List Nat) (k : Nat) (hrow : row.length < 100000) : FN F (l + 1) 9 [S row, I k] = some (I (scanEnd isDig row k)) := by
  refine FN_run (f := ⟨"digits_end", 164, 2, none, n_digits_end, m_digits_end⟩) (ρ := [S row, I k, .undef]) rfl rfl rfl ?_
  refine x_assign (v := I k) rfl rfl ?_
  refine x_while (while_scan isDig row (fun j => [S row, I k, I j]) ?_ ?_ ?_ _ k F rfl (by omega)) (x_ret rfl)
  · intro j hj
    simp only [testM, evalM, pCmp, pIdx, gtab]
    simp [hj, digs_contains]
  · intro j hj
    have : ¬ j < row.length := by omega
    simp [testM, evalM, pCmp, this]
  · intro j hj hd
    simp [execM, evalM, pAug, putM, PV.isOwn, PV.storable, PV.isFl]

noncomputable def nameEnd (row : List Nat) (k : Nat) : Nat := if ((row.drop k).headD 0 |> isLet) then scanEnd isAln row k else k
theorem r_name_end {F : Nat} (hF : 200000 < F) (l : Nat) (row : List Nat) (k : Nat) (hrow : row.length < 100000) (hk : k < 1000000) : FN F (l + 1) 8 [S row, I k] = some (I (nameEnd row k)) := by
  refine FN_run (f := ⟨"name_end", 157, 2, none, n_name_end, m_name_end⟩) (ρ := [S row, I k, .undef]) rfl rfl rfl ?_
  by_cases hlt : k < row.length
  · have hd : row.drop k = row[k] :: row.drop (k + 1) := List.drop_eq_getElem_cons hlt
    have hc : row[k]? = some row[k] := List.getElem?_eq_getElem hlt
    have t1 : testM (FN F l) gtab [S row, I k, .undef] (.or (.cmp .Eq (.sl (.loc 0) (.loc 1) (.bin .Add (.loc 1) (.int 1))) (.str [])) (.cmp .NotIn (.idx (.loc 0) (.loc 1)) (.glob 3))) = some (!isLet row[k]) := by
      refine t_or_f (t_cmp (v_sl1 (v_loc rfl) (v_loc rfl) hk) (u := S []) rfl ?_) (t_cmp (v_idx (v_loc rfl) (v_loc rfl) hc) (u := S g_letters) rfl rfl)
      rw [one_lt hlt]; rfl
    by_cases hL : isLet row[k] = false
    · have hn : nameEnd row k = k := by unfold nameEnd; rw [hd, List.headD_cons, hL]; rfl
      rw [hn]
      rw [hL] at t1
      exact x_yes t1 (t_ret (x_ret rfl))
    · rw [Bool.not_eq_false] at hL
      have hn : nameEnd row k = scanEnd isAln row k := by unfold nameEnd; rw [hd, List.headD_cons, hL]; rfl
      rw [hn]
      rw [hL] at t1
      refine x_skip t1 (x_assign (v := I k) rfl rfl ?_)
      refine x_while (while_scan isAln row (fun j => [S row, I k, I j]) ?_ ?_ ?_ _ k F rfl (by omega)) (x_ret rfl)
      · intro j hj
        have hc : row[j]? = some row[j] := List.getElem?_eq_getElem hj
        refine t_and_t (t_cmp (v_loc rfl) (v_len (v_loc rfl)) (lt_int.trans (by simp [hj]))) (t_or (t_cmp (v_idx (v_loc rfl) (v_loc rfl) hc) (u := S g_letters) rfl rfl) (t_cmp (v_idx (v_loc rfl) (v_loc rfl) hc) (u := S g_digits) rfl rfl))
      · intro j hj
        exact t_and_f (t_cmp (v_loc rfl) (v_len (v_loc rfl)) (lt_int.trans (by simp; omega)))
      · intro j hj hd
        simp [execM, evalM, pAug, putM, PV.isOwn, PV.storable, PV.isFl]
  · have hd : row.drop k = [] := List.drop_eq_nil_of_le (by omega)
    have hn : nameEnd row k = k := by unfold nameEnd; rw [hd]; rfl
    rw [hn]
    refine x_yes (t_or_t (t_cmp (v_sl1 (v_loc rfl) (v_loc rfl) hk) (u := S []) rfl ?_)) (t_ret (x_ret rfl))
    rw [one_ge (by omega)]; rfl
end Mine

end
section
open PySem PySem.W PyProof.Rows
namespace Mine

theorem rangeM_nat {x y : Nat} (hx : x < 2000000) (hy : y < 2000000) : rangeM (x : Int) (y : Int) 1 = some ((List.range' x (y - x)).map fun j => I (j : Nat)) := by
  unfold rangeM
  rw [fitI_nat (by omega), fitI_nat (by omega)]
  have e : (((y : Int) - x + 1 - 1) / 1).toNat = y - x := by omega
  rw [if_pos (by decide), e]
  congr 1
  rw [List.range'_eq_map_range, List.map_map]
  refine List.map_congr_left fun k _ => ?_
  simp

section
variable {fn : Nat → List PV → Option PV} {gl : Nat → Option PV} {F : Nat}
theorem x_range2' {i : Nat} {lo hi : ME} {b k : MB} {ρ : List PV} {x y : Int} {r : Option Res} {l : List PV} (h1 : evalM fn gl ρ lo = some (I x)) (h2 : evalM fn gl ρ hi = some (I y)) (e : rangeM x y 1 = some l)
    (h : thenM (loopM (fun v ρ => match putM ρ i v with
          | some ρ' => execM fn gl F b ρ'
          | none => none) l ρ) (execM fn gl F k) = r) : execM fn gl F (.forRange2 i lo hi b k) ρ = r := by
  rw [execM, h1]; dsimp only; rw [h2]; dsimp only; rw [e]; exact h
theorem x_range1' {i : Nat} {hi : ME} {b k : MB} {ρ : List PV} {y : Int} {r : Option Res} {l : List PV} (h2 : evalM fn gl ρ hi = some (I y)) (e : rangeM 0 y 1 = some l)
    (h : thenM (loopM (fun v ρ => match putM ρ i v with
          | some ρ' => execM fn gl F b ρ'
          | none => none) l ρ) (execM fn gl F k) = r) : execM fn gl F (.forRange1 i hi b k) ρ = r := by
  rw [execM, h2]; dsimp only; rw [e]; exact h
theorem x_range2 {i : Nat} {lo hi : ME} {b k : MB} {ρ : List PV} {x y : Nat} {r : Option Res} (h1 : evalM fn gl ρ lo = some (I x)) (h2 : evalM fn gl ρ hi = some (I y)) (hx : x < 2000000) (hy : y < 2000000)
    (h : thenM (loopM (fun v ρ => match putM ρ i v with
          | some ρ' => execM fn gl F b ρ'
          | none => none) ((List.range' x (y - x)).map fun j => I (j : Nat)) ρ) (execM fn gl F k) = r) : execM fn gl F (.forRange2 i lo hi b k) ρ = r :=
  x_range2' h1 h2 (rangeM_nat hx hy) h
theorem x_range1 {i : Nat} {hi : ME} {b k : MB} {ρ : List PV} {y : Nat} {r : Option Res} (h2 : evalM fn gl ρ hi = some (I y)) (hy : y < 2000000)
    (h : thenM (loopM (fun v ρ => match putM ρ i v with
          | some ρ' => execM fn gl F b ρ'
          | none => none) ((List.range' 0 y).map fun j => I (j : Nat)) ρ) (execM fn gl F k) = r) : execM fn gl F (.forRange1 i hi b k) ρ = r :=
  x_range1' h2 (rangeM_nat (x := 0) (Nat.zero_lt_of_lt hy) hy) h
theorem st_put {i : Nat} {b : MB} {v : PV} {ρ ρ' : List PV} {r : Option Res} (hp : putM ρ i v = some ρ') (h : execM fn gl F b ρ' = r) : (fun v ρ => match putM ρ i v with
          | some ρ' => execM fn gl F b ρ'
          | none => none) v ρ = r := by
  show (match putM ρ i v with
          | some ρ' => execM fn gl F b ρ'
          | none => none) = r
  rw [hp]; exact h
theorem put_flat {ρ : List PV} {i : Nat} {old : PV} {f : Fl} (h : ρ[i]? = some old) (ho : old.isOwn = false) : putM ρ i (.fl f) = some (ρ.set i (.fl f)) := by
  unfold putM
  rw [h]; simp only [ho]; rfl
theorem x_append {i : Nat} {e : ME} {k : MB} {ρ : List PV} {l : List Fl} {x : Fl} {r : Option Res} (h : evalM fn gl ρ e = some (.fl x)) (hi : ρ[i]? = some (.olist l)) (hl : l.length < lim) (h2 : execM fn gl F k (ρ.set i (.olist (l ++ [x]))) = r) : execM fn gl F (.append i e k) ρ = r := by
  rw [execM, h]; simp only [hi, if_pos hl]; exact h2
theorem x_appendR {i : Nat} {e : ME} {k : MB} {ρ : List PV} {l : List (List Fl)} {x : List Fl} {r : Option Res} (h : evalM fn gl ρ e = some (.tup x)) (hi : ρ[i]? = some (.orows l)) (hl : l.length < lim) (h2 : execM fn gl F k (ρ.set i (.orows (l ++ [x]))) = r) : execM fn gl F (.append i e k) ρ = r := by
  rw [execM, h]; simp only [hi, if_pos hl]; exact h2
theorem x_aug {i : Nat} {o : Operator} {e : ME} {k : MB} {ρ ρ' : List PV} {v u w : PV} {r : Option Res} (h1 : evalM fn gl ρ (.loc i) = some v) (h : evalM fn gl ρ e = some u) (hp : pAug o v u = some w) (hp2 : putM ρ i w = some ρ') (h2 : execM fn gl F k ρ' = r) : execM fn gl F (.aug i o e k) ρ = r := by
  rw [execM, h1]; simp only [h, hp, hp2]; exact h2
end
theorem eq1 {c d : Nat} : pCmp .Eq (S [c]) (S [d]) = some (c == d) := by
  show some ([c] == [d]) = _
  congr 1
  cases h : c == d with
  | true => rw [eq_of_beq h]; simp
  | false => simpa using h
theorem eqI {i j : Int} : pCmp .Eq (I i) (I j) = some (i == j) := rfl
theorem geI {i j : Int} : pCmp .GtE (I i) (I j) = some (decide (j ≤ i)) := rfl
theorem gtI {i j : Int} : pCmp .Gt (I i) (I j) = some (decide (j < i)) := rfl
theorem ltI {i j : Int} : pCmp .Lt (I i) (I j) = some (decide (i < j)) := rfl

/-! ## depths -/
noncomputable def dl : Bool → Int → List Nat → List Int
  | _, _, [] => []
  | q, d, c :: r => if c == 39 then -1 :: dl (!q) d r else if q then -1 :: dl q d r else if c == 40 && decide (0 ≤ d) then d :: dl q (d + 1) r
    else if c == 41 && decide (0 < d) then (d - 1) :: dl q (d - 1) r else if c == 41 then -2 :: dl q (-2) r else d :: dl q d r

theorem dl_len : ∀ (r : List Nat) (q : Bool) (d : Int), (dl q d r).length = r.length
  | [], _, _ => rfl
  | c :: r, q, d => by
    unfold dl
    split; · simp [dl_len r]
    split; · simp [dl_len r]
    split; · simp [dl_len r]
    split; · simp [dl_len r]
    split <;> simp [dl_len r]

noncomputable def b_depths : MB := (.ite (.cmp .Eq (.loc 4) (.str [39]))
    (.assign 3 (.not (.loc 3)) (.append 1 (.neg 1) .done))
    (.ite (.loc 3)
    (.append 1 (.neg 1) .done)
    (.ite (.and (.cmp .Eq (.loc 4) (.str [40])) (.cmp .GtE (.loc 2) (.int 0)))
    (.append 1 (.loc 2) (.aug 2 .Add (.int 1) .done))
    (.ite (.and (.cmp .Eq (.loc 4) (.str [41])) (.cmp .Gt (.loc 2) (.int 0)))
    (.aug 2 .Sub (.int 1) (.append 1 (.loc 2) .done))
    (.ite (.cmp .Eq (.loc 4) (.str [41]))
    (.assign 2 (.neg 2) .done)
    .done
    (.append 1 (.loc 2) .done))
    .done)
    .done)
    .done)
    .done)

theorem depths_loop {F l : Nat} (row : List Nat) : ∀ (r : List Nat) (acc : List Fl) (d : Int) (q : Bool) (x : PV), acc.length + r.length < 200000 → x.isOwn = false →
    ∃ d' q' x', loopM (fun v ρ => match putM ρ 4 v with
        | some ρ' => execM (FN F l) gtab F b_depths ρ'
        | none => none) (r.map fun c => S [c]) [S row, .olist acc, I d, B q, x] = some (.next [S row, .olist (acc ++ (dl q d r).map Fl.int), I d', B q', x'])
  | [], acc, d, q, x, _, _ => ⟨d, q, x, by simp [loopM, dl]⟩
  | c :: r, acc, d, q, x, hl, hx => by
    have hlim : acc.length < lim := by unfold lim; rw [List.length_cons] at hl; omega
    have hp : putM [S row, .olist acc, I d, B q, x] 4 (S [c]) = some [S row, .olist acc, I d, B q, S [c]] := put_flat (i := 4) rfl hx
    have ih := fun (v : Int) (d : Int) (q : Bool) => depths_loop (F := F) (l := l) row r (acc ++ [.int v]) d q (S [c]) (by simp at hl ⊢; omega) rfl
    rw [List.map_cons]
    unfold dl
    by_cases h39 : c == 39
    · obtain ⟨d', q', x', e⟩ := ih (-1) d (!q)
      refine ⟨d', q', x', ?_⟩
      rw [if_pos h39, List.map_cons, show acc ++ (Fl.int (-1) :: (dl (!q) d r).map Fl.int) = (acc ++ [Fl.int (-1)]) ++ (dl (!q) d r).map Fl.int by simp, ← e]
      refine l_next (st_put hp (x_yes (t_cmp (v_loc rfl) rfl (eq1.trans (congrArg some h39))) (t_next (x_assign (v := B (!q)) (v_test (t_not (t_val (v_loc rfl)))) rfl (x_append (x := .int (-1)) rfl rfl hlim x_done)) x_done))) rfl
    rw [if_neg h39]
    have h39' : (c == 39) = false := by simpa using h39
    cases q with
    | true =>
      obtain ⟨d', q', x', e⟩ := ih (-1) d true
      refine ⟨d', q', x', ?_⟩
      rw [if_pos rfl, List.map_cons, show acc ++ (Fl.int (-1) :: (dl true d r).map Fl.int) = (acc ++ [Fl.int (-1)]) ++ (dl true d r).map Fl.int by simp, ← e]
      refine l_next (st_put hp (x_no (t_cmp (v_loc rfl) rfl (eq1.trans (congrArg some h39'))) (t_next (x_yes (t_val (v_loc rfl)) (t_next (x_append (x := .int (-1)) rfl rfl hlim x_done) x_done)) x_done))) rfl
    | false =>
      rw [if_neg Bool.false_ne_true]
      have hb : ∀ {R : Option Res}, execM (FN F l) gtab F (.ite (.and (.cmp .Eq (.loc 4) (.str [40])) (.cmp .GtE (.loc 2) (.int 0)))
    (.append 1 (.loc 2) (.aug 2 .Add (.int 1) .done))
    (.ite (.and (.cmp .Eq (.loc 4) (.str [41])) (.cmp .Gt (.loc 2) (.int 0)))
    (.aug 2 .Sub (.int 1) (.append 1 (.loc 2) .done))
    (.ite (.cmp .Eq (.loc 4) (.str [41]))
    (.assign 2 (.neg 2) .done)
    .done
    (.append 1 (.loc 2) .done))
    .done)
    .done) [S row, .olist acc, I d, B false, S [c]] = R → (∀ ρ', R = some (.next ρ') → (fun v ρ => match putM ρ 4 v with
        | some ρ' => execM (FN F l) gtab F b_depths ρ'
        | none => none) (S [c]) [S row, .olist acc, I d, B false, x] = some (.next ρ')) := fun h ρ' e => by
        subst e
        exact st_put hp (x_no (t_cmp (v_loc rfl) rfl (eq1.trans (congrArg some h39'))) (t_next (x_no (t_val (v_loc rfl)) (t_next h x_done)) x_done))
      have t40 : testM (FN F l) gtab [S row, .olist acc, I d, B false, S [c]] (.and (.cmp .Eq (.loc 4) (.str [40])) (.cmp .GtE (.loc 2) (.int 0))) = some (c == 40 && decide (0 ≤ d)) :=
        t_and (t_cmp (v_loc rfl) rfl eq1) (t_cmp (v_loc rfl) rfl geI)
      have t41 : testM (FN F l) gtab [S row, .olist acc, I d, B false, S [c]] (.and (.cmp .Eq (.loc 4) (.str [41])) (.cmp .Gt (.loc 2) (.int 0))) = some (c == 41 && decide (0 < d)) :=
        t_and (t_cmp (v_loc rfl) rfl eq1) (t_cmp (v_loc rfl) rfl gtI)
      have s41 : testM (FN F l) gtab [S row, .olist acc, I d, B false, S [c]] (.cmp .Eq (.loc 4) (.str [41])) = some (c == 41) := t_cmp (v_loc rfl) rfl eq1
      by_cases h1 : (c == 40 && decide (0 ≤ d)) = true
      · obtain ⟨d', q', x', e⟩ := ih d (d + 1) false
        refine ⟨d', q', x', ?_⟩
        rw [if_pos h1, List.map_cons, show acc ++ (Fl.int d :: (dl false (d + 1) r).map Fl.int) = (acc ++ [Fl.int d]) ++ (dl false (d + 1) r).map Fl.int by simp, ← e]
        rw [h1] at t40
        refine l_next (hb (x_yes t40 (t_next (x_append (x := .int d) (v_loc rfl) rfl hlim (x_aug (v_loc rfl) rfl rfl rfl x_done)) x_done)) _ rfl) rfl
      rw [if_neg h1]
      rw [Bool.not_eq_true] at h1
      rw [h1] at t40
      by_cases h2 : (c == 41 && decide (0 < d)) = true
      · obtain ⟨d', q', x', e⟩ := ih (d - 1) (d - 1) false
        refine ⟨d', q', x', ?_⟩
        rw [if_pos h2, List.map_cons, show acc ++ (Fl.int (d - 1) :: (dl false (d - 1) r).map Fl.int) = (acc ++ [Fl.int (d - 1)]) ++ (dl false (d - 1) r).map Fl.int by simp, ← e]
        rw [h2] at t41
        refine l_next (hb (x_no t40 (t_next (x_yes t41 (t_next (x_aug (v_loc rfl) rfl rfl rfl (x_append (x := .int (d - 1)) (v_loc rfl) rfl hlim x_done)) x_done)) x_done)) _ rfl) rfl
      rw [if_neg h2]
      rw [Bool.not_eq_true] at h2
      rw [h2] at t41
      by_cases h3 : (c == 41) = true
      · obtain ⟨d', q', x', e⟩ := ih (-2) (-2) false
        refine ⟨d', q', x', ?_⟩
        rw [if_pos h3, List.map_cons, show acc ++ (Fl.int (-2) :: (dl false (-2) r).map Fl.int) = (acc ++ [Fl.int (-2)]) ++ (dl false (-2) r).map Fl.int by simp, ← e]
        rw [h3] at s41
        refine l_next (hb (x_no t40 (t_next (x_no t41 (t_next (x_yes s41 (t_next (x_assign (v := I (-2)) rfl rfl x_done) (x_append (x := .int (-2)) rfl rfl hlim x_done))) x_done)) x_done)) _ rfl) rfl
      · obtain ⟨d', q', x', e⟩ := ih d d false
        refine ⟨d', q', x', ?_⟩
        rw [if_neg h3, List.map_cons, show acc ++ (Fl.int d :: (dl false d r).map Fl.int) = (acc ++ [Fl.int d]) ++ (dl false d r).map Fl.int by simp, ← e]
        rw [Bool.not_eq_true] at h3
        rw [h3] at s41
        refine l_next (hb (x_no t40 (t_next (x_no t41 (t_next (x_skip s41 (x_append (x := .int d) (v_loc rfl) rfl hlim x_done)) x_done)) x_done)) _ rfl) rfl

theorem r_depths {F : Nat} (l : Nat) (row : List Nat) (hrow : row.length < 100000) : FN F (l + 1) 6 [S row] = some (.list ((dl false 0 row).map Fl.int)) := by
  obtain ⟨d', q', x', e⟩ := depths_loop (F := F) (l := l) row row [] 0 false .undef (by simp; omega) rfl
  refine FN_run (f := ⟨"depths", 102, 1, some 1, n_depths, m_depths⟩) (ρ := [S row, .olist [], .undef, .undef, .undef]) rfl rfl rfl ?_
  refine x_assign (v := I 0) rfl rfl (x_assign (v := B false) rfl rfl (x_forStr (x := row) (v_loc rfl) (t_next e ?_)))
  rfl
end Mine

end
section
open PySem PySem.W PyProof.Rows
namespace Mine

abbrev L (D : List Int) : PV := .list (D.map Fl.int)
theorem lvl_at {D : List Int} {j : Nat} {d : Int} (h : D[j]? = some d) : (D.map Fl.int)[j]? = some (.int d) := by
  rw [List.getElem?_map, h]; rfl

theorem drop_at {α : Type} {x : List α} {j : Nat} {c : α} (h : x[j]? = some c) : x.drop j = c :: x.drop (j + 1) := by
  obtain ⟨hlt, e⟩ := List.getElem?_eq_some_iff.mp h
  rw [List.drop_eq_getElem_cons hlt, e]

/-! ## closing -/
noncomputable def fc (lv : Int) : Nat → List Nat → List Int → Int
  | j, c :: r, v :: vs => if c == 41 && v == lv then (j : Int) else fc lv (j + 1) r vs
  | _, _, _ => -1
noncomputable def b_closing : MB := (.ite (.and (.cmp .Eq (.idx (.loc 0) (.loc 3)) (.str [41])) (.cmp .Eq (.idx (.loc 2) (.loc 3)) (.idx (.loc 2) (.loc 1))))
    (.ret (.loc 3))
    .done
    .done)
theorem closing_loop {F l : Nat} {row : List Nat} {D : List Int} {k : Nat} {lv : Int} (hD : D.length = row.length) (hk : D[k]? = some lv) : ∀ (n j : Nat) (x : PV), j + n = row.length → x.isOwn = false →
    (∃ x', loopM (fun v ρ => match putM ρ 3 v with
        | some ρ' => execM (FN F l) gtab F b_closing ρ'
        | none => none) ((List.range' j n).map fun j => I (j : Nat)) [S row, I k, L D, x] = some (.next [S row, I k, L D, x']) ∧ fc lv j (row.drop j) (D.drop j) = -1) ∨
    loopM (fun v ρ => match putM ρ 3 v with
        | some ρ' => execM (FN F l) gtab F b_closing ρ'
        | none => none) ((List.range' j n).map fun j => I (j : Nat)) [S row, I k, L D, x] = some (.ret (I (fc lv j (row.drop j) (D.drop j))))
  | 0, j, x, hj, _ => .inl ⟨x, rfl, by rw [List.drop_eq_nil_of_le (by omega)]; rfl⟩
  | n + 1, j, x, hj, hx => by
    have hc : row[j]? = some row[j] := List.getElem?_eq_getElem (by omega)
    have hd : D[j]? = some D[j] := List.getElem?_eq_getElem (by omega)
    have t : testM (FN F l) gtab [S row, I k, L D, I j] (.and (.cmp .Eq (.idx (.loc 0) (.loc 3)) (.str [41])) (.cmp .Eq (.idx (.loc 2) (.loc 3)) (.idx (.loc 2) (.loc 1)))) = some (row[j] == 41 && D[j] == lv) :=
      t_and (t_cmp (v_idx (v_loc rfl) (v_loc rfl) hc) rfl eq1) (t_cmp (v_idxL rfl (v_loc rfl) (lvl_at hd)) (v_idxL rfl (v_loc rfl) (lvl_at hk)) eqI)
    have hp : putM [S row, I k, L D, x] 3 (I j) = some [S row, I k, L D, I j] := put_flat (i := 3) rfl hx
    rw [List.range'_succ, List.map_cons, drop_at hc, drop_at hd]
    unfold fc
    by_cases h : (row[j] == 41 && D[j] == lv) = true
    · rw [if_pos h]
      rw [h] at t
      exact .inr (l_ret (st_put hp (x_yes t (t_ret (x_ret (v_loc rfl))))))
    · rw [if_neg h]
      rw [Bool.not_eq_true] at h
      rw [h] at t
      rcases closing_loop (F := F) (l := l) hD hk n (j + 1) (I j) (by omega) rfl with ⟨x', e1, e2⟩ | e1
      · exact .inl ⟨x', l_next (st_put hp (x_skip t x_done)) e1, e2⟩
      · exact .inr (l_next (st_put hp (x_skip t x_done)) e1)

noncomputable def closingS (row : List Nat) (k : Nat) : Int := fc ((dl false 0 row).getD k 0) (k + 1) (row.drop (k + 1)) ((dl false 0 row).drop (k + 1))
theorem r_closing {F : Nat} (l : Nat) (row : List Nat) (k : Nat) (hrow : row.length < 100000) (hk : k < row.length) : FN F (l + 2) 7 [S row, I k] = some (I (closingS row k)) := by
  refine FN_run (f := ⟨"closing", 109, 2, none, n_closing, m_closing⟩) (ρ := [S row, I k, .undef, .undef]) rfl rfl rfl ?_
  have hlv : (dl false 0 row)[k]? = some ((dl false 0 row).getD k 0) := by
    rw [List.getD_eq_getElem?_getD, List.getElem?_eq_getElem (by rw [dl_len]; exact hk)]; rfl
  refine x_assign (v := L (dl false 0 row)) (v_call1 (v_loc rfl) (r_depths l row hrow)) rfl ?_
  refine x_range2 (x := k + 1) (y := row.length) (v_add (i := k) (j := 1) (v_loc rfl) rfl) (v_len (v_loc rfl)) (by omega) (by omega) ?_
  rcases closing_loop (F := F) (l := l + 1) (row := row) (dl_len row false 0) hlv (row.length - (k + 1)) (k + 1) .undef (by omega) rfl with ⟨x', e1, e2⟩ | e1
  · refine t_next e1 (x_ret ?_)
    unfold closingS
    rw [e2]; rfl
  · exact t_ret e1

/-! ## is_balanced -/
noncomputable def bal : Int → List Nat → List Int → Bool
  | d, c :: r, v :: vs => if v == -2 then false else if decide (0 ≤ v) && c == 40 then bal (d + 1) r vs else if decide (0 ≤ v) && c == 41 then bal (d - 1) r vs else bal d r vs
  | d, _, _ => d == 0
noncomputable def b_bal : MB := (.ite (.cmp .Eq (.idx (.loc 1) (.loc 3)) (.neg 2))
    (.ret (.bool false))
    .done
    (.ite (.and (.cmp .GtE (.idx (.loc 1) (.loc 3)) (.int 0)) (.cmp .Eq (.idx (.loc 0) (.loc 3)) (.str [40])))
    (.aug 2 .Add (.int 1) .done)
    .done
    (.ite (.and (.cmp .GtE (.idx (.loc 1) (.loc 3)) (.int 0)) (.cmp .Eq (.idx (.loc 0) (.loc 3)) (.str [41])))
    (.aug 2 .Sub (.int 1) .done)
    .done
    .done)))
theorem bal_loop {F l : Nat} {row : List Nat} {D : List Int} (hD : D.length = row.length) : ∀ (n j : Nat) (d : Int) (x : PV), j + n = row.length → x.isOwn = false →
    (∃ d' x', loopM (fun v ρ => match putM ρ 3 v with
        | some ρ' => execM (FN F l) gtab F b_bal ρ'
        | none => none) ((List.range' j n).map fun j => I (j : Nat)) [S row, L D, I d, x] = some (.next [S row, L D, I d', x']) ∧ bal d (row.drop j) (D.drop j) = (d' == 0)) ∨
    (loopM (fun v ρ => match putM ρ 3 v with
        | some ρ' => execM (FN F l) gtab F b_bal ρ'
        | none => none) ((List.range' j n).map fun j => I (j : Nat)) [S row, L D, I d, x] = some (.ret (B false)) ∧ bal d (row.drop j) (D.drop j) = false)
  | 0, j, d, x, hj, _ => .inl ⟨d, x, rfl, by rw [List.drop_eq_nil_of_le (by omega)]; rfl⟩
  | n + 1, j, d, x, hj, hx => by
    have hc : row[j]? = some row[j] := List.getElem?_eq_getElem (by omega)
    have hd : D[j]? = some D[j] := List.getElem?_eq_getElem (by omega)
    have t0 : testM (FN F l) gtab [S row, L D, I d, I j] (.cmp .Eq (.idx (.loc 1) (.loc 3)) (.neg 2)) = some (D[j] == -2) :=
      t_cmp (v_idxL rfl (v_loc rfl) (lvl_at hd)) rfl eqI
    have tc : ∀ (s : Nat) (d' : Int), testM (FN F l) gtab [S row, L D, I d', I j] (.and (.cmp .GtE (.idx (.loc 1) (.loc 3)) (.int 0)) (.cmp .Eq (.idx (.loc 0) (.loc 3)) (.str [s]))) = some (decide (0 ≤ D[j]) && row[j] == s) := fun s d' =>
      t_and (t_cmp (v_idxL rfl (v_loc rfl) (lvl_at hd)) rfl geI) (t_cmp (v_idx (v_loc rfl) (v_loc rfl) hc) rfl eq1)
    have hp : putM [S row, L D, I d, x] 3 (I j) = some [S row, L D, I d, I j] := put_flat (i := 3) rfl hx
    rw [List.range'_succ, List.map_cons, drop_at hc, drop_at hd]
    unfold bal
    by_cases h0 : (D[j] == -2) = true
    · rw [if_pos h0]
      rw [h0] at t0
      exact .inr ⟨l_ret (st_put hp (x_yes t0 (t_ret (x_ret rfl)))), rfl⟩
    rw [if_neg h0]
    rw [Bool.not_eq_true] at h0
    rw [h0] at t0
    have go : ∀ (d' : Int), execM (FN F l) gtab F b_bal [S row, L D, I d, I j] = some (.next [S row, L D, I d', I j]) →
      (∃ d'' x', loopM (fun v ρ => match putM ρ 3 v with
        | some ρ' => execM (FN F l) gtab F b_bal ρ'
        | none => none) (I j :: (List.range' (j + 1) n).map fun j => I (j : Nat)) [S row, L D, I d, x] = some (.next [S row, L D, I d'', x']) ∧ bal d' (row.drop (j + 1)) (D.drop (j + 1)) = (d'' == 0)) ∨
      (loopM (fun v ρ => match putM ρ 3 v with
        | some ρ' => execM (FN F l) gtab F b_bal ρ'
        | none => none) (I j :: (List.range' (j + 1) n).map fun j => I (j : Nat)) [S row, L D, I d, x] = some (.ret (B false)) ∧ bal d' (row.drop (j + 1)) (D.drop (j + 1)) = false) := by
      intro d' h
      rcases bal_loop (F := F) (l := l) hD n (j + 1) d' (I j) (by omega) rfl with ⟨d'', x', e1, e2⟩ | ⟨e1, e2⟩
      · exact .inl ⟨d'', x', l_next (st_put hp h) e1, e2⟩
      · exact .inr ⟨l_next (st_put hp h) e1, e2⟩
    have t40 := tc 40 d
    have t41 := tc 41
    by_cases h1 : (decide (0 ≤ D[j]) && row[j] == 40) = true
    · rw [if_pos h1]
      rw [h1] at t40
      have h41 : (decide (0 ≤ D[j]) && row[j] == 41) = false := by
        rw [Bool.and_eq_true, beq_iff_eq] at h1
        rw [h1.2]; simp
      rw [h41] at t41
      exact go (d + 1) (x_skip t0 (x_yes t40 (t_next (x_aug (v_loc rfl) rfl rfl rfl x_done) (x_skip (t41 _) x_done))))
    rw [if_neg h1]
    rw [Bool.not_eq_true] at h1
    rw [h1] at t40
    by_cases h2 : (decide (0 ≤ D[j]) && row[j] == 41) = true
    · rw [if_pos h2]
      rw [h2] at t41
      exact go (d - 1) (x_skip t0 (x_skip t40 (x_yes (t41 _) (t_next (x_aug (v_loc rfl) rfl rfl rfl x_done) x_done))))
    · rw [if_neg h2]
      rw [Bool.not_eq_true] at h2
      rw [h2] at t41
      exact go d (x_skip t0 (x_skip t40 (x_skip (t41 _) x_done)))

theorem r_bal {F : Nat} (l : Nat) (row : List Nat) (D : List Int) (hrow : row.length < 100000) (hD : D.length = row.length) : FN F (l + 1) 11 [S row, L D] = some (B (bal 0 row D)) := by
  refine FN_run (f := ⟨"is_balanced", 178, 2, none, n_is_balanced, m_is_balanced⟩) (ρ := [S row, L D, .undef, .undef]) rfl rfl rfl ?_
  refine x_assign (v := I 0) rfl rfl (x_range1 (y := row.length) (v_len (v_loc rfl)) (by omega) ?_)
  rcases bal_loop (F := F) (l := l) hD row.length 0 0 .undef (by omega) rfl with ⟨d', x', e1, e2⟩ | ⟨e1, e2⟩
  · refine t_next e1 (x_ret ?_)
    rw [List.drop_zero, List.drop_zero] at e2
    rw [e2]
    exact v_test (t_cmp (v_loc rfl) rfl eqI)
  · rw [List.drop_zero, List.drop_zero] at e2
    rw [e2]
    exact t_ret e1

/-! ## equals_at -/
noncomputable def eqA : Int → Nat → List Nat → List Int → Int × Bool
  | f, j, c :: r, v :: vs => if v == 0 && c == 61 && decide (f < 0) then eqA j (j + 1) r vs else if v == 0 && c == 44 && decide (0 ≤ f) then (f, true) else eqA f (j + 1) r vs
  | f, _, _, _ => (f, false)
noncomputable def b_eqA : MB := (.ite (.and3 (.cmp .Eq (.idx (.loc 1) (.loc 3)) (.int 0)) (.cmp .Eq (.idx (.loc 0) (.loc 3)) (.str [61])) (.cmp .Lt (.loc 2) (.int 0)))
    (.assign 2 (.loc 3) .done)
    .done
    (.ite (.and3 (.cmp .Eq (.idx (.loc 1) (.loc 3)) (.int 0)) (.cmp .Eq (.idx (.loc 0) (.loc 3)) (.str [44])) (.cmp .GtE (.loc 2) (.int 0)))
    (.ret (.tup (.loc 2) (.bool true)))
    .done
    .done))
theorem eqA_loop {F l : Nat} {row : List Nat} {D : List Int} (hD : D.length = row.length) : ∀ (n j : Nat) (f : Int) (x : PV), j + n = row.length → x.isOwn = false →
    (∃ f' x', loopM (fun v ρ => match putM ρ 3 v with
        | some ρ' => execM (FN F l) gtab F b_eqA ρ'
        | none => none) ((List.range' j n).map fun j => I (j : Nat)) [S row, L D, I f, x] = some (.next [S row, L D, I f', x']) ∧ eqA f j (row.drop j) (D.drop j) = (f', false)) ∨
    (∃ f', loopM (fun v ρ => match putM ρ 3 v with
        | some ρ' => execM (FN F l) gtab F b_eqA ρ'
        | none => none) ((List.range' j n).map fun j => I (j : Nat)) [S row, L D, I f, x] = some (.ret (.tup [.int f', .bool true])) ∧ eqA f j (row.drop j) (D.drop j) = (f', true))
  | 0, j, f, x, hj, _ => .inl ⟨f, x, rfl, by rw [List.drop_eq_nil_of_le (by omega)]; rfl⟩
  | n + 1, j, f, x, hj, hx => by
    have hc : row[j]? = some row[j] := List.getElem?_eq_getElem (by omega)
    have hd : D[j]? = some D[j] := List.getElem?_eq_getElem (by omega)
    have t1 : testM (FN F l) gtab [S row, L D, I f, I j] (.and3 (.cmp .Eq (.idx (.loc 1) (.loc 3)) (.int 0)) (.cmp .Eq (.idx (.loc 0) (.loc 3)) (.str [61])) (.cmp .Lt (.loc 2) (.int 0))) = some (D[j] == 0 && row[j] == 61 && decide (f < 0)) :=
      t_and3 (t_cmp (v_idxL rfl (v_loc rfl) (lvl_at hd)) rfl eqI) (t_cmp (v_idx (v_loc rfl) (v_loc rfl) hc) rfl eq1) (t_cmp (v_loc rfl) rfl ltI)
    have t2 : ∀ f, testM (FN F l) gtab [S row, L D, I f, I j] (.and3 (.cmp .Eq (.idx (.loc 1) (.loc 3)) (.int 0)) (.cmp .Eq (.idx (.loc 0) (.loc 3)) (.str [44])) (.cmp .GtE (.loc 2) (.int 0))) = some (D[j] == 0 && row[j] == 44 && decide (0 ≤ f)) := fun f =>
      t_and3 (t_cmp (v_idxL rfl (v_loc rfl) (lvl_at hd)) rfl eqI) (t_cmp (v_idx (v_loc rfl) (v_loc rfl) hc) rfl eq1) (t_cmp (v_loc rfl) rfl geI)
    have hp : putM [S row, L D, I f, x] 3 (I j) = some [S row, L D, I f, I j] := put_flat (i := 3) rfl hx
    rw [List.range'_succ, List.map_cons, drop_at hc, drop_at hd]
    unfold eqA
    have go : ∀ (f' : Int), execM (FN F l) gtab F b_eqA [S row, L D, I f, I j] = some (.next [S row, L D, I f', I j]) →
      (∃ f'' x', loopM (fun v ρ => match putM ρ 3 v with
        | some ρ' => execM (FN F l) gtab F b_eqA ρ'
        | none => none) (I j :: (List.range' (j + 1) n).map fun j => I (j : Nat)) [S row, L D, I f, x] = some (.next [S row, L D, I f'', x']) ∧ eqA f' (j + 1) (row.drop (j + 1)) (D.drop (j + 1)) = (f'', false)) ∨
      (∃ f'', loopM (fun v ρ => match putM ρ 3 v with
        | some ρ' => execM (FN F l) gtab F b_eqA ρ'
        | none => none) (I j :: (List.range' (j + 1) n).map fun j => I (j : Nat)) [S row, L D, I f, x] = some (.ret (.tup [.int f'', .bool true])) ∧ eqA f' (j + 1) (row.drop (j + 1)) (D.drop (j + 1)) = (f'', true)) := by
      intro f' h
      rcases eqA_loop (F := F) (l := l) hD n (j + 1) f' (I j) (by omega) rfl with ⟨f'', x', e1, e2⟩ | ⟨f'', e1, e2⟩
      · exact .inl ⟨f'', x', l_next (st_put hp h) e1, e2⟩
      · exact .inr ⟨f'', l_next (st_put hp h) e1, e2⟩
    by_cases h1 : (D[j] == 0 && row[j] == 61 && decide (f < 0)) = true
    · rw [if_pos h1]
      rw [h1] at t1
      have h44 : (D[j] == 0 && row[j] == 44 && decide (0 ≤ (j : Int))) = false := by
        rw [Bool.and_eq_true, Bool.and_eq_true, beq_iff_eq, beq_iff_eq] at h1
        rw [h1.1.2]; simp
      have t2' := t2 j
      rw [h44] at t2'
      exact go j (x_yes t1 (t_next (x_assign (v := I j) (v_loc rfl) rfl x_done) (x_skip t2' x_done)))
    rw [if_neg h1]
    rw [Bool.not_eq_true] at h1
    rw [h1] at t1
    have t2' := t2 f
    by_cases h2 : (D[j] == 0 && row[j] == 44 && decide (0 ≤ f)) = true
    · rw [if_pos h2]
      rw [h2] at t2'
      exact .inr ⟨f, l_ret (st_put hp (x_skip t1 (x_yes t2' (t_ret (x_ret rfl))))), rfl⟩
    · rw [if_neg h2]
      rw [Bool.not_eq_true] at h2
      rw [h2] at t2'
      exact go f (x_skip t1 (x_skip t2' x_done))

theorem r_eqA {F : Nat} (l : Nat) (row : List Nat) (D : List Int) (hrow : row.length < 100000) (hD : D.length = row.length) :
    FN F (l + 1) 12 [S row, L D] = some (.tup [.int (eqA (-1) 0 row D).1, .bool (eqA (-1) 0 row D).2]) := by
  refine FN_run (f := ⟨"equals_at", 185, 2, none, n_equals_at, m_equals_at⟩) (ρ := [S row, L D, .undef, .undef]) rfl rfl rfl ?_
  refine x_assign (v := I (-1)) rfl rfl (x_range1 (y := row.length) (v_len (v_loc rfl)) (by omega) ?_)
  rcases eqA_loop (F := F) (l := l) hD row.length 0 (-1) .undef (by omega) rfl with ⟨f', x', e1, e2⟩ | ⟨f', e1, e2⟩
  · rw [List.drop_zero, List.drop_zero] at e2
    rw [e2]
    exact t_next e1 (x_ret rfl)
  · rw [List.drop_zero, List.drop_zero] at e2
    rw [e2]
    exact t_ret e1
end Mine

end
section
open PySem PySem.W PyProof.Rows
namespace Mine

/-! ## the outline -/
noncomputable def pu (d : Nat) (s : Nat) (o : List Nat) : List Nat := if d == 0 then s :: o else o
noncomputable def outl : Bool → Nat → List Nat → Option (List Nat)
  | _, d, [] => if d == 0 then some [] else none
  | q, d, c :: r => if c == 39 then (outl (!q) d r).map (pu d 39) else if q then (outl q d r).map (pu d 39)
    else if c == 41 then (if d == 0 then none else (outl q (d - 1) r).map (pu (d - 1) 41))
    else if c == 40 then (outl q (d + 1) r).map (pu d 40) else (outl q d r).map (pu d c)

noncomputable def b_outl3 : MB := (.ite (.cmp .Eq (.loc 4) (.str [41]))
    (.aug 2 .Sub (.int 1) (.ite (.cmp .Lt (.loc 2) (.int 0))
    (.ret .none)
    .done
    .done))
    .done
    (.ite (.cmp .Eq (.loc 2) (.int 0))
    (.aug 1 .Add (.loc 4) .done)
    .done
    (.ite (.cmp .Eq (.loc 4) (.str [40]))
    (.aug 2 .Add (.int 1) .done)
    .done
    .done)))
noncomputable def b_outl : MB := (.ite (.cmp .Eq (.loc 4) (.str [39]))
    (.assign 3 (.not (.loc 3)) .done)
    .done
    (.ite (.or (.cmp .Eq (.loc 4) (.str [39])) (.loc 3))
    (.assign 4 (.str [39]) .done)
    .done b_outl3))

section
variable {F l : Nat} {row acc : List Nat} {q : Bool}
theorem addS {x y : List Nat} (h : x.length + y.length ≤ lim) : pAug .Add (S x) (S y) = some (S (x ++ y)) := by
  show (if x.length + y.length ≤ lim then some (S (x ++ y)) else none) = _
  rw [if_pos h]
/-- behind the closing test -/
theorem outl_rest {d : Nat} {s : Nat} (hl : acc.length < 200000) : execM (FN F l) gtab F (.ite (.cmp .Eq (.loc 2) (.int 0))
    (.aug 1 .Add (.loc 4) .done)
    .done
    (.ite (.cmp .Eq (.loc 4) (.str [40]))
    (.aug 2 .Add (.int 1) .done)
    .done
    .done)) [S row, S acc, I d, B q, S [s]] = some (.next [S row, S (if d == 0 then acc ++ [s] else acc), I (if s == 40 then ((d + 1 : Nat) : Int) else d), B q, S [s]]) := by
  have t1 : testM (FN F l) gtab [S row, S acc, I d, B q, S [s]] (.cmp .Eq (.loc 2) (.int 0)) = some (d == 0) := by
    refine t_cmp (v_loc rfl) rfl (eqI.trans ?_)
    refine congrArg some ?_
    rw [Bool.eq_iff_iff, beq_iff_eq, beq_iff_eq]; omega
  have t2 : ∀ a, testM (FN F l) gtab [S row, S a, I d, B q, S [s]] (.cmp .Eq (.loc 4) (.str [40])) = some (s == 40) := fun a => t_cmp (v_loc rfl) rfl eq1
  have k2 : ∀ a, execM (FN F l) gtab F (.ite (.cmp .Eq (.loc 4) (.str [40]))
    (.aug 2 .Add (.int 1) .done)
    .done
    .done) [S row, S a, I d, B q, S [s]] = some (.next [S row, S a, I (if s == 40 then ((d + 1 : Nat) : Int) else d), B q, S [s]]) := by
    intro a
    have t2' := t2 a
    by_cases h : (s == 40) = true
    · rw [if_pos h]
      rw [h] at t2'
      exact x_yes t2' (t_next (x_aug (v_loc rfl) rfl rfl rfl x_done) x_done)
    · rw [if_neg h]
      rw [Bool.not_eq_true] at h
      rw [h] at t2'
      exact x_skip t2' x_done
  by_cases h : (d == 0) = true
  · rw [if_pos h]
    rw [h] at t1
    refine x_yes t1 (t_next (x_aug (v := S acc) (u := S [s]) (v_loc rfl) (v_loc rfl) (addS (by unfold lim; simp; omega)) rfl x_done) (k2 _))
  · rw [if_neg h]
    rw [Bool.not_eq_true] at h
    rw [h] at t1
    exact x_skip t1 (k2 _)

theorem outl_body {d c : Nat} (hl : acc.length < 200000) : execM (FN F l) gtab F b_outl [S row, S acc, I d, B q, S [c]] =
    (if c == 39 then some (.next [S row, S (if d == 0 then acc ++ [39] else acc), I d, B (!q), S [39]])
     else if q then some (.next [S row, S (if d == 0 then acc ++ [39] else acc), I d, B q, S [39]])
     else if c == 41 then (if d == 0 then some (.ret (.fl .none)) else some (.next [S row, S (if d - 1 == 0 then acc ++ [41] else acc), I ((d - 1 : Nat) : Int), B q, S [41]]))
     else some (.next [S row, S (if d == 0 then acc ++ [c] else acc), I (if c == 40 then ((d + 1 : Nat) : Int) else d), B q, S [c]])) := by
  have s41 : ∀ s (d : Int) p, testM (FN F l) gtab [S row, S acc, I d, B p, S [s]] (.cmp .Eq (.loc 4) (.str [41])) = some (s == 41) := fun s d p => t_cmp (v_loc rfl) rfl eq1
  have s39 : ∀ p, testM (FN F l) gtab [S row, S acc, I d, B p, S [c]] (.cmp .Eq (.loc 4) (.str [39])) = some (c == 39) := fun p => t_cmp (v_loc rfl) rfl eq1
  have q39 : ∀ p, execM (FN F l) gtab F b_outl3 [S row, S acc, I d, B p, S [39]] = some (.next [S row, S (if d == 0 then acc ++ [39] else acc), I d, B p, S [39]]) := fun p =>
    x_skip (s41 39 d p) (outl_rest hl)
  by_cases h39 : (c == 39) = true
  · rw [if_pos h39]
    have s := s39
    rw [h39] at s
    refine x_yes (s q) (t_next (x_assign (v := B (!q)) (v_test (t_not (t_val (v_loc rfl)))) rfl x_done) ?_)
    exact x_yes (t_or_t (s (!q))) (t_next (x_assign (v := S [39]) rfl rfl x_done) (q39 _))
  rw [if_neg h39]
  rw [Bool.not_eq_true] at h39
  have s := s39
  rw [h39] at s
  cases q with
  | true =>
    rw [if_pos rfl]
    exact x_skip (s true) (x_yes (t_or_f (s true) (t_val (v_loc rfl))) (t_next (x_assign (v := S [39]) rfl rfl x_done) (q39 _)))
  | false =>
    rw [if_neg Bool.false_ne_true]
    refine x_skip (s false) (x_skip (t_or_f (s false) (t_val (v_loc rfl))) ?_)
    have t := s41 c d false
    by_cases h41 : (c == 41) = true
    · rw [if_pos h41]
      rw [h41] at t
      have e41 : c = 41 := eq_of_beq h41
      subst e41
      by_cases h0 : (d == 0) = true
      · rw [if_pos h0]
        have e0 : d = 0 := eq_of_beq h0
        subst e0
        exact x_yes t (t_ret (x_aug (v_loc rfl) rfl rfl rfl (x_yes (t_cmp (v_loc rfl) rfl ltI) (t_ret (x_ret rfl)))))
      · rw [if_neg h0]
        have hd : ¬ d = 0 := by simpa using h0
        have e1 : (d : Int) - 1 = ((d - 1 : Nat) : Int) := by omega
        refine x_yes t (t_next (ρ := [S row, S acc, I ((d - 1 : Nat) : Int), B false, S [41]]) (x_aug (w := I ((d - 1 : Nat) : Int)) (v_loc rfl) rfl (by show some (I ((d : Int) - 1)) = _; rw [e1]) rfl (x_skip (t_cmp (v_loc rfl) rfl (ltI.trans ?_)) x_done)) ?_)
        · exact congrArg some (decide_eq_false (by omega))
        · exact outl_rest hl
    · rw [if_neg h41]
      rw [Bool.not_eq_true] at h41
      rw [h41] at t
      exact x_skip t (outl_rest hl)

theorem outl_loop : ∀ (r acc : List Nat) (d : Nat) (q : Bool) (x : PV), acc.length + r.length < 200000 → x.isOwn = false →
    (∃ o q' x', outl q d r = some o ∧ loopM (fun v ρ => match putM ρ 4 v with
        | some ρ' => execM (FN F l) gtab F b_outl ρ'
        | none => none) (r.map fun c => S [c]) [S row, S acc, I d, B q, x] = some (.next [S row, S (acc ++ o), I 0, B q', x'])) ∨
    (outl q d r = none ∧ (loopM (fun v ρ => match putM ρ 4 v with
        | some ρ' => execM (FN F l) gtab F b_outl ρ'
        | none => none) (r.map fun c => S [c]) [S row, S acc, I d, B q, x] = some (.ret (.fl .none)) ∨
      ∃ (a : List Nat) (d' : Nat) (q' : Bool) (x' : PV), ¬ d' = 0 ∧ loopM (fun v ρ => match putM ρ 4 v with
        | some ρ' => execM (FN F l) gtab F b_outl ρ'
        | none => none) (r.map fun c => S [c]) [S row, S acc, I d, B q, x] = some (.next [S row, S a, I d', B q', x'])))
  | [], acc, d, q, x, _, _ => by
    unfold outl
    by_cases h : (d == 0) = true
    · have e0 : d = 0 := eq_of_beq h
      subst e0
      exact .inl ⟨[], q, x, rfl, by rw [List.append_nil]; rfl⟩
    · rw [if_neg h]
      exact .inr ⟨rfl, .inr ⟨acc, d, q, x, by simpa using h, rfl⟩⟩
  | c :: r, acc, d, q, x, hl, hx => by
    rw [List.length_cons] at hl
    have hp : putM [S row, S acc, I d, B q, x] 4 (S [c]) = some [S row, S acc, I d, B q, S [c]] := put_flat (i := 4) rfl hx
    have body := outl_body (F := F) (l := l) (row := row) (acc := acc) (q := q) (d := d) (c := c) (by omega)
    rw [List.map_cons]
    unfold outl
    have go : ∀ (s d₁ d' : Nat) (q' : Bool), execM (FN F l) gtab F b_outl [S row, S acc, I d, B q, S [c]] = some (.next [S row, S (if d₁ == 0 then acc ++ [s] else acc), I d', B q', S [s]]) →
      (∃ o q'' x', (outl q' d' r).map (pu d₁ s) = some o ∧ loopM (fun v ρ => match putM ρ 4 v with
        | some ρ' => execM (FN F l) gtab F b_outl ρ'
        | none => none) (S [c] :: r.map fun c => S [c]) [S row, S acc, I d, B q, x] = some (.next [S row, S (acc ++ o), I 0, B q'', x'])) ∨
      ((outl q' d' r).map (pu d₁ s) = none ∧ (loopM (fun v ρ => match putM ρ 4 v with
        | some ρ' => execM (FN F l) gtab F b_outl ρ'
        | none => none) (S [c] :: r.map fun c => S [c]) [S row, S acc, I d, B q, x] = some (.ret (.fl .none)) ∨
      ∃ (a : List Nat) (d'' : Nat) (q'' : Bool) (x' : PV), ¬ d'' = 0 ∧ loopM (fun v ρ => match putM ρ 4 v with
        | some ρ' => execM (FN F l) gtab F b_outl ρ'
        | none => none) (S [c] :: r.map fun c => S [c]) [S row, S acc, I d, B q, x] = some (.next [S row, S a, I d'', B q'', x']))) := by
      intro s d₁ d' q' h
      have hlen : (if d₁ == 0 then acc ++ [s] else acc).length + r.length < 200000 := by split <;> (try rw [List.length_append, List.length_singleton]) <;> omega
      rcases outl_loop r (if d₁ == 0 then acc ++ [s] else acc) d' q' (S [s]) hlen rfl with ⟨o, q'', x', e1, e2⟩ | ⟨e1, e2⟩
      · refine .inl ⟨pu d₁ s o, q'', x', by rw [e1]; rfl, ?_⟩
        have : acc ++ pu d₁ s o = (if d₁ == 0 then acc ++ [s] else acc) ++ o := by
          unfold pu; split <;> simp
        rw [this]
        exact l_next (st_put hp h) e2
      · refine .inr ⟨by rw [e1]; rfl, ?_⟩
        rcases e2 with e2 | ⟨a, d'', q'', x', e0, e2⟩
        · exact .inl (l_next (st_put hp h) e2)
        · exact .inr ⟨a, d'', q'', x', e0, l_next (st_put hp h) e2⟩
    by_cases h39 : (c == 39) = true
    · rw [if_pos h39]; rw [if_pos h39] at body
      exact go 39 d d (!q) body
    rw [if_neg h39]; rw [if_neg h39] at body
    cases q with
    | true =>
      rw [if_pos rfl]; rw [if_pos rfl] at body
      exact go 39 d d true body
    | false =>
      rw [if_neg Bool.false_ne_true]; rw [if_neg Bool.false_ne_true] at body
      by_cases h41 : (c == 41) = true
      · rw [if_pos h41]; rw [if_pos h41] at body
        by_cases h0 : (d == 0) = true
        · rw [if_pos h0]; rw [if_pos h0] at body
          exact .inr ⟨rfl, .inl (l_ret (st_put hp body))⟩
        · rw [if_neg h0]; rw [if_neg h0] at body
          exact go 41 (d - 1) (d - 1) false body
      · rw [if_neg h41]; rw [if_neg h41] at body
        by_cases h40 : (c == 40) = true
        · rw [if_pos h40]; rw [if_pos h40] at body
          have e40 : c = 40 := eq_of_beq h40
          subst e40
          exact go 40 d (d + 1) false body
        · rw [if_neg h40]; rw [if_neg h40] at body
          exact go c d d false body
end

noncomputable def PV.ofO : Option (List Nat) → PV
  | some o => S o
  | none => .fl .none
theorem r_outline {F : Nat} (l : Nat) (row : List Nat) (hrow : row.length < 100000) : FN F (l + 1) 22 [S row] = some (PV.ofO (outl false 0 row)) := by
  refine FN_run (f := ⟨"_law_outline", 256, 1, none, n_law_outline, m_law_outline⟩) (ρ := [S row, .undef, .undef, .undef, .undef]) rfl rfl rfl ?_
  refine x_assign (v := S []) rfl rfl (x_assign (v := I 0) rfl rfl (x_assign (v := B false) rfl rfl (x_forStr (x := row) (v_loc rfl) ?_)))
  rcases outl_loop (F := F) (l := l) (row := row) row [] 0 false .undef (by simp; omega) rfl with ⟨o, q', x', e1, e2⟩ | ⟨e1, e2⟩
  · rw [e1]
    exact t_next e2 (x_ret (v_cond (t_cmp (v_loc rfl) rfl eqI) (v_loc rfl)))
  · rw [e1]
    rcases e2 with e2 | ⟨a, d', q', x', h0, e2⟩
    · exact t_ret e2
    · refine t_next e2 (x_ret (v_cond (r := false) (t_cmp (v_loc rfl) rfl (eqI.trans ?_)) rfl))
      congr 1
      simpa using h0
end Mine

end
section
open PySem PySem.W PyProof.Rows
namespace Mine

/-! ## _law_first, _law_is_name, _law_is_target -/
theorem scanEnd_zero (f : Nat → Bool) (x : List Nat) : scanEnd f x 0 = (x.takeWhile f).length := by
  unfold scanEnd; rw [List.drop_zero]; omega
theorem take_tw (f : Nat → Bool) (x : List Nat) : x.take (x.takeWhile f).length = x.takeWhile f :=
  (congrArg (List.take (x.takeWhile f).length) (List.takeWhile_append_dropWhile (p := f) (l := x)).symm).trans List.take_left
theorem drop_tw (f : Nat → Bool) (x : List Nat) : x.drop (x.takeWhile f).length = x.dropWhile f :=
  (congrArg (List.drop (x.takeWhile f).length) (List.takeWhile_append_dropWhile (p := f) (l := x)).symm).trans List.drop_left
theorem tw_le (f : Nat → Bool) (x : List Nat) : (x.takeWhile f).length ≤ x.length := (List.takeWhile_prefix f).length_le

theorem v_tup {fn : Nat → List PV → Option PV} {gl : Nat → Option PV} {ρ : List PV} {a b : ME} {x y : Fl} (ha : evalM fn gl ρ a = some (.fl x)) (hb : evalM fn gl ρ b = some (.fl y)) : evalM fn gl ρ (.tup a b) = some (.tup [x, y]) := by
  rw [evalM, ha]; simp only [hb]

theorem r_first {F : Nat} (hF : 200000 < F) (l : Nat) (x sg : List Nat) (hx : x.length < 100000) :
    FN F (l + 1) 23 [S x, S sg] = some (.tup [.str (x.takeWhile sg.contains), .str (x.dropWhile sg.contains)]) := by
  refine FN_run (f := ⟨"_law_first", 263, 2, none, n_law_first, m_law_first⟩) (ρ := [S x, S sg, .undef]) rfl rfl rfl ?_
  refine x_assign (v := I 0) rfl rfl ?_
  have hle := tw_le sg.contains x
  refine x_while (while_scan sg.contains x (fun j => [S x, S sg, I j]) ?_ ?_ ?_ _ 0 F rfl (by omega)) ?_
  · intro j hj
    have hc : x[j]? = some x[j] := List.getElem?_eq_getElem hj
    exact t_and_t (t_cmp (v_loc rfl) (v_len (v_loc rfl)) (lt_int.trans (by simp [hj]))) (t_cmp (v_idx (v_loc rfl) (v_loc rfl) hc) (v_loc rfl) rfl)
  · intro j hj
    exact t_and_f (t_cmp (v_loc rfl) (v_len (v_loc rfl)) (lt_int.trans (by simp; omega)))
  · intro j hj hd
    exact x_aug (v_loc rfl) rfl rfl rfl x_done
  · rw [scanEnd_zero]
    refine x_ret ?_
    have hk : (x.takeWhile sg.contains).length < 2000000 := by omega
    have e1 := v_tup (v_slT (fn := FN F l) (gl := gtab) (ρ := [S x, S sg, I (x.takeWhile sg.contains).length]) (a := .loc 0) (b := .loc 2) (v_loc rfl) (v_loc rfl) hk)
      (v_slF (a := .loc 0) (b := .loc 2) (v_loc rfl) (v_loc rfl) hk)
    rw [take_tw, drop_tw] at e1
    exact e1

theorem aln_contains : (g_letters ++ g_digits).contains = isAln := by
  funext c
  unfold isAln isLet isDig
  rw [List.contains_eq_any_beq, List.contains_eq_any_beq, List.contains_eq_any_beq, List.any_append]

noncomputable def isNm (x : List Nat) : Bool := match x with
  | [] => false
  | c :: r => isLet c && (c :: r).all isAln
theorem dw_nil {f : Nat → Bool} : ∀ {x : List Nat}, (x.dropWhile f == []) = x.all f
  | [] => rfl
  | c :: r => by
    rw [List.dropWhile_cons, List.all_cons]
    cases f c with
    | true => simpa using dw_nil (f := f) (x := r)
    | false => rfl
theorem lim_of {x y : Nat} (h : x + y ≤ 100000) : x + y ≤ lim := by unfold lim; omega
theorem v_aln {fn : Nat → List PV → Option PV} {ρ : List PV} : evalM fn gtab ρ (.bin .Add (.glob 8) (.glob 9)) = some (S (g_letters ++ g_digits)) := by
  show pBin .Add (S g_letters) (S g_digits) = _
  show (if g_letters.length + g_digits.length ≤ lim then some (S (g_letters ++ g_digits)) else none) = _
  rw [if_pos (lim_of (by decide))]
theorem v_tup1 {fn : Nat → List PV → Option PV} {gl : Nat → Option PV} {ρ : List PV} {a : ME} {x y : Fl} (h : evalM fn gl ρ a = some (.tup [x, y])) : evalM fn gl ρ (.idx a (.int 1)) = some (.fl y) := by
  rw [evalM, h]; rfl
theorem v_slT1 {fn : Nat → List PV → Option PV} {gl : Nat → Option PV} {ρ : List PV} {a : ME} {x : List Nat} {k : Nat} (ha : evalM fn gl ρ a = some (S x)) (hk : k < 1000) : evalM fn gl ρ (.slT a (.int (k : Int))) = some (S (x.take k)) :=
  v_slT ha (by rw [evalM]) (by omega)
theorem v_slF1 {fn : Nat → List PV → Option PV} {gl : Nat → Option PV} {ρ : List PV} {a : ME} {x : List Nat} {k : Nat} (ha : evalM fn gl ρ a = some (S x)) (hk : k < 1000) : evalM fn gl ρ (.slF a (.int (k : Int))) = some (S (x.drop k)) :=
  v_slF ha (by rw [evalM]) (by omega)

theorem r_is_name {F : Nat} (hF : 200000 < F) (l : Nat) (x : List Nat) (hx : x.length < 100000) : FN F (l + 2) 24 [S x] = some (B (isNm x)) := by
  refine FN_run (f := ⟨"_law_is_name", 270, 1, none, n_law_is_name, m_law_is_name⟩) (ρ := [S x]) rfl rfl rfl ?_
  refine x_ret (v_test ?_)
  cases x with
  | nil => exact t_and3_f (t_cmp (v_slT1 (k := 1) (v_loc rfl) (by omega)) rfl rfl)
  | cons c r =>
    refine (t_and3 (r := true) (q := isLet c) (p := (c :: r).all isAln) (t_cmp (v_slT1 (k := 1) (v_loc rfl) (by omega)) rfl rfl) (t_cmp (v_idx (k := 0) (v_loc rfl) rfl rfl) (u := S g_letters) rfl rfl) ?_)
    refine t_cmp (v_tup1 (v_call2 (v_loc rfl) v_aln (r_first hF l _ _ hx))) rfl ?_
    show some (((c :: r).dropWhile (g_letters ++ g_digits).contains) == []) = _
    rw [aln_contains, dw_nil]

/-- one pair of brackets off the end -/
noncomputable def strip (x : List Nat) : List Nat := if x.drop (x.length - 2) == [40, 41] then x.take (x.length - 2) else x
theorem clampI_m2 (n : Nat) : clampI n (-2) = n - 2 := by
  unfold clampI
  rw [if_pos (by decide)]; omega
theorem v_m2F {fn : Nat → List PV → Option PV} {gl : Nat → Option PV} {ρ : List PV} {a : ME} {x : List Nat} (ha : evalM fn gl ρ a = some (S x)) : evalM fn gl ρ (.slF a (.neg 2)) = some (S (x.drop (x.length - 2))) := by
  rw [evalM, ha]
  show (if fitI (-2) then some (S (pSlF x (-2))) else none) = _
  rw [if_pos (by decide)]
  unfold pSlF; rw [clampI_m2]
theorem v_m2T {fn : Nat → List PV → Option PV} {gl : Nat → Option PV} {ρ : List PV} {a : ME} {x : List Nat} (ha : evalM fn gl ρ a = some (S x)) : evalM fn gl ρ (.slT a (.neg 2)) = some (S (x.take (x.length - 2))) := by
  rw [evalM, ha]
  show (if fitI (-2) then some (S (pSlT x (-2))) else none) = _
  rw [if_pos (by decide)]
  unfold pSlT; rw [clampI_m2]
theorem strip_len (x : List Nat) : (strip x).length ≤ x.length := by
  unfold strip; split
  · rw [List.length_take]; omega
  · omega
noncomputable def tgt (o : List Nat) : Bool := isNm (strip (strip o))
noncomputable def b_strip : MB := (.ite (.cmp .Eq (.slF (.loc 0) (.neg 2)) (.str [40, 41]))
    (.assign 0 (.slT (.loc 0) (.neg 2)) .done)
    .done
    .done)
theorem strip_step {F l : Nat} {x : List Nat} {y : PV} : execM (FN F l) gtab F b_strip [S x, y] = some (.next [S (strip x), y]) := by
  have t : testM (FN F l) gtab [S x, y] (.cmp .Eq (.slF (.loc 0) (.neg 2)) (.str [40, 41])) = some (x.drop (x.length - 2) == [40, 41]) := t_cmp (v_m2F (v_loc rfl)) rfl rfl
  unfold strip
  by_cases h : (x.drop (x.length - 2) == [40, 41]) = true
  · rw [if_pos h]
    rw [h] at t
    exact x_yes t (t_next (x_assign (v_m2T (v_loc rfl)) rfl x_done) x_done)
  · rw [if_neg h]
    rw [Bool.not_eq_true] at h
    rw [h] at t
    exact x_skip t x_done
theorem strip_loop {F l : Nat} {x : List Nat} : loopM (fun v ρ => match putM ρ 1 v with
        | some ρ' => execM (FN F l) gtab F b_strip ρ'
        | none => none) [I 0, I 1] [S x, .undef] = some (.next [S (strip (strip x)), I 1]) := by
  refine l_next (ρ' := [S (strip x), I 0]) (st_put (fn := FN F l) (gl := gtab) (F := F) (i := 1) (b := b_strip) (v := I 0) (ρ := [S x, .undef]) (ρ' := [S x, I 0]) rfl strip_step) ?_
  exact l_next (ρ' := [S (strip (strip x)), I 1]) (st_put (fn := FN F l) (gl := gtab) (F := F) (i := 1) (b := b_strip) (v := I 1) (ρ := [S (strip x), I 0]) (ρ' := [S (strip x), I 1]) rfl strip_step) rfl
theorem r_law_target {F : Nat} (hF : 200000 < F) (l : Nat) (x : List Nat) (hx : x.length < 100000) : FN F (l + 3) 25 [S x] = some (B (tgt x)) := by
  refine FN_run (f := ⟨"_law_is_target", 277, 1, none, n_law_is_target, m_law_is_target⟩) (ρ := [S x, .undef]) rfl rfl rfl ?_
  have h1 := strip_len x
  have h2 := strip_len (strip x)
  refine x_range1 (y := 2) rfl (by omega) (t_next strip_loop ?_)
  exact x_ret (v_call1 (v_loc rfl) (r_is_name hF l _ (by omega)))

theorem strip_app (y : List Nat) : strip (y ++ [40, 41]) = y := by
  unfold strip
  have e : (y ++ [40, 41]).length - 2 = y.length := by simp
  rw [e]; simp
theorem strip_or (x : List Nat) : (x = strip x ++ [40, 41]) ∨ strip x = x := by
  unfold strip
  split
  · rename_i h
    rw [beq_iff_eq] at h
    left
    have := List.take_append_drop (x.length - 2) x
    rw [h] at this; exact this.symm
  · exact .inr rfl
theorem strip_nm {n : List Nat} (h : n.all isAln = true) : strip n = n := by
  rcases strip_or n with e | e
  · exfalso
    rw [List.all_eq_true] at h
    have : isAln 41 = true := h 41 (by rw [e]; simp)
    exact absurd this (by decide)
  · exact e
theorem isNm_all {n : List Nat} (h : isNm n = true) : n.all isAln = true := by
  cases n with
  | nil => rfl
  | cons c r => unfold isNm at h; rw [Bool.and_eq_true] at h; exact h.2

noncomputable def tails : List (List Nat) := [[], [40, 41], [40, 41, 40, 41]]
theorem tgt_iff (o : List Nat) : tgt o = true ↔ ∃ n t, isNm n = true ∧ t ∈ tails ∧ o = n ++ t := by
  unfold tgt
  constructor
  · intro h
    refine ⟨strip (strip o), ?_⟩
    rcases strip_or o with e | e
    · rcases strip_or (strip o) with e' | e'
      · exact ⟨[40, 41, 40, 41], h, by decide, by rw [e, e', strip_app, strip_app]; simp⟩
      · exact ⟨[40, 41], h, by decide, by rw [e']; exact e⟩
    · rw [e, e] at h ⊢
      exact ⟨[], h, by decide, by simp⟩
  · rintro ⟨n, t, h, ht, rfl⟩
    have hn := strip_nm (isNm_all h)
    unfold tails at ht
    rcases List.mem_cons.mp ht with rfl | ht
    · rw [List.append_nil, hn, hn]; exact h
    rcases List.mem_cons.mp ht with rfl | ht
    · rw [strip_app, hn]; exact h
    rcases List.mem_cons.mp ht with rfl | ht
    · rw [show n ++ [40, 41, 40, 41] = (n ++ [40, 41]) ++ [40, 41] by simp, strip_app, strip_app]; exact h
    · cases ht
end Mine

end
section
open PySem PySem.W PyProof.Rows
namespace Mine

/-! ## _law_typed -/
noncomputable def wCHAR : List Nat := [67, 72, 65, 82, 65, 67, 84, 69, 82]
noncomputable def wFUNC : List Nat := [70, 85, 78, 67, 84, 73, 79, 78]
noncomputable def types6 : List (List Nat) := [[73, 78, 84, 69, 71, 69, 82], [82, 69, 65, 76], [68, 79, 85, 66, 76, 69, 80, 82, 69, 67, 73, 83, 73, 79, 78], [67, 79, 77, 80, 76, 69, 88], [76, 79, 71, 73, 67, 65, 76], [67, 72, 65, 82, 65, 67, 84, 69, 82]]
noncomputable def starRest (rest : List Nat) : List Nat := if ((rest.drop 1).dropWhile isDig).take 2 == [40, 41] then ((rest.drop 1).dropWhile isDig).drop 2 else (rest.drop 1).dropWhile isDig
noncomputable def typedRest (w rest : List Nat) : List Nat := if w == wCHAR && rest.take 1 == [42] then starRest rest else rest
noncomputable def funcTail (x : List Nat) : Bool := isNm (x.takeWhile isAln) && (x.dropWhile isAln).take 2 == [40, 41]
noncomputable def typed1 (w o : List Nat) : Option Bool := if w.isPrefixOf o then (if wFUNC.isPrefixOf (typedRest w (o.drop w.length)) then some (funcTail ((typedRest w (o.drop w.length)).drop 8)) else none) else none
noncomputable def typed (o : List Nat) : Bool := (types6.findSome? fun w => typed1 w o).getD false

noncomputable def b_typed2 : MB := (.ite (.starts (.loc 2) (.str [70, 85, 78, 67, 84, 73, 79, 78]))
    (.unpack 3 4 (.call2 23 (.slF (.loc 2) (.int 8)) (.bin .Add (.glob 8) (.glob 9))) (.ret (.and (.call1 24 (.loc 3)) (.cmp .Eq (.slT (.loc 4) (.int 2)) (.str [40, 41])))))
    .done
    .done)
noncomputable def b_typed : MB := (.ite (.starts (.loc 0) (.loc 1))
    (.assign 2 (.slF (.loc 0) (.len (.loc 1))) (.ite (.and (.cmp .Eq (.loc 1) (.str [67, 72, 65, 82, 65, 67, 84, 69, 82])) (.cmp .Eq (.slT (.loc 2) (.int 1)) (.str [42])))
    (.assign 2 (.idx (.call2 23 (.slF (.loc 2) (.int 1)) (.glob 9)) (.int 1)) (.ite (.cmp .Eq (.slT (.loc 2) (.int 2)) (.str [40, 41]))
    (.assign 2 (.slF (.loc 2) (.int 2)) .done)
    .done
    .done))
    .done
    b_typed2))
    .done
    .done)
theorem v_starts {fn : Nat → List PV → Option PV} {gl : Nat → Option PV} {ρ : List PV} {a b : ME} {x y : List Nat} (ha : evalM fn gl ρ a = some (S x)) (hb : evalM fn gl ρ b = some (S y)) : testM fn gl ρ (.starts a b) = some (y.isPrefixOf x) := by
  refine t_val ?_
  rw [evalM, ha]; simp only [hb]
theorem x_yes2 {fn : Nat → List PV → Option PV} {gl : Nat → Option PV} {F : Nat} {c : ME} {t e k : MB} {ρ : List PV} {R : Option Res} (h : testM fn gl ρ c = some true) (h2 : execM fn gl F t ρ = R) : execM fn gl F (.ite c t e k) ρ = thenM R (execM fn gl F k) := by
  rw [x_ite h, if_pos rfl, h2]
theorem dw_le {f : Nat → Bool} {x : List Nat} : (x.dropWhile f).length ≤ x.length := (List.dropWhile_suffix f).length_le
theorem dig_contains : g_digits.contains = isDig := rfl

section
variable {F : Nat} (hF : 200000 < F) {l : Nat} {o : List Nat} (ho : o.length < 100000)
include hF ho
theorem typed2_exec {w x : List Nat} {x3 x4 : PV} (hx : x.length < 100000) (h3 : x3.isOwn = false) (h4 : x4.isOwn = false) :
    (wFUNC.isPrefixOf x = false ∧ execM (FN F (l + 2)) gtab F b_typed2 [S o, S w, S x, x3, x4] = some (.next [S o, S w, S x, x3, x4])) ∨
    (wFUNC.isPrefixOf x = true ∧ execM (FN F (l + 2)) gtab F b_typed2 [S o, S w, S x, x3, x4] = some (.ret (B (funcTail (x.drop 8))))) := by
  have t : testM (FN F (l + 2)) gtab [S o, S w, S x, x3, x4] (.starts (.loc 2) (.str [70, 85, 78, 67, 84, 73, 79, 78])) = some (wFUNC.isPrefixOf x) := v_starts (v_loc rfl) rfl
  cases h : wFUNC.isPrefixOf x with
  | false =>
    rw [h] at t
    exact .inl ⟨rfl, x_skip t x_done⟩
  | true =>
    rw [h] at t
    refine .inr ⟨rfl, x_yes t (t_ret ?_)⟩
    have hd : (x.drop 8).length < 100000 := by rw [List.length_drop]; omega
    have hf := r_first hF (l + 1) (x.drop 8) (g_letters ++ g_digits) hd
    rw [aln_contains] at hf
    have e := v_call2 (fn := FN F (l + 2)) (gl := gtab) (ρ := [S o, S w, S x, x3, x4]) (a := .slF (.loc 2) (.int 8)) (b := .bin .Add (.glob 8) (.glob 9)) (v_slF1 (k := 8) (v_loc rfl) (by omega)) v_aln hf
    have hput : put2 [S o, S w, S x, x3, x4] 3 4 (.tup [.str ((x.drop 8).takeWhile isAln), .str ((x.drop 8).dropWhile isAln)]) = some [S o, S w, S x, S ((x.drop 8).takeWhile isAln), S ((x.drop 8).dropWhile isAln)] := by
      unfold put2
      simp only [put_flat (ρ := [S o, S w, S x, x3, x4]) (i := 3) (f := .str ((x.drop 8).takeWhile isAln)) rfl h3]
      exact put_flat (i := 4) rfl h4
    refine x_unpack e hput (x_ret (v_test ?_))
    have hn := tw_le isAln (x.drop 8)
    exact t_and (t_val (v_call1 (v_loc rfl) (r_is_name hF l _ (by omega)))) (t_cmp (v_slT1 (k := 2) (v_loc rfl) (by omega)) rfl rfl)

theorem typed_exec {w : List Nat} {x2 x3 x4 : PV} (h2 : x2.isOwn = false) (h3 : x3.isOwn = false) (h4 : x4.isOwn = false) :
    (typed1 w o = none ∧ ∃ x2', x2'.isOwn = false ∧ execM (FN F (l + 2)) gtab F b_typed [S o, S w, x2, x3, x4] = some (.next [S o, S w, x2', x3, x4])) ∨
    (∃ b, typed1 w o = some b ∧ execM (FN F (l + 2)) gtab F b_typed [S o, S w, x2, x3, x4] = some (.ret (B b))) := by
  have t : testM (FN F (l + 2)) gtab [S o, S w, x2, x3, x4] (.starts (.loc 0) (.loc 1)) = some (w.isPrefixOf o) := v_starts (v_loc rfl) (v_loc rfl)
  unfold typed1
  cases h : w.isPrefixOf o with
  | false =>
    rw [h] at t
    exact .inl ⟨rfl, x2, h2, x_skip t x_done⟩
  | true =>
    rw [h] at t
    rw [if_pos rfl]
    have hw : w.length ≤ o.length := (List.isPrefixOf_iff_prefix.mp h).length_le
    have hrl : (o.drop w.length).length < 100000 := by rw [List.length_drop]; omega
    generalize hr : o.drop w.length = rest at *
    have e1 : evalM (FN F (l + 2)) gtab [S o, S w, x2, x3, x4] (.slF (.loc 0) (.len (.loc 1))) = some (S rest) := by
      rw [← hr]; exact v_slF (v_loc rfl) (v_len (v_loc rfl)) (by omega)
    have p1 : putM [S o, S w, x2, x3, x4] 2 (S rest) = some [S o, S w, S rest, x3, x4] := put_flat (i := 2) rfl h2
    have t2 : testM (FN F (l + 2)) gtab [S o, S w, S rest, x3, x4] (.and (.cmp .Eq (.loc 1) (.str [67, 72, 65, 82, 65, 67, 84, 69, 82])) (.cmp .Eq (.slT (.loc 2) (.int 1)) (.str [42]))) = some (w == wCHAR && rest.take 1 == [42]) :=
      t_and (t_cmp (v_loc rfl) rfl rfl) (t_cmp (v_slT1 (k := 1) (v_loc rfl) (by omega)) rfl rfl)
    have fin : ∀ (x : List Nat), x.length < 100000 → (∀ (R : Option Res), execM (FN F (l + 2)) gtab F b_typed2 [S o, S w, S x, x3, x4] = R → execM (FN F (l + 2)) gtab F b_typed [S o, S w, x2, x3, x4] = thenM R (execM (FN F (l + 2)) gtab F .done)) → 
      ((if wFUNC.isPrefixOf x then some (funcTail (x.drop 8)) else none) = none ∧ ∃ x2' : PV, x2'.isOwn = false ∧ execM (FN F (l + 2)) gtab F b_typed [S o, S w, x2, x3, x4] = some (.next [S o, S w, x2', x3, x4])) ∨
      (∃ b, (if wFUNC.isPrefixOf x then some (funcTail (x.drop 8)) else none) = some b ∧ execM (FN F (l + 2)) gtab F b_typed [S o, S w, x2, x3, x4] = some (.ret (B b))) := by
      intro x hx hgo
      rcases typed2_exec hF (l := l) ho (w := w) hx h3 h4 with ⟨a, b⟩ | ⟨a, b⟩
      · rw [a]; exact .inl ⟨rfl, S x, rfl, hgo _ b⟩
      · rw [a]; exact .inr ⟨_, rfl, hgo _ b⟩
    unfold typedRest
    by_cases hs : (w == wCHAR && rest.take 1 == [42]) = true
    · rw [if_pos hs]
      rw [hs] at t2
      have hd1 : (rest.drop 1).length < 100000 := by rw [List.length_drop]; omega
      have hdw := dw_le (f := isDig) (x := rest.drop 1)
      have e2 : evalM (FN F (l + 2)) gtab [S o, S w, S rest, x3, x4] (.idx (.call2 23 (.slF (.loc 2) (.int 1)) (.glob 9)) (.int 1)) = some (S ((rest.drop 1).dropWhile isDig)) :=
        v_tup1 (v_call2 (v_slF1 (k := 1) (v_loc rfl) (by omega)) rfl (r_first hF (l + 1) (rest.drop 1) g_digits hd1))
      have t3 : testM (FN F (l + 2)) gtab [S o, S w, S ((rest.drop 1).dropWhile isDig), x3, x4] (.cmp .Eq (.slT (.loc 2) (.int 2)) (.str [40, 41])) = some (((rest.drop 1).dropWhile isDig).take 2 == [40, 41]) :=
        t_cmp (v_slT1 (k := 2) (v_loc rfl) (by omega)) rfl rfl
      unfold starRest
      by_cases hp : (((rest.drop 1).dropWhile isDig).take 2 == [40, 41]) = true
      · rw [if_pos hp]
        rw [hp] at t3
        refine fin _ (by rw [List.length_drop]; omega) fun R hR => ?_
        refine x_yes2 t ?_
        refine x_assign e1 p1 (x_yes t2 (t_next (x_assign e2 rfl (x_yes t3 (t_next (x_assign (v_slF1 (k := 2) (v_loc rfl) (by omega)) rfl x_done) x_done))) hR))
      · rw [if_neg hp]
        rw [Bool.not_eq_true] at hp
        rw [hp] at t3
        refine fin _ (by omega) fun R hR => ?_
        refine x_yes2 t ?_
        refine x_assign e1 p1 (x_yes t2 (t_next (x_assign e2 rfl (x_skip t3 x_done)) hR))
    · rw [if_neg hs]
      rw [Bool.not_eq_true] at hs
      rw [hs] at t2
      refine fin _ hrl fun R hR => ?_
      refine x_yes2 t ?_
      exact x_assign e1 p1 (x_skip t2 hR)

theorem typed_loop : ∀ (ws : List (List Nat)) (x1 x2 x3 x4 : PV), x1.isOwn = false → x2.isOwn = false → x3.isOwn = false → x4.isOwn = false →
    (ws.findSome? (fun w => typed1 w o) = none ∧ ∃ x1' x2', loopM (fun v ρ => match putM ρ 1 v with
        | some ρ' => execM (FN F (l + 2)) gtab F b_typed ρ'
        | none => none) (ws.map S) [S o, x1, x2, x3, x4] = some (.next [S o, x1', x2', x3, x4])) ∨
    (∃ b, ws.findSome? (fun w => typed1 w o) = some b ∧ loopM (fun v ρ => match putM ρ 1 v with
        | some ρ' => execM (FN F (l + 2)) gtab F b_typed ρ'
        | none => none) (ws.map S) [S o, x1, x2, x3, x4] = some (.ret (B b)))
  | [], x1, x2, x3, x4, _, _, _, _ => .inl ⟨rfl, x1, x2, rfl⟩
  | w :: ws, x1, x2, x3, x4, h1, h2, h3, h4 => by
    have hp : putM [S o, x1, x2, x3, x4] 1 (S w) = some [S o, S w, x2, x3, x4] := put_flat (i := 1) rfl h1
    rw [List.map_cons, List.findSome?_cons]
    rcases typed_exec hF (l := l) ho (w := w) h2 h3 h4 with ⟨a, x2', hx2, b⟩ | ⟨r, a, b⟩
    · rw [a]
      rcases typed_loop ws (S w) x2' x3 x4 rfl hx2 h3 h4 with ⟨c, x1', x2'', d⟩ | ⟨r, c, d⟩
      · exact .inl ⟨c, x1', x2'', l_next (st_put hp b) d⟩
      · exact .inr ⟨r, c, l_next (st_put hp b) d⟩
    · rw [a]
      exact .inr ⟨r, rfl, l_ret (st_put hp b)⟩

theorem r_typed : FN F (l + 3) 26 [S o] = some (B (typed o)) := by
  refine FN_run (f := ⟨"_law_typed", 284, 1, none, n_law_typed, m_law_typed⟩) (ρ := [S o, .undef, .undef, .undef, .undef]) rfl rfl rfl ?_
  have e : execM (FN F (l + 2)) gtab F m_law_typed [S o, .undef, .undef, .undef, .undef] = thenM (loopM (fun v ρ => match putM ρ 1 v with
        | some ρ' => execM (FN F (l + 2)) gtab F b_typed ρ'
        | none => none) (types6.map S) [S o, .undef, .undef, .undef, .undef]) (execM (FN F (l + 2)) gtab F (.ret (.bool false))) := by
    unfold m_law_typed
    rw [execM]
    rfl
  show execM (FN F (l + 2)) gtab F m_law_typed _ = _
  rw [e]
  unfold typed
  rcases typed_loop hF (l := l) ho types6 .undef .undef .undef .undef rfl rfl rfl rfl with ⟨c, x1', x2', d⟩ | ⟨r, c, d⟩
  · rw [c]; exact t_next d (x_ret rfl)
  · rw [c]; exact t_ret d
end
end Mine

end
section
open PySem PySem.W PyProof.Rows
namespace Mine

noncomputable def wAif : List Nat := [97, 105, 102]
noncomputable def wLif : List Nat := [108, 105, 102]
noncomputable def wIf : List Nat := [105, 102]
noncomputable def wCgoto : List Nat := [99, 103, 111, 116, 111]
noncomputable def wGoto : List Nat := [103, 111, 116, 111]
noncomputable def wAgoto : List Nat := [97, 103, 111, 116, 111]
noncomputable def wSetl : List Nat := [115, 101, 116, 108, 97, 98, 101, 108]
noncomputable def wFunction : List Nat := [102, 117, 110, 99, 116, 105, 111, 110]
noncomputable def wDo : List Nat := [100, 111]
noncomputable def wAssign : List Nat := [97, 115, 115, 105, 103, 110]
noncomputable def pELSEIF : List Nat := [69, 76, 83, 69, 73, 70, 40]
noncomputable def pGOTO : List Nat := [71, 79, 84, 79]
noncomputable def pASSIGN : List Nat := [65, 83, 83, 73, 71, 78]

noncomputable def dictOf : MB → List (List Nat × List Nat)
  | .ret (.dict l) => l
  | _ => []
noncomputable def lone : List (List Nat × List Nat) := dictOf m_law_lone
noncomputable def begins34 : List (List Nat × List Nat) := dictOf m_law_begins

theorem okD_lone : okD lone = true := by decide
theorem okD_begins : okD begins34 = true := by decide
theorem r_lone {F : Nat} (l : Nat) : FN F (l + 1) 21 [] = some (.dict lone) := by
  refine FN_run (f := ⟨"_law_lone", 249, 0, none, n_law_lone, m_law_lone⟩) (ρ := []) rfl rfl rfl (x_ret (e := .dict lone) ?_)
  rw [evalM, if_pos okD_lone]
theorem r_begins {F : Nat} (l : Nat) : FN F (l + 1) 20 [] = some (.dict begins34) := by
  refine FN_run (f := ⟨"_law_begins", 242, 0, none, n_law_begins, m_law_begins⟩) (ρ := []) rfl rfl rfl (x_ret (e := .dict begins34) ?_)
  rw [evalM, if_pos okD_begins]
theorem ok_sorted : (decide (begins34.length < 64) && begins34.all (fun p => okS p.1)) = true := by decide
noncomputable def opens34 : List (List Nat) := sortS (begins34.map (·.1))

noncomputable def doTail (n0 : List Nat) : List Nat := if n0.take 1 == [44] then n0.drop 1 else n0
noncomputable def isDo (h : List Nat) : Bool := h.take 2 == [68, 79] && (h.drop 2).takeWhile isDig != [] && isNm (doTail ((h.drop 2).dropWhile isDig))
noncomputable def LWeq (oh ot : List Nat) : List Nat := if ot.contains 44 then (if isDo oh then wDo else []) else if tgt oh then wAssign else if oh.take 4 == [73, 70, 40, 41] && tgt (oh.drop 4) then wLif else []

noncomputable def gotoW : List Nat → List Nat
  | [] => []
  | c :: t => if c == 40 then wCgoto else if (c :: t).all isDig then wGoto else if isLet c then wAgoto else []
noncomputable def ifW : List Nat → List Nat
  | [] => []
  | c :: _ => if isDig c then wAif else wLif
noncomputable def bestOf (ws : List (List Nat)) (o b : List Nat) : List Nat := ws.foldl (fun b w => if w.isPrefixOf o && decide (b.length < w.length) then w else b) b
noncomputable def LWne (o : List Nat) : List Nat := match lone.lookup o with
  | some w => w
  | none => if o.take 4 == [73, 70, 40, 41] then ifW (o.drop 4)
    else if o.take 7 == pELSEIF then []
    else if o.take 4 == pGOTO then gotoW (o.drop 4)
    else if o.take 6 == pASSIGN && isDig ((o.drop 6).headD 0) then wSetl
    else if typed o then wFunction
    else (begins34.lookup (bestOf opens34 o [])).getD []

theorem findC_split {c : Nat} : ∀ (h : List Nat) (t : List Nat) (n : Nat), c ∉ h → findC c (h ++ c :: t) n = ((n + h.length : Nat) : Int)
  | [], t, n, _ => by
    show (if c == c then (n : Int) else _) = _
    rw [if_pos (beq_self_eq_true c)]; rfl
  | d :: r, t, n, hn => by
    have hd : (d == c) = false := by
      have : ¬ d = c := fun e => hn (by rw [e]; exact List.mem_cons_self ..)
      simpa using this
    show (if d == c then (n : Int) else findC c (r ++ c :: t) (n + 1)) = _
    rw [hd, if_neg Bool.false_ne_true, findC_split r t (n + 1) fun hm => hn (List.mem_cons_of_mem _ hm), List.length_cons]
    congr 1; omega
theorem lookup_any {l : List (List Nat × List Nat)} {o : List Nat} : l.any (fun p => p.1 == o) = (l.lookup o).isSome := by
  induction l with
  | nil => rfl
  | cons p r ih =>
    rw [List.any_cons, ih, List.lookup_cons]
    cases h : p.1 == o with
    | true => have := eq_of_beq h; rw [this]; simp
    | false =>
      have : (o == p.1) = false := by
        have h' : ¬ p.1 = o := by simpa using h
        simpa using fun e => h' e.symm
      rw [this]; simp

section
variable {F : Nat} (hF : 200000 < F) {l : Nat} {row o : List Nat} (hrow : row.length < 100000) (ho : o.length < 100000)
abbrev U : PV := .undef
include hF hrow ho

theorem r_law_eq {oh ot : List Nat} (he : outl false 0 row = some o) (hs : o = oh ++ 61 :: ot) (hn : 61 ∉ oh) : FN F (l + 5) 27 [S row] = some (S (LWeq oh ot)) := by
  refine FN_run (f := ⟨"_law_word", 291, 1, none, n_law_word, m_law_word⟩) (ρ := [S row, U, U, U, U, U, U, U, U, U]) rfl rfl rfl ?_
  have e0 : FN F (l + 4) 22 [S row] = some (S o) := by rw [r_outline (l + 3) row hrow, he]; rfl
  have hlen : o.length = oh.length + 1 + ot.length := by rw [hs]; simp; omega
  refine x_assign (v := S o) (v_call1 (v_loc rfl) e0) rfl (x_skip (t_cmp (v_loc rfl) rfl rfl) ?_)
  have tin : testM (FN F (l + 4)) gtab [S row, S o, U, U, U, U, U, U, U, U] (.cmp .In (.str [61]) (.loc 1)) = some true := by
    refine t_cmp rfl (v_loc rfl) (congrArg some ?_)
    rw [hs]; simp
  refine x_yes tin (t_ret ?_)
  have ef : evalM (FN F (l + 4)) gtab [S row, S o, U, U, U, U, U, U, U, U] (.find (.loc 1) (.str [61])) = some (I (oh.length : Nat)) := by
    have : findC 61 o 0 = ((oh.length : Nat) : Int) := by rw [hs, findC_split oh ot 0 hn]; simp
    show some (I (findC 61 o 0)) = _
    rw [this]
  refine x_assign ef rfl ?_
  have eh : o.take oh.length = oh := by rw [hs]; exact List.take_left
  have et : o.drop (oh.length + 1) = ot := by rw [hs, ← List.drop_drop, List.drop_left]; rfl
  have e3 := v_slT (fn := FN F (l + 4)) (gl := gtab) (ρ := [S row, S o, I (oh.length : Nat), U, U, U, U, U, U, U]) (a := .loc 1) (b := .loc 2) (v_loc rfl) (v_loc rfl) (by omega)
  rw [eh] at e3
  refine x_assign e3 rfl ?_
  have e4 := v_slF (fn := FN F (l + 4)) (gl := gtab) (ρ := [S row, S o, I (oh.length : Nat), S oh, U, U, U, U, U, U]) (a := .loc 1) (b := .bin .Add (.loc 2) (.int 1)) (k := oh.length + 1) (v_loc rfl) (v_add (i := (oh.length : Nat)) (j := 1) (v_loc rfl) rfl) (by omega)
  rw [et] at e4
  refine x_assign e4 rfl ?_
  have tc : testM (FN F (l + 4)) gtab [S row, S o, I (oh.length : Nat), S oh, S ot, U, U, U, U, U] (.cmp .In (.str [44]) (.loc 4)) = some (ot.contains 44) := t_cmp rfl (v_loc rfl) rfl
  unfold LWeq
  by_cases hc : ot.contains 44 = true
  · rw [if_pos hc]
    rw [hc] at tc
    refine x_yes tc (t_ret ?_)
    have hd2 : (oh.drop 2).length < 100000 := by rw [List.length_drop]; omega
    have ed := v_call2 (fn := FN F (l + 4)) (gl := gtab) (ρ := [S row, S o, I (oh.length : Nat), S oh, S ot, U, U, U, U, U]) (a := .slF (.loc 3) (.int 2)) (b := .glob 9) (v_slF1 (k := 2) (v_loc rfl) (by omega)) rfl (r_first hF (l + 3) (oh.drop 2) g_digits hd2)
    rw [dig_contains] at ed
    have hdl := dw_le (f := isDig) (x := oh.drop 2)
    refine x_unpack ed rfl ?_
    have fin : ∀ n : List Nat, n.length < 100000 → execM (FN F (l + 4)) gtab F (.ret (.cond (.and3 (.cmp .Eq (.slT (.loc 3) (.int 2)) (.str [68, 79])) (.cmp .NotEq (.loc 5) (.str [])) (.call1 24 (.loc 6))) (.str [100, 111]) (.str [])))
        [S row, S o, I (oh.length : Nat), S oh, S ot, S ((oh.drop 2).takeWhile isDig), S n, U, U, U] = some (.ret (S (if oh.take 2 == [68, 79] && (oh.drop 2).takeWhile isDig != [] && isNm n then wDo else []))) := by
      intro n hn
      refine x_ret (v_cond (r := oh.take 2 == [68, 79] && (oh.drop 2).takeWhile isDig != [] && isNm n) (t_and3 (t_cmp (v_slT1 (k := 2) (v_loc rfl) (by omega)) rfl rfl) (t_cmp (v_loc rfl) rfl rfl) (t_val (v_call1 (v_loc rfl) (r_is_name hF (l + 2) n hn)))) ?_)
      split <;> rfl
    unfold isDo doTail
    have t6 : testM (FN F (l + 4)) gtab [S row, S o, I (oh.length : Nat), S oh, S ot, S ((oh.drop 2).takeWhile isDig), S ((oh.drop 2).dropWhile isDig), U, U, U] (.cmp .Eq (.slT (.loc 6) (.int 1)) (.str [44])) = some (((oh.drop 2).dropWhile isDig).take 1 == [44]) :=
      t_cmp (v_slT1 (k := 1) (v_loc rfl) (by omega)) rfl rfl
    by_cases h6 : (((oh.drop 2).dropWhile isDig).take 1 == [44]) = true
    · rw [if_pos h6]
      rw [h6] at t6
      refine x_yes t6 (t_next (x_assign (v_slF1 (k := 1) (v_loc rfl) (by omega)) rfl x_done) (fin _ (by rw [List.length_drop]; omega)))
    · rw [if_neg h6]
      rw [Bool.not_eq_true] at h6
      rw [h6] at t6
      exact x_skip t6 (fin _ (by omega))
  · rw [if_neg hc]
    rw [Bool.not_eq_true] at hc
    rw [hc] at tc
    refine x_skip tc ?_
    have t1 : testM (FN F (l + 4)) gtab [S row, S o, I (oh.length : Nat), S oh, S ot, U, U, U, U, U] (.call1 25 (.loc 3)) = some (tgt oh) := t_val (v_call1 (v_loc rfl) (r_law_target hF (l + 1) oh (by omega)))
    by_cases h1 : tgt oh = true
    · rw [if_pos h1]
      rw [h1] at t1
      exact x_yes t1 (t_ret (x_ret rfl))
    · rw [if_neg h1]
      rw [Bool.not_eq_true] at h1
      rw [h1] at t1
      refine x_skip t1 (x_ret (v_cond (r := oh.take 4 == [73, 70, 40, 41] && tgt (oh.drop 4)) (t_and (t_cmp (v_slT1 (k := 4) (v_loc rfl) (by omega)) rfl rfl) (t_val (v_call1 (v_slF1 (k := 4) (v_loc rfl) (by omega)) (r_law_target hF (l + 1) _ (by rw [List.length_drop]; omega))))) ?_))
      split <;> rfl
end
end Mine

end
section
open PySem PySem.W PyProof.Rows
namespace Mine
section
variable {F : Nat} (hF : 200000 < F) {l : Nat} {row o : List Nat} (hrow : row.length < 100000) (ho : o.length < 100000)
include hF hrow
theorem r_law_none (he : outl false 0 row = none) : FN F (l + 5) 27 [S row] = some (S []) := by
  refine FN_run (f := ⟨"_law_word", 291, 1, none, n_law_word, m_law_word⟩) (ρ := [S row, U, U, U, U, U, U, U, U, U]) rfl rfl rfl ?_
  have e0 : FN F (l + 4) 22 [S row] = some (.fl .none) := by rw [r_outline (l + 3) row hrow, he]; rfl
  exact x_assign (v := .fl .none) (v_call1 (v_loc rfl) e0) rfl (x_yes (t_cmp (v_loc rfl) rfl rfl) (t_ret (x_ret rfl)))

include ho
theorem best_loop : ∀ (ws : List (List Nat)) (b : List Nat) (x : PV), x.isOwn = false → ∃ x', loopM (fun v ρ => match putM ρ 9 v with
        | some ρ' => execM (FN F l) gtab F (.ite (.and (.starts (.loc 1) (.loc 9)) (.cmp .Gt (.len (.loc 9)) (.len (.loc 8))))
    (.assign 8 (.loc 9) .done)
    .done
    .done) ρ'
        | none => none) (ws.map S) [S row, S o, U, U, U, U, U, U, S b, x] = some (.next [S row, S o, U, U, U, U, U, U, S (bestOf ws o b), x'])
  | [], b, x, _ => ⟨x, rfl⟩
  | w :: ws, b, x, hx => by
    obtain ⟨x', e⟩ := best_loop ws (if w.isPrefixOf o && decide (b.length < w.length) then w else b) (S w) rfl
    refine ⟨x', ?_⟩
    have hp : putM [S row, S o, U, U, U, U, U, U, S b, x] 9 (S w) = some [S row, S o, U, U, U, U, U, U, S b, S w] := put_flat (i := 9) rfl hx
    have t : testM (FN F l) gtab [S row, S o, U, U, U, U, U, U, S b, S w] (.and (.starts (.loc 1) (.loc 9)) (.cmp .Gt (.len (.loc 9)) (.len (.loc 8)))) = some (w.isPrefixOf o && decide (b.length < w.length)) :=
      t_and (v_starts (v_loc rfl) (v_loc rfl)) (t_cmp (v_len (v_loc rfl)) (v_len (v_loc rfl)) (gtI.trans (congrArg some (by simp))))
    rw [List.map_cons]
    show _ = some (Res.next [S row, S o, U, U, U, U, U, U, S (bestOf ws o (if w.isPrefixOf o && decide (b.length < w.length) then w else b)), x'])
    by_cases h : (w.isPrefixOf o && decide (b.length < w.length)) = true
    · rw [if_pos h] at e ⊢
      rw [h] at t
      exact l_next (st_put hp (x_yes t (t_next (x_assign (v := S w) (v_loc rfl) rfl x_done) x_done))) e
    · rw [if_neg h] at e ⊢
      rw [Bool.not_eq_true] at h
      rw [h] at t
      exact l_next (st_put hp (x_skip t x_done)) e

theorem x_forList {fn : Nat → List PV → Option PV} {gl : Nat → Option PV} {i : Nat} {e : ME} {b k : MB} {ρ : List PV} {x : List Fl} {r : Option Res} (h : evalM fn gl ρ e = some (.list x)) (ho : ρ.any PV.isOwn = false)
    (h2 : thenM (loopM (fun v ρ => match putM ρ i v with
        | some ρ' => execM fn gl F b ρ'
        | none => none) (x.map .fl) ρ) (execM fn gl F k) = r) : execM fn gl F (.forList i e b k) ρ = r := by
  rw [execM, h]; simp only [ho]; exact h2

theorem v_opens {ρ : List PV} : evalM (FN F (l + 1)) gtab ρ (.sorted (.call0 20)) = some (.list (opens34.map .str)) := by
  have e : evalM (FN F (l + 1)) gtab ρ (.call0 20) = some (.dict begins34) := r_begins l
  rw [evalM, e]; simp only []
  rw [if_pos ok_sorted]; rfl

theorem r_law_ne (he : outl false 0 row = some o) (hn : 61 ∉ o) : FN F (l + 5) 27 [S row] = some (S (LWne o)) := by
  refine FN_run (f := ⟨"_law_word", 291, 1, none, n_law_word, m_law_word⟩) (ρ := [S row, U, U, U, U, U, U, U, U, U]) rfl rfl rfl ?_
  have e0 : FN F (l + 4) 22 [S row] = some (S o) := by rw [r_outline (l + 3) row hrow, he]; rfl
  refine x_assign (v := S o) (v_call1 (v_loc rfl) e0) rfl (x_skip (t_cmp (v_loc rfl) rfl rfl) ?_)
  have tin : testM (FN F (l + 4)) gtab [S row, S o, U, U, U, U, U, U, U, U] (.cmp .In (.str [61]) (.loc 1)) = some false := by
    refine t_cmp rfl (v_loc rfl) (congrArg some ?_)
    simpa using hn
  refine x_skip tin ?_
  have e21 : ∀ {ρ : List PV}, evalM (FN F (l + 4)) gtab ρ (.call0 21) = some (.dict lone) := fun {ρ} => r_lone (l + 3)
  have pin : pCmp .In (S o) (.dict lone) = some (lone.any (fun p => p.1 == o)) := by
    cases o with
    | nil => rfl
    | cons c r => cases r <;> rfl
  have tl : testM (FN F (l + 4)) gtab [S row, S o, U, U, U, U, U, U, U, U] (.cmp .In (.loc 1) (.call0 21)) = some (lone.any (fun p => p.1 == o)) := t_cmp (v_loc rfl) e21 pin
  rw [lookup_any] at tl
  unfold LWne
  cases hl : lone.lookup o with
  | some w =>
    rw [hl] at tl
    refine x_yes tl (t_ret (x_ret ?_))
    rw [evalM, e21]; simp only [v_loc (fn := FN F (l + 4)) (gl := gtab) (ρ := [S row, S o, U, U, U, U, U, U, U, U]) (i := 1) (f := .str o) rfl]
    show (lone.lookup o).map (fun y => S y) = _
    rw [hl]; rfl
  | none =>
    rw [hl] at tl
    refine x_skip tl ?_
    have t4 : ∀ w : List Nat, testM (FN F (l + 4)) gtab [S row, S o, U, U, U, U, U, U, U, U] (.cmp .Eq (.slT (.loc 1) (.int 4)) (.str w)) = some (o.take 4 == w) := fun w => t_cmp (v_slT1 (k := 4) (v_loc rfl) (by omega)) rfl rfl
    have t1 := t4 [73, 70, 40, 41]
    by_cases h1 : (o.take 4 == [73, 70, 40, 41]) = true
    · simp only [h1, if_true]
      rw [h1] at t1
      refine x_yes t1 (t_ret ?_)
      have hsp : o = [73, 70, 40, 41] ++ o.drop 4 := by
        have := List.take_append_drop 4 o
        rw [eq_of_beq h1] at this; exact this.symm
      cases hd : o.drop 4 with
      | nil =>
        rw [hd] at hsp
        refine x_yes (t_cmp (v_loc rfl) rfl (congrArg some ?_)) (t_ret (x_ret rfl))
        rw [hsp]; rfl
      | cons c r =>
        rw [hd] at hsp
        have hc : o[4]? = some c := by rw [hsp]; rfl
        refine x_skip (t_cmp (v_loc rfl) rfl (congrArg some ?_)) (x_ret (v_cond (r := isDig c) (t_cmp (v_idx (k := 4) (v_loc rfl) rfl hc) (u := S g_digits) rfl rfl) ?_))
        · rw [hsp]; rfl
        · show evalM _ _ _ _ = some (S (if isDig c then wAif else wLif))
          split <;> rfl
    simp only [h1, if_false]
    rw [Bool.not_eq_true] at h1
    rw [h1] at t1
    refine x_skip t1 ?_
    have t7 : testM (FN F (l + 4)) gtab [S row, S o, U, U, U, U, U, U, U, U] (.cmp .Eq (.slT (.loc 1) (.int 7)) (.str [69, 76, 83, 69, 73, 70, 40])) = some (o.take 7 == pELSEIF) := t_cmp (v_slT1 (k := 7) (v_loc rfl) (by omega)) rfl rfl
    by_cases h7 : (o.take 7 == pELSEIF) = true
    · simp only [h7, if_true]
      rw [h7] at t7
      exact x_yes t7 (t_ret (x_ret rfl))
    simp only [h7, if_false]
    rw [Bool.not_eq_true] at h7
    rw [h7] at t7
    refine x_skip t7 ?_
    have tg := t4 [71, 79, 84, 79]
    by_cases hg : (o.take 4 == pGOTO) = true
    · simp only [hg, if_true]
      have hg' : (o.take 4 == [71, 79, 84, 79]) = true := hg
      rw [hg'] at tg
      refine x_yes tg (t_ret (x_assign (v := S (o.drop 4)) (v_slF1 (k := 4) (v_loc rfl) (by omega)) rfl ?_))
      have hdl : (o.drop 4).length < 100000 := by rw [List.length_drop]; omega
      generalize o.drop 4 = r at *
      have ta : testM (FN F (l + 4)) gtab [S row, S o, U, U, U, U, U, S r, U, U] (.cmp .Eq (.slT (.loc 7) (.int 1)) (.str [40])) = some (r.take 1 == [40]) := t_cmp (v_slT1 (k := 1) (v_loc rfl) (by omega)) rfl rfl
      cases r with
      | nil =>
        exact x_skip ta (x_skip (t_and_f (t_cmp (v_loc rfl) rfl rfl)) (x_ret (v_cond (r := false) (t_and_f (t_cmp (v_loc rfl) rfl rfl)) rfl)))
      | cons c t =>
        have ta' : ((c :: t).take 1 == [40]) = (c == 40) := by
          show ([c] == [40]) = _
          have := eq1 (c := c) (d := 40)
          exact Option.some.inj this
        rw [ta'] at ta
        show _ = some (Res.ret (S (if c == 40 then wCgoto else if (c :: t).all isDig then wGoto else if isLet c then wAgoto else [])))
        by_cases h40 : (c == 40) = true
        · rw [if_pos h40]
          rw [h40] at ta
          exact x_yes ta (t_ret (x_ret rfl))
        rw [if_neg h40]
        rw [Bool.not_eq_true] at h40
        rw [h40] at ta
        refine x_skip ta ?_
        have tb : testM (FN F (l + 4)) gtab [S row, S o, U, U, U, U, U, S (c :: t), U, U] (.and (.cmp .NotEq (.loc 7) (.str [])) (.cmp .Eq (.idx (.call2 23 (.loc 7) (.glob 9)) (.int 1)) (.str []))) = some ((c :: t).all isDig) := by
          refine t_and_t (t_cmp (v_loc rfl) rfl rfl) (t_cmp (v_tup1 (v_call2 (v_loc rfl) rfl (r_first hF (l + 3) _ g_digits hdl))) rfl ?_)
          show some (((c :: t).dropWhile g_digits.contains) == []) = _
          rw [dig_contains, dw_nil]
        by_cases hd : (c :: t).all isDig = true
        · rw [if_pos hd]
          rw [hd] at tb
          exact x_yes tb (t_ret (x_ret rfl))
        rw [if_neg hd]
        rw [Bool.not_eq_true] at hd
        rw [hd] at tb
        refine x_skip tb (x_ret (v_cond (r := isLet c) (t_and_t (t_cmp (v_loc rfl) rfl rfl) (t_cmp (v_idx (k := 0) (v_loc rfl) rfl rfl) (u := S g_letters) rfl rfl)) ?_))
        split <;> rfl
    simp only [hg, if_false]
    rw [Bool.not_eq_true] at hg
    have hg' : (o.take 4 == [71, 79, 84, 79]) = false := hg
    rw [hg'] at tg
    refine x_skip tg ?_
    have t6 : testM (FN F (l + 4)) gtab [S row, S o, U, U, U, U, U, U, U, U] (.cmp .Eq (.slT (.loc 1) (.int 6)) (.str [65, 83, 83, 73, 71, 78])) = some (o.take 6 == pASSIGN) := t_cmp (v_slT1 (k := 6) (v_loc rfl) (by omega)) rfl rfl
    have ts : testM (FN F (l + 4)) gtab [S row, S o, U, U, U, U, U, U, U, U] (.and3 (.cmp .Eq (.slT (.loc 1) (.int 6)) (.str [65, 83, 83, 73, 71, 78])) (.cmp .NotEq (.sl (.loc 1) (.int 6) (.int 7)) (.str [])) (.cmp .In (.idx (.loc 1) (.int 6)) (.glob 9))) = some (o.take 6 == pASSIGN && isDig ((o.drop 6).headD 0)) := by
      cases h6 : (o.take 6 == pASSIGN) with
      | false => rw [h6] at t6; exact t_and3_f t6
      | true =>
        rw [h6] at t6
        have es : testM (FN F (l + 4)) gtab [S row, S o, U, U, U, U, U, U, U, U] (.cmp .NotEq (.sl (.loc 1) (.int 6) (.int 7)) (.str [])) = some ((o.drop 6).take 1 != []) := t_cmp (v_sl (k := 6) (j := 7) (v_loc rfl) rfl rfl (by omega) (by omega)) rfl rfl
        cases hd : o.drop 6 with
        | nil => rw [hd] at es; exact t_and3_tf t6 es
        | cons c r =>
          rw [hd] at es
          have hc : o[6]? = some c := by
            have : (o.drop 6)[0]? = some c := by rw [hd]; rfl
            rw [List.getElem?_drop] at this; exact this
          exact t_and3_tt t6 es (t_cmp (v_idx (k := 6) (v_loc rfl) rfl hc) (u := S g_digits) rfl rfl)
    by_cases hs : (o.take 6 == pASSIGN && isDig ((o.drop 6).headD 0)) = true
    · simp only [hs, if_true]
      rw [hs] at ts
      exact x_yes ts (t_ret (x_ret rfl))
    simp only [hs]
    rw [Bool.not_eq_true] at hs
    rw [hs] at ts
    refine x_skip ts ?_
    have ty : testM (FN F (l + 4)) gtab [S row, S o, U, U, U, U, U, U, U, U] (.call1 26 (.loc 1)) = some (typed o) := t_val (v_call1 (v_loc rfl) (r_typed hF (l := l + 1) ho))
    by_cases hy : typed o = true
    · simp only [hy, if_true]
      rw [hy] at ty
      exact x_yes ty (t_ret (x_ret rfl))
    simp only [hy]
    rw [Bool.not_eq_true] at hy
    rw [hy] at ty
    refine x_skip ty (x_assign (v := S []) rfl rfl ?_)
    obtain ⟨x', e⟩ := best_loop hF (l := l + 4) hrow ho opens34 [] U rfl
    have e20 : ∀ {ρ : List PV}, evalM (FN F (l + 4)) gtab ρ (.call0 20) = some (.dict begins34) := fun {ρ} => r_begins (l + 3)
    have e' : loopM (fun v ρ => match putM ρ 9 v with
        | some ρ' => execM (FN F (l + 4)) gtab F (.ite (.and (.starts (.loc 1) (.loc 9)) (.cmp .Gt (.len (.loc 9)) (.len (.loc 8))))
    (.assign 8 (.loc 9) .done)
    .done
    .done) ρ'
        | none => none) ((opens34.map .str).map .fl) [S row, S o, U, U, U, U, U, U, S [], U] = some (.next [S row, S o, U, U, U, U, U, U, S (bestOf opens34 o []), x']) := by
      rw [List.map_map]; exact e
    have er : evalM (FN F (l + 4)) gtab [S row, S o, U, U, U, U, U, U, S (bestOf opens34 o []), x'] (.dget (.call0 20) (.loc 8) (.str [])) = some (S ((begins34.lookup (bestOf opens34 o [])).getD [])) := by
      rw [evalM, e20]; rfl
    have fin := x_forList hF (row := row) (o := o) hrow ho (k := .ret (.dget (.call0 20) (.loc 8) (.str []))) (v_opens hF (l := l + 3) hrow ho (ρ := [S row, S o, U, U, U, U, U, U, S [], U])) rfl (t_next e' (x_ret er))
    exact fin
end
end Mine

end
section
open PySem PySem.W PyProof.Rows
namespace Mine

noncomputable def plainC (c : Nat) : Bool := !(c == 39) && !(c == 40) && !(c == 41)
theorem plainC_iff {c : Nat} : plainC c = true ↔ c ≠ 39 ∧ c ≠ 40 ∧ c ≠ 41 := by
  unfold plainC; simp [and_assoc]
theorem outl_plain {c : Nat} {r : List Nat} {d : Nat} (h : plainC c = true) : outl false d (c :: r) = (outl false d r).map (pu d c) := by
  obtain ⟨h1, h2, h3⟩ := plainC_iff.mp h
  rw [outl]; simp [h1, h2, h3]
theorem dl_plain {c : Nat} {r : List Nat} {d : Int} (h : plainC c = true) : dl false d (c :: r) = d :: dl false d r := by
  obtain ⟨h1, h2, h3⟩ := plainC_iff.mp h
  rw [dl]; simp [h1, h2, h3]

noncomputable def noHit : List Nat → List Int → Prop
  | _ :: g, v :: G => ¬ v = 0 ∧ noHit g G
  | _, _ => True
theorem fc_skip {r : List Nat} {D : List Int} : ∀ {g : List Nat} {G : List Int} {j : Nat}, noHit g G → G.length = g.length → fc 0 j (g ++ 41 :: r) (G ++ 0 :: D) = ((j + g.length : Nat) : Int)
  | [], [], j, _, _ => rfl
  | c :: g, v :: G, j, h, hl => by
    rw [List.cons_append, List.cons_append, fc]
    have : ¬ (c == 41 && v == 0) = true := by
      have := h.1
      simp [this]
    rw [if_neg this, fc_skip h.2 (by simpa using hl), List.length_cons]
    congr 1; omega
  | [], _ :: _, _, _, hl => by simp at hl
  | _ :: _, [], _, _, hl => by simp at hl

theorem outl_group : ∀ (r : List Nat) (q : Bool) (d : Nat) (o : List Nat), outl q (d + 1) r = some o → ∃ g G r' o', r = g ++ 41 :: r' ∧ outl false 0 r' = some o' ∧ o = 41 :: o' ∧ G.length = g.length ∧ noHit g G ∧
    ∀ t, dl q ((d + 1 : Nat) : Int) (g ++ 41 :: t) = G ++ 0 :: dl false 0 t
  | [], q, d, o, h => by simp [outl] at h
  | c :: r, q, d, o, h => by
    rw [outl] at h
    have hpu : ∀ s (x : List Nat), pu (d + 1) s x = x := fun s x => by unfold pu; simp
    by_cases h39 : (c == 39) = true
    · rw [if_pos h39] at h
      obtain ⟨x, hx, e⟩ := Option.map_eq_some_iff.mp h
      rw [hpu] at e; subst e
      obtain ⟨g, G, r', o', e1, e2, e3, e4, e5, e6⟩ := outl_group r (!q) d x hx
      refine ⟨c :: g, -1 :: G, r', o', by rw [e1]; rfl, e2, e3, by simp [e4], ⟨by omega, e5⟩, fun t => ?_⟩
      rw [List.cons_append, dl, if_pos h39, e6]; rfl
    rw [if_neg h39] at h
    cases q with
    | true =>
      rw [if_pos rfl] at h
      obtain ⟨x, hx, e⟩ := Option.map_eq_some_iff.mp h
      rw [hpu] at e; subst e
      obtain ⟨g, G, r', o', e1, e2, e3, e4, e5, e6⟩ := outl_group r true d x hx
      refine ⟨c :: g, -1 :: G, r', o', by rw [e1]; rfl, e2, e3, by simp [e4], ⟨by omega, e5⟩, fun t => ?_⟩
      rw [List.cons_append, dl, if_neg h39, if_pos rfl, e6]; rfl
    | false =>
      rw [if_neg Bool.false_ne_true] at h
      by_cases h41 : (c == 41) = true
      · rw [if_pos h41, if_neg (by simp)] at h
        have e41 : c = 41 := eq_of_beq h41
        subst e41
        rw [Nat.add_sub_cancel] at h
        obtain ⟨x, hx, e⟩ := Option.map_eq_some_iff.mp h
        cases d with
        | zero =>
          refine ⟨[], [], r, x, rfl, hx, ?_, rfl, trivial, fun t => ?_⟩
          · rw [← e]; rfl
          · rw [List.nil_append, dl]; simp
        | succ d =>
          have e' : x = o := by rw [← e]; unfold pu; simp
          subst e'
          obtain ⟨g, G, r', o', e1, e2, e3, e4, e5, e6⟩ := outl_group r false d x hx
          refine ⟨41 :: g, ((d + 1 : Nat) : Int) :: G, r', o', by rw [e1]; rfl, e2, e3, by simp [e4], ⟨by omega, e5⟩, fun t => ?_⟩
          rw [List.cons_append, dl]
          have ed : ((d + 1 + 1 : Nat) : Int) - 1 = ((d + 1 : Nat) : Int) := by omega
          rw [if_neg (by decide), if_neg Bool.false_ne_true, if_neg (by simp), if_pos (by simp; omega), ed, e6]; rfl
      · rw [if_neg h41] at h
        by_cases h40 : (c == 40) = true
        · rw [if_pos h40] at h
          have e40 : c = 40 := eq_of_beq h40
          subst e40
          obtain ⟨x, hx, e⟩ := Option.map_eq_some_iff.mp h
          rw [hpu] at e; subst e
          obtain ⟨g, G, r', o', e1, e2, e3, e4, e5, e6⟩ := outl_group r false (d + 1) x hx
          refine ⟨40 :: g, ((d + 1 : Nat) : Int) :: G, r', o', by rw [e1]; rfl, e2, e3, by simp [e4], ⟨by omega, e5⟩, fun t => ?_⟩
          rw [List.cons_append, dl]
          have ed : ((d + 1 : Nat) : Int) + 1 = ((d + 1 + 1 : Nat) : Int) := by omega
          rw [if_neg (by decide), if_neg Bool.false_ne_true, if_pos (by simp; omega), ed, e6]; rfl
        · rw [if_neg h40] at h
          have hp : plainC c = true := by
            rw [plainC_iff]
            exact ⟨by simpa using h39, by simpa using h40, by simpa using h41⟩
          obtain ⟨x, hx, e⟩ := Option.map_eq_some_iff.mp h
          rw [hpu] at e; subst e
          obtain ⟨g, G, r', o', e1, e2, e3, e4, e5, e6⟩ := outl_group r false d x hx
          refine ⟨c :: g, ((d + 1 : Nat) : Int) :: G, r', o', by rw [e1]; rfl, e2, e3, by simp [e4], ⟨by omega, e5⟩, fun t => ?_⟩
          rw [List.cons_append, dl_plain hp, e6]; rfl

/-- a place in a row, outside of brackets and quotes, and what the outline has behind it -/
structure Cur (row p r o : List Nat) : Prop where
  eq : row = p ++ r
  pre : ∀ t, dl false 0 (p ++ t) = dl false 0 p ++ dl false 0 t
  out : outl false 0 r = some o

theorem Cur.start {row o : List Nat} (h : outl false 0 row = some o) : Cur row [] row o := ⟨rfl, fun _ => rfl, h⟩
theorem Cur.plain {row p r o : List Nat} {c : Nat} (C : Cur row p (c :: r) o) (h : plainC c = true) : ∃ o', o = c :: o' ∧ Cur row (p ++ [c]) r o' := by
  have := C.out
  rw [outl_plain h] at this
  obtain ⟨x, hx, e⟩ := Option.map_eq_some_iff.mp this
  refine ⟨x, by rw [← e]; rfl, by rw [C.eq]; simp, fun t => ?_, hx⟩
  rw [List.append_assoc, C.pre, C.pre, List.append_assoc]
  congr 1
  show dl false 0 (c :: t) = dl false 0 [c] ++ dl false 0 t
  rw [dl_plain h, dl_plain h]; rfl
theorem Cur.group {row p r o : List Nat} (C : Cur row p (40 :: r) o) : ∃ g r' o', r = g ++ 41 :: r' ∧ o = 40 :: 41 :: o' ∧ Cur row (p ++ 40 :: g ++ [41]) r' o' ∧ closingS row p.length = ((p.length + 1 + g.length : Nat) : Int) := by
  have h : (outl false 1 r).map (pu 0 40) = some o := C.out
  obtain ⟨x, hx, e⟩ := Option.map_eq_some_iff.mp h
  obtain ⟨g, G, r', o', e1, e2, e3, e4, e5, e6⟩ := outl_group r false 0 x hx
  have edl : ∀ t, dl false 0 (40 :: g ++ 41 :: t) = 0 :: (G ++ 0 :: dl false 0 t) := fun t => by
    rw [List.cons_append, dl]
    rw [if_neg (by decide), if_neg Bool.false_ne_true, if_pos (by decide)]
    exact congrArg _ (e6 t)
  refine ⟨g, r', o', e1, ?_, ⟨?_, ?_, e2⟩, ?_⟩
  · rw [← e, e3]; rfl
  · rw [C.eq, e1]; simp
  · intro t
    have a1 := C.pre (40 :: g ++ 41 :: t)
    have a2 := C.pre (40 :: g ++ 41 :: [])
    rw [edl] at a1 a2
    have b1 : p ++ 40 :: g ++ [41] ++ t = p ++ (40 :: g ++ 41 :: t) := by simp
    have b2 : p ++ 40 :: g ++ [41] = p ++ (40 :: g ++ 41 :: []) := by simp
    rw [b1, b2, a1, a2]
    simp [dl]
  · have a1 := C.pre (40 :: g ++ 41 :: r')
    rw [edl] at a1
    have hrow : row = p ++ (40 :: g ++ 41 :: r') := by rw [C.eq, e1]; simp
    have hpl := dl_len p false 0
    unfold closingS
    rw [hrow, a1]
    have g1 : (dl false 0 p ++ 0 :: (G ++ 0 :: dl false 0 r')).getD p.length 0 = 0 := by
      rw [List.getD_eq_getElem?_getD, List.getElem?_append_right (by omega), hpl, Nat.sub_self]; rfl
    have g2 : (p ++ (40 :: g ++ 41 :: r')).drop (p.length + 1) = g ++ 41 :: r' := by
      rw [← List.drop_drop, List.drop_left]; rfl
    have g3 : (dl false 0 p ++ 0 :: (G ++ 0 :: dl false 0 r')).drop (p.length + 1) = G ++ 0 :: dl false 0 r' := by
      rw [← List.drop_drop, ← hpl, List.drop_left]; rfl
    rw [g1, g2, g3, fc_skip e5 e4]

theorem Cur.head {row p r o : List Nat} (C : Cur row p r o) : r.head? = o.head? := by
  cases r with
  | nil =>
    have h : some ([] : List Nat) = some o := C.out
    cases h; rfl
  | cons c r =>
    by_cases hp : plainC c = true
    · obtain ⟨o', e, _⟩ := C.plain hp
      rw [e]; rfl
    · by_cases h40 : c = 40
      · subst h40
        obtain ⟨g, r', o', _, e, _⟩ := C.group
        rw [e]; rfl
      · have h := C.out
        rw [outl] at h
        by_cases h39 : c = 39
        · subst h39
          rw [if_pos (by decide)] at h
          obtain ⟨x, _, e⟩ := Option.map_eq_some_iff.mp h
          rw [← e]; rfl
        · by_cases h41 : c = 41
          · subst h41
            rw [if_neg (by decide), if_neg Bool.false_ne_true, if_pos (by decide), if_pos (by decide)] at h
            cases h
          · exact absurd (plainC_iff.mpr ⟨h39, h40, h41⟩) hp
theorem Cur.nil_iff {row p r o : List Nat} (C : Cur row p r o) : r = [] ↔ o = [] := by
  have := C.head
  cases r <;> cases o <;> simp at this ⊢

theorem Cur.pref {row : List Nat} : ∀ {w p r o : List Nat}, w.all plainC = true → Cur row p r o → w.isPrefixOf r = w.isPrefixOf o ∧ (∀ r', r = w ++ r' → ∃ o', o = w ++ o' ∧ Cur row (p ++ w) r' o')
  | [], p, r, o, _, C => ⟨rfl, fun r' e => ⟨o, rfl, by rw [List.append_nil]; rw [List.nil_append] at e; rw [← e]; exact C⟩⟩
  | c :: w, p, r, o, hw, C => by
    rw [List.all_cons, Bool.and_eq_true] at hw
    have hh := C.head
    cases r with
    | nil =>
      have : o = [] := C.nil_iff.mp rfl
      subst this
      exact ⟨rfl, fun r' e => by simp at e⟩
    | cons d r =>
      by_cases hcd : d = c
      · subst hcd
        obtain ⟨o', rfl, C'⟩ := C.plain hw.1
        obtain ⟨h1, h2⟩ := Cur.pref hw.2 C'
        refine ⟨?_, fun r' e => ?_⟩
        · show (d == d && w.isPrefixOf r) = (d == d && w.isPrefixOf o')
          rw [h1]
        · rw [List.cons_append] at e
          injection e with _ e
          obtain ⟨o'', e1, e2⟩ := h2 r' e
          refine ⟨o'', by rw [e1]; rfl, ?_⟩
          rw [show p ++ d :: w = p ++ [d] ++ w by simp]; exact e2
      · cases o with
        | nil => simp at hh
        | cons x o =>
          simp at hh; subst hh
          have hb : (c == d) = false := by simpa using Ne.symm hcd
          refine ⟨?_, fun r' e => ?_⟩
          · show (c == d && _) = (c == d && _)
            rw [hb]; rfl
          · rw [List.cons_append] at e
            injection e with e _
            exact absurd e hcd
theorem isPrefixOf_iff {w r : List Nat} : w.isPrefixOf r = true ↔ ∃ r', r = w ++ r' := by
  rw [List.isPrefixOf_iff_prefix]
  constructor
  · rintro ⟨r', e⟩; exact ⟨r', e.symm⟩
  · rintro ⟨r', e⟩; exact ⟨r', e.symm⟩
/-- the same word -/
theorem Cur.eqw {row w p r o : List Nat} (hw : w.all plainC = true) (C : Cur row p r o) : (r == w) = (o == w) := by
  obtain ⟨h1, h2⟩ := Cur.pref hw C
  rw [Bool.eq_iff_iff, beq_iff_eq, beq_iff_eq]
  constructor
  · intro e
    obtain ⟨o', e1, C'⟩ := h2 [] (by rw [e, List.append_nil])
    have := C'.nil_iff.mp rfl
    rw [e1, this, List.append_nil]
  · intro e
    have : w.isPrefixOf r = true := by rw [h1, e]; exact isPrefixOf_iff.mpr ⟨[], by simp⟩
    obtain ⟨r', er⟩ := isPrefixOf_iff.mp this
    obtain ⟨o', e1, C'⟩ := h2 r' er
    have : o' = [] := by
      rw [e] at e1
      simpa using e1.symm
    have := C'.nil_iff.mpr this
    rw [er, this, List.append_nil]
theorem Cur.run {f : Nat → Bool} (hf : ∀ c, f c = true → plainC c = true) {row : List Nat} : ∀ {r p o : List Nat}, Cur row p r o → r.takeWhile f = o.takeWhile f ∧ Cur row (p ++ r.takeWhile f) (r.dropWhile f) (o.dropWhile f)
  | [], p, o, C => by
    have : o = [] := C.nil_iff.mp rfl
    subst this
    exact ⟨rfl, by simpa using C⟩
  | c :: r, p, o, C => by
    have hh := C.head
    cases hc : f c with
    | true =>
      obtain ⟨o', rfl, C'⟩ := C.plain (hf c hc)
      obtain ⟨h1, h2⟩ := Cur.run hf C'
      rw [List.takeWhile_cons, List.takeWhile_cons, hc, List.dropWhile_cons, List.dropWhile_cons, hc]
      refine ⟨by simp [h1], ?_⟩
      simp only [if_true]
      rw [show p ++ c :: r.takeWhile f = p ++ [c] ++ r.takeWhile f by simp]; exact h2
    | false =>
      cases o with
      | nil => simp at hh
      | cons x o =>
        simp at hh; subst hh
        rw [List.takeWhile_cons, List.takeWhile_cons, hc, List.dropWhile_cons, List.dropWhile_cons, hc]
        exact ⟨rfl, by simpa using C⟩

theorem dig_plain : ∀ c, isDig c = true → plainC c = true := by
  intro c h
  have : c ∈ g_digits := by simpa [isDig] using h
  have key : g_digits.all plainC = true := by decide
  exact List.all_eq_true.mp key c this
theorem let_plain : ∀ c, isLet c = true → plainC c = true := by
  intro c h
  have : c ∈ g_letters := by simpa [isLet] using h
  have key : g_letters.all plainC = true := by decide
  exact List.all_eq_true.mp key c this
theorem aln_plain : ∀ c, isAln c = true → plainC c = true := by
  intro c h
  unfold isAln at h
  rw [Bool.or_eq_true] at h
  rcases h with h | h
  · exact let_plain c h
  · exact dig_plain c h

/-! ## balance and the equals sign -/
theorem bal_outl : ∀ (r : List Nat) (q : Bool) (d : Nat), bal d r (dl q d r) = (outl q d r).isSome
  | [], q, d => by
    simp only [bal, dl, outl]
    by_cases h : d = 0
    · subst h; rfl
    · have h2 : (d == 0) = false := by simpa using h
      rw [h2, Bool.eq_iff_iff, beq_iff_eq]
      constructor
      · intro e; omega
      · intro e; cases e
  | c :: r, q, d => by
    rw [dl, outl]
    by_cases h39 : (c == 39) = true
    · rw [if_pos h39, if_pos h39, bal, if_neg (by decide), if_neg (by simp), if_neg (by simp), bal_outl r (!q) d]
      cases outl (!q) d r <;> rfl
    rw [if_neg h39, if_neg h39]
    cases q with
    | true =>
      rw [if_pos rfl, if_pos rfl, bal, if_neg (by decide), if_neg (by simp), if_neg (by simp), bal_outl r true d]
      cases outl true d r <;> rfl
    | false =>
      rw [if_neg Bool.false_ne_true, if_neg Bool.false_ne_true]
      by_cases h40 : (c == 40) = true
      · have e40 : c = 40 := eq_of_beq h40
        subst e40
        rw [if_pos (by simp), if_neg (by decide), if_pos (by decide), bal, if_neg (by simp <;> omega), if_pos (by simp)]
        have := bal_outl r false (d + 1)
        rw [show ((d + 1 : Nat) : Int) = (d : Int) + 1 by omega] at this
        rw [this]
        cases outl false (d + 1) r <;> rfl
      · rw [if_neg (by simp [h40])]
        by_cases h41 : (c == 41) = true
        · have e41 : c = 41 := eq_of_beq h41
          subst e41
          cases d with
          | zero => rfl
          | succ d =>
            have ed : ((d + 1 : Nat) : Int) - 1 = (d : Int) := by omega
            rw [if_pos (by simp <;> omega), if_pos (by decide), if_neg (by simp), bal, ed, if_neg (by simp <;> omega), if_neg (by simp), if_pos (by simp)]
            rw [bal_outl r false d, Nat.add_sub_cancel]
            cases outl false d r <;> rfl
        · rw [if_neg (by simp [h41]), if_neg h41, if_neg h41, if_neg h40, bal, if_neg (by simp <;> omega), if_neg (by simp [h40]), if_neg (by simp [h41]), bal_outl r false d]
          cases outl false d r <;> rfl

theorem pu_mem {d s x : Nat} {o : List Nat} (h : ¬ (d = 0 ∧ s = x)) : x ∈ pu d s o ↔ x ∈ o := by
  unfold pu
  split
  · rename_i h0
    have h0 : d = 0 := by simpa using h0
    rw [List.mem_cons]
    constructor
    · rintro (e | e)
      · exact absurd ⟨h0, e.symm⟩ h
      · exact e
    · exact .inr
  · rfl

/-- one sign of a row, as both scans see it -/
theorem step_both (q : Bool) (d c : Nat) (o : List Nat) (r : List Nat) (h : outl q d (c :: r) = some o) : ∃ (q' : Bool) (d' d₁ s : Nat) (v : Int),
    (∀ z, outl q d (c :: z) = (outl q' d' z).map (pu d₁ s)) ∧ (∀ z, dl q d (c :: z) = v :: dl q' d' z) ∧
    ((q = false ∧ d = 0 ∧ v = 0 ∧ s = c ∧ d₁ = 0 ∧ q' = false ∧ d' = 0 ∧ plainC c = true) ∨ (¬ (v = 0 ∧ plainC c = true) ∧ ∀ x, plainC x = true → ¬ (d₁ = 0 ∧ s = x))) := by
  by_cases h39 : (c == 39) = true
  · have e39 : c = 39 := eq_of_beq h39
    subst e39
    exact ⟨!q, d, d, 39, -1, fun z => by rw [outl, if_pos h39], fun z => by rw [dl, if_pos h39], .inr ⟨by simp, fun x hx e => (plainC_iff.mp hx).1 e.2.symm⟩⟩
  cases q with
  | true => exact ⟨true, d, d, 39, -1, fun z => by rw [outl, if_neg h39, if_pos rfl], fun z => by rw [dl, if_neg h39, if_pos rfl], .inr ⟨by simp, fun x hx e => (plainC_iff.mp hx).1 e.2.symm⟩⟩
  | false =>
    by_cases h41 : (c == 41) = true
    · have e41 : c = 41 := eq_of_beq h41
      subst e41
      cases d with
      | zero => rw [outl, if_neg h39, if_neg Bool.false_ne_true, if_pos h41, if_pos (by decide)] at h; cases h
      | succ d =>
        have ed : ((d + 1 : Nat) : Int) - 1 = (d : Int) := by omega
        refine ⟨false, d, d, 41, d, fun z => by rw [outl, if_neg h39, if_neg Bool.false_ne_true, if_pos h41, if_neg (by simp), Nat.add_sub_cancel], fun z => ?_, .inr ⟨by rintro ⟨_, e⟩; exact absurd e (by decide), fun x hx e => (plainC_iff.mp hx).2.2 e.2.symm⟩⟩
        rw [dl, if_neg h39, if_neg Bool.false_ne_true, if_neg (by simp), if_pos (by simp <;> omega), ed]
    · by_cases h40 : (c == 40) = true
      · have e40 : c = 40 := eq_of_beq h40
        subst e40
        refine ⟨false, d + 1, d, 40, d, fun z => by rw [outl, if_neg h39, if_neg Bool.false_ne_true, if_neg h41, if_pos h40], fun z => ?_, .inr ⟨by rintro ⟨_, e⟩; exact absurd e (by decide), fun x hx e => (plainC_iff.mp hx).2.1 e.2.symm⟩⟩
        rw [dl, if_neg h39, if_neg Bool.false_ne_true, if_pos (by simp <;> omega)]
        rfl
      · have hp : plainC c = true := by
          rw [plainC_iff]
          exact ⟨by simpa using h39, by simpa using h40, by simpa using h41⟩
        refine ⟨false, d, d, c, d, fun z => outl_plain hp, fun z => dl_plain hp, ?_⟩
        by_cases h0 : d = 0
        · subst h0
          exact .inl ⟨rfl, rfl, rfl, rfl, rfl, rfl, rfl, hp⟩
        · exact .inr ⟨by rintro ⟨e, _⟩; omega, fun x _ e => h0 e.1⟩

theorem eqA_found : ∀ (r : List Nat) (q : Bool) (d j : Nat) (f : Int) (o : List Nat), 0 ≤ f → outl q d r = some o → eqA f j r (dl q d r) = (f, o.contains 44)
  | [], q, d, j, f, o, _, h => by
    rw [outl] at h
    split at h
    · cases h; rfl
    · cases h
  | c :: r, q, d, j, f, o, hf, h => by
    obtain ⟨q', d', d₁, s, v, hA, hB, hC⟩ := step_both q d c o r h
    rw [hA] at h
    obtain ⟨x, hx, e⟩ := Option.map_eq_some_iff.mp h
    have ih := eqA_found r q' d' (j + 1) f x hf hx
    rw [hB, eqA, if_neg (by simp; omega), ih, ← e]
    rcases hC with ⟨rfl, rfl, rfl, rfl, rfl, rfl, rfl, hp⟩ | ⟨hv, hs⟩
    · by_cases h44 : s = 44
      · subst h44
        rw [if_pos (by simp; exact hf)]
        simp [pu]
      · rw [if_neg (by simp [h44])]
        simp [pu, Ne.symm h44]
    · rw [if_neg ?_]
      · have := pu_mem (o := x) (hs 44 (by decide))
        have e2 : (pu d₁ s x).contains 44 = x.contains 44 := by
          rw [Bool.eq_iff_iff, List.contains_iff_mem, List.contains_iff_mem]; exact this
        rw [e2]
      · rw [Bool.and_eq_true, Bool.and_eq_true, beq_iff_eq, beq_iff_eq]
        rintro ⟨⟨e1, e2⟩, _⟩
        exact hv ⟨e1, by rw [e2]; decide⟩

theorem eqA_new : ∀ (r : List Nat) (q : Bool) (d j : Nat) (o : List Nat), outl q d r = some o →
    (61 ∉ o ∧ eqA (-1) j r (dl q d r) = (-1, false)) ∨
    (∃ h t oh ot, r = h ++ 61 :: t ∧ o = oh ++ 61 :: ot ∧ 61 ∉ oh ∧ outl q d h = some oh ∧ outl false 0 t = some ot ∧ eqA (-1) j r (dl q d r) = (((j + h.length : Nat) : Int), ot.contains 44))
  | [], q, d, j, o, h => by
    rw [outl] at h
    split at h
    · cases h; exact .inl ⟨by simp, rfl⟩
    · cases h
  | c :: r, q, d, j, o, h => by
    obtain ⟨q', d', d₁, s, v, hA, hB, hC⟩ := step_both q d c o r h
    rw [hA] at h
    obtain ⟨x, hx, e⟩ := Option.map_eq_some_iff.mp h
    have hne : ¬ (v == 0 && c == 44 && decide (0 ≤ (-1 : Int))) = true := by simp
    rw [hB, eqA, if_neg hne]
    have go : ¬ (v = 0 ∧ c = 61) → ¬ (d₁ = 0 ∧ s = 61) → ((61 ∉ o ∧ (if (v == 0 && c == 61 && decide ((-1 : Int) < 0)) = true then eqA j (j + 1) r (dl q' d' r) else eqA (-1) (j + 1) r (dl q' d' r)) = (-1, false)) ∨
      (∃ h t oh ot, c :: r = h ++ 61 :: t ∧ o = oh ++ 61 :: ot ∧ 61 ∉ oh ∧ outl q d h = some oh ∧ outl false 0 t = some ot ∧ (if (v == 0 && c == 61 && decide ((-1 : Int) < 0)) = true then eqA j (j + 1) r (dl q' d' r) else eqA (-1) (j + 1) r (dl q' d' r)) = (((j + h.length : Nat) : Int), ot.contains 44))) := fun hv hs => by
      have hv' : ¬ (v == 0 && c == 61 && decide ((-1 : Int) < 0)) = true := by
        rw [Bool.and_eq_true, Bool.and_eq_true, beq_iff_eq, beq_iff_eq]
        rintro ⟨e, _⟩; exact hv e
      rcases eqA_new r q' d' (j + 1) x hx with ⟨a, b⟩ | ⟨h, t, oh, ot, a1, a2, a3, a4, a5, a6⟩
      · exact .inl ⟨by rw [← e, pu_mem hs]; exact a, by rw [if_neg hv', b]⟩
      · refine .inr ⟨c :: h, t, pu d₁ s oh, ot, by rw [a1]; rfl, ?_, ?_, by rw [hA, a4]; rfl, a5, ?_⟩
        · rw [← e, a2]; unfold pu; split <;> rfl
        · rw [pu_mem hs]; exact a3
        · rw [if_neg hv', a6, List.length_cons]
          congr 2; omega
    rcases hC with ⟨rfl, rfl, rfl, rfl, rfl, rfl, rfl, hp⟩ | ⟨hv, hs⟩
    · by_cases h61 : s = 61
      · subst h61
        refine .inr ⟨[], r, [], x, rfl, ?_, by simp, ?_, hx, ?_⟩
        · rw [← e]; rfl
        · rfl
        · rw [if_pos (by simp), eqA_found r false 0 (j + 1) j x (by omega) hx]
          simp
      · exact go (fun e => h61 e.2) (fun e => h61 e.2)
    · exact go (fun e => hv ⟨e.1, by rw [e.2]; decide⟩) (hs 61 (by decide))
end Mine

end
section
open PySem PySem.W PyProof.Rows
namespace Mine

theorem Cur.at_le {row p r o : List Nat} (C : Cur row p r o) : p.length ≤ row.length := by rw [C.eq]; simp
theorem Cur.drop {row p r o : List Nat} (C : Cur row p r o) : row.drop p.length = r := by rw [C.eq, List.drop_left]
theorem Cur.len {row p r o : List Nat} (C : Cur row p r o) : row.length = p.length + r.length := by rw [C.eq, List.length_append]
theorem head_take {x : List Nat} {c : Nat} : (x.take 1 == [c]) = (x.head? == some c) := by
  cases x with
  | nil => rfl
  | cons d r =>
    show ([d] == [c]) = (some d == some c)
    have := eq1 (c := d) (d := c)
    have e : ([d] == [c]) = (d == c) := Option.some.inj this
    rw [e]; rfl
theorem Cur.take1 {row p r o : List Nat} (C : Cur row p r o) (c : Nat) : (r.take 1 == [c]) = (o.take 1 == [c]) := by
  rw [head_take, head_take, C.head]
theorem Cur.headD {row p r o : List Nat} (C : Cur row p r o) : r.headD 0 = o.headD 0 := by
  have := C.head
  cases r <;> cases o <;> simp at this ⊢
  exact this
/-- what follows a bracket pair at the head of an outline -/
noncomputable def adv (o : List Nat) : List Nat := if o.take 1 == [40] then o.drop 2 else o
theorem Cur.adv_or {row p r o : List Nat} (C : Cur row p r o) : (∃ g r', r = 40 :: (g ++ 41 :: r') ∧ o = 40 :: 41 :: adv o ∧ Cur row (p ++ 40 :: g ++ [41]) r' (adv o) ∧ closingS row p.length = ((p.length + 1 + g.length : Nat) : Int)) ∨
    ((r.take 1 == [40]) = false ∧ (o.take 1 == [40]) = false ∧ adv o = o) := by
  cases h : (r.take 1 == [40]) with
  | false =>
    have h2 := C.take1 40
    rw [h] at h2
    exact .inr ⟨rfl, h2.symm, by unfold adv; rw [← h2]; rfl⟩
  | true =>
    left
    cases r with
    | nil => cases h
    | cons c r =>
      have e : c = 40 := by
        rw [head_take] at h; simpa using h
      subst e
      obtain ⟨g, r', o', e1, e2, e3, e4⟩ := C.group
      have ea : adv o = o' := by rw [e2]; rfl
      rw [ea]
      exact ⟨g, r', by rw [e1], e2, e3, e4⟩

section
variable {F : Nat} (hF : 200000 < F) {l : Nat} {row o : List Nat} (hrow : row.length < 100000)
include hF hrow

noncomputable def b_tgt : MB := (.ite (.cmp .Eq (.sl (.loc 0) (.loc 1) (.bin .Add (.loc 1) (.int 1))) (.str [40]))
    (.assign 1 (.bin .Add (.call2 7 (.loc 0) (.loc 1)) (.int 1)) (.ite (.cmp .Eq (.loc 1) (.int 0))
    (.ret (.bool false))
    .done
    .done))
    .done
    .done)
theorem tgt_body {p r o : List Nat} {t : Int} (C : Cur row p r o) : ∃ p' r', Cur row p' r' (adv o) ∧ (o = 40 :: 41 :: adv o ∨ (adv o = o ∧ (o.take 1 == [40]) = false)) ∧
    execM (FN F (l + 2)) gtab F b_tgt [S row, I p.length, I t] = some (.next [S row, I p'.length, I t]) := by
  have hle := C.at_le
  have t0 : testM (FN F (l + 2)) gtab [S row, I p.length, I t] (.cmp .Eq (.sl (.loc 0) (.loc 1) (.bin .Add (.loc 1) (.int 1))) (.str [40])) = some (r.take 1 == [40]) := by
    refine t_cmp (v_sl1 (v_loc rfl) (v_loc rfl) (by omega)) rfl ?_
    rw [C.drop]; rfl
  rcases C.adv_or with ⟨g, r', e1, e2, e3, e4⟩ | ⟨e1, e2, e3⟩
  · refine ⟨_, r', e3, .inl e2, ?_⟩
    have hlt : p.length < row.length := by rw [C.len, e1]; simp
    have ht : (r.take 1 == [40]) = true := by rw [e1]; rfl
    rw [ht] at t0
    have hl : (p ++ 40 :: g ++ [41]).length = p.length + 1 + g.length + 1 := by simp; omega
    have ec := r_closing (F := F) l row p.length hrow hlt
    rw [e4] at ec
    have ev : evalM (FN F (l + 2)) gtab [S row, I p.length, I t] (.bin .Add (.call2 7 (.loc 0) (.loc 1)) (.int 1)) = some (I ((p ++ 40 :: g ++ [41]).length : Nat)) := by
      rw [v_add (v_call2 (v_loc rfl) (v_loc rfl) ec) (j := 1) rfl, hl]; rfl
    refine x_yes t0 (t_next (x_assign ev rfl (x_skip (t_cmp (v_loc rfl) rfl (eqI.trans (congrArg some ?_))) x_done)) x_done)
    rw [hl]
    exact beq_eq_false_iff_ne.mpr (by omega)
  · refine ⟨p, r, by rw [e3]; exact C, .inr ⟨e3, e2⟩, ?_⟩
    rw [e1] at t0
    exact x_skip t0 x_done

theorem tgt_loop {p r o : List Nat} (C : Cur row p r o) : ∃ p' r', Cur row p' r' (adv (adv o)) ∧ (adv (adv o) = [] ↔ o ∈ tails) ∧
    loopM (fun v ρ => match putM ρ 2 v with
        | some ρ' => execM (FN F (l + 2)) gtab F b_tgt ρ'
        | none => none) [I 0, I 1] [S row, I p.length, .undef] = some (.next [S row, I p'.length, I 1]) := by
  obtain ⟨p1, r1, C1, h1, e1⟩ := tgt_body hF (l := l) hrow (t := 0) C
  obtain ⟨p2, r2, C2, h2, e2⟩ := tgt_body hF (l := l) hrow (t := 1) C1
  refine ⟨p2, r2, C2, ?_, ?_⟩
  · unfold tails
    rcases h1 with h1 | ⟨h1, h1'⟩
    · rcases h2 with h2 | ⟨h2, h2'⟩
      · rw [h2] at h1
        rw [h1]
        generalize adv (adv o) = z
        simp [adv]
      · rw [h2]
        generalize adv o = z at *
        rw [h1]
        cases z with
        | nil => simp
        | cons c r =>
          have hc : ¬ c = 40 := by rw [head_take] at h2'; simpa using h2'
          simp [hc]
    · rw [h1, h1]
      cases o with
      | nil => simp
      | cons c r =>
        have hc : ¬ c = 40 := by rw [head_take] at h1'; simpa using h1'
        simp [hc]
  · refine l_next (ρ' := [S row, I p1.length, I 0]) (st_put (fn := FN F (l + 2)) (gl := gtab) (F := F) (i := 2) (b := b_tgt) (v := I 0) (ρ := [S row, I p.length, .undef]) (ρ' := [S row, I p.length, I 0]) rfl e1) ?_
    exact l_next (ρ' := [S row, I p2.length, I 1]) (st_put (fn := FN F (l + 2)) (gl := gtab) (F := F) (i := 2) (b := b_tgt) (v := I 1) (ρ := [S row, I p1.length, I 0]) (ρ' := [S row, I p1.length, I 1]) rfl e2) rfl

omit hF hrow in
theorem tw_app {f : Nat → Bool} {n t : List Nat} (hn : n.all f = true) (ht : (t.takeWhile f) = []) : (n ++ t).takeWhile f = n ∧ (n ++ t).dropWhile f = t := by
  have e1 : (n ++ t).takeWhile f = n := by rw [List.takeWhile_append_of_pos (List.all_eq_true.mp hn), ht, List.append_nil]
  refine ⟨e1, ?_⟩
  have := List.takeWhile_append_dropWhile (p := f) (l := n ++ t)
  rw [e1] at this
  exact List.append_cancel_left this
omit hF hrow in
theorem all_tw {f : Nat → Bool} : ∀ {x : List Nat}, (x.takeWhile f).all f = true
  | [] => rfl
  | c :: r => by
    rw [List.takeWhile_cons]
    cases h : f c with
    | true => simp only [if_true, List.all_cons, h, Bool.true_and]; exact all_tw
    | false => rfl
omit hF hrow in
theorem tw_dw {f : Nat → Bool} : ∀ {x : List Nat}, (x.dropWhile f).takeWhile f = []
  | [] => rfl
  | c :: r => by
    rw [List.dropWhile_cons]
    cases h : f c with
    | true => simp only [if_true]; exact tw_dw
    | false => simp [List.takeWhile_cons, h]

omit hF hrow in
theorem tgt_split (o : List Nat) : tgt o = (isLet (o.headD 0) && decide (o.dropWhile isAln ∈ tails)) := by
  rw [Bool.eq_iff_iff, Bool.and_eq_true, decide_eq_true_eq, tgt_iff]
  constructor
  · rintro ⟨n, t, hn, ht, rfl⟩
    have htw : t.takeWhile isAln = [] := by
      unfold tails at ht
      rcases List.mem_cons.mp ht with rfl | ht
      · rfl
      rcases List.mem_cons.mp ht with rfl | ht
      · decide
      rcases List.mem_cons.mp ht with rfl | ht
      · decide
      · cases ht
    obtain ⟨_, e2⟩ := tw_app (isNm_all hn) htw
    rw [e2]
    refine ⟨?_, ht⟩
    cases n with
    | nil => cases hn
    | cons c r =>
      unfold isNm at hn
      rw [Bool.and_eq_true] at hn
      exact hn.1
  · rintro ⟨h1, h2⟩
    refine ⟨o.takeWhile isAln, o.dropWhile isAln, ?_, h2, (List.takeWhile_append_dropWhile ..).symm⟩
    cases o with
    | nil => exact absurd h1 (by decide)
    | cons c r =>
      have h1' : isLet c = true := h1
      have hal : isAln c = true := by unfold isAln; rw [h1']; rfl
      have htw := all_tw (f := isAln) (x := c :: r)
      rw [List.takeWhile_cons, if_pos hal] at htw ⊢
      show (isLet c && (c :: r.takeWhile isAln).all isAln) = true
      rw [h1', htw]; rfl

theorem r_is_target (he : outl false 0 row = some o) : FN F (l + 3) 10 [S row] = some (B (tgt o)) := by
  refine FN_run (f := ⟨"is_target", 171, 1, none, n_is_target, m_is_target⟩) (ρ := [S row, .undef, .undef]) rfl rfl rfl ?_
  have C := Cur.start he
  have en := r_name_end hF (l + 1) row 0 hrow (by omega)
  have ev : evalM (FN F (l + 2)) gtab [S row, .undef, .undef] (.call2 8 (.loc 0) (.int 0)) = some (I (nameEnd row 0)) := v_call2 (v_loc rfl) rfl en
  refine x_assign ev rfl ?_
  have hh := C.headD
  rw [tgt_split, ← hh]
  obtain ⟨hr1, hr2⟩ := Cur.run aln_plain C
  have t0 : testM (FN F (l + 2)) gtab [S row, I (nameEnd row 0), .undef] (.cmp .Eq (.loc 1) (.int 0)) = some (((nameEnd row 0 : Nat) : Int) == 0) := t_cmp (v_loc rfl) rfl eqI
  cases hL : isLet (row.headD 0) with
  | false =>
    have hn : nameEnd row 0 = 0 := by unfold nameEnd; rw [List.drop_zero, hL]; rfl
    rw [hn] at t0 ⊢
    exact x_yes t0 (t_ret (x_ret rfl))
  | true =>
    have hn : nameEnd row 0 = (row.takeWhile isAln).length := by unfold nameEnd; rw [List.drop_zero, hL]; exact scanEnd_zero _ _
    have hne : ¬ (row.takeWhile isAln).length = 0 := by
      cases row with
      | nil => exact absurd hL (by decide)
      | cons c r =>
        have h1' : isLet c = true := hL
        have hal : isAln c = true := by unfold isAln; rw [h1']; rfl
        rw [List.takeWhile_cons, if_pos hal]; simp
    rw [hn] at t0 ⊢
    have hz : ((((row.takeWhile isAln).length : Nat) : Int) == 0) = false := beq_eq_false_iff_ne.mpr (by omega)
    rw [hz] at t0
    rw [List.nil_append] at hr2
    obtain ⟨p', r', C', hiff, el⟩ := tgt_loop hF (l := l) hrow hr2
    refine x_skip t0 (x_range1 (y := 2) rfl (by omega) (t_next el (x_ret (v_test (t_cmp (v_loc rfl) (v_len (v_loc rfl)) (eqI.trans (congrArg some ?_)))))))
    rw [Bool.true_and, Bool.eq_iff_iff, beq_iff_eq, decide_eq_true_eq, ← hiff, ← C'.nil_iff]
    have := C'.len
    constructor
    · intro e
      have : r'.length = 0 := by omega
      exact List.length_eq_zero_iff.mp this
    · intro e
      rw [e] at this
      simp at this
      omega
end
end Mine

end
section
open PySem PySem.W PyProof.Rows
namespace Mine

theorem doTail_plain {x : List Nat} (h : isNm (doTail x) = true) : x.all plainC = true := by
  have ha := isNm_all h
  have hp : (doTail x).all plainC = true := by
    rw [List.all_eq_true] at ha ⊢
    exact fun c hc => aln_plain c (ha c hc)
  unfold doTail at hp
  split at hp
  · rename_i h44
    have e := List.take_append_drop 1 x
    rw [eq_of_beq h44] at e
    rw [← e, List.all_append, hp]; rfl
  · exact hp
theorem isDo_plain {x : List Nat} (h : isDo x = true) : x.all plainC = true := by
  unfold isDo at h
  rw [Bool.and_eq_true, Bool.and_eq_true] at h
  have e := List.take_append_drop 2 x
  rw [eq_of_beq h.1.1] at e
  rw [← e, ← List.takeWhile_append_dropWhile (p := isDig) (l := x.drop 2), List.all_append, List.all_append, doTail_plain h.2]
  have : ((x.drop 2).takeWhile isDig).all plainC = true := by
    rw [List.all_eq_true]
    have := all_tw (f := isDig) (x := x.drop 2)
    rw [List.all_eq_true] at this
    exact fun c hc => dig_plain c (this c hc)
  rw [this]; decide
theorem isDo_both {row o : List Nat} (he : outl false 0 row = some o) : isDo row = isDo o := by
  have C := Cur.start he
  rw [Bool.eq_iff_iff]
  constructor
  · intro h
    have e := C.eqw (isDo_plain h)
    rw [beq_self_eq_true] at e
    rw [eq_of_beq e.symm]; exact h
  · intro h
    have e := C.eqw (isDo_plain h)
    rw [beq_self_eq_true] at e
    rw [eq_of_beq e]; exact h

theorem scan_len (f : Nat → Bool) (x : List Nat) (k : Nat) : scanEnd f x k = k + ((x.drop k).takeWhile f).length := rfl
theorem nm_at {x y : List Nat} {k : Nat} (hk : k ≤ x.length) (hy : x.drop k = y) : (((nameEnd x k : Nat) : Int) == (x.length : Int) && decide ((k : Int) < (x.length : Int))) = isNm y := by
  have hl : x.length = k + y.length := by rw [← hy, List.length_drop]; omega
  cases y with
  | nil =>
    have : ¬ (k : Int) < (x.length : Int) := by rw [hl]; simp
    rw [decide_eq_false this, Bool.and_false]; rfl
  | cons c r =>
    have h2 : (k : Int) < (x.length : Int) := by rw [hl]; simp; omega
    rw [decide_eq_true h2, Bool.and_true]
    unfold nameEnd
    rw [scan_len, hy]
    show _ = (isLet c && (c :: r).all isAln)
    show (((if isLet c then k + ((c :: r).takeWhile isAln).length else k : Nat) : Int) == (x.length : Int)) = _
    cases hL : isLet c with
    | false =>
      rw [if_neg Bool.false_ne_true, Bool.false_and]
      exact beq_eq_false_iff_ne.mpr (by rw [hl]; simp; omega)
    | true =>
      rw [if_pos rfl, Bool.true_and, ← dw_nil, Bool.eq_iff_iff, beq_iff_eq, beq_iff_eq]
      have e := congrArg List.length (List.takeWhile_append_dropWhile (p := isAln) (l := c :: r))
      rw [List.length_append] at e
      constructor
      · intro h
        have : ((c :: r).dropWhile isAln).length = 0 := by omega
        exact List.length_eq_zero_iff.mp this
      · intro h
        rw [h] at e
        simp only [List.length_nil] at e
        omega

section
variable {F : Nat} (hF : 200000 < F) {l : Nat} {row o : List Nat} (hrow : row.length < 100000)
include hF hrow

theorem r_is_do : FN F (l + 2) 13 [S row] = some (B (isDo row)) := by
  refine FN_run (f := ⟨"is_do_head", 192, 1, none, n_is_do_head, m_is_do_head⟩) (ρ := [S row, .undef]) rfl rfl rfl ?_
  have hk : scanEnd isDig row 2 < 200000 := by
    rw [scan_len]
    have := tw_le isDig (row.drop 2)
    rw [List.length_drop] at this
    omega
  have ek : evalM (FN F (l + 1)) gtab [S row, .undef] (.call2 9 (.loc 0) (.int 2)) = some (I (scanEnd isDig row 2)) := v_call2 (v_loc rfl) rfl (r_digits_end hF l row 2 hrow)
  refine x_assign ek rfl ?_
  have hsc := scan_len isDig row 2
  generalize scanEnd isDig row 2 = k at *
  have t0 : testM (FN F (l + 1)) gtab [S row, I k] (.or (.cmp .NotEq (.slT (.loc 0) (.int 2)) (.str [68, 79])) (.cmp .Eq (.loc 1) (.int 2))) = some (row.take 2 != [68, 79] || ((k : Nat) : Int) == 2) :=
    t_or (t_cmp (v_slT1 (k := 2) (v_loc rfl) (by omega)) rfl rfl) (t_cmp (v_loc rfl) rfl eqI)
  have hdrop : row.drop k = (row.drop 2).dropWhile isDig := by rw [hsc, ← List.drop_drop, drop_tw]
  have hb : ((((k : Nat) : Int) == 2) = ((row.drop 2).takeWhile isDig == [])) := by
    rw [Bool.eq_iff_iff, beq_iff_eq, beq_iff_eq]
    constructor
    · intro e
      have : ((row.drop 2).takeWhile isDig).length = 0 := by omega
      exact List.length_eq_zero_iff.mp this
    · intro e
      rw [e] at hsc
      simp only [List.length_nil] at hsc
      omega
  unfold isDo
  rw [hb] at t0
  cases h1 : (row.take 2 == [68, 79]) with
  | false =>
    have : (row.take 2 != [68, 79]) = true := by rw [bne, h1]; rfl
    rw [this] at t0
    exact x_yes t0 (t_ret (x_ret rfl))
  | true =>
    have : (row.take 2 != [68, 79]) = false := by rw [bne, h1]; rfl
    rw [this] at t0
    cases h2 : ((row.drop 2).takeWhile isDig == []) with
    | true =>
      have h2' : ((row.drop 2).takeWhile isDig != []) = false := by rw [bne, h2]; rfl
      rw [h2] at t0
      rw [h2']
      exact x_yes t0 (t_ret (x_ret rfl))
    | false =>
      have h2' : ((row.drop 2).takeWhile isDig != []) = true := by rw [bne, h2]; rfl
      rw [h2] at t0
      rw [h2']
      rw [Bool.true_and, Bool.true_and]
      refine x_skip t0 ?_
      have hkl : k ≤ row.length := by
        have h3 := tw_le isDig (row.drop 2)
        rw [List.length_drop] at h3
        have h4 : ¬ ((row.drop 2).takeWhile isDig).length = 0 := by
          intro e
          have := List.length_eq_zero_iff.mp e
          rw [this] at h2
          cases h2
        omega
      have t1 : testM (FN F (l + 1)) gtab [S row, I k] (.cmp .Eq (.sl (.loc 0) (.loc 1) (.bin .Add (.loc 1) (.int 1))) (.str [44])) = some (((row.drop 2).dropWhile isDig).take 1 == [44]) := by
        refine t_cmp (v_sl1 (v_loc rfl) (v_loc rfl) (by omega)) rfl ?_
        rw [hdrop]; rfl
      have fin : ∀ (j : Nat) (y : List Nat), j ≤ row.length → row.drop j = y → execM (FN F (l + 1)) gtab F (.ret (.and (.cmp .Eq (.call2 8 (.loc 0) (.loc 1)) (.len (.loc 0))) (.cmp .Lt (.loc 1) (.len (.loc 0))))) [S row, I j] = some (.ret (B (isNm y))) := by
        intro j y hj hy
        refine x_ret (v_test ?_)
        rw [← nm_at hj hy]
        exact t_and (t_cmp (v_call2 (v_loc rfl) (v_loc rfl) (r_name_end hF l row j hrow (by omega))) (v_len (v_loc rfl)) eqI) (t_cmp (v_loc rfl) (v_len (v_loc rfl)) ltI)
      unfold doTail
      cases h3 : (((row.drop 2).dropWhile isDig).take 1 == [44]) with
      | false =>
        rw [h3] at t1
        rw [if_neg Bool.false_ne_true]
        exact x_skip t1 (fin k _ hkl hdrop)
      | true =>
        rw [h3] at t1
        rw [if_pos rfl]
        have hlt : k < row.length := by
          have : ¬ ((row.drop 2).dropWhile isDig) = [] := fun e => by rw [e] at h3; cases h3
          rw [← hdrop] at this
          have h5 : ¬ row.length ≤ k := fun e => this (List.drop_eq_nil_of_le e)
          omega
        exact x_yes t1 (t_next (x_aug (v := I k) (u := I 1) (w := I ((k + 1 : Nat) : Int)) (v_loc rfl) rfl rfl rfl x_done) (fin (k + 1) _ (by omega) (by rw [← List.drop_drop, hdrop])))

noncomputable def pTHEN : List Nat := [84, 72, 69, 78]
theorem r_word_of_if (he : outl false 0 row = some o) (h3 : row.take 3 = [73, 70, 40]) : ∃ o', o = 73 :: 70 :: 40 :: 41 :: o' ∧ FN F (l + 3) 14 [S row] = some (S (if o' == pTHEN then wIf else ifW o')) := by
  have C := Cur.start he
  have hr : row = [73, 70] ++ 40 :: row.drop 3 := by
    have e := List.take_append_drop 3 row
    rw [h3] at e; exact e.symm
  obtain ⟨o2, e2, C2⟩ := (Cur.pref (w := [73, 70]) (by decide) C).2 _ hr
  obtain ⟨g, r', o', e3, e4, C3, e5⟩ := C2.group
  refine ⟨o', by rw [e2, e4]; rfl, ?_⟩
  refine FN_run (f := ⟨"word_of_if", 199, 1, none, n_word_of_if, m_word_of_if⟩) (ρ := [S row, .undef]) rfl rfl rfl ?_
  have hlt : 2 < row.length := by rw [hr]; simp
  have ec := r_closing (F := F) l row 2 hrow hlt
  have e5' : closingS row 2 = ((2 + 1 + g.length : Nat) : Int) := e5
  rw [e5'] at ec
  have hpl : ([] ++ [73, 70] ++ 40 :: g ++ [41]).length = 2 + 1 + g.length + 1 := by simp; omega
  have hd : row.drop (2 + 1 + g.length + 1) = r' := by rw [← hpl]; exact C3.drop
  have hle := C3.at_le
  rw [hpl] at hle
  have ev := v_slF (fn := FN F (l + 2)) (gl := gtab) (ρ := [S row, .undef]) (a := .loc 0) (b := .bin .Add (.call2 7 (.loc 0) (.int 2)) (.int 1)) (k := 2 + 1 + g.length + 1) (v_loc rfl) (v_add (i := ((2 + 1 + g.length : Nat) : Int)) (j := 1) (v_call2 (v_loc rfl) rfl ec) rfl) (by omega)
  rw [hd] at ev
  refine x_assign ev rfl ?_
  have t1 : testM (FN F (l + 2)) gtab [S row, S r'] (.cmp .Eq (.loc 1) (.str [84, 72, 69, 78])) = some (o' == pTHEN) := by
    refine t_cmp (v_loc rfl) rfl (congrArg some ?_)
    exact C3.eqw (w := pTHEN) (by decide)
  cases hT : (o' == pTHEN) with
  | true => rw [hT] at t1; exact x_yes t1 (t_ret (x_ret rfl))
  | false =>
    rw [hT] at t1
    rw [if_neg Bool.false_ne_true]
    refine x_skip t1 ?_
    have hh := C3.head
    cases r' with
    | nil =>
      have : o' = [] := C3.nil_iff.mp rfl
      subst this
      exact x_yes (t_cmp (v_loc rfl) rfl rfl) (t_ret (x_ret rfl))
    | cons c r =>
      cases o' with
      | nil => simp at hh
      | cons x o' =>
        simp at hh; subst hh
        have t3 : testM (FN F (l + 2)) gtab [S row, S (c :: r)] (.cmp .In (.idx (.loc 1) (.int 0)) (.glob 2)) = some (isDig c) := t_cmp (v_idx (k := 0) (v_loc rfl) rfl rfl) (u := S g_digits) rfl rfl
        refine x_skip (t_cmp (v_loc rfl) rfl rfl) ?_
        show _ = some (Res.ret (S (if isDig c then wAif else wLif)))
        cases hd : isDig c with
        | true => rw [hd] at t3; exact x_yes t3 (t_ret (x_ret rfl))
        | false => rw [hd] at t3; exact x_skip t3 (x_ret rfl)

theorem all_both {f : Nat → Bool} (hf : ∀ c, f c = true → plainC c = true) {p r o : List Nat} (C : Cur row p r o) : r.all f = o.all f := by
  obtain ⟨_, C'⟩ := Cur.run hf C
  rw [← dw_nil, ← dw_nil, Bool.eq_iff_iff, beq_iff_eq, beq_iff_eq]
  exact C'.nil_iff

theorem r_word_of_goto (he : outl false 0 row = some o) (h3 : row.take 4 = pGOTO) : ∃ o', o = pGOTO ++ o' ∧ FN F (l + 2) 15 [S row] = some (S (gotoW o')) := by
  have C := Cur.start he
  have hr : row = pGOTO ++ row.drop 4 := by
    have e := List.take_append_drop 4 row
    rw [h3] at e; exact e.symm
  obtain ⟨o', e2, C2⟩ := (Cur.pref (w := pGOTO) (by decide) C).2 _ hr
  refine ⟨o', e2, ?_⟩
  refine FN_run (f := ⟨"word_of_goto", 206, 1, none, n_word_of_goto, m_word_of_goto⟩) (ρ := [S row]) rfl rfl rfl ?_
  have hlen : 4 ≤ row.length := by rw [hr]; simp [pGOTO]
  have t40 : evalM (FN F (l + 1)) gtab [S row] (.sl (.loc 0) (.int 4) (.int 5)) = some (S ((row.drop 4).take 1)) :=
    v_sl (k := 4) (j := 5) (v_loc rfl) rfl rfl (by omega) (by omega)
  have t1 : testM (FN F (l + 1)) gtab [S row] (.cmp .Eq (.sl (.loc 0) (.int 4) (.int 5)) (.str [40])) = some (o'.take 1 == [40]) := by
    refine t_cmp t40 rfl (congrArg some ?_)
    exact C2.take1 40
  have hnil : ((row.drop 4).take 1 != []) = (o' != []) := by
    have := C2.nil_iff
    rw [bne, bne]
    congr 1
    rw [Bool.eq_iff_iff, beq_iff_eq, beq_iff_eq, ← this]
    cases row.drop 4 <;> simp
  have hall : (((scanEnd isDig row 4 : Nat) : Int) == (row.length : Int)) = o'.all isDig := by
    rw [← all_both hF hrow dig_plain C2, ← dw_nil, Bool.eq_iff_iff, beq_iff_eq, beq_iff_eq, scan_len]
    have e := congrArg List.length (List.takeWhile_append_dropWhile (p := isDig) (l := row.drop 4))
    rw [List.length_append, List.length_drop] at e
    constructor
    · intro h
      have : ((row.drop 4).dropWhile isDig).length = 0 := by omega
      exact List.length_eq_zero_iff.mp this
    · intro h
      rw [h] at e
      simp only [List.length_nil] at e
      omega
  have t2 : testM (FN F (l + 1)) gtab [S row] (.and (.cmp .NotEq (.sl (.loc 0) (.int 4) (.int 5)) (.str [])) (.cmp .Eq (.call2 9 (.loc 0) (.int 4)) (.len (.loc 0)))) = some (o' != [] && o'.all isDig) := by
    rw [← hnil, ← hall]
    exact t_and (t_cmp t40 rfl rfl) (t_cmp (v_call2 (v_loc rfl) rfl (r_digits_end hF l row 4 hrow)) (v_len (v_loc rfl)) eqI)
  have t3 : testM (FN F (l + 1)) gtab [S row] (.cmp .Gt (.call2 8 (.loc 0) (.int 4)) (.int 4)) = some (isLet (o'.headD 0)) := by
    refine t_cmp (v_call2 (v_loc rfl) rfl (r_name_end hF l row 4 hrow (by omega))) rfl (gtI.trans (congrArg some ?_))
    rw [← C2.headD]
    unfold nameEnd
    cases hL : isLet ((row.drop 4).headD 0) with
    | false => rw [if_neg Bool.false_ne_true]; rfl
    | true =>
      rw [if_pos rfl]
      refine decide_eq_true ?_
      rw [scan_len]
      cases hd : row.drop 4 with
      | nil => rw [hd] at hL; exact absurd hL (by decide)
      | cons c r =>
        rw [hd] at hL
        have h1' : isLet c = true := hL
        have hal : isAln c = true := by unfold isAln; rw [h1']; rfl
        rw [List.takeWhile_cons, if_pos hal, List.length_cons]; omega
  cases o' with
  | nil =>
    exact x_skip t1 (x_skip t2 (x_skip t3 (x_ret rfl)))
  | cons c t =>
    have e1 : ((c :: t).take 1 == [40]) = (c == 40) := by
      show ([c] == [40]) = _
      exact Option.some.inj (eq1 (c := c) (d := 40))
    rw [e1] at t1
    show _ = some (Res.ret (S (if c == 40 then wCgoto else if (c :: t).all isDig then wGoto else if isLet c then wAgoto else [])))
    cases h1 : c == 40 with
    | true => rw [h1] at t1; exact x_yes t1 (t_ret (x_ret rfl))
    | false =>
      rw [h1] at t1
      rw [if_neg Bool.false_ne_true]
      refine x_skip t1 ?_
      have t2' : testM (FN F (l + 1)) gtab [S row] (.and (.cmp .NotEq (.sl (.loc 0) (.int 4) (.int 5)) (.str [])) (.cmp .Eq (.call2 9 (.loc 0) (.int 4)) (.len (.loc 0)))) = some ((c :: t).all isDig) := t2
      cases h2 : (c :: t).all isDig with
      | true => rw [h2] at t2'; exact x_yes t2' (t_ret (x_ret rfl))
      | false =>
        rw [h2] at t2'
        rw [if_neg Bool.false_ne_true]
        refine x_skip t2' ?_
        have t3' : testM (FN F (l + 1)) gtab [S row] (.cmp .Gt (.call2 8 (.loc 0) (.int 4)) (.int 4)) = some (isLet c) := t3
        cases h3 : isLet c with
        | true => rw [h3] at t3'; exact x_yes t3' (t_ret (x_ret rfl))
        | false => rw [h3] at t3'; exact x_skip t3' (x_ret rfl)
end
end Mine

end
section
open PySem PySem.W PyProof.Rows
namespace Mine

theorem take_pref {w r : List Nat} : (r.take w.length == w) = w.isPrefixOf r := by
  rw [Bool.eq_iff_iff, beq_iff_eq, isPrefixOf_iff]
  constructor
  · intro h
    have e := List.take_append_drop w.length r
    rw [h] at e
    exact ⟨_, e.symm⟩
  · rintro ⟨r', e⟩
    rw [e, List.take_left]
theorem Cur.take2 {row p r o : List Nat} (C : Cur row p r o) : (o.take 1 == [40]) = (o.take 2 == [40, 41]) := by
  rcases C.adv_or with ⟨g, r', e1, e2, e3, e4⟩ | ⟨e1, e2, e3⟩
  · rw [e2]; rfl
  · rw [e2]
    cases o with
    | nil => rfl
    | cons c o =>
      have hc : ¬ c = 40 := by rw [head_take] at e2; simpa using e2
      cases o with
      | nil => symm; simp
      | cons d o => symm; simp [hc]
theorem isNm_tw {o : List Nat} : isNm (o.takeWhile isAln) = isLet (o.headD 0) := by
  cases o with
  | nil => rfl
  | cons c r =>
    show _ = isLet c
    cases hL : isLet c with
    | true =>
      have hal : isAln c = true := by unfold isAln; rw [hL]; rfl
      have htw := all_tw (f := isAln) (x := c :: r)
      rw [List.takeWhile_cons, if_pos hal] at htw ⊢
      show (isLet c && (c :: r.takeWhile isAln).all isAln) = true
      rw [hL, htw]; rfl
    | false =>
      rw [List.takeWhile_cons]
      cases hal : isAln c with
      | true => 
        rw [if_pos rfl]
        show (isLet c && (c :: r.takeWhile isAln).all isAln) = false
        rw [hL]; rfl
      | false => rfl
section
variable {fn : Nat → List PV → Option PV} {gl : Nat → Option PV} {F : Nat}
theorem x_forRows {i j : Nat} {e : ME} {b k : MB} {ρ : List PV} {l : List (List Fl)} {r : Option Res} (h : evalM fn gl ρ e = some (.rows l)) (ho : ρ.any PV.isOwn = false)
    (h2 : thenM (loopM (fun v ρ => match put2 ρ i j v with
        | some ρ' => execM fn gl F b ρ'
        | none => none) (l.map .tup) ρ) (execM fn gl F k) = r) : execM fn gl F (.forRows i j e b k) ρ = r := by
  rw [execM, h]; simp only [ho]; exact h2
theorem st_put2 {i j : Nat} {b : MB} {v : PV} {ρ ρ' : List PV} {r : Option Res} (hp : put2 ρ i j v = some ρ') (h : execM fn gl F b ρ' = r) : (fun v ρ => match put2 ρ i j v with
          | some ρ' => execM fn gl F b ρ'
          | none => none) v ρ = r := by
  show (match put2 ρ i j v with
          | some ρ' => execM fn gl F b ρ'
          | none => none) = r
  rw [hp]; exact h
theorem put2_flat {ρ : List PV} {i j : Nat} {old old' : PV} {f f' : Fl} (h : ρ[i]? = some old) (ho : old.isOwn = false) (h' : (ρ.set i (.fl f))[j]? = some old') (ho' : old'.isOwn = false) :
    put2 ρ i j (.tup [f, f']) = some ((ρ.set i (.fl f)).set j (.fl f')) := by
  unfold put2
  simp only [put_flat h ho]
  exact put_flat h' ho'
end

noncomputable def wCharW : List Nat := [99, 104, 97, 114, 97, 99, 116, 101, 114]
noncomputable def b_type2 : MB := (.ite (.cmp .Eq (.sl (.loc 0) (.loc 3) (.bin .Add (.loc 3) (.int 8))) (.str [70, 85, 78, 67, 84, 73, 79, 78]))
    (.assign 4 (.call2 8 (.loc 0) (.bin .Add (.loc 3) (.int 8))) (.ite (.and (.cmp .Gt (.loc 4) (.bin .Add (.loc 3) (.int 8))) (.cmp .Eq (.sl (.loc 0) (.loc 4) (.bin .Add (.loc 4) (.int 1))) (.str [40])))
    (.ret (.str [102, 117, 110, 99, 116, 105, 111, 110]))
    .done
    .done))
    .done
    (.ret (.loc 2)))
noncomputable def b_type : MB := (.ite (.cmp .Eq (.slT (.loc 0) (.len (.loc 1))) (.loc 1))
    (.assign 3 (.len (.loc 1)) (.ite (.and (.cmp .Eq (.loc 2) (.str [99, 104, 97, 114, 97, 99, 116, 101, 114])) (.cmp .Eq (.sl (.loc 0) (.loc 3) (.bin .Add (.loc 3) (.int 1))) (.str [42])))
    (.assign 3 (.call2 9 (.loc 0) (.bin .Add (.loc 3) (.int 1))) (.ite (.cmp .Eq (.sl (.loc 0) (.loc 3) (.bin .Add (.loc 3) (.int 1))) (.str [40]))
    (.assign 3 (.bin .Add (.call2 7 (.loc 0) (.loc 3)) (.int 1)) .done)
    .done
    .done))
    .done
    b_type2))
    .done
    .done)
noncomputable def tw1 (tw : List Nat × List Nat) (o : List Nat) : Option (List Nat) := if tw.1.isPrefixOf o then some (if typed1 tw.1 o == some true then wFunction else tw.2) else none
noncomputable def typeW (o : List Nat) : List Nat := (g_types.findSome? fun tw => tw1 tw o).getD []

section
variable {F : Nat} (hF : 200000 < F) {l : Nat} {row o : List Nat} (hrow : row.length < 100000)
include hF hrow

theorem type2_exec {p r o t w : List Nat} {x4 : PV} (h4 : x4.isOwn = false) (C : Cur row p r o) :
    execM (FN F (l + 2)) gtab F b_type2 [S row, S t, S w, I p.length, x4] = some (.ret (S (if wFUNC.isPrefixOf o && funcTail (o.drop 8) then wFunction else w))) := by
  have hle := C.at_le
  have hp8 := (Cur.pref (w := wFUNC) (by decide) C)
  have ev8 : ∀ y, evalM (FN F (l + 2)) gtab [S row, S t, S w, I p.length, y] (.bin .Add (.loc 3) (.int 8)) = some (I ((p.length + 8 : Nat) : Int)) := fun y => v_add (i := p.length) (j := 8) (v_loc rfl) rfl
  have t0 : testM (FN F (l + 2)) gtab [S row, S t, S w, I p.length, x4] (.cmp .Eq (.sl (.loc 0) (.loc 3) (.bin .Add (.loc 3) (.int 8))) (.str [70, 85, 78, 67, 84, 73, 79, 78])) = some (wFUNC.isPrefixOf o) := by
    refine t_cmp (v_sl (k := p.length) (j := p.length + 8) (v_loc rfl) (v_loc rfl) (ev8 _) (by omega) (by omega)) rfl (congrArg some ?_)
    rw [C.drop, Nat.add_sub_cancel_left, ← hp8.1]
    exact take_pref (w := wFUNC)
  cases hF8 : wFUNC.isPrefixOf o with
  | false =>
    rw [hF8] at t0
    exact x_skip t0 (x_ret (v_loc rfl))
  | true =>
    rw [hF8] at t0
    have h1 := hp8.1
    rw [hF8] at h1
    obtain ⟨r2, er⟩ := isPrefixOf_iff.mp h1
    obtain ⟨o2, eo, C2⟩ := hp8.2 r2 er
    have hpl : (p ++ wFUNC).length = p.length + 8 := by simp [wFUNC]
    have hle2 := C2.at_le
    have eod : o.drop 8 = o2 := by rw [eo]; exact List.drop_left (l₁ := wFUNC)
    rw [eod, Bool.true_and]
    refine x_yes t0 ?_
    have en := r_name_end hF (l + 1) row (p.length + 8) hrow (by omega)
    have hne : nameEnd row (p.length + 8) = if isLet (o2.headD 0) then (p ++ wFUNC ++ r2.takeWhile isAln).length else p.length + 8 := by
      unfold nameEnd
      rw [scan_len, ← hpl, C2.drop, C2.headD, List.length_append (as := p ++ wFUNC)]
    rw [hne] at en
    have pa := fun n : Nat => put_flat (ρ := [S row, S t, S w, I p.length, x4]) (i := 4) (f := .int n) rfl h4
    have tail : ∀ n : Nat, n < 200000 → testM (FN F (l + 2)) gtab [S row, S t, S w, I p.length, I n] (.and (.cmp .Gt (.loc 4) (.bin .Add (.loc 3) (.int 8))) (.cmp .Eq (.sl (.loc 0) (.loc 4) (.bin .Add (.loc 4) (.int 1))) (.str [40]))) = some (decide (p.length + 8 < n) && (row.drop n).take 1 == [40]) := by
      intro n hn
      refine t_and (t_cmp (v_loc rfl) (ev8 _) (gtI.trans (congrArg some ?_))) (t_cmp (v_sl1 (v_loc rfl) (v_loc rfl) (by omega)) rfl rfl)
      rw [Bool.eq_iff_iff, decide_eq_true_eq, decide_eq_true_eq]; omega
    unfold funcTail
    rw [isNm_tw]
    cases hL : isLet (o2.headD 0) with
    | false =>
      rw [hL, if_neg Bool.false_ne_true] at en
      have t1 := tail (p.length + 8) (by omega)
      have : decide (p.length + 8 < p.length + 8) = false := decide_eq_false (by omega)
      rw [this, Bool.false_and] at t1
      exact t_next (x_assign (v_call2 (v_loc rfl) (ev8 _) en) (pa _) (x_skip t1 x_done)) (x_ret (v_loc rfl))
    | true =>
      rw [hL, if_pos rfl] at en
      obtain ⟨etw, C3⟩ := Cur.run aln_plain C2
      have hle3 := C3.at_le
      have t1 := tail (p ++ wFUNC ++ r2.takeWhile isAln).length (by omega)
      have hpos : 0 < (r2.takeWhile isAln).length := by
        rw [← C2.headD] at hL
        cases r2 with
        | nil => exact absurd hL (by decide)
        | cons c r =>
          have h1' : isLet c = true := hL
          have hal : isAln c = true := by unfold isAln; rw [h1']; rfl
          rw [List.takeWhile_cons, if_pos hal]; simp
      have : decide (p.length + 8 < (p ++ wFUNC ++ r2.takeWhile isAln).length) = true := decide_eq_true (by rw [List.length_append, hpl]; omega)
      rw [this, C3.drop, C3.take1, C3.take2, Bool.true_and] at t1
      rw [Bool.true_and]
      cases hq : ((o2.dropWhile isAln).take 2 == [40, 41]) with
      | true =>
        rw [hq] at t1
        exact t_ret (x_assign (v_call2 (v_loc rfl) (ev8 _) en) (pa _) (x_yes t1 (t_ret (x_ret rfl))))
      | false =>
        rw [hq] at t1
        exact t_next (x_assign (v_call2 (v_loc rfl) (ev8 _) en) (pa _) (x_skip t1 x_done)) (x_ret (v_loc rfl))

theorem type_exec (he : outl false 0 row = some o) {t w : List Nat} {x3 x4 : PV} (h3 : x3.isOwn = false) (h4 : x4.isOwn = false) (ht : t.all plainC = true) (htl : t.length < 100000) (hcw : (w == wCharW) = (t == wCHAR)) :
    (tw1 (t, w) o = none ∧ execM (FN F (l + 2)) gtab F b_type [S row, S t, S w, x3, x4] = some (.next [S row, S t, S w, x3, x4])) ∨
    (∃ z, tw1 (t, w) o = some z ∧ execM (FN F (l + 2)) gtab F b_type [S row, S t, S w, x3, x4] = some (.ret (S z))) := by
  have C0 := Cur.start he
  obtain ⟨hp1, hp2⟩ := Cur.pref (w := t) ht C0
  unfold tw1 typed1
  have t0 : testM (FN F (l + 2)) gtab [S row, S t, S w, x3, x4] (.cmp .Eq (.slT (.loc 0) (.len (.loc 1))) (.loc 1)) = some (t.isPrefixOf o) := by
    refine t_cmp (v_slT (v_loc rfl) (v_len (v_loc rfl)) (by omega)) (v_loc rfl) (congrArg some ?_)
    rw [← hp1]; exact take_pref
  cases hpre : t.isPrefixOf o with
  | false =>
    rw [hpre] at t0
    exact .inl ⟨rfl, x_skip t0 x_done⟩
  | true =>
    rw [hpre] at t0 hp1
    obtain ⟨r, er⟩ := isPrefixOf_iff.mp hp1
    obtain ⟨o', eo, C⟩ := hp2 r er
    rw [List.nil_append] at C
    have hle := C.at_le
    have eod : o.drop t.length = o' := by rw [eo, List.drop_left]
    rw [if_pos rfl, if_pos rfl, eod]
    refine .inr ⟨_, rfl, ?_⟩
    have p3 := put_flat (ρ := [S row, S t, S w, x3, x4]) (i := 3) (f := .int t.length) rfl h3
    have t2 : testM (FN F (l + 2)) gtab [S row, S t, S w, I t.length, x4] (.and (.cmp .Eq (.loc 2) (.str [99, 104, 97, 114, 97, 99, 116, 101, 114])) (.cmp .Eq (.sl (.loc 0) (.loc 3) (.bin .Add (.loc 3) (.int 1))) (.str [42]))) = some (t == wCHAR && o'.take 1 == [42]) := by
      rw [← hcw, ← C.take1]
      refine t_and (t_cmp (v_loc rfl) rfl rfl) (t_cmp (v_sl1 (v_loc rfl) (v_loc rfl) (by omega)) rfl ?_)
      rw [C.drop]; rfl
    have fin : ∀ (p' r' o'' : List Nat), Cur row p' r' o'' → execM (FN F (l + 2)) gtab F b_type2 [S row, S t, S w, I p'.length, x4] = some (.ret (S (if ((if wFUNC.isPrefixOf o'' then some (funcTail (o''.drop 8)) else none) == some true) = true then wFunction else w))) := by
      intro p' r' o'' C'
      rw [type2_exec hF (l := l) hrow (t := t) (w := w) h4 C']
      cases wFUNC.isPrefixOf o'' with
      | false => rfl
      | true => cases funcTail (o''.drop 8) <;> rfl
    unfold typedRest
    cases hst : (t == wCHAR && o'.take 1 == [42]) with
    | false =>
      rw [hst] at t2
      rw [if_neg Bool.false_ne_true]
      exact x_yes t0 (t_ret (x_assign (v_len (v_loc rfl)) p3 (x_skip t2 (fin _ _ _ C))))
    | true =>
      rw [hst] at t2
      rw [if_pos rfl]
      rw [Bool.and_eq_true] at hst
      have h42 := hst.2
      cases o' with
      | nil => cases h42
      | cons c o1 =>
        have hc : c = 42 := by rw [head_take] at h42; simpa using h42
        subst hc
        have hh := C.head
        cases r with
        | nil => simp at hh
        | cons x r1 =>
          simp at hh; subst hh
          obtain ⟨o1', e1, C1⟩ := C.plain (by decide)
          have e1 := (List.cons.inj e1).2
          subst e1
          obtain ⟨etw, C2⟩ := Cur.run dig_plain C1
          have hle1 := C1.at_le
          have hle2 := C2.at_le
          have hl1 : (t ++ [42]).length = t.length + 1 := by simp
          have ed := r_digits_end hF (l + 1) row (t.length + 1) hrow
          have hsc : scanEnd isDig row (t.length + 1) = (t ++ [42] ++ r1.takeWhile isDig).length := by
            rw [scan_len, ← hl1, C1.drop, List.length_append (as := t ++ [42])]
          rw [hsc] at ed
          have ev1 : evalM (FN F (l + 2)) gtab [S row, S t, S w, I t.length, x4] (.call2 9 (.loc 0) (.bin .Add (.loc 3) (.int 1))) = some (I (t ++ [42] ++ r1.takeWhile isDig).length) :=
            v_call2 (v_loc rfl) (v_add (i := t.length) (j := 1) (v_loc rfl) rfl) ed
          have t3 : testM (FN F (l + 2)) gtab [S row, S t, S w, I (t ++ [42] ++ r1.takeWhile isDig).length, x4] (.cmp .Eq (.sl (.loc 0) (.loc 3) (.bin .Add (.loc 3) (.int 1))) (.str [40])) = some ((o1.dropWhile isDig).take 2 == [40, 41]) := by
            rw [← C2.take2, ← C2.take1]
            refine t_cmp (v_sl1 (v_loc rfl) (v_loc rfl) (by omega)) rfl ?_
            rw [C2.drop]; rfl
          unfold starRest
          have fin2 : ∀ (p' r' o'' : List Nat), Cur row p' r' o'' → o'' = (if ((o1.dropWhile isDig).take 2 == [40, 41]) = true then (o1.dropWhile isDig).drop 2 else o1.dropWhile isDig) → execM (FN F (l + 2)) gtab F b_type2 [S row, S t, S w, I p'.length, x4] = some (.ret (S (if ((if wFUNC.isPrefixOf (if ((((42 :: o1).drop 1).dropWhile isDig).take 2 == [40, 41]) = true then (((42 :: o1).drop 1).dropWhile isDig).drop 2 else ((42 :: o1).drop 1).dropWhile isDig) = true then some (funcTail ((if ((((42 :: o1).drop 1).dropWhile isDig).take 2 == [40, 41]) = true then (((42 :: o1).drop 1).dropWhile isDig).drop 2 else ((42 :: o1).drop 1).dropWhile isDig).drop 8)) else none) == some true) = true then wFunction else w))) := by
            intro p' r' o'' C' e
            have := fin p' r' o'' C'
            rw [e] at this
            exact this
          have h12 := C2.take2
          rcases C2.adv_or with ⟨g, r', a1, a2, a3, a4⟩ | ⟨a1, a2, a3⟩
          · have hq : ((o1.dropWhile isDig).take 2 == [40, 41]) = true := by rw [a2]; rfl
            have hd2 : (o1.dropWhile isDig).drop 2 = adv (o1.dropWhile isDig) := by rw [a2]; rfl
            rw [hq] at t3
            rw [hq, if_pos rfl, hd2] at fin2
            have hlt : (t ++ [42] ++ r1.takeWhile isDig).length < row.length := by rw [C2.len, a1]; simp
            have ec := r_closing (F := F) l row _ hrow hlt
            rw [a4] at ec
            have hl3 : (t ++ [42] ++ r1.takeWhile isDig ++ 40 :: g ++ [41]).length = (t ++ [42] ++ r1.takeWhile isDig).length + 1 + g.length + 1 := by
              rw [List.length_append, List.length_append (bs := 40 :: g), List.length_cons, List.length_singleton]; omega
            have ev2 : evalM (FN F (l + 2)) gtab [S row, S t, S w, I (t ++ [42] ++ r1.takeWhile isDig).length, x4] (.bin .Add (.call2 7 (.loc 0) (.loc 3)) (.int 1)) = some (I (t ++ [42] ++ r1.takeWhile isDig ++ 40 :: g ++ [41]).length) := by
              rw [v_add (v_call2 (v_loc rfl) (v_loc rfl) ec) (j := 1) rfl, hl3]; rfl
            exact x_yes t0 (t_ret (x_assign (v_len (v_loc rfl)) p3 (x_yes t2 (t_next (x_assign ev1 rfl (x_yes t3 (t_next (x_assign ev2 rfl x_done) x_done))) (fin2 _ _ _ a3 rfl)))))
          · rw [a2] at h12
            rw [← h12] at t3
            rw [← h12, if_neg Bool.false_ne_true] at fin2
            exact x_yes t0 (t_ret (x_assign (v_len (v_loc rfl)) p3 (x_yes t2 (t_next (x_assign ev1 rfl (x_skip t3 x_done)) (fin2 _ _ _ C2 rfl)))))
end
end Mine

end
section
open PySem PySem.W PyProof.Rows
namespace Mine

theorem Cur.pref40 {row w p r o : List Nat} (hw : w.all plainC = true) (C : Cur row p r o) : (w ++ [40]).isPrefixOf r = (w ++ [40]).isPrefixOf o := by
  obtain ⟨h1, h2⟩ := Cur.pref hw C
  rw [Bool.eq_iff_iff, isPrefixOf_iff, isPrefixOf_iff]
  constructor
  · rintro ⟨r', e⟩
    obtain ⟨o', e1, C'⟩ := h2 (40 :: r') (by rw [e]; simp)
    have hh := C'.head
    cases o' with
    | nil => simp at hh
    | cons x o' =>
      simp at hh; subst hh
      exact ⟨o', by rw [e1]; simp⟩
  · rintro ⟨o', e⟩
    have hw1 : w.isPrefixOf r = true := by rw [h1]; exact isPrefixOf_iff.mpr ⟨40 :: o', by rw [e]; simp⟩
    obtain ⟨r', er⟩ := isPrefixOf_iff.mp hw1
    obtain ⟨o'', e1, C'⟩ := h2 r' er
    have : o'' = 40 :: o' := by
      rw [e] at e1
      have e1' : w ++ 40 :: o' = w ++ o'' := by rw [← e1]; simp
      exact (List.append_cancel_left e1').symm
    have hh := C'.head
    rw [this] at hh
    cases r' with
    | nil => simp at hh
    | cons x r' =>
      simp at hh; subst hh
      exact ⟨r', by rw [er]; simp⟩
noncomputable def pfOK (t : List Nat) : Bool := decide (t.length < 100) && (t.all plainC || (t.dropLast.all plainC && t == t.dropLast ++ [40]))
theorem Cur.prefOK {row t p r o : List Nat} (ht : pfOK t = true) (C : Cur row p r o) : t.isPrefixOf r = t.isPrefixOf o := by
  unfold pfOK at ht
  rw [Bool.and_eq_true, Bool.or_eq_true, Bool.and_eq_true] at ht
  rcases ht.2 with h | ⟨h1, h2⟩
  · exact (Cur.pref h C).1
  · rw [eq_of_beq h2]; exact Cur.pref40 h1 C

section
variable {F : Nat} (hF : 200000 < F) {l : Nat} {row o : List Nat} (hrow : row.length < 100000)
include hF hrow

theorem type_loop (he : outl false 0 row = some o) : ∀ (tws : List (List Nat × List Nat)) (x1 x2 x3 x4 : PV), tws.all (fun tw => tw.1.all plainC && decide (tw.1.length < 100000) && ((tw.2 == wCharW) == (tw.1 == wCHAR))) = true →
    x1.isOwn = false → x2.isOwn = false → x3.isOwn = false → x4.isOwn = false →
    (tws.findSome? (fun tw => tw1 tw o) = none ∧ ∃ x1' x2', loopM (fun v ρ => match put2 ρ 1 2 v with
        | some ρ' => execM (FN F (l + 2)) gtab F b_type ρ'
        | none => none) ((tws.map fun p => [Fl.str p.1, Fl.str p.2]).map .tup) [S row, x1, x2, x3, x4] = some (.next [S row, x1', x2', x3, x4])) ∨
    (∃ z, tws.findSome? (fun tw => tw1 tw o) = some z ∧ loopM (fun v ρ => match put2 ρ 1 2 v with
        | some ρ' => execM (FN F (l + 2)) gtab F b_type ρ'
        | none => none) ((tws.map fun p => [Fl.str p.1, Fl.str p.2]).map .tup) [S row, x1, x2, x3, x4] = some (.ret (S z)))
  | [], x1, x2, x3, x4, _, _, _, _, _ => .inl ⟨rfl, x1, x2, rfl⟩
  | (t, w) :: tws, x1, x2, x3, x4, hall, h1, h2, h3, h4 => by
    rw [List.all_cons, Bool.and_eq_true, Bool.and_eq_true, Bool.and_eq_true, decide_eq_true_eq] at hall
    have hp : put2 [S row, x1, x2, x3, x4] 1 2 (.tup [.str t, .str w]) = some [S row, S t, S w, x3, x4] := put2_flat (i := 1) (j := 2) rfl h1 rfl h2
    rw [List.map_cons, List.map_cons, List.findSome?_cons]
    rcases type_exec hF (l := l) hrow he (t := t) (w := w) h3 h4 hall.1.1.1 hall.1.1.2 (eq_of_beq hall.1.2) with ⟨a, b⟩ | ⟨z, a, b⟩
    · rw [a]
      rcases type_loop he tws (S t) (S w) x3 x4 hall.2 rfl rfl h3 h4 with ⟨c, x1', x2', d⟩ | ⟨z, c, d⟩
      · exact .inl ⟨c, x1', x2', l_next (st_put2 hp b) d⟩
      · exact .inr ⟨z, c, l_next (st_put2 hp b) d⟩
    · rw [a]
      exact .inr ⟨z, rfl, l_ret (st_put2 hp b)⟩

theorem r_word_of_type (he : outl false 0 row = some o) : FN F (l + 3) 16 [S row] = some (S (typeW o)) := by
  refine FN_run (f := ⟨"word_of_type", 213, 1, none, n_word_of_type, m_word_of_type⟩) (ρ := [S row, .undef, .undef, .undef, .undef]) rfl rfl rfl ?_
  unfold typeW
  show execM (FN F (l + 2)) gtab F (.forRows 1 2 (.glob 5) b_type (.ret (.str []))) [S row, .undef, .undef, .undef, .undef] = _
  have hgl : evalM (FN F (l + 2)) gtab [S row, .undef, .undef, .undef, .undef] (.glob 5) = some (.rows (g_types.map fun p => [Fl.str p.1, Fl.str p.2])) := rfl
  rcases type_loop hF (l := l) hrow he g_types .undef .undef .undef .undef (by decide) rfl rfl rfl rfl with ⟨c, x1', x2', d⟩ | ⟨z, c, d⟩
  · rw [c]
    generalize (g_types.map fun p => [Fl.str p.1, Fl.str p.2]) = ll at hgl d
    exact x_forRows hgl rfl (t_next d (x_ret rfl))
  · rw [c]
    generalize (g_types.map fun p => [Fl.str p.1, Fl.str p.2]) = ll at hgl d
    exact x_forRows hgl rfl (t_ret d)

noncomputable def eq1W (o : List Nat) (tw : List Nat × List Nat) : Option (List Nat) := if o == tw.1 then some tw.2 else none
noncomputable def pf1W (o : List Nat) (tw : List Nat × List Nat) : Option (List Nat) := if tw.1.isPrefixOf o then some tw.2 else none
theorem whole_loop (he : outl false 0 row = some o) : ∀ (tws : List (List Nat × List Nat)) (x1 x2 : PV), tws.all (fun tw => tw.1.all plainC) = true → x1.isOwn = false → x2.isOwn = false →
    (tws.findSome? (eq1W o) = none ∧ ∃ x1' x2', x1'.isOwn = false ∧ x2'.isOwn = false ∧ loopM (fun v ρ => match put2 ρ 1 2 v with
        | some ρ' => execM (FN F l) gtab F (.ite (.cmp .Eq (.loc 0) (.loc 1)) (.ret (.loc 2)) .done .done) ρ'
        | none => none) ((tws.map fun p => [Fl.str p.1, Fl.str p.2]).map .tup) [S row, x1, x2] = some (.next [S row, x1', x2'])) ∨
    (∃ z, tws.findSome? (eq1W o) = some z ∧ loopM (fun v ρ => match put2 ρ 1 2 v with
        | some ρ' => execM (FN F l) gtab F (.ite (.cmp .Eq (.loc 0) (.loc 1)) (.ret (.loc 2)) .done .done) ρ'
        | none => none) ((tws.map fun p => [Fl.str p.1, Fl.str p.2]).map .tup) [S row, x1, x2] = some (.ret (S z)))
  | [], x1, x2, _, h1, h2 => .inl ⟨rfl, x1, x2, h1, h2, rfl⟩
  | (t, w) :: tws, x1, x2, hall, h1, h2 => by
    rw [List.all_cons, Bool.and_eq_true] at hall
    have hp : put2 [S row, x1, x2] 1 2 (.tup [.str t, .str w]) = some [S row, S t, S w] := put2_flat (i := 1) (j := 2) rfl h1 rfl h2
    have e := (Cur.start he).eqw hall.1
    have tt : testM (FN F l) gtab [S row, S t, S w] (.cmp .Eq (.loc 0) (.loc 1)) = some (o == t) := t_cmp (v_loc rfl) (v_loc rfl) (congrArg some e)
    rw [List.map_cons, List.map_cons, List.findSome?_cons]
    unfold eq1W
    cases h : o == t with
    | true =>
      rw [h] at tt
      exact .inr ⟨w, by simp [h], l_ret (st_put2 hp (x_yes tt (t_ret (x_ret (v_loc rfl)))))⟩
    | false =>
      rw [h] at tt
      simp only [h, Bool.false_eq_true, if_false]
      rcases whole_loop he tws (S t) (S w) hall.2 rfl rfl with ⟨c, x1', x2', a1, a2, d⟩ | ⟨z, c, d⟩
      · exact .inl ⟨c, x1', x2', a1, a2, l_next (st_put2 hp (x_skip tt x_done)) d⟩
      · exact .inr ⟨z, c, l_next (st_put2 hp (x_skip tt x_done)) d⟩
theorem begins_loop (he : outl false 0 row = some o) : ∀ (tws : List (List Nat × List Nat)) (x1 x2 : PV), tws.all (fun tw => pfOK tw.1) = true → x1.isOwn = false → x2.isOwn = false →
    (tws.findSome? (pf1W o) = none ∧ ∃ x1' x2', loopM (fun v ρ => match put2 ρ 1 2 v with
        | some ρ' => execM (FN F l) gtab F (.ite (.cmp .Eq (.slT (.loc 0) (.len (.loc 1))) (.loc 1)) (.ret (.loc 2)) .done .done) ρ'
        | none => none) ((tws.map fun p => [Fl.str p.1, Fl.str p.2]).map .tup) [S row, x1, x2] = some (.next [S row, x1', x2'])) ∨
    (∃ z, tws.findSome? (pf1W o) = some z ∧ loopM (fun v ρ => match put2 ρ 1 2 v with
        | some ρ' => execM (FN F l) gtab F (.ite (.cmp .Eq (.slT (.loc 0) (.len (.loc 1))) (.loc 1)) (.ret (.loc 2)) .done .done) ρ'
        | none => none) ((tws.map fun p => [Fl.str p.1, Fl.str p.2]).map .tup) [S row, x1, x2] = some (.ret (S z)))
  | [], x1, x2, _, h1, h2 => .inl ⟨rfl, x1, x2, rfl⟩
  | (t, w) :: tws, x1, x2, hall, h1, h2 => by
    rw [List.all_cons, Bool.and_eq_true] at hall
    have hp : put2 [S row, x1, x2] 1 2 (.tup [.str t, .str w]) = some [S row, S t, S w] := put2_flat (i := 1) (j := 2) rfl h1 rfl h2
    have e := (Cur.start he).prefOK hall.1
    have hlen : t.length < 100 := by
      have := hall.1
      unfold pfOK at this
      rw [Bool.and_eq_true, decide_eq_true_eq] at this
      exact this.1
    have tt : testM (FN F l) gtab [S row, S t, S w] (.cmp .Eq (.slT (.loc 0) (.len (.loc 1))) (.loc 1)) = some (t.isPrefixOf o) :=
      t_cmp (v_slT (v_loc rfl) (v_len (v_loc rfl)) (by omega)) (v_loc rfl) (congrArg some (take_pref.trans e))
    rw [List.map_cons, List.map_cons, List.findSome?_cons]
    unfold pf1W
    cases h : t.isPrefixOf o with
    | true =>
      rw [h] at tt
      exact .inr ⟨w, by simp [h], l_ret (st_put2 hp (x_yes tt (t_ret (x_ret (v_loc rfl)))))⟩
    | false =>
      rw [h] at tt
      simp only [h, Bool.false_eq_true, if_false]
      rcases begins_loop he tws (S t) (S w) hall.2 rfl rfl with ⟨c, x1', x2', d⟩ | ⟨z, c, d⟩
      · exact .inl ⟨c, x1', x2', l_next (st_put2 hp (x_skip tt x_done)) d⟩
      · exact .inr ⟨z, c, l_next (st_put2 hp (x_skip tt x_done)) d⟩

noncomputable def wElseif : List Nat := [101, 108, 115, 101, 105, 102]
noncomputable def WB (o : List Nat) : List Nat := match g_whole.findSome? (eq1W o) with
  | some z => z
  | none => if o.take 3 == [73, 70, 40] then (if o.drop 4 == pTHEN then wIf else ifW (o.drop 4))
    else if o.take 7 == pELSEIF then (if o.drop 8 == pTHEN then wElseif else [])
    else if o.take 4 == pGOTO then gotoW (o.drop 4)
    else if o.take 6 == pASSIGN && isDig ((o.drop 6).headD 0) then wSetl
    else match g_begins.findSome? (pf1W o) with
      | some z => z
      | none => typeW o

theorem r_word_by_begin (he : outl false 0 row = some o) : FN F (l + 4) 17 [S row] = some (S (WB o)) := by
  refine FN_run (f := ⟨"word_by_begin", 220, 1, none, n_word_by_begin, m_word_by_begin⟩) (ρ := [S row, .undef, .undef]) rfl rfl rfl ?_
  have C := Cur.start he
  unfold WB
  rcases whole_loop hF (l := l + 3) hrow he g_whole .undef .undef (by decide) rfl rfl with ⟨c, x1, x2, h1, h2, d⟩ | ⟨z, c, d⟩
  rotate_left
  · rw [c]
    exact x_forRows (l := g_whole.map fun p => [Fl.str p.1, Fl.str p.2]) rfl rfl (t_ret d)
  rw [c]
  refine x_forRows (l := g_whole.map fun p => [Fl.str p.1, Fl.str p.2]) rfl rfl (t_next d ?_)
  have t3 : testM (FN F (l + 3)) gtab [S row, x1, x2] (.cmp .Eq (.slT (.loc 0) (.int 3)) (.str [73, 70, 40])) = some (o.take 3 == [73, 70, 40]) := by
    refine t_cmp (v_slT1 (k := 3) (v_loc rfl) (by omega)) rfl (congrArg some ?_)
    exact (take_pref (w := [73, 70, 40])).trans ((Cur.pref40 (w := [73, 70]) (by decide) C).trans (take_pref (w := [73, 70, 40])).symm)
  have t7 : testM (FN F (l + 3)) gtab [S row, x1, x2] (.cmp .Eq (.slT (.loc 0) (.int 7)) (.str [69, 76, 83, 69, 73, 70, 40])) = some (o.take 7 == pELSEIF) := by
    refine t_cmp (v_slT1 (k := 7) (v_loc rfl) (by omega)) rfl (congrArg some ?_)
    exact (take_pref (w := pELSEIF)).trans ((Cur.pref40 (w := [69, 76, 83, 69, 73, 70]) (by decide) C).trans (take_pref (w := pELSEIF)).symm)
  have t4 : testM (FN F (l + 3)) gtab [S row, x1, x2] (.cmp .Eq (.slT (.loc 0) (.int 4)) (.str [71, 79, 84, 79])) = some (o.take 4 == pGOTO) := by
    refine t_cmp (v_slT1 (k := 4) (v_loc rfl) (by omega)) rfl (congrArg some ?_)
    exact (take_pref (w := pGOTO)).trans ((Cur.pref (w := pGOTO) (by decide) C).1.trans (take_pref (w := pGOTO)).symm)
  have t6 : testM (FN F (l + 3)) gtab [S row, x1, x2] (.and (.cmp .Eq (.slT (.loc 0) (.int 6)) (.str [65, 83, 83, 73, 71, 78])) (.cmp .Gt (.call2 9 (.loc 0) (.int 6)) (.int 6))) = some (o.take 6 == pASSIGN && isDig ((o.drop 6).headD 0)) := by
    have ea : (row.take 6 == pASSIGN) = (o.take 6 == pASSIGN) := (take_pref (w := pASSIGN)).trans ((Cur.pref (w := pASSIGN) (by decide) C).1.trans (take_pref (w := pASSIGN)).symm)
    have ta : testM (FN F (l + 3)) gtab [S row, x1, x2] (.cmp .Eq (.slT (.loc 0) (.int 6)) (.str [65, 83, 83, 73, 71, 78])) = some (o.take 6 == pASSIGN) :=
      t_cmp (v_slT1 (k := 6) (v_loc rfl) (by omega)) rfl (congrArg some ea)
    cases hA : (o.take 6 == pASSIGN) with
    | false => rw [hA] at ta; exact t_and_f ta
    | true =>
      rw [hA] at ta ea
      refine t_and_t ta (t_cmp (v_call2 (v_loc rfl) rfl (r_digits_end hF (l + 2) row 6 hrow)) rfl (gtI.trans (congrArg some ?_)))
      have hr : row = pASSIGN ++ row.drop 6 := by
        have e := List.take_append_drop 6 row
        rw [eq_of_beq ea] at e; exact e.symm
      obtain ⟨o', e2, C2⟩ := (Cur.pref (w := pASSIGN) (by decide) C).2 _ hr
      have eo : o.drop 6 = o' := by rw [e2]; exact List.drop_left (l₁ := pASSIGN)
      rw [eo, ← C2.headD, scan_len]
      cases hd : row.drop 6 with
      | nil => exact decide_eq_false (by simp)
      | cons c r =>
        show _ = isDig c
        rw [List.takeWhile_cons]
        cases hc : isDig c with
        | true => rw [if_pos rfl, List.length_cons]; exact decide_eq_true (by omega)
        | false => exact decide_eq_false (by simp)
  cases h3 : (o.take 3 == [73, 70, 40]) with
  | true =>
    rw [h3] at t3
    have hr3 : row.take 3 = [73, 70, 40] := by
      have e : (row.take 3 == [73, 70, 40]) = (o.take 3 == [73, 70, 40]) := (take_pref (w := [73, 70, 40])).trans ((Cur.pref40 (w := [73, 70]) (by decide) C).trans (take_pref (w := [73, 70, 40])).symm)
      rw [h3] at e; exact eq_of_beq e
    obtain ⟨o', eo, ef⟩ := r_word_of_if hF (l := l) hrow he hr3
    have ed : o.drop 4 = o' := by rw [eo]; rfl
    rw [ed]
    exact x_yes t3 (t_ret (x_ret (v_call1 (v_loc rfl) ef)))
  | false =>
  rw [h3] at t3
  rw [if_neg Bool.false_ne_true]
  refine x_skip t3 ?_
  cases h7 : (o.take 7 == pELSEIF) with
  | true =>
    rw [h7] at t7
    rw [if_pos rfl]
    have hr7 : (row.take 7 == pELSEIF) = true := by
      have e : (row.take 7 == pELSEIF) = (o.take 7 == pELSEIF) := (take_pref (w := pELSEIF)).trans ((Cur.pref40 (w := [69, 76, 83, 69, 73, 70]) (by decide) C).trans (take_pref (w := pELSEIF)).symm)
      rw [h7] at e; exact e
    have hr : row = [69, 76, 83, 69, 73, 70] ++ 40 :: row.drop 7 := by
      have e := List.take_append_drop 7 row
      rw [eq_of_beq hr7] at e; exact e.symm
    obtain ⟨o2, e2, C2⟩ := (Cur.pref (w := [69, 76, 83, 69, 73, 70]) (by decide) C).2 _ hr
    obtain ⟨g, r', o', e3, e4, C3, e5⟩ := C2.group
    have hlt : 6 < row.length := by rw [hr]; simp
    have ec := r_closing (F := F) (l + 1) row 6 hrow hlt
    have e5' : closingS row 6 = ((6 + 1 + g.length : Nat) : Int) := e5
    rw [e5'] at ec
    have hpl : ([] ++ [69, 76, 83, 69, 73, 70] ++ 40 :: g ++ [41]).length = 6 + 1 + g.length + 1 := by simp; omega
    have hd : row.drop (6 + 1 + g.length + 1) = r' := by rw [← hpl]; exact C3.drop
    have hle := C3.at_le
    rw [hpl] at hle
    have ev := v_slF (fn := FN F (l + 3)) (gl := gtab) (ρ := [S row, x1, x2]) (a := .loc 0) (b := .bin .Add (.call2 7 (.loc 0) (.int 6)) (.int 1)) (k := 6 + 1 + g.length + 1) (v_loc rfl) (v_add (i := ((6 + 1 + g.length : Nat) : Int)) (j := 1) (v_call2 (v_loc rfl) rfl ec) rfl) (by omega)
    rw [hd] at ev
    have ed : o.drop 8 = o' := by rw [e2, e4]; rfl
    rw [ed]
    refine x_yes t7 (t_ret (x_ret (v_cond (r := o' == pTHEN) (t_cmp ev rfl (congrArg some (C3.eqw (w := pTHEN) (by decide)))) ?_)))
    split <;> rfl
  | false =>
  rw [h7] at t7
  rw [if_neg Bool.false_ne_true]
  refine x_skip t7 ?_
  cases h4 : (o.take 4 == pGOTO) with
  | true =>
    rw [h4] at t4
    rw [if_pos rfl]
    have hr4 : row.take 4 = pGOTO := by
      have e : (row.take 4 == pGOTO) = (o.take 4 == pGOTO) := (take_pref (w := pGOTO)).trans ((Cur.pref (w := pGOTO) (by decide) C).1.trans (take_pref (w := pGOTO)).symm)
      rw [h4] at e; exact eq_of_beq e
    obtain ⟨o', eo, ef⟩ := r_word_of_goto hF (l := l + 1) hrow he hr4
    have ed : o.drop 4 = o' := by rw [eo]; exact List.drop_left (l₁ := pGOTO)
    rw [ed]
    exact x_yes t4 (t_ret (x_ret (v_call1 (v_loc rfl) ef)))
  | false =>
  rw [h4] at t4
  rw [if_neg Bool.false_ne_true]
  refine x_skip t4 ?_
  cases h6 : (o.take 6 == pASSIGN && isDig ((o.drop 6).headD 0)) with
  | true =>
    rw [h6] at t6
    rw [if_pos rfl]
    exact x_yes t6 (t_ret (x_ret rfl))
  | false =>
  rw [h6] at t6
  rw [if_neg Bool.false_ne_true]
  refine x_skip t6 ?_
  have hown : [S row, x1, x2].any PV.isOwn = false := by
    show (PV.isOwn (S row) || (x1.isOwn || (x2.isOwn || false))) = false
    rw [h1, h2]; rfl
  rcases begins_loop hF (l := l + 3) hrow he g_begins x1 x2 (by decide) h1 h2 with ⟨c, x1', x2', d⟩ | ⟨z, c, d⟩
  · rw [c]
    exact x_forRows (l := g_begins.map fun p => [Fl.str p.1, Fl.str p.2]) rfl hown (t_next d (x_ret (v_call1 (v_loc rfl) (r_word_of_type hF (l := l) hrow he))))
  · rw [c]
    exact x_forRows (l := g_begins.map fun p => [Fl.str p.1, Fl.str p.2]) rfl hown (t_ret d)
end
end Mine

end
section
open PySem PySem.W PyProof.Rows
namespace Mine

/-! ## the two words without an equals sign -/
theorem opens_uniq : opens34.all (fun w => opens34.all fun w' => !w.isPrefixOf w' || w == w') = true := by decide
theorem pre_of_pre {w w' o : List Nat} (h : w.isPrefixOf o = true) (h' : w'.isPrefixOf o = true) : w.isPrefixOf w' = true ∨ w'.isPrefixOf w = true := by
  rw [List.isPrefixOf_iff_prefix] at h h'
  rw [List.isPrefixOf_iff_prefix, List.isPrefixOf_iff_prefix]
  rcases Nat.le_total w.length w'.length with hl | hl
  · exact .inl (List.prefix_of_prefix_length_le h h' hl)
  · exact .inr (List.prefix_of_prefix_length_le h' h hl)
theorem open_uniq {w w' o : List Nat} (hw : w ∈ opens34) (hw' : w' ∈ opens34) (h : w.isPrefixOf o = true) (h' : w'.isPrefixOf o = true) : w = w' := by
  have u := opens_uniq
  rw [List.all_eq_true] at u
  rcases pre_of_pre h h' with p | p
  · have := List.all_eq_true.mp (u w hw) w' hw'
    rw [p] at this
    simpa using this
  · have := List.all_eq_true.mp (u w' hw') w hw
    rw [p] at this
    have e : w' = w := by simpa using this
    exact e.symm
theorem best_none {o : List Nat} : ∀ (ws : List (List Nat)) (b : List Nat), (∀ w ∈ ws, w.isPrefixOf o = false) → bestOf ws o b = b
  | [], b, _ => rfl
  | w :: ws, b, h => by
    show bestOf ws o (if w.isPrefixOf o && decide (b.length < w.length) then w else b) = b
    rw [h w (List.mem_cons_self ..)]
    exact best_none ws b fun w' hw' => h w' (List.mem_cons_of_mem _ hw')
theorem best_some {o w0 : List Nat} (h0 : w0.isPrefixOf o = true) (hne : 0 < w0.length) : ∀ (ws : List (List Nat)) (b : List Nat), (∀ w ∈ ws, w.isPrefixOf o = true → w = w0) → (b = w0 ∨ (b = [] ∧ w0 ∈ ws)) → bestOf ws o b = w0
  | [], b, _, hb => by
    rcases hb with rfl | ⟨_, h⟩
    · rfl
    · cases h
  | w :: ws, b, h, hb => by
    show bestOf ws o (if w.isPrefixOf o && decide (b.length < w.length) then w else b) = w0
    have hu := fun w' hw' => h w' (List.mem_cons_of_mem w hw')
    refine best_some h0 hne ws _ hu ?_
    rcases hb with rfl | ⟨rfl, hm⟩
    · left
      split
      · rename_i hc
        rw [Bool.and_eq_true] at hc
        exact h w (List.mem_cons_self ..) hc.1
      · rfl
    · rcases List.mem_cons.mp hm with rfl | hm
      · left
        rw [h0]
        rw [if_pos (by simpa using hne)]
      · split
        · rename_i hc
          rw [Bool.and_eq_true] at hc
          exact .inl (h w (List.mem_cons_self ..) hc.1)
        · exact .inr ⟨rfl, hm⟩

theorem begins_in : g_begins.all (fun tw => decide (tw.1 ∈ opens34) && (begins34.lookup tw.1 == some tw.2) && decide (0 < tw.1.length) && types6.all fun w => !(w == tw.1)) = true := by decide
theorem types_in : g_types.all (fun tw => decide (tw.1 ∈ opens34) && (begins34.lookup tw.1 == some tw.2) && decide (0 < tw.1.length) && decide (tw.1 ∈ types6)) = true := by decide
theorem types6_in : types6.all (fun w => decide (w ∈ opens34)) = true := by decide
theorem types6_g : types6.all (fun w => decide (w ∈ g_types.map (·.1))) = true := by decide
theorem opens_all : opens34.all (fun w => decide (w ∈ g_begins.map (·.1)) || decide (w ∈ g_types.map (·.1))) = true := by decide

theorem typed1_pre {w o : List Nat} {b : Bool} (h : typed1 w o = some b) : w.isPrefixOf o = true := by
  unfold typed1 at h
  split at h
  · assumption
  · cases h
theorem tail_words (o : List Nat) : (if typed o then wFunction else (begins34.lookup (bestOf opens34 o [])).getD []) = (match g_begins.findSome? (pf1W o) with
      | some z => z
      | none => typeW o) := by
  cases hb : g_begins.findSome? (pf1W o) with
  | some z =>
    obtain ⟨tw, hm, e⟩ := List.exists_of_findSome?_eq_some hb
    unfold pf1W at e
    split at e
    · rename_i hp
      cases e
      have hi := List.all_eq_true.mp begins_in tw hm
      simp only [Bool.and_eq_true, decide_eq_true_eq, beq_iff_eq] at hi
      obtain ⟨⟨⟨h1, h2⟩, h3⟩, h4⟩ := hi
      have hty : typed o = false := by
        unfold typed
        cases ht : types6.findSome? (fun w => typed1 w o) with
        | none => rfl
        | some b =>
          exfalso
          obtain ⟨w, hw, ew⟩ := List.exists_of_findSome?_eq_some ht
          have hw34 : w ∈ opens34 := of_decide_eq_true (List.all_eq_true.mp types6_in w hw)
          have e := open_uniq hw34 h1 (typed1_pre ew) hp
          have := List.all_eq_true.mp h4 w hw
          rw [e] at this
          simp at this
      rw [hty, best_some hp h3 opens34 [] (fun w hw hwp => open_uniq hw h1 hwp hp) (.inr ⟨rfl, h1⟩), h2]
      rfl
    · cases e
  | none =>
    have hnb : ∀ tw ∈ g_begins, tw.1.isPrefixOf o = false := by
      intro tw hm
      have := List.findSome?_eq_none_iff.mp hb tw hm
      unfold pf1W at this
      cases h : tw.1.isPrefixOf o with
      | false => rfl
      | true => rw [h] at this; cases this
    show _ = typeW o
    unfold typeW
    cases hty : g_types.findSome? (fun tw => tw1 tw o) with
    | some z =>
      obtain ⟨tw, hm, e⟩ := List.exists_of_findSome?_eq_some hty
      unfold tw1 at e
      split at e
      · rename_i hp
        cases e
        have hi := List.all_eq_true.mp types_in tw hm
        simp only [Bool.and_eq_true, decide_eq_true_eq, beq_iff_eq] at hi
        obtain ⟨⟨⟨h1, h2⟩, h3⟩, h4⟩ := hi
        have het : typed o = (typed1 tw.1 o == some true) := by
          unfold typed
          cases ht : types6.findSome? (fun w => typed1 w o) with
          | none =>
            have := List.findSome?_eq_none_iff.mp ht tw.1 h4
            rw [this]; rfl
          | some b =>
            obtain ⟨w, hw, ew⟩ := List.exists_of_findSome?_eq_some ht
            have hw34 : w ∈ opens34 := of_decide_eq_true (List.all_eq_true.mp types6_in w hw)
            have e := open_uniq hw34 h1 (typed1_pre ew) hp
            rw [← e, ew]
            cases b <;> rfl
        rw [het, best_some hp h3 opens34 [] (fun w hw hwp => open_uniq hw h1 hwp hp) (.inr ⟨rfl, h1⟩), h2]
        rfl
      · cases e
    | none =>
      have hnt : ∀ tw ∈ g_types, tw.1.isPrefixOf o = false := by
        intro tw hm
        have := List.findSome?_eq_none_iff.mp hty tw hm
        unfold tw1 at this
        cases h : tw.1.isPrefixOf o with
        | false => rfl
        | true => rw [h] at this; cases this
      have hno : ∀ w ∈ opens34, w.isPrefixOf o = false := by
        intro w hw
        have := List.all_eq_true.mp opens_all w hw
        rw [Bool.or_eq_true, decide_eq_true_eq, decide_eq_true_eq] at this
        rcases this with h | h
        · obtain ⟨tw, hm, e⟩ := List.mem_map.mp h
          rw [← e]; exact hnb tw hm
        · obtain ⟨tw, hm, e⟩ := List.mem_map.mp h
          rw [← e]; exact hnt tw hm
      have htf : typed o = false := by
        unfold typed
        cases ht : types6.findSome? (fun w => typed1 w o) with
        | none => rfl
        | some b =>
          exfalso
          obtain ⟨w, hw, ew⟩ := List.exists_of_findSome?_eq_some ht
          have := hno w (of_decide_eq_true (List.all_eq_true.mp types6_in w hw))
          rw [typed1_pre ew] at this
          cases this
      rw [htf, best_none opens34 [] hno]
      rfl

/-- brackets close at once in an outline -/
theorem Cur.if_shape {row p r o : List Nat} {w : List Nat} (hw : w.all plainC = true) (C : Cur row p r o) (h : (w ++ [40]).isPrefixOf o = true) : ∃ o', o = w ++ 40 :: 41 :: o' := by
  have h2 : (w ++ [40]).isPrefixOf r = true := by rw [Cur.pref40 hw C]; exact h
  obtain ⟨r', er⟩ := isPrefixOf_iff.mp h2
  obtain ⟨o2, e2, C2⟩ := (Cur.pref hw C).2 (40 :: r') (by rw [er]; simp)
  obtain ⟨g, r'', o', _, e4, _, _⟩ := C2.group
  exact ⟨o', by rw [e2, e4]⟩

theorem lone_shape (o : List Nat) : lone.lookup o = (match g_whole.findSome? (eq1W o) with
    | some z => some z
    | none => if o == [73, 70, 40, 41, 84, 72, 69, 78] then some wIf else if o == [69, 76, 83, 69, 73, 70, 40, 41, 84, 72, 69, 78] then some wElseif else none) := by
  have el : lone = g_whole ++ [([73, 70, 40, 41, 84, 72, 69, 78], wIf), ([69, 76, 83, 69, 73, 70, 40, 41, 84, 72, 69, 78], wElseif)] := by decide
  have key : ∀ (l : List (List Nat × List Nat)) (r : List (List Nat × List Nat)), (l ++ r).lookup o = (match l.findSome? (eq1W o) with
      | some z => some z
      | none => r.lookup o) := by
    intro l r
    induction l with
    | nil => rfl
    | cons p l ih =>
      rw [List.cons_append, List.lookup_cons, List.findSome?_cons]
      rw [show eq1W o p = (if o == p.1 then some p.2 else none) from rfl]
      cases h : o == p.1 with
      | true => rfl
      | false => exact ih
  rw [el, key]
  cases g_whole.findSome? (eq1W o) with
  | some z => rfl
  | none =>
    simp only [List.lookup_cons, List.lookup_nil]
    cases o == [73, 70, 40, 41, 84, 72, 69, 78] <;> simp
    cases h : o == [69, 76, 83, 69, 73, 70, 40, 41, 84, 72, 69, 78] <;> simp_all

theorem words_ne {row o : List Nat} (he : outl false 0 row = some o) : WB o = LWne o := by
  have C := Cur.start he
  unfold WB LWne
  rw [lone_shape]
  cases g_whole.findSome? (eq1W o) with
  | some z => rfl
  | none =>
    dsimp only
    cases h3 : (o.take 3 == [73, 70, 40]) with
    | true =>
      obtain ⟨o', e⟩ := C.if_shape (w := [73, 70]) (by decide) (by rw [← take_pref]; exact h3)
      subst e
      rw [if_pos rfl]
      have e1 : ([73, 70] ++ 40 :: 41 :: o').drop 4 = o' := rfl
      have e2 : ((([73, 70] ++ 40 :: 41 :: o').take 4) == [73, 70, 40, 41]) = true := rfl
      have e3 : (([73, 70] ++ 40 :: 41 :: o') == [73, 70, 40, 41, 84, 72, 69, 78]) = (o' == pTHEN) := rfl
      have e4 : (([73, 70] ++ 40 :: 41 :: o') == [69, 76, 83, 69, 73, 70, 40, 41, 84, 72, 69, 78]) = false := rfl
      rw [e1, e2, e3, e4]
      cases o' == pTHEN <;> rfl
    | false =>
      have h4 : (o.take 4 == [73, 70, 40, 41]) = false := by
        cases h : (o.take 4 == [73, 70, 40, 41]) with
        | false => rfl
        | true =>
          have h' := (take_pref (w := [73, 70, 40, 41]) (r := o)).symm.trans h
          obtain ⟨x, rfl⟩ := isPrefixOf_iff.mp h'
          cases h3
      have hA : (o == [73, 70, 40, 41, 84, 72, 69, 78]) = false := by
        cases h : (o == [73, 70, 40, 41, 84, 72, 69, 78]) with
        | false => rfl
        | true => rw [eq_of_beq h] at h3; cases h3
      rw [if_neg Bool.false_ne_true, hA, if_neg Bool.false_ne_true, h4]
      cases h7 : (o.take 7 == pELSEIF) with
      | true =>
        obtain ⟨o', e⟩ := C.if_shape (w := [69, 76, 83, 69, 73, 70]) (by decide) (by have := h7; rw [show pELSEIF = [69, 76, 83, 69, 73, 70] ++ [40] from rfl, show (7 : Nat) = ([69, 76, 83, 69, 73, 70] ++ [40]).length from rfl, take_pref] at this; exact this)
        subst e
        have e1 : ([69, 76, 83, 69, 73, 70] ++ 40 :: 41 :: o').drop 8 = o' := rfl
        have e3 : (([69, 76, 83, 69, 73, 70] ++ 40 :: 41 :: o') == [69, 76, 83, 69, 73, 70, 40, 41, 84, 72, 69, 78]) = (o' == pTHEN) := rfl
        rw [e1, e3]
        cases o' == pTHEN <;> rfl
      | false =>
        have hB : (o == [69, 76, 83, 69, 73, 70, 40, 41, 84, 72, 69, 78]) = false := by
          cases h : (o == [69, 76, 83, 69, 73, 70, 40, 41, 84, 72, 69, 78]) with
          | false => rfl
          | true => rw [eq_of_beq h] at h7; cases h7
        rw [hB]
        simp only [Bool.false_eq_true, if_false]
        rw [tail_words]
        first | done | rfl
end Mine

end
section
open PySem PySem.W PyProof.Rows
namespace Mine

theorem eqA_skip : ∀ {g : List Nat} {G : List Int} {j : Nat} {r : List Nat} {D : List Int}, noHit g G → G.length = g.length → eqA (-1) j (g ++ r) (G ++ D) = eqA (-1) (j + g.length) r D
  | [], [], j, r, D, _, _ => rfl
  | c :: g, v :: G, j, r, D, h, hl => by
    have hv : (v == 0) = false := by simpa using h.1
    rw [List.cons_append, List.cons_append, eqA, hv]
    simp only [Bool.false_and, Bool.false_eq_true, if_false]
    rw [eqA_skip h.2 (by simpa using hl), List.length_cons]
    congr 1; omega
  | [], _ :: _, _, _, _, _, hl => by simp at hl
  | _ :: _, [], _, _, _, _, hl => by simp at hl
theorem eqA_pass {c : Nat} {v : Int} {j : Nat} {r : List Nat} {D : List Int} (hc : c ≠ 61) : eqA (-1) j (c :: r) (v :: D) = eqA (-1) (j + 1) r D := by
  rw [eqA, if_neg (by simp [hc]), if_neg (by simp)]

theorem outl_if {z o : List Nat} (h : outl false 0 (73 :: 70 :: 40 :: z) = some o) : ∃ g r' o', z = g ++ 41 :: r' ∧ o = 73 :: 70 :: 40 :: 41 :: o' ∧ outl false 0 r' = some o' ∧
    closingS (73 :: 70 :: 40 :: z) 2 = ((2 + 1 + g.length : Nat) : Int) ∧ eqA (-1) 0 (73 :: 70 :: 40 :: z) (dl false 0 (73 :: 70 :: 40 :: z)) = eqA (-1) (4 + g.length) r' (dl false 0 r') := by
  have C := Cur.start h
  obtain ⟨o2, e2, C2⟩ := (Cur.pref (w := [73, 70]) (by decide) C).2 (40 :: z) rfl
  have h2 := C2.out
  have h3 : (outl false 1 z).map (pu 0 40) = some o2 := h2
  obtain ⟨x, hx, e⟩ := Option.map_eq_some_iff.mp h3
  obtain ⟨g, G, r', o', e1, e2', e3, e4, e5, e6⟩ := outl_group z false 0 x hx
  refine ⟨g, r', o', e1, ?_, e2', ?_, ?_⟩
  · rw [e2, ← e, e3]; rfl
  · obtain ⟨g', r'', o'', f1, f2, f3, f4⟩ := C2.group
    -- the same group: count by fc
    have edl : dl false 0 (73 :: 70 :: 40 :: z) = 0 :: 0 :: 0 :: (G ++ 0 :: dl false 0 r') := by
      rw [dl_plain (by decide), dl_plain (by decide), dl, if_neg (by decide), if_neg Bool.false_ne_true, if_pos (by decide), e1]
      exact congrArg (fun y => 0 :: 0 :: 0 :: y) (e6 r')
    unfold closingS
    rw [edl, e1]
    show fc 0 3 (g ++ 41 :: r') (G ++ 0 :: dl false 0 r') = _
    rw [fc_skip e5 e4]
  · have edl : dl false 0 (73 :: 70 :: 40 :: z) = 0 :: 0 :: 0 :: (G ++ 0 :: dl false 0 r') := by
      rw [dl_plain (by decide), dl_plain (by decide), dl, if_neg (by decide), if_neg Bool.false_ne_true, if_pos (by decide), e1]
      exact congrArg (fun y => 0 :: 0 :: 0 :: y) (e6 r')
    rw [edl, e1, eqA_pass (by decide), eqA_pass (by decide), eqA_pass (by decide), eqA_skip e5 e4, eqA_pass (by decide)]
    congr 1; omega

theorem split_uniq {a b c d : List Nat} : a ++ 61 :: b = c ++ 61 :: d → 61 ∉ a → 61 ∉ c → a = c ∧ b = d := by
  induction a generalizing c with
  | nil =>
    intro h _ hc
    cases c with
    | nil => exact ⟨rfl, (List.cons.inj h).2⟩
    | cons x c =>
      exact absurd (by rw [← (List.cons.inj h).1]; exact List.mem_cons_self ..) hc
  | cons y a ih =>
    intro h ha hc
    cases c with
    | nil => exact absurd (by rw [(List.cons.inj h).1]; exact List.mem_cons_self ..) ha
    | cons x c =>
      obtain ⟨h1, h2⟩ := ih (List.cons.inj h).2 (fun hm => ha (List.mem_cons_of_mem _ hm)) (fun hm => hc (List.mem_cons_of_mem _ hm))
      exact ⟨by rw [h1, (List.cons.inj h).1], h2⟩

theorem outl_len : ∀ (r : List Nat) (q : Bool) (d : Nat) (o : List Nat), outl q d r = some o → o.length ≤ r.length
  | [], q, d, o, h => by
    rw [outl] at h
    split at h
    · cases h; exact Nat.le_refl _
    · cases h
  | c :: r, q, d, o, h => by
    obtain ⟨q', d', d₁, s, v, hA, _, _⟩ := step_both q d c o r h
    rw [hA] at h
    obtain ⟨x, hx, e⟩ := Option.map_eq_some_iff.mp h
    have ih := outl_len r q' d' x hx
    rw [← e, List.length_cons]
    unfold pu
    split
    · rw [List.length_cons]; omega
    · omega

section
variable {F : Nat} (hF : 200000 < F) {l : Nat} {row : List Nat} (hrow : row.length < 100000)
include hF hrow

theorem classify_law : ∃ z, FN F (l + 5) 18 [S row] = some (S z) ∧ FN F (l + 5) 27 [S row] = some (S z) := by
  have hD : (dl false 0 row).length = row.length := dl_len row false 0
  have e6 : evalM (FN F (l + 4)) gtab [S row, .undef, .undef, .undef] (.call1 6 (.loc 0)) = some (L (dl false 0 row)) := v_call1 (v_loc rfl) (r_depths (l + 3) row hrow)
  have t11 : testM (FN F (l + 4)) gtab [S row, L (dl false 0 row), .undef, .undef] (.not (.call2 11 (.loc 0) (.loc 1))) = some (!(outl false 0 row).isSome) := by
    have := bal_outl row false 0
    rw [← this]
    exact t_not (t_val (v_call2 (v_loc rfl) rfl (r_bal (l + 3) row _ hrow hD)))
  cases he : outl false 0 row with
  | none =>
    refine ⟨[], ?_, r_law_none hF hrow he⟩
    refine FN_run (f := ⟨"classify", 227, 1, none, n_classify, m_classify⟩) (ρ := [S row, .undef, .undef, .undef]) rfl rfl rfl ?_
    rw [he] at t11
    exact x_assign e6 rfl (x_yes t11 (t_ret (x_ret rfl)))
  | some o =>
    rw [he] at t11
    have hol := outl_len row false 0 o he
    have ho : o.length < 100000 := by omega
    have e12 : ∀ a b, eqA (-1) 0 row (dl false 0 row) = (a, b) → evalM (FN F (l + 4)) gtab [S row, L (dl false 0 row), .undef, .undef] (.call2 12 (.loc 0) (.loc 1)) = some (.tup [.int a, .bool b]) := by
      intro a b h
      have := r_eqA (F := F) (l + 3) row (dl false 0 row) hrow hD
      rw [h] at this
      exact v_call2 (v_loc rfl) rfl this
    rcases eqA_new row false 0 0 o he with ⟨hn, ea⟩ | ⟨h, t, oh, ot, a1, a2, a3, a4, a5, a6⟩
    · refine ⟨LWne o, ?_, r_law_ne hF hrow ho he hn⟩
      refine FN_run (f := ⟨"classify", 227, 1, none, n_classify, m_classify⟩) (ρ := [S row, .undef, .undef, .undef]) rfl rfl rfl ?_
      refine x_assign e6 rfl (x_skip t11 (x_unpack (e12 _ _ ea) rfl (x_yes (t_cmp (v_loc rfl) rfl ltI) (t_ret (x_ret (v_call1 (v_loc rfl) ?_))))))
      rw [← words_ne he]
      exact r_word_by_begin hF (l := l) hrow he
    · refine ⟨LWeq oh ot, ?_, r_law_eq hF hrow ho he a2 a3⟩
      refine FN_run (f := ⟨"classify", 227, 1, none, n_classify, m_classify⟩) (ρ := [S row, .undef, .undef, .undef]) rfl rfl rfl ?_
      rw [Nat.zero_add] at a6
      have hhl : row.length = h.length + 1 + t.length := by rw [a1]; simp; omega
      refine x_assign e6 rfl (x_skip t11 (x_unpack (e12 _ _ a6) rfl (x_skip (t_cmp (v_loc rfl) rfl (ltI.trans (congrArg some (decide_eq_false (by omega))))) ?_)))
      have et : row.take h.length = h := by rw [a1]; exact List.take_left
      have hh : h.length < 100000 := by omega
      have es : evalM (FN F (l + 4)) gtab [S row, L (dl false 0 row), I h.length, B (ot.contains 44)] (.slT (.loc 0) (.loc 2)) = some (S h) := by
        have := v_slT (fn := FN F (l + 4)) (gl := gtab) (ρ := [S row, L (dl false 0 row), I h.length, B (ot.contains 44)]) (a := .loc 0) (b := .loc 2) (v_loc rfl) (v_loc rfl) (by omega : h.length < 2000000)
        rw [et] at this; exact this
      unfold LWeq
      have tc : testM (FN F (l + 4)) gtab [S row, L (dl false 0 row), I h.length, B (ot.contains 44)] (.loc 3) = some (ot.contains 44) := t_val (v_loc rfl)
      cases hc : ot.contains 44 with
      | true =>
        rw [hc] at tc es
        rw [if_pos rfl]
        refine x_yes tc (t_ret (x_ret (v_cond (r := isDo oh) (t_val (v_call1 es ?_)) ?_)))
        · rw [← isDo_both a4]
          exact r_is_do hF (l := l + 2) hh
        · split <;> rfl
      | false =>
        rw [hc] at tc es
        rw [if_neg Bool.false_ne_true]
        refine x_skip tc ?_
        have t10 : testM (FN F (l + 4)) gtab [S row, L (dl false 0 row), I h.length, B false] (.call1 10 (.slT (.loc 0) (.loc 2))) = some (tgt oh) := t_val (v_call1 es (r_is_target hF (l := l + 1) hh a4))
        cases ht : tgt oh with
        | true =>
          rw [ht] at t10
          exact x_yes t10 (t_ret (x_ret rfl))
        | false =>
          rw [ht] at t10
          rw [if_neg Bool.false_ne_true]
          refine x_skip t10 ?_
          have C := Cur.start he
          have e3 : (row.take 3 == [73, 70, 40]) = (o.take 3 == [73, 70, 40]) := (take_pref (w := [73, 70, 40])).trans ((Cur.pref40 (w := [73, 70]) (by decide) C).trans (take_pref (w := [73, 70, 40])).symm)
          have t3 : testM (FN F (l + 4)) gtab [S row, L (dl false 0 row), I h.length, B false] (.cmp .Eq (.slT (.loc 0) (.int 3)) (.str [73, 70, 40])) = some (row.take 3 == [73, 70, 40]) := t_cmp (v_slT1 (k := 3) (v_loc rfl) (by omega)) rfl rfl
          cases h3 : (row.take 3 == [73, 70, 40]) with
          | false =>
            rw [h3] at t3 e3
            have : (oh.take 4 == [73, 70, 40, 41]) = false := by
              cases h4 : (oh.take 4 == [73, 70, 40, 41]) with
              | false => rfl
              | true =>
                obtain ⟨x, ex⟩ := isPrefixOf_iff.mp ((take_pref (w := [73, 70, 40, 41]) (r := oh)).symm.trans h4)
                rw [a2, ex] at e3
                cases e3
            rw [this]
            exact x_skip (t_and_f t3) (x_ret rfl)
          | true =>
            rw [h3] at t3
            obtain ⟨z, ez⟩ := isPrefixOf_iff.mp ((take_pref (w := [73, 70, 40]) (r := row)).symm.trans h3)
            have ez' : row = 73 :: 70 :: 40 :: z := ez
            have he' := he
            rw [ez'] at he'
            obtain ⟨g, r', o', b1, b2, b3, b4, b5⟩ := outl_if he'
            rw [← ez'] at b4 b5
            have a6' : eqA (-1) 0 row (dl false 0 row) = (((h.length : Nat) : Int), false) := a6.trans (congrArg (fun x => (((h.length : Nat) : Int), x)) hc)
            rw [a6'] at b5
            rcases eqA_new r' false 0 (4 + g.length) o' b3 with ⟨hn, ea⟩ | ⟨h', t', oh', ot', c1, c2, c3, c4, c5, c6⟩
            · have ea' : eqA (-1) (4 + g.length) r' (dl false 0 r') = (-1, false) := ea
              rw [ea'] at b5
              have := congrArg Prod.fst b5
              simp only at this
              omega
            · have c6' : eqA (-1) (4 + g.length) r' (dl false 0 r') = (((4 + g.length + h'.length : Nat) : Int), ot'.contains 44) := c6
              rw [c6'] at b5
              have hb5 : ((h.length : Nat) : Int) = ((4 + g.length + h'.length : Nat) : Int) := congrArg Prod.fst b5
              have hlen : h.length = 4 + g.length + h'.length := by omega
              have eoh : oh = 73 :: 70 :: 40 :: 41 :: oh' := by
                rw [a2, c2] at b2
                have : oh ++ 61 :: ot = (73 :: 70 :: 40 :: 41 :: oh') ++ 61 :: ot' := b2
                refine (split_uniq this a3 ?_).1
                simp only [List.mem_cons, not_or]
                exact ⟨by decide, by decide, by decide, by decide, c3⟩
              have hrd : row.drop (4 + g.length) = r' := by
                have e1 : row = (73 :: 70 :: 40 :: (g ++ [41])) ++ r' := by rw [ez', b1]; simp
                rw [e1, show 4 + g.length = (73 :: 70 :: 40 :: (g ++ [41])).length by simp; omega, List.drop_left]
              have hlt : 2 < row.length := by rw [ez']; simp
              have ec := r_closing (F := F) (l + 2) row 2 hrow hlt
              rw [b4] at ec
              have ev := v_sl (fn := FN F (l + 4)) (gl := gtab) (ρ := [S row, L (dl false 0 row), I h.length, B false]) (a := .loc 0) (b := .bin .Add (.call2 7 (.loc 0) (.int 2)) (.int 1)) (c := .loc 2) (k := 2 + 1 + g.length + 1) (j := h.length) (v_loc rfl) (v_add (i := ((2 + 1 + g.length : Nat) : Int)) (j := 1) (v_call2 (v_loc rfl) rfl ec) rfl) (v_loc rfl) (by omega) (by omega)
              have esl : (row.drop (2 + 1 + g.length + 1)).take (h.length - (2 + 1 + g.length + 1)) = h' := by
                rw [show 2 + 1 + g.length + 1 = 4 + g.length by omega, hrd, hlen, Nat.add_sub_cancel_left, c1]
                exact List.take_left
              rw [esl] at ev
              have hh' : h'.length < 100000 := by omega
              have tt : testM (FN F (l + 4)) gtab [S row, L (dl false 0 row), I h.length, B false] (.and (.cmp .Eq (.slT (.loc 0) (.int 3)) (.str [73, 70, 40])) (.call1 10 (.sl (.loc 0) (.bin .Add (.call2 7 (.loc 0) (.int 2)) (.int 1)) (.loc 2)))) = some (tgt oh') :=
                t_and_t t3 (t_val (v_call1 ev (r_is_target hF (l := l + 1) hh' c4)))
              have ew : (oh.take 4 == [73, 70, 40, 41] && tgt (oh.drop 4)) = tgt oh' := by rw [eoh]; rfl
              rw [ew]
              cases hq : tgt oh' with
              | true => rw [hq] at tt; exact x_yes tt (t_ret (x_ret rfl))
              | false => rw [hq] at tt; exact x_skip tt (x_ret rfl)
end
end Mine

end
section
open PySem PySem.W PyProof.Rows
namespace Mine

/-! ## capital -/
noncomputable def isLow (c : Nat) : Bool := decide (97 ≤ c) && decide (c ≤ 122)
noncomputable def capC (c : Nat) : Nat := if isLow c then c - 32 else c
theorem lt_one (a b : Nat) : decide ([a] < [b]) = decide (a < b) := by
  rw [Bool.eq_iff_iff, decide_eq_true_eq, decide_eq_true_eq, List.cons_lt_cons_iff]
  simp
theorem r_cap1 {F : Nat} (l c : Nat) : FN F (l + 1) 0 [S [c]] = some (S [capC c]) := by
  refine FN_run (f := ⟨"capital", 60, 1, none, n_capital, m_capital⟩) (ρ := [S [c]]) rfl rfl rfl ?_
  have t : testM (FN F l) gtab [S [c]] (.chain (.str [97]) (.loc 0) (.str [122])) = some (isLow c) := by
    refine t_val ?_
    show (if decide ([c] < [97]) then some (B false) else some (B (!decide ([122] < [c])))) = _
    rw [lt_one, lt_one]
    unfold isLow
    by_cases h : c < 97
    · have h2 : ¬ 97 ≤ c := by omega
      simp [h, h2]
    · have h2 : 97 ≤ c := by omega
      by_cases h3 : c ≤ 122
      · simp [h, h2, h3]
      · have h4 : 122 < c := by omega
        simp [h, h2, h3, h4]
  unfold capC
  cases h : isLow c with
  | true =>
    rw [h] at t
    refine x_yes t (t_ret (x_ret ?_))
    unfold isLow at h
    rw [Bool.and_eq_true, decide_eq_true_eq, decide_eq_true_eq] at h
    show (if (decide (0 ≤ (c : Int) - 32) && decide ((c : Int) - 32 < 128)) = true then some (S [((c : Int) - 32).toNat]) else none) = _
    rw [if_pos (by rw [Bool.and_eq_true, decide_eq_true_eq, decide_eq_true_eq]; omega)]
    have : ((c : Int) - 32).toNat = c - 32 := by omega
    rw [this]; rfl
  | false =>
    rw [h] at t
    exact x_skip t (x_ret (v_loc rfl))
theorem r_cap0 {F : Nat} (l : Nat) : FN F (l + 1) 0 [S []] = some (S []) := by
  refine FN_run (f := ⟨"capital", 60, 1, none, n_capital, m_capital⟩) (ρ := [S []]) rfl rfl rfl ?_
  have t : testM (FN F l) gtab [S []] (.chain (.str [97]) (.loc 0) (.str [122])) = some false := by
    refine t_val ?_
    show (if decide (([] : List Nat) < [97]) then some (B false) else some (B (!decide ([122] < ([] : List Nat))))) = _
    rfl
  exact x_skip t (x_ret (v_loc rfl))

/-! ## constant_end -/
inductive Cst : List Nat → List Nat → Prop
  | done {z : List Nat} : z.head? ≠ some 39 → Cst (39 :: z) z
  | dbl {x z : List Nat} : Cst x z → Cst (39 :: 39 :: x) z
  | ch {c : Nat} {x z : List Nat} : c ≠ 39 → Cst x z → Cst (c :: x) z

noncomputable def c_const : ME := .cmp .Lt (.loc 2) (.len (.loc 0))
noncomputable def b_const : MB := (.ite (.cmp .Eq (.idx (.loc 0) (.loc 2)) (.str [39]))
    (.ite (.cmp .NotEq (.sl (.loc 0) (.bin .Add (.loc 2) (.int 1)) (.bin .Add (.loc 2) (.int 2))) (.str [39]))
    (.ret (.bin .Add (.loc 2) (.int 1)))
    .done
    (.aug 2 .Add (.int 1) .done))
    .done
    (.aug 2 .Add (.int 1) .done))
theorem drop_len {α : Type} {x y : List α} {j : Nat} (h : x.drop j = y) (hy : y ≠ []) : x.length = j + y.length := by
  have e := congrArg List.length h
  rw [List.length_drop] at e
  have : 0 < y.length := List.length_pos_iff.mpr hy
  omega
theorem drop_step {α : Type} {x y : List α} {c : α} {j : Nat} (h : x.drop j = c :: y) : x[j]? = some c ∧ x.drop (j + 1) = y := by
  constructor
  · have : (x.drop j)[0]? = some c := by rw [h]; rfl
    rw [List.getElem?_drop] at this; exact this
  · rw [← List.drop_drop, h]; rfl

theorem const_loop {F l : Nat} {text z : List Nat} {k : Int} (ht : text.length < 100000) {x : List Nat} (hc : Cst x z) : ∀ (j fuel : Nat), text.drop j = x → x.length < fuel →
    whileM (fun ρ => testM (FN F l) gtab ρ c_const) (execM (FN F l) gtab F b_const) fuel [S text, I k, I j] = some (.ret (I ((text.length - z.length : Nat) : Int))) := by
  induction hc with
  | @done z hz =>
    intro j fuel hd hf
    obtain ⟨f, rfl⟩ : ∃ f, fuel = f + 1 := ⟨fuel - 1, by omega⟩
    have hl := drop_len hd (by simp)
    rw [List.length_cons] at hl
    obtain ⟨hc, hd1⟩ := drop_step hd
    have t0 : testM (FN F l) gtab [S text, I k, I j] c_const = some true := t_cmp (v_loc rfl) (v_len (v_loc rfl)) (lt_int.trans (congrArg some (decide_eq_true (by omega))))
    have t1 : testM (FN F l) gtab [S text, I k, I j] (.cmp .Eq (.idx (.loc 0) (.loc 2)) (.str [39])) = some true := t_cmp (v_idx (v_loc rfl) (v_loc rfl) hc) rfl rfl
    have t2 : testM (FN F l) gtab [S text, I k, I j] (.cmp .NotEq (.sl (.loc 0) (.bin .Add (.loc 2) (.int 1)) (.bin .Add (.loc 2) (.int 2))) (.str [39])) = some true := by
      refine t_cmp (v_sl (k := j + 1) (j := j + 2) (v_loc rfl) (v_add (i := j) (j := 1) (v_loc rfl) rfl) (v_add (i := j) (j := 2) (v_loc rfl) rfl) (by omega) (by omega)) rfl (congrArg some ?_)
      rw [hd1, show j + 2 - (j + 1) = 1 by omega, bne, head_take]
      simpa using hz
    refine while_ret t0 (x_yes t1 (t_ret (x_yes t2 (t_ret (x_ret ?_)))))
    rw [v_add (i := j) (j := 1) (v_loc rfl) rfl, show text.length - z.length = j + 1 by omega]; rfl
  | @dbl x z _ ih =>
    intro j fuel hd hf
    obtain ⟨f, rfl⟩ : ∃ f, fuel = f + 1 := ⟨fuel - 1, by omega⟩
    have hl := drop_len hd (by simp)
    rw [List.length_cons, List.length_cons] at hl
    rw [List.length_cons, List.length_cons] at hf
    obtain ⟨hc, hd1⟩ := drop_step hd
    obtain ⟨hc1, hd2⟩ := drop_step hd1
    have t0 : testM (FN F l) gtab [S text, I k, I j] c_const = some true := t_cmp (v_loc rfl) (v_len (v_loc rfl)) (lt_int.trans (congrArg some (decide_eq_true (by omega))))
    have t1 : testM (FN F l) gtab [S text, I k, I j] (.cmp .Eq (.idx (.loc 0) (.loc 2)) (.str [39])) = some true := t_cmp (v_idx (v_loc rfl) (v_loc rfl) hc) rfl rfl
    have t2 : testM (FN F l) gtab [S text, I k, I j] (.cmp .NotEq (.sl (.loc 0) (.bin .Add (.loc 2) (.int 1)) (.bin .Add (.loc 2) (.int 2))) (.str [39])) = some false := by
      refine t_cmp (v_sl (k := j + 1) (j := j + 2) (v_loc rfl) (v_add (i := j) (j := 1) (v_loc rfl) rfl) (v_add (i := j) (j := 2) (v_loc rfl) rfl) (by omega) (by omega)) rfl (congrArg some ?_)
      rw [hd1, show j + 2 - (j + 1) = 1 by omega]
      rfl
    exact (while_next t0 (x_yes t1 (t_next (x_skip t2 (x_aug (w := I ((j + 1 : Nat) : Int)) (v_loc rfl) rfl rfl rfl x_done)) (x_aug (v := I ((j + 1 : Nat) : Int)) (w := I ((j + 2 : Nat) : Int)) (v_loc rfl) rfl rfl rfl x_done)))).trans (ih (j + 2) f hd2 (by omega))
  | @ch c x z hne _ ih =>
    intro j fuel hd hf
    obtain ⟨f, rfl⟩ : ∃ f, fuel = f + 1 := ⟨fuel - 1, by omega⟩
    have hl := drop_len hd (by simp)
    rw [List.length_cons] at hl hf
    obtain ⟨hc, hd1⟩ := drop_step hd
    have t0 : testM (FN F l) gtab [S text, I k, I j] c_const = some true := t_cmp (v_loc rfl) (v_len (v_loc rfl)) (lt_int.trans (congrArg some (decide_eq_true (by omega))))
    have t1 : testM (FN F l) gtab [S text, I k, I j] (.cmp .Eq (.idx (.loc 0) (.loc 2)) (.str [39])) = some false := t_cmp (v_idx (v_loc rfl) (v_loc rfl) hc) rfl (eq1.trans (congrArg some (by simpa using hne)))
    exact (while_next t0 (x_skip t1 (x_aug (w := I ((j + 1 : Nat) : Int)) (v_loc rfl) rfl rfl rfl x_done))).trans (ih (j + 1) f hd1 (by omega))

theorem r_const_end {F : Nat} (hF : 200000 < F) (l : Nat) {text x z : List Nat} {k : Nat} (ht : text.length < 100000) (hd : text.drop (k + 1) = x) (hc : Cst x z) :
    FN F (l + 1) 1 [S text, I k] = some (I ((text.length - z.length : Nat) : Int)) := by
  refine FN_run (f := ⟨"constant_end", 67, 2, none, n_constant_end, m_constant_end⟩) (ρ := [S text, I k, .undef]) rfl rfl rfl ?_
  have hx : x.length ≤ text.length := by rw [← hd, List.length_drop]; omega
  refine x_assign (v := I ((k + 1 : Nat) : Int)) (v_add (i := k) (j := 1) (v_loc rfl) rfl) rfl (x_while_ret (const_loop ht hc (k + 1) F hd (by omega)))

/-! ## count_end, hollerith -/
noncomputable def isBD (c : Nat) : Bool := c == 32 || isDig c
theorem dig_find {c : Nat} (h : isDig c = true) : 0 ≤ findC c g_digits 0 ∧ findC c g_digits 0 ≤ 9 := by
  have hm : c ∈ g_digits := by simpa [isDig] using h
  have key : g_digits.all (fun c => decide (0 ≤ findC c g_digits 0) && decide (findC c g_digits 0 ≤ 9)) = true := by decide
  have := List.all_eq_true.mp key c hm
  simpa using this
theorem small_of {i : Int} {k : Nat} (h1 : -1 ≤ i) (h2 : i < ((16 ^ k : Nat) : Int)) (hk : k ≤ 1000) : smallI i = true := by
  unfold smallI
  rw [decide_eq_true_eq]
  have h3 : (16 : Nat) ^ k ≤ 2 ^ 4000 := by
    rw [show (16 : Nat) = 2 ^ 4 from rfl, ← Nat.pow_mul]
    exact Nat.pow_le_pow_right (by omega) (by omega)
  have h4 : (2 : Nat) ^ 4000 < 2 ^ 4096 := Nat.pow_lt_pow_right (by omega) (by omega)
  have h5 : 1 ≤ (16 : Nat) ^ k := Nat.one_le_pow _ _ (by omega)
  generalize (2 : Nat) ^ 4000 = p at *
  generalize (2 : Nat) ^ 4096 = q at *
  omega
noncomputable def c_count : ME := .and (.cmp .Lt (.loc 3) (.len (.loc 0))) (.or (.cmp .Eq (.idx (.loc 0) (.loc 3)) (.str [32])) (.cmp .In (.idx (.loc 0) (.loc 3)) (.glob 0)))
noncomputable def b_count : MB := (.ite (.cmp .NotEq (.idx (.loc 0) (.loc 3)) (.str [32]))
    (.assign 2 (.bin .Add (.bin .Mult (.max (.loc 2) (.int 0)) (.int 10)) (.find (.glob 0) (.idx (.loc 0) (.loc 3)))) .done)
    .done
    (.aug 3 .Add (.int 1) .done))
theorem count_loop {F l : Nat} {text : List Nat} {k : Int} (ht : text.length < 1000) : ∀ (n j i fuel : Nat) (cnt : Int), text.length - j = n → n < fuel → i ≤ j → -1 ≤ cnt → cnt < ((16 ^ i : Nat) : Int) →
    ∃ cnt', whileM (fun ρ => testM (FN F l) gtab ρ c_count) (execM (FN F l) gtab F b_count) fuel [S text, I k, I cnt, I j] = some (.next [S text, I k, I cnt', I (scanEnd isBD text j)]) := by
  intro n
  induction n with
  | zero =>
    intro j i fuel cnt hj hf _ _ _
    rw [scanEnd_over (row := text) (k := j) (by omega)]
    exact ⟨cnt, while_stop (by omega) (t_and_f (t_cmp (v_loc rfl) (v_len (v_loc rfl)) (lt_int.trans (congrArg some (decide_eq_false (by omega))))))⟩
  | succ n ih =>
    intro j i fuel cnt hj hf hij h1 h2
    obtain ⟨f, rfl⟩ : ∃ f, fuel = f + 1 := ⟨fuel - 1, by omega⟩
    have hlt : j < text.length := by omega
    have hc : text[j]? = some text[j] := List.getElem?_eq_getElem hlt
    have t0 : testM (FN F l) gtab [S text, I k, I cnt, I j] c_count = some (isBD text[j]) :=
      t_and_t (t_cmp (v_loc rfl) (v_len (v_loc rfl)) (lt_int.trans (congrArg some (decide_eq_true hlt)))) (t_or (t_cmp (v_idx (v_loc rfl) (v_loc rfl) hc) rfl eq1) (t_cmp (v_idx (v_loc rfl) (v_loc rfl) hc) (u := S g_digits) rfl rfl))
    cases hb : isBD text[j] with
    | false =>
      rw [hb] at t0
      rw [scanEnd_stop hlt hb]
      exact ⟨cnt, while_stop (by omega) t0⟩
    | true =>
      rw [hb] at t0
      rw [scanEnd_step hlt hb]
      have t1 : testM (FN F l) gtab [S text, I k, I cnt, I j] (.cmp .NotEq (.idx (.loc 0) (.loc 3)) (.str [32])) = some (!(text[j] == 32)) := by
        refine t_cmp (v_idx (v_loc rfl) (v_loc rfl) hc) rfl ?_
        have := eq1 (c := text[j]) (d := 32)
        have e : ([text[j]] == [32]) = (text[j] == 32) := Option.some.inj this
        show some (!([text[j]] == [32])) = _
        rw [e]
      cases hs : (text[j] == 32) with
      | true =>
        rw [hs] at t1
        obtain ⟨cnt', e⟩ := ih (j + 1) i f cnt (by omega) (by omega) (by omega) h1 h2
        exact ⟨cnt', (while_next t0 (x_skip t1 (x_aug (w := I ((j + 1 : Nat) : Int)) (v_loc rfl) rfl rfl rfl x_done))).trans e⟩
      | false =>
        rw [hs] at t1
        have hdig : isDig text[j] = true := by unfold isBD at hb; rw [hs] at hb; exact hb
        obtain ⟨d1, d2⟩ := dig_find hdig
        generalize hd : findC text[j] g_digits 0 = d at *
        have hm : (if (0 : Int) > cnt then (0 : Int) else cnt) < ((16 ^ i : Nat) : Int) ∧ 0 ≤ (if (0 : Int) > cnt then (0 : Int) else cnt) := by
          have h5 : 1 ≤ (16 : Nat) ^ i := Nat.one_le_pow _ _ (by omega)
          split <;> constructor <;> omega
        generalize hmv : (if (0 : Int) > cnt then (0 : Int) else cnt) = mv at hm
        have hnew : mv * 10 + d < ((16 ^ (i + 1) : Nat) : Int) := by
          rw [Nat.pow_succ]
          have h5 : 1 ≤ (16 : Nat) ^ i := Nat.one_le_pow _ _ (by omega)
          generalize (16 : Nat) ^ i = p at *
          omega
        obtain ⟨cnt', e⟩ := ih (j + 1) (i + 1) f (mv * 10 + d) (by omega) (by omega) (by omega) (by omega) hnew
        have hmax : evalM (FN F l) gtab [S text, I k, I cnt, I j] (.max (.loc 2) (.int 0)) = some (I mv) := by
          rw [← hmv]; rfl
        have hmul : evalM (FN F l) gtab [S text, I k, I cnt, I j] (.bin .Mult (.max (.loc 2) (.int 0)) (.int 10)) = some (I (mv * 10)) := by
          rw [evalM, hmax]
          show (if (smallI mv && smallI 10) = true then some (I (mv * 10)) else none) = _
          have s1 : smallI mv = true := small_of (by omega) hm.1 (by omega)
          have s2 : smallI 10 = true := small_of (k := 1) (by omega) (by decide) (by omega)
          rw [s1, s2]; rfl
        have hfind : evalM (FN F l) gtab [S text, I k, I cnt, I j] (.find (.glob 0) (.idx (.loc 0) (.loc 3))) = some (I d) := by
          have := v_idx (fn := FN F l) (gl := gtab) (ρ := [S text, I k, I cnt, I j]) (a := .loc 0) (b := .loc 3) (v_loc rfl) (v_loc rfl) hc
          have hg : evalM (FN F l) gtab [S text, I k, I cnt, I j] (.glob 0) = some (S g_digits) := rfl
          rw [evalM, hg]; simp only [this]; rw [hd]
        exact ⟨cnt', (while_next t0 (x_yes t1 (t_next (x_assign (v := I (mv * 10 + d)) (v_add hmul hfind) rfl x_done) (x_aug (w := I ((j + 1 : Nat) : Int)) (v_loc rfl) rfl rfl rfl x_done)))).trans e⟩

/-- no count, if no H stands behind it -/
theorem r_count_end {F : Nat} (hF : 200000 < F) (l : Nat) {text : List Nat} {k : Nat} (ht : text.length < 1000) (hk : k ≤ text.length) (hH : ∀ c, (text.drop (scanEnd isBD text k)).head? = some c → capC c ≠ 72) :
    FN F (l + 2) 2 [S text, I k] = some (.tup [.int (-1), .int k]) := by
  refine FN_run (f := ⟨"count_end", 74, 2, none, n_count_end, m_count_end⟩) (ρ := [S text, I k, .undef, .undef]) rfl rfl rfl ?_
  refine x_assign (v := I (-1)) rfl rfl (x_assign (v := I k) (v_loc rfl) rfl ?_)
  obtain ⟨cnt', e⟩ := count_loop (F := F) (l := l + 1) (text := text) (k := k) ht (text.length - k) k 0 F (-1) rfl (by omega) (by omega) (by omega) (by decide)
  refine x_while e (x_yes ?_ (t_ret (x_ret (v_tup rfl (v_loc rfl)))))
  have hle : scanEnd isBD text k ≤ text.length := by
    rw [scan_len]
    have := tw_le isBD (text.drop k)
    rw [List.length_drop] at this
    omega
  have t2 : testM (FN F (l + 1)) gtab [S text, I k, I cnt', I (scanEnd isBD text k)] (.cmp .NotEq (.call1 0 (.sl (.loc 0) (.loc 3) (.bin .Add (.loc 3) (.int 1)))) (.str [72])) = some true := by
    have es := v_sl1 (fn := FN F (l + 1)) (gl := gtab) (ρ := [S text, I k, I cnt', I (scanEnd isBD text k)]) (a := .loc 0) (b := .loc 3) (v_loc rfl) (v_loc rfl) (by omega : scanEnd isBD text k < 1000000)
    cases hd : text.drop (scanEnd isBD text k) with
    | nil =>
      rw [hd] at es
      exact t_cmp (v_call1 es (r_cap0 l)) rfl rfl
    | cons c r =>
      rw [hd] at es
      refine t_cmp (v_call1 es (r_cap1 l c)) rfl (congrArg some ?_)
      have := hH c (by rw [hd]; rfl)
      simpa [bne] using this
  have t1 : testM (FN F (l + 1)) gtab [S text, I k, I cnt', I (scanEnd isBD text k)] (.cmp .Lt (.loc 2) (.int 0)) = some (decide (cnt' < 0)) := t_cmp (v_loc rfl) rfl ltI
  have := t_or t1 t2
  rw [Bool.or_true] at this
  exact this
theorem r_hollerith {F : Nat} (hF : 200000 < F) (l : Nat) {text : List Nat} {k : Nat} (ht : text.length < 1000) (hk : k ≤ text.length) (hH : ∀ c, (text.drop (scanEnd isBD text k)).head? = some c → capC c ≠ 72) :
    FN F (l + 3) 3 [S text, I k] = some (.tup [.str [], .int k]) := by
  refine FN_run (f := ⟨"hollerith", 81, 2, none, n_hollerith, m_hollerith⟩) (ρ := [S text, I k, .undef, .undef, .undef]) rfl rfl rfl ?_
  exact x_unpack (v_call2 (v_loc rfl) (v_loc rfl) (r_count_end hF l ht hk hH)) rfl (x_yes (t_cmp (v_loc rfl) rfl ltI) (t_ret (x_ret (v_tup rfl (v_loc rfl)))))
end Mine

end
section
open PySem PySem.W PyProof.Rows
namespace Mine

/-- a text that is a row, spread -/
inductive Sp : Bool → List Nat → List Nat → Prop
  | nil : Sp false [] []
  | blank {x r : List Nat} : Sp false x r → Sp false (32 :: x) r
  | ch {t c : Nat} {x r : List Nat} : c ≠ 39 → c ≠ 32 → isLow c = false → (t = c ∨ (t = c + 32 ∧ isLet c = true)) → Sp false x r → Sp false (t :: x) (c :: r)
  | opn {x r : List Nat} : Sp true x r → Sp false (39 :: x) (39 :: r)
  | inn {c : Nat} {x r : List Nat} : c ≠ 39 → Sp true x r → Sp true (c :: x) (c :: r)
  | cls {x r : List Nat} : Sp false x r → Sp true (39 :: x) (39 :: r)

theorem Sp.cst_aux : ∀ (n : Nat) {x r : List Nat}, x.length ≤ n → Sp true x r → ∃ y z r', x = (y ++ [39]) ++ z ∧ r = (y ++ [39]) ++ r' ∧ Cst x z ∧ Sp false z r'
  | 0, x, r, hn, h => by
    cases h with
    | inn _ _ => simp at hn
    | cls _ => simp at hn
  | n + 1, x, r, hn, h => by
    cases h with
    | @inn c x r hc h =>
      obtain ⟨y, z, r', e1, e2, e3, e4⟩ := Sp.cst_aux n (by simpa using hn) h
      exact ⟨c :: y, z, r', by rw [e1]; rfl, by rw [e2]; rfl, .ch hc e3, e4⟩
    | @cls x r h =>
      by_cases hx : x.head? = some 39
      · cases h with
        | nil => simp at hx
        | blank _ => simp at hx
        | @ch t c x r a1 a2 a3 a4 h =>
          exfalso
          have : t = 39 := by simpa using hx
          rcases a4 with e | ⟨e, hl⟩
          · exact a1 (e.symm.trans this)
          · have : c = 7 := by omega
            subst this
            exact absurd hl (by decide)
        | @opn x r h =>
          obtain ⟨y, z, r', e1, e2, e3, e4⟩ := Sp.cst_aux n (by simp at hn; omega) h
          exact ⟨39 :: 39 :: y, z, r', by rw [e1]; rfl, by rw [e2]; rfl, .dbl e3, e4⟩
      · exact ⟨[], x, r, rfl, rfl, .done hx, h⟩

/-- the head of what is left behind digits -/
theorem Sp.digits : ∀ {x r : List Nat}, Sp false x r → Sp false (x.dropWhile isBD) (r.dropWhile isDig) := by
  intro x
  induction x with
  | nil =>
    intro r h
    cases h; exact .nil
  | cons t x ih =>
    intro r h
    cases h with
    | blank h => 
      rw [List.dropWhile_cons, if_pos (by decide)]
      exact ih h
    | @ch _ c _ r a1 a2 a3 a4 h =>
      rcases a4 with e | ⟨e, hl⟩
      · subst e
        have hb : isBD t = isDig t := by
          unfold isBD
          have : (t == 32) = false := by simpa using a2
          rw [this]; rfl
        rw [List.dropWhile_cons, List.dropWhile_cons, hb]
        cases hd : isDig t with
        | true => simp only [if_true]; exact ih h
        | false => simp only [Bool.false_eq_true, if_false]; exact .ch a1 a2 a3 (.inl rfl) h
      · have hcl : 65 ≤ c ∧ c ≤ 90 := by
          have hm : c ∈ g_letters := by simpa [isLet] using hl
          have key : g_letters.all (fun c => decide (65 ≤ c) && decide (c ≤ 90)) = true := by decide
          simpa using List.all_eq_true.mp key c hm
        have hnd : ∀ d, 65 ≤ d → isDig d = false := by
          intro d hd
          have key : g_digits.all (fun c => decide (c < 65)) = true := by decide
          cases h : isDig d with
          | false => rfl
          | true =>
            have hm : d ∈ g_digits := by simpa [isDig] using h
            have := List.all_eq_true.mp key d hm
            simp at this; omega
        have h1 : isBD t = false := by
          unfold isBD
          rw [hnd t (by omega)]
          have : (t == 32) = false := by
            have : ¬ t = 32 := by omega
            simpa using this
          rw [this]; rfl
        rw [List.dropWhile_cons, List.dropWhile_cons, h1, hnd c hcl.1]
        simp only [Bool.false_eq_true, if_false]
        exact .ch a1 a2 a3 (.inr ⟨e, hl⟩) h
    | opn h =>
      rw [List.dropWhile_cons, List.dropWhile_cons, if_neg (by decide), if_neg (by decide)]
      exact .opn h

noncomputable def isAhead (c : Nat) : Bool := g_ahead.contains c
/-- no count with an H behind a sign that may stand ahead of one -/
noncomputable def okH : Bool → List Nat → Bool
  | _, [] => true
  | b, c :: r => !(b && isDig c && ((c :: r).dropWhile isDig).head? == some 72) && okH (isAhead c) r
noncomputable def lastA (b : Bool) : List Nat → Bool
  | [] => b
  | c :: r => lastA (isAhead c) r
theorem okH_app : ∀ (y r : List Nat) (b : Bool), okH b (y ++ r) = true → okH (lastA b y) r = true
  | [], r, b, h => h
  | c :: y, r, b, h => by
    rw [List.cons_append, okH, Bool.and_eq_true] at h
    exact okH_app y r _ h.2
theorem lastA_snoc : ∀ (y : List Nat) (b : Bool) (c : Nat), lastA b (y ++ [c]) = isAhead c
  | [], b, c => rfl
  | d :: y, b, c => lastA_snoc y (isAhead d) c

theorem cap_back {t c : Nat} (hl : isLow c = false) (h : t = c ∨ (t = c + 32 ∧ isLet c = true)) : capC t = c := by
  rcases h with e | ⟨e, hlt⟩
  · subst e; unfold capC; rw [hl]; rfl
  · have hm : c ∈ g_letters := by simpa [isLet] using hlt
    have key : g_letters.all (fun c => decide (65 ≤ c) && decide (c ≤ 90)) = true := by decide
    have hcl : 65 ≤ c ∧ c ≤ 90 := by simpa using List.all_eq_true.mp key c hm
    have h1 : isLow t = true := by
      unfold isLow
      rw [Bool.and_eq_true, decide_eq_true_eq, decide_eq_true_eq]; omega
    unfold capC
    rw [h1, if_pos rfl]; omega
theorem Sp.noH {x r : List Nat} (h : Sp false x r) (hr : r.head? ≠ some 72) (c : Nat) (hb : x.head? = some c) (hbl : c ≠ 32) : capC c ≠ 72 := by
  cases h with
  | nil => simp at hb
  | blank _ => simp at hb; exact absurd hb.symm hbl
  | @ch t d _ _ a1 a2 a3 a4 h =>
    have : t = c := by simpa using hb
    subst this
    rw [cap_back a3 a4]
    simpa using hr
  | opn _ =>
    have : 39 = c := by simpa using hb
    subst this
    decide

theorem dw_head {f : Nat → Bool} {x : List Nat} {c : Nat} (h : (x.dropWhile f).head? = some c) : f c = false := by
  have := tw_dw (f := f) (x := x)
  cases hd : x.dropWhile f with
  | nil => rw [hd] at h; cases h
  | cons d y =>
    rw [hd] at h this
    have e : d = c := by simpa using h
    subst e
    cases hf : f d with
    | false => rfl
    | true => rw [List.takeWhile_cons, if_pos hf] at this; cases this

noncomputable def encL (p : List (Nat × Bool)) : List (List Fl) := p.map fun p => [.str [p.1], .bool p.2]
noncomputable def c_sq : ME := .cmp .Lt (.loc 3) (.len (.loc 0))
noncomputable def b_sq2 : MB := (.ite (.cmp .Eq (.loc 5) (.str []))
    (.append 1 (.tup (.call1 0 (.loc 4)) (.bool false)) (.aug 3 .Add (.int 1) .done))
    (.forStr 7 (.loc 5)
    (.append 1 (.tup (.loc 7) (.bool true)) .done)
    (.assign 3 (.loc 6) .done))
    (.assign 2 (.loc 4) .done))
noncomputable def b_sq1 : MB := (.ite (.cmp .Eq (.loc 4) (.str [39]))
    (.assign 6 (.call2 1 (.loc 0) (.loc 3)) (.assign 5 (.sl (.loc 0) (.loc 3) (.loc 6)) .done))
    (.ite (.and3 (.cmp .In (.loc 4) (.glob 0)) (.cmp .NotEq (.loc 2) (.str [])) (.cmp .In (.loc 2) (.glob 1)))
    (.unpack 5 6 (.call2 3 (.loc 0) (.loc 3)) .done)
    .done
    .done) b_sq2)
noncomputable def b_sq : MB := (.assign 4 (.idx (.loc 0) (.loc 3)) (.ite (.cmp .Eq (.loc 4) (.str [32]))
    (.aug 3 .Add (.int 1) .cont)
    .done
    (.assign 5 (.str []) (.assign 6 (.loc 3) b_sq1))))

theorem parts_loop {F l : Nat} {text : List Nat} {la sg cst : List Nat} {j en : Int} : ∀ (y : List Nat) (out : List (List Fl)) (pt : PV), out.length + y.length < 200000 → pt.isOwn = false →
    ∃ pt', pt'.isOwn = false ∧ loopM (fun v ρ => match putM ρ 7 v with
        | some ρ' => execM (FN F l) gtab F (.append 1 (.tup (.loc 7) (.bool true)) .done) ρ'
        | none => none) (y.map fun c => S [c]) [S text, .orows out, S la, I j, S sg, S cst, I en, pt] =
      some (.next [S text, .orows (out ++ encL (y.map fun c => (c, true))), S la, I j, S sg, S cst, I en, pt'])
  | [], out, pt, _, hpt => ⟨pt, hpt, by simp [loopM, encL]⟩
  | c :: y, out, pt, hl, hpt => by
    obtain ⟨pt', h1, h2⟩ := parts_loop (F := F) (l := l) (text := text) (la := la) (sg := sg) (cst := cst) (j := j) (en := en) y (out ++ [[.str [c], .bool true]]) (S [c]) (by simp at hl ⊢; omega) rfl
    refine ⟨pt', h1, ?_⟩
    have e : out ++ encL ((c :: y).map fun c => (c, true)) = (out ++ [[.str [c], .bool true]]) ++ encL (y.map fun c => (c, true)) := by simp [encL]
    have hlim : out.length < lim := by unfold lim; omega
    rw [e, ← h2, List.map_cons]
    have hp : putM [S text, .orows out, S la, I j, S sg, S cst, I en, pt] 7 (S [c]) = some [S text, .orows out, S la, I j, S sg, S cst, I en, S [c]] := put_flat (i := 7) rfl hpt
    exact l_next (st_put hp (x_appendR (v_tup (v_loc rfl) rfl) rfl hlim x_done)) rfl
end Mine

end
section
open PySem PySem.W PyProof.Rows
namespace Mine

noncomputable def flagOK (la : List Nat) (b : Bool) : Prop := (la = [] ∧ b = false) ∨ (∃ t, la = [t] ∧ isAhead t = b)
theorem drop_scan (f : Nat → Bool) (x : List Nat) (k : Nat) : x.drop (scanEnd f x k) = (x.drop k).dropWhile f := by
  rw [scan_len, ← List.drop_drop, drop_tw]
theorem let_range {c : Nat} (h : isLet c = true) : 65 ≤ c ∧ c ≤ 90 := by
  have hm : c ∈ g_letters := by simpa [isLet] using h
  have key : g_letters.all (fun c => decide (65 ≤ c) && decide (c ≤ 90)) = true := by decide
  simpa using List.all_eq_true.mp key c hm
theorem dig_lt {c : Nat} (h : isDig c = true) : c < 65 := by
  have hm : c ∈ g_digits := by simpa [isDig] using h
  have key : g_digits.all (fun c => decide (c < 65)) = true := by decide
  simpa using List.all_eq_true.mp key c hm
theorem ahead_lt {c : Nat} (h : isAhead c = true) : c < 65 := by
  have hm : c ∈ g_ahead := by simpa [isAhead] using h
  have key : g_ahead.all (fun c => decide (c < 65)) = true := by decide
  simpa using List.all_eq_true.mp key c hm
theorem ahead_same {t c : Nat} (h : t = c ∨ (t = c + 32 ∧ isLet c = true)) : isAhead t = isAhead c := by
  rcases h with e | ⟨e, hl⟩
  · rw [e]
  · have := let_range hl
    have h1 : isAhead t = false := by
      cases h : isAhead t with
      | false => rfl
      | true => have := ahead_lt h; omega
    have h2 : isAhead c = false := by
      cases h : isAhead c with
      | false => rfl
      | true => have := ahead_lt h; omega
    rw [h1, h2]
theorem notEqS {t d : Nat} : pCmp .Eq (S [t]) (S [d]) = some (t == d) := eq1

section
variable {F : Nat} (hF : 200000 < F) {l : Nat} {text : List Nat} (ht : text.length < 1000)
include hF ht

theorem sq_ch {out : List (List Fl)} {la : List Nat} {b : Bool} {j t c : Nat} {x r : List Nat} {sg cst en pt : PV} (hd : text.drop j = t :: x) (h1 : c ≠ 39) (h2 : c ≠ 32) (h3 : isLow c = false)
    (h4 : t = c ∨ (t = c + 32 ∧ isLet c = true)) (hs : Sp false x r) (hok : okH b (c :: r) = true) (hfl : flagOK la b) (hlim : out.length < 200000)
    (o1 : sg.isOwn = false) (o2 : cst.isOwn = false) (o3 : en.isOwn = false) :
    execM (FN F (l + 3)) gtab F b_sq [S text, .orows out, S la, I j, sg, cst, en, pt] = some (.next [S text, .orows (out ++ encL [(c, false)]), S [t], I ((j + 1 : Nat) : Int), S [t], S [], I j, pt]) := by
  obtain ⟨hc, hd1⟩ := drop_step hd
  have hlen := drop_len hd (by simp)
  rw [List.length_cons] at hlen
  have ht32 : (t == 32) = false := by
    have : ¬ t = 32 := by
      rcases h4 with e | ⟨e, hl⟩
      · rw [e]; exact h2
      · have := let_range hl; omega
    simpa using this
  have ht39 : (t == 39) = false := by
    have : ¬ t = 39 := by
      rcases h4 with e | ⟨e, hl⟩
      · rw [e]; exact h1
      · have := let_range hl; omega
    simpa using this
  have e4 : evalM (FN F (l + 3)) gtab [S text, .orows out, S la, I j, sg, cst, en, pt] (.idx (.loc 0) (.loc 3)) = some (S [t]) := v_idx (v_loc rfl) (v_loc rfl) hc
  have p4 : putM [S text, .orows out, S la, I j, sg, cst, en, pt] 4 (S [t]) = some [S text, .orows out, S la, I j, S [t], cst, en, pt] := put_flat (i := 4) rfl o1
  have p5 : putM [S text, .orows out, S la, I j, S [t], cst, en, pt] 5 (S []) = some [S text, .orows out, S la, I j, S [t], S [], en, pt] := put_flat (i := 5) rfl o2
  have p6 : putM [S text, .orows out, S la, I j, S [t], S [], en, pt] 6 (I j) = some [S text, .orows out, S la, I j, S [t], S [], I j, pt] := put_flat (i := 6) rfl o3
  have t1 : testM (FN F (l + 3)) gtab [S text, .orows out, S la, I j, S [t], cst, en, pt] (.cmp .Eq (.loc 4) (.str [32])) = some false := t_cmp (v_loc rfl) rfl (eq1.trans (congrArg some ht32))
  refine x_assign e4 p4 (x_skip t1 (x_assign (v := S []) rfl p5 (x_assign (v := I j) (v_loc rfl) p6 ?_)))
  have t2 : testM (FN F (l + 3)) gtab [S text, .orows out, S la, I j, S [t], S [], I j, pt] (.cmp .Eq (.loc 4) (.str [39])) = some false := t_cmp (v_loc rfl) rfl (eq1.trans (congrArg some ht39))
  have t3 : testM (FN F (l + 3)) gtab [S text, .orows out, S la, I j, S [t], S [], I j, pt] (.and3 (.cmp .In (.loc 4) (.glob 0)) (.cmp .NotEq (.loc 2) (.str [])) (.cmp .In (.loc 2) (.glob 1))) = some (isDig t && b) := by
    have u1 : testM (FN F (l + 3)) gtab [S text, .orows out, S la, I j, S [t], S [], I j, pt] (.cmp .In (.loc 4) (.glob 0)) = some (isDig t) := t_cmp (v_loc rfl) (u := S g_digits) rfl rfl
    cases hdg : isDig t with
    | false => rw [hdg] at u1; exact t_and3_f u1
    | true =>
      rw [hdg] at u1
      rcases hfl with ⟨rfl, rfl⟩ | ⟨t', rfl, rfl⟩
      · exact t_and3_tf u1 (t_cmp (v_loc rfl) rfl rfl)
      · exact t_and3_tt u1 (t_cmp (v_loc rfl) rfl rfl) (t_cmp (v_loc rfl) (u := S g_ahead) rfl rfl)
  have fin : execM (FN F (l + 3)) gtab F b_sq2 [S text, .orows out, S la, I j, S [t], S [], I j, pt] = some (.next [S text, .orows (out ++ encL [(c, false)]), S [t], I ((j + 1 : Nat) : Int), S [t], S [], I j, pt]) := by
    refine x_yes (t_cmp (v_loc rfl) rfl rfl) (t_next (x_appendR (x := [.str [c], .bool false]) (v_tup (v_call1 (v_loc rfl) ?_) rfl) rfl (by unfold lim; omega) (x_aug (w := I ((j + 1 : Nat) : Int)) (v_loc rfl) rfl rfl rfl x_done)) (x_assign (v := S [t]) (v_loc rfl) rfl x_done))
    rw [r_cap1 (l + 2) t, cap_back h3 h4]
  refine x_no t2 (t_next ?_ fin)
  cases hb : (isDig t && b) with
  | false => rw [hb] at t3; exact x_skip t3 x_done
  | true =>
    rw [hb] at t3
    rw [Bool.and_eq_true] at hb
    refine x_yes t3 (t_next (x_unpack (v_call2 (v_loc rfl) (v_loc rfl) (r_hollerith hF l ht (by omega) ?_)) rfl x_done) x_done)
    intro c' hc'
    have etc : t = c := by
      rcases h4 with e | ⟨e, hl⟩
      · exact e
      · have h5 := let_range hl
        have h6 := dig_lt hb.1
        omega
    rw [drop_scan, hd] at hc'
    have hsp : Sp false (t :: x) (c :: r) := .ch h1 h2 h3 h4 hs
    have hnh : ((c :: r).dropWhile isDig).head? ≠ some 72 := by
      rw [okH, Bool.and_eq_true] at hok
      have := hok.1
      rw [hb.2, ← etc, hb.1] at this
      rw [← etc]
      simpa using this
    refine Sp.noH hsp.digits hnh c' hc' ?_
    intro e
    have := dw_head hc'
    rw [e] at this
    exact absurd this (by decide)

theorem sq_opn {out : List (List Fl)} {la : List Nat} {j : Nat} {x y z : List Nat} {sg cst en pt : PV} (hd : text.drop j = 39 :: x) (hx : x = (y ++ [39]) ++ z) (hc : Cst x z) (hlim : out.length + x.length < 190000)
    (o1 : sg.isOwn = false) (o2 : cst.isOwn = false) (o3 : en.isOwn = false) (o4 : pt.isOwn = false) :
    ∃ sg' cst' en' pt' : PV, sg'.isOwn = false ∧ cst'.isOwn = false ∧ en'.isOwn = false ∧ pt'.isOwn = false ∧
    execM (FN F (l + 3)) gtab F b_sq [S text, .orows out, S la, I j, sg, cst, en, pt] = some (.next [S text, .orows (out ++ encL ((39 :: (y ++ [39])).map fun c => (c, true))), S [39], I ((j + 1 + (y ++ [39]).length : Nat) : Int), sg', cst', en', pt']) ∧ text.drop (j + 1 + (y ++ [39]).length) = z := by
  obtain ⟨hcj, hd1⟩ := drop_step hd
  have hlen := drop_len hd (by simp)
  rw [List.length_cons] at hlen
  have hxl : x.length = (y ++ [39]).length + z.length := by rw [hx, List.length_append]
  have hen : text.length - z.length = j + 1 + (y ++ [39]).length := by omega
  have e4 : evalM (FN F (l + 3)) gtab [S text, .orows out, S la, I j, sg, cst, en, pt] (.idx (.loc 0) (.loc 3)) = some (S [39]) := v_idx (v_loc rfl) (v_loc rfl) hcj
  have p4 : putM [S text, .orows out, S la, I j, sg, cst, en, pt] 4 (S [39]) = some [S text, .orows out, S la, I j, S [39], cst, en, pt] := put_flat (i := 4) rfl o1
  have p5 : putM [S text, .orows out, S la, I j, S [39], cst, en, pt] 5 (S []) = some [S text, .orows out, S la, I j, S [39], S [], en, pt] := put_flat (i := 5) rfl o2
  have p6 : putM [S text, .orows out, S la, I j, S [39], S [], en, pt] 6 (I j) = some [S text, .orows out, S la, I j, S [39], S [], I j, pt] := put_flat (i := 6) rfl o3
  have ece := r_const_end hF (l + 2) (k := j) (by omega) hd1 hc
  rw [hen] at ece
  have esl := v_sl (fn := FN F (l + 3)) (gl := gtab) (ρ := [S text, .orows out, S la, I j, S [39], S [], I ((j + 1 + (y ++ [39]).length : Nat) : Int), pt]) (a := .loc 0) (b := .loc 3) (c := .loc 6) (k := j) (j := j + 1 + (y ++ [39]).length) (v_loc rfl) (v_loc rfl) (v_loc rfl) (by omega) (by omega)
  have etake : (text.drop j).take (j + 1 + (y ++ [39]).length - j) = 39 :: (y ++ [39]) := by
    have hk : j + 1 + (y ++ [39]).length - j = (y ++ [39]).length + 1 := by omega
    rw [hd, hx, hk, List.take_succ_cons, List.take_left]
  rw [etake] at esl
  obtain ⟨pt', hpt', eloop⟩ := parts_loop (F := F) (l := l + 3) (text := text) (la := la) (sg := [39]) (cst := 39 :: (y ++ [39])) (j := j) (en := ((j + 1 + (y ++ [39]).length : Nat) : Int)) (39 :: (y ++ [39])) out pt (by rw [List.length_cons]; omega) o4
  refine ⟨S [39], S (39 :: (y ++ [39])), I ((j + 1 + (y ++ [39]).length : Nat) : Int), pt', rfl, rfl, rfl, hpt', ?_, ?_⟩
  · refine x_assign e4 p4 (x_skip (t_cmp (v_loc rfl) rfl rfl) (x_assign (v := S []) rfl p5 (x_assign (v := I j) (v_loc rfl) p6 ?_)))
    refine x_yes (t_cmp (v_loc rfl) rfl rfl) (t_next (x_assign (v_call2 (v_loc rfl) (v_loc rfl) ece) rfl (x_assign esl rfl x_done)) ?_)
    refine x_no (t_cmp (v_loc rfl) rfl rfl) (t_next (x_forStr (v_loc rfl) (t_next eloop (x_assign (v := I ((j + 1 + (y ++ [39]).length : Nat) : Int)) (v_loc rfl) rfl x_done))) (x_assign (v := S [39]) (v_loc rfl) rfl x_done))
  · have hk : text.drop (j + 1 + (y ++ [39]).length) = (text.drop (j + 1)).drop (y ++ [39]).length := by rw [List.drop_drop]
    rw [hk, hd1, hx, List.drop_left]

theorem sq_loop : ∀ (n : Nat) (j : Nat) (x r : List Nat) (out : List (List Fl)) (la : List Nat) (b : Bool) (sg cst en pt : PV) (fuel : Nat), x.length ≤ n → n < fuel → text.drop j = x → Sp false x r → okH b r = true → flagOK la b →
    out.length + x.length < 150000 → sg.isOwn = false → cst.isOwn = false → en.isOwn = false → pt.isOwn = false →
    ∃ (Lx : List (Nat × Bool)) (ρ' : List PV), whileM (fun ρ => testM (FN F (l + 3)) gtab ρ c_sq) (execM (FN F (l + 3)) gtab F b_sq) fuel [S text, .orows out, S la, I j, sg, cst, en, pt] = some (.next ρ') ∧
      ρ'[1]? = some (.orows (out ++ encL Lx)) ∧ Lx.map (·.1) = r := by
  intro n
  induction n with
  | zero =>
    intro j x r out la b sg cst en pt fuel hn hf hd hs hok hfl hlim o1 o2 o3 o4
    have hx : x = [] := List.length_eq_zero_iff.mp (by omega)
    subst hx
    cases hs
    have hj : text.length ≤ j := by
      have := congrArg List.length hd
      rw [List.length_drop] at this
      simp at this; omega
    refine ⟨[], _, while_stop (by omega) (t_cmp (v_loc rfl) (v_len (v_loc rfl)) (lt_int.trans (congrArg some (decide_eq_false (by omega))))), ?_, rfl⟩
    simp [encL]
  | succ n ih =>
    intro j x r out la b sg cst en pt fuel hn hf hd hs hok hfl hlim o1 o2 o3 o4
    obtain ⟨f, rfl⟩ : ∃ f, fuel = f + 1 := ⟨fuel - 1, by omega⟩
    cases x with
    | nil => exact ih j [] r out la b sg cst en pt (f + 1) (by simp) (by omega) hd hs hok hfl hlim o1 o2 o3 o4
    | cons t x =>
      have hlen := drop_len hd (by simp)
      rw [List.length_cons] at hlen hn hlim
      have t0 : testM (FN F (l + 3)) gtab [S text, .orows out, S la, I j, sg, cst, en, pt] c_sq = some true := t_cmp (v_loc rfl) (v_len (v_loc rfl)) (lt_int.trans (congrArg some (decide_eq_true (by omega))))
      obtain ⟨hc, hd1⟩ := drop_step hd
      cases hs with
      | blank hs =>
        have e4 : evalM (FN F (l + 3)) gtab [S text, .orows out, S la, I j, sg, cst, en, pt] (.idx (.loc 0) (.loc 3)) = some (S [32]) := v_idx (v_loc rfl) (v_loc rfl) hc
        have p4 : putM [S text, .orows out, S la, I j, sg, cst, en, pt] 4 (S [32]) = some [S text, .orows out, S la, I j, S [32], cst, en, pt] := put_flat (i := 4) rfl o1
        have eb : execM (FN F (l + 3)) gtab F b_sq [S text, .orows out, S la, I j, sg, cst, en, pt] = some (.cont [S text, .orows out, S la, I ((j + 1 : Nat) : Int), S [32], cst, en, pt]) := by
          refine x_assign e4 p4 (x_yes (t_cmp (v_loc rfl) rfl rfl) ?_)
          have : execM (FN F (l + 3)) gtab F (.aug 3 .Add (.int 1) .cont) [S text, .orows out, S la, I j, S [32], cst, en, pt] = some (.cont [S text, .orows out, S la, I ((j + 1 : Nat) : Int), S [32], cst, en, pt]) :=
            x_aug (w := I ((j + 1 : Nat) : Int)) (v_loc rfl) rfl rfl rfl rfl
          rw [this]; rfl
        obtain ⟨Lx, ρ', w1, w2, w3⟩ := ih (j + 1) x r out la b (S [32]) cst en pt f (by omega) (by omega) hd1 hs hok hfl (by omega) rfl o2 o3 o4
        exact ⟨Lx, ρ', (while_cont t0 eb).trans w1, w2, w3⟩
      | @ch _ c _ r h1 h2 h3 h4 hs =>
        have eb := sq_ch hF (l := l) ht (out := out) (la := la) (b := b) (sg := sg) (cst := cst) (en := en) (pt := pt) hd h1 h2 h3 h4 hs hok hfl (by omega) o1 o2 o3
        have hok2 : okH (isAhead c) r = true := by rw [okH, Bool.and_eq_true] at hok; exact hok.2
        obtain ⟨Lx, ρ', w1, w2, w3⟩ := ih (j + 1) x r (out ++ encL [(c, false)]) [t] (isAhead c) (S [t]) (S []) (I j) pt f (by omega) (by omega) hd1 hs hok2 (.inr ⟨t, rfl, ahead_same h4⟩) (by simp [encL]; omega) rfl rfl rfl o4
        refine ⟨(c, false) :: Lx, ρ', (while_next t0 eb).trans w1, ?_, by simp [w3]⟩
        rw [w2]; simp [encL]
      | @opn _ r hs =>
        obtain ⟨y, z, r', e1, e2, e3, e4⟩ := Sp.cst_aux x.length (Nat.le_refl _) hs
        obtain ⟨sg', cst', en', pt', q1, q2, q3, q4, eb, hdz⟩ := sq_opn hF (l := l) ht (out := out) (la := la) (sg := sg) (cst := cst) (en := en) (pt := pt) hd e1 e3 (by omega) o1 o2 o3 o4
        have hok2 : okH (isAhead 39) r' = true := by
          have h5 : okH b ((39 :: y ++ [39]) ++ r') = true := by rw [← hok, e2]; simp
          have h6 := okH_app _ _ _ h5
          rw [lastA_snoc] at h6
          exact h6
        have hzl : z.length ≤ n := by
          have := congrArg List.length e1
          rw [List.length_append] at this
          omega
        have hxl : x.length = (y ++ [39]).length + z.length := by rw [e1, List.length_append]
        obtain ⟨Lx, ρ', w1, w2, w3⟩ := ih (j + 1 + (y ++ [39]).length) z r' (out ++ encL ((39 :: (y ++ [39])).map fun c => (c, true))) [39] (isAhead 39) sg' cst' en' pt' f hzl (by omega) hdz e4 hok2 (.inr ⟨39, rfl, rfl⟩) (by simp [encL] at hxl ⊢; omega) q1 q2 q3 q4
        refine ⟨(39 :: (y ++ [39])).map (fun c => (c, true)) ++ Lx, ρ', (while_next t0 eb).trans w1, ?_, ?_⟩
        · rw [w2]; simp [encL]
        · rw [List.map_append, w3, e2, List.map_map]
          simp [Function.comp_def]
end
end Mine

end
section
open PySem PySem.W PyProof.Rows
namespace Mine

theorem x_retOwnR {fn : Nat → List PV → Option PV} {gl : Nat → Option PV} {F i : Nat} {ρ : List PV} {l : List (List Fl)} (h : ρ[i]? = some (.orows l)) : execM fn gl F (.retOwn i) ρ = some (.ret (.rows l)) := by
  rw [execM, h]

section
variable {F : Nat} (hF : 200000 < F) {l : Nat} {text row : List Nat} (ht : text.length < 1000)
include hF ht
theorem r_squeeze (hs : Sp false text row) (hok : okH false row = true) : ∃ Lx : List (Nat × Bool), FN F (l + 4) 4 [S text] = some (.rows (encL Lx)) ∧ Lx.map (·.1) = row := by
  obtain ⟨Lx, ρ', w1, w2, w3⟩ := sq_loop hF (l := l) ht text.length 0 text row [] [] false .undef .undef .undef .undef F (Nat.le_refl _) (by omega) rfl hs hok (.inl ⟨rfl, rfl⟩) (by simp; omega) rfl rfl rfl rfl
  refine ⟨Lx, ?_, w3⟩
  refine FN_run (f := ⟨"squeeze", 88, 1, some 1, n_squeeze, m_squeeze⟩) (ρ := [S text, .orows [], .undef, .undef, .undef, .undef, .undef, .undef]) rfl rfl rfl ?_
  refine x_assign (v := S []) rfl rfl (x_assign (v := I ((0 : Nat) : Int)) rfl rfl (x_while w1 (x_retOwnR ?_)))
  rw [w2, List.nil_append]

omit hF in
theorem sqd_loop (htr : row.length < 1000) : ∀ (Lx : List (Nat × Bool)) (acc : List Nat) (x y : PV), acc.length + Lx.length < 200000 → x.isOwn = false → y.isOwn = false →
    ∃ x' y', loopM (fun v ρ => match put2 ρ 2 3 v with
        | some ρ' => execM (FN F l) gtab F (.aug 1 .Add (.loc 2) .done) ρ'
        | none => none) ((encL Lx).map .tup) [S text, S acc, x, y] = some (.next [S text, S (acc ++ Lx.map (·.1)), x', y'])
  | [], acc, x, y, _, _, _ => ⟨x, y, by simp [encL, loopM]⟩
  | (c, b) :: Lx, acc, x, y, hl, hx, hy => by
    obtain ⟨x', y', e⟩ := sqd_loop htr Lx (acc ++ [c]) (S [c]) (B b) (by simp at hl ⊢; omega) rfl rfl
    refine ⟨x', y', ?_⟩
    have e2 : acc ++ ((c, b) :: Lx).map (·.1) = (acc ++ [c]) ++ Lx.map (·.1) := by simp
    rw [e2, ← e]
    have hp : put2 [S text, S acc, x, y] 2 3 (.tup [.str [c], .bool b]) = some [S text, S acc, S [c], B b] := put2_flat (i := 2) (j := 3) rfl hx rfl hy
    have hlim : acc.length + [c].length ≤ lim := by unfold lim; simp; omega
    exact l_next (st_put2 hp (x_aug (v := S acc) (u := S [c]) (v_loc rfl) (v_loc rfl) (addS hlim) rfl x_done)) rfl
theorem r_squeezed (htr : row.length < 1000) (hs : Sp false text row) (hok : okH false row = true) : FN F (l + 5) 5 [S text] = some (S row) := by
  obtain ⟨Lx, e, em⟩ := r_squeeze hF (l := l) ht hs hok
  have hLl : Lx.length = row.length := by rw [← em, List.length_map]
  refine FN_run (f := ⟨"squeezed", 95, 1, none, n_squeezed, m_squeezed⟩) (ρ := [S text, .undef, .undef, .undef]) rfl rfl rfl ?_
  obtain ⟨x', y', e2⟩ := sqd_loop (F := F) (l := l + 4) (text := text) ht htr Lx [] .undef .undef (by simp; omega) rfl rfl
  refine x_assign (v := S []) rfl rfl (x_forRows (v_call1 (v_loc rfl) e) rfl (t_next e2 (x_ret ?_)))
  rw [List.nil_append, em]
  exact v_loc rfl
end

/-! ## _law_spread -/
noncomputable def rowC (c : Nat) : Bool := decide (c ≠ 32) && !isLow c
noncomputable def par : Bool → List Nat → Bool
  | q, [] => q
  | q, c :: r => par (if c == 39 then !q else q) r
theorem par_count : ∀ (r : List Nat) (q : Bool), par q r = (q != (r.count 39 % 2 == 1))
  | [], q => by cases q <;> rfl
  | c :: r, q => by
    rw [par, par_count r, List.count_cons]
    cases h : c == 39 with
    | false => rw [if_neg Bool.false_ne_true]; rfl
    | true =>
      rw [if_pos rfl, if_pos rfl]
      rcases Nat.mod_two_eq_zero_or_one (r.count 39) with e | e
      · have : (r.count 39 + 1) % 2 = 1 := by omega
        rw [e, this]; cases q <;> rfl
      · have : (r.count 39 + 1) % 2 = 0 := by omega
        rw [e, this]; cases q <;> rfl
theorem Sp.blanks {x r : List Nat} (h : Sp false x r) : ∀ m : Nat, Sp false (List.replicate m 32 ++ x) r
  | 0 => h
  | m + 1 => .blank (Sp.blanks h m)

noncomputable def b_spD : MB := (.aug 2 .Add (.loc 4) (.assign 1 (.bin .Add (.bin .FloorDiv (.bin .Mult (.loc 1) (.int 7)) (.int 4)) (.int 11)) (.ite (.cmp .Gt (.loc 1) (.bin .Pow (.int 10) (.int 9)))
    (.aug 1 .Mod (.int 1009) .done)
    .done
    .done)))
noncomputable def b_spC : MB := (.ite (.and3 (.not (.loc 3)) (.cmp .Eq (.bin .Mod (.loc 1) (.int 5)) (.int 2)) (.cmp .In (.loc 4) (.glob 8)))
    (.assign 4 (.chr (.bin .Add (.ord (.loc 4)) (.int 32))) .done)
    .done b_spD)
noncomputable def b_spB : MB := (.ite (.cmp .Eq (.loc 4) (.str [39]))
    (.assign 3 (.not (.loc 3)) .done)
    .done b_spC)
noncomputable def b_sp : MB := (.ite (.and (.not (.loc 3)) (.cmp .Eq (.bin .Mod (.loc 1) (.int 3)) (.int 1)))
    (.aug 2 .Add (.bin .Mult (.str [32]) (.bin .Add (.int 1) (.bin .Mod (.loc 1) (.int 2)))) .done)
    .done b_spB)

section
variable {F l : Nat} {row : List Nat}
theorem v_mod {fn : Nat → List PV → Option PV} {gl : Nat → Option PV} {ρ : List PV} {a : ME} {i j : Int} (ha : evalM fn gl ρ a = some (I i)) (hj : 0 < j) : evalM fn gl ρ (.bin .Mod a (.int j)) = some (I (i % j)) := by
  rw [evalM, ha]
  show (if decide (0 < j) then some (I (i % j)) else none) = _
  rw [decide_eq_true hj]; rfl
theorem spD {n : Int} {acc t : List Nat} {q : Bool} (hn : 0 ≤ n) (hn2 : n ≤ 1000000000) (hl : acc.length + t.length < 200000) :
    ∃ n', 0 ≤ n' ∧ n' ≤ 1000000000 ∧ execM (FN F l) gtab F b_spD [S row, I n, S acc, B q, S t] = some (.next [S row, I n', S (acc ++ t), B q, S t]) := by
  have hlim : acc.length + t.length ≤ lim := by unfold lim; omega
  have em : evalM (FN F l) gtab [S row, I n, S (acc ++ t), B q, S t] (.bin .Mult (.loc 1) (.int 7)) = some (I (n * 7)) := by
    show (if (smallI n && smallI 7) = true then some (I (n * 7)) else none) = _
    rw [small_of (k := 10) (by omega) (by omega) (by omega), small_of (k := 10) (i := 7) (by omega) (by decide) (by omega)]; rfl
  have ed : evalM (FN F l) gtab [S row, I n, S (acc ++ t), B q, S t] (.bin .FloorDiv (.bin .Mult (.loc 1) (.int 7)) (.int 4)) = some (I (n * 7 / 4)) := by
    rw [evalM, em]
    show (if (smallI (n * 7) && smallI 4 && decide ((0 : Int) < 4)) = true then some (I (n * 7 / 4)) else none) = _
    rw [small_of (k := 10) (by omega) (by omega) (by omega), small_of (k := 10) (i := 4) (by omega) (by decide) (by omega)]; rfl
  have ea := v_add ed (j := 11) (b := .int 11) rfl
  have ep : evalM (FN F l) gtab [S row, I (n * 7 / 4 + 11), S (acc ++ t), B q, S t] (.bin .Pow (.int 10) (.int 9)) = some (I 1000000000) := by rfl
  have tg : testM (FN F l) gtab [S row, I (n * 7 / 4 + 11), S (acc ++ t), B q, S t] (.cmp .Gt (.loc 1) (.bin .Pow (.int 10) (.int 9))) = some (decide ((1000000000 : Int) < n * 7 / 4 + 11)) := t_cmp (v_loc rfl) ep gtI
  by_cases h : (1000000000 : Int) < n * 7 / 4 + 11
  · rw [decide_eq_true h] at tg
    refine ⟨(n * 7 / 4 + 11) % 1009, by omega, by omega, ?_⟩
    refine x_aug (v := S acc) (u := S t) (v_loc rfl) (v_loc rfl) (addS hlim) rfl (x_assign ea rfl (x_yes tg (t_next (x_aug (w := I ((n * 7 / 4 + 11) % 1009)) (v_loc rfl) rfl rfl rfl x_done) x_done)))
  · rw [decide_eq_false h] at tg
    refine ⟨n * 7 / 4 + 11, by omega, by omega, ?_⟩
    exact x_aug (v := S acc) (u := S t) (v_loc rfl) (v_loc rfl) (addS hlim) rfl (x_assign ea rfl (x_skip tg x_done))

theorem spC {n : Int} {acc : List Nat} {c : Nat} {q : Bool} (hc : c < 128) (hn : 0 ≤ n) (hn2 : n ≤ 1000000000) (hl : acc.length < 100000) :
    ∃ n' t, 0 ≤ n' ∧ n' ≤ 1000000000 ∧ (t = c ∨ (t = c + 32 ∧ isLet c = true ∧ q = false)) ∧ execM (FN F l) gtab F b_spC [S row, I n, S acc, B q, S [c]] = some (.next [S row, I n', S (acc ++ [t]), B q, S [t]]) := by
  have tt : testM (FN F l) gtab [S row, I n, S acc, B q, S [c]] (.and3 (.not (.loc 3)) (.cmp .Eq (.bin .Mod (.loc 1) (.int 5)) (.int 2)) (.cmp .In (.loc 4) (.glob 8))) = some (!q && (n % 5 == 2) && isLet c) :=
    t_and3 (t_not (t_val (v_loc rfl))) (t_cmp (v_mod (v_loc rfl) (by omega)) rfl eqI) (t_cmp (v_loc rfl) (u := S g_letters) rfl rfl)
  cases h : (!q && (n % 5 == 2) && isLet c) with
  | false =>
    rw [h] at tt
    obtain ⟨n', h1, h2, e⟩ := spD (F := F) (l := l) (row := row) (n := n) (acc := acc) (t := [c]) (q := q) hn hn2 (by simp; omega)
    exact ⟨n', c, h1, h2, .inl rfl, x_skip tt e⟩
  | true =>
    rw [h] at tt
    rw [Bool.and_eq_true, Bool.and_eq_true] at h
    have hr := let_range h.2
    obtain ⟨n', h1, h2, e⟩ := spD (F := F) (l := l) (row := row) (n := n) (acc := acc) (t := [c + 32]) (q := q) hn hn2 (by simp; omega)
    refine ⟨n', c + 32, h1, h2, .inr ⟨rfl, h.2, by simpa using h.1.1⟩, x_yes tt (t_next (x_assign (v := S [c + 32]) ?_ rfl x_done) e)⟩
    show (if (decide (0 ≤ (c : Int) + 32) && decide ((c : Int) + 32 < 128)) = true then some (S [((c : Int) + 32).toNat]) else none) = _
    rw [if_pos (by rw [Bool.and_eq_true, decide_eq_true_eq, decide_eq_true_eq]; omega)]
    have : ((c : Int) + 32).toNat = c + 32 := by omega
    rw [this]

theorem sp_body {n : Int} {acc : List Nat} {c : Nat} {q : Bool} (hc : c < 128) (hn : 0 ≤ n) (hn2 : n ≤ 1000000000) (hl : acc.length < 90000) :
    ∃ n' t m, 0 ≤ n' ∧ n' ≤ 1000000000 ∧ m ≤ 2 ∧ (q = true → m = 0) ∧ (t = c ∨ (t = c + 32 ∧ isLet c = true ∧ (if c == 39 then !q else q) = false)) ∧
      execM (FN F l) gtab F b_sp [S row, I n, S acc, B q, S [c]] = some (.next [S row, I n', S (acc ++ (List.replicate m 32 ++ [t])), B (if c == 39 then !q else q), S [t]]) := by
  have hB : ∀ (a : List Nat), a.length < 100000 → ∃ n' t, 0 ≤ n' ∧ n' ≤ 1000000000 ∧ (t = c ∨ (t = c + 32 ∧ isLet c = true ∧ (if c == 39 then !q else q) = false)) ∧
      execM (FN F l) gtab F b_spB [S row, I n, S a, B q, S [c]] = some (.next [S row, I n', S (a ++ [t]), B (if c == 39 then !q else q), S [t]]) := by
    intro a ha
    have t39 : testM (FN F l) gtab [S row, I n, S a, B q, S [c]] (.cmp .Eq (.loc 4) (.str [39])) = some (c == 39) := t_cmp (v_loc rfl) rfl eq1
    cases h : c == 39 with
    | true =>
      rw [h] at t39
      obtain ⟨n', t, h1, h2, h3, e⟩ := spC (F := F) (l := l) (row := row) (q := !q) hc hn hn2 ha
      exact ⟨n', t, h1, h2, h3, x_yes t39 (t_next (x_assign (v := B (!q)) (v_test (t_not (t_val (v_loc rfl)))) rfl x_done) e)⟩
    | false =>
      rw [h] at t39
      obtain ⟨n', t, h1, h2, h3, e⟩ := spC (F := F) (l := l) (row := row) (q := q) hc hn hn2 ha
      exact ⟨n', t, h1, h2, h3, x_skip t39 e⟩
  have tA : testM (FN F l) gtab [S row, I n, S acc, B q, S [c]] (.and (.not (.loc 3)) (.cmp .Eq (.bin .Mod (.loc 1) (.int 3)) (.int 1))) = some (!q && (n % 3 == 1)) :=
    t_and (t_not (t_val (v_loc rfl))) (t_cmp (v_mod (v_loc rfl) (by omega)) rfl eqI)
  cases h : (!q && (n % 3 == 1)) with
  | false =>
    rw [h] at tA
    obtain ⟨n', t, h1, h2, h3, e⟩ := hB acc (by omega)
    exact ⟨n', t, 0, h1, h2, by omega, fun _ => rfl, h3, x_skip tA e⟩
  | true =>
    rw [h] at tA
    rw [Bool.and_eq_true] at h
    have hq : q = false := by simpa using h.1
    have hm : (1 + n % 2).toNat ≤ 2 := by omega
    obtain ⟨n', t, h1, h2, h3, e⟩ := hB (acc ++ List.replicate (1 + n % 2).toNat 32) (by rw [List.length_append, List.length_replicate]; omega)
    refine ⟨n', t, (1 + n % 2).toNat, h1, h2, hm, (fun e => by rw [hq] at e; cases e), h3, ?_⟩
    rw [List.append_assoc] at e
    have em : evalM (FN F l) gtab [S row, I n, S acc, B q, S [c]] (.bin .Mult (.str [32]) (.bin .Add (.int 1) (.bin .Mod (.loc 1) (.int 2)))) = some (S (List.replicate (1 + n % 2).toNat 32)) := by
      have e1 : evalM (FN F l) gtab [S row, I n, S acc, B q, S [c]] (.bin .Add (.int 1) (.bin .Mod (.loc 1) (.int 2))) = some (I (1 + n % 2)) := v_add rfl (v_mod (v_loc rfl) (by omega))
      rw [evalM, show evalM (FN F l) gtab [S row, I n, S acc, B q, S [c]] (.str [32]) = some (S [32]) from rfl]
      simp only [e1]
      show (if (decide (0 ≤ 1 + n % 2) && decide (1 + n % 2 ≤ 1000)) = true then some (S (List.replicate (1 + n % 2).toNat 32)) else none) = _
      rw [if_pos (by rw [Bool.and_eq_true, decide_eq_true_eq, decide_eq_true_eq]; omega)]
    have hlim : acc.length + (List.replicate (1 + n % 2).toNat 32).length ≤ lim := by rw [List.length_replicate]; unfold lim; omega
    exact x_yes tA (t_next (x_aug (v := S acc) (v_loc rfl) em (addS hlim) rfl x_done) e)

theorem sp_loop : ∀ (r : List Nat) (n : Int) (acc : List Nat) (q : Bool) (x : PV) (pre : List Nat), r.all (fun c => rowC c && decide (c < 128)) = true → 0 ≤ n → n ≤ 1000000000 → x.isOwn = false →
    acc.length ≤ 3 * pre.length → pre.length + r.length < 300 → (∀ x r', Sp q x r' → Sp false (acc ++ x) (pre ++ r')) →
    ∃ n' acc' x', loopM (fun v ρ => match putM ρ 4 v with
        | some ρ' => execM (FN F l) gtab F b_sp ρ'
        | none => none) (r.map fun c => S [c]) [S row, I n, S acc, B q, x] = some (.next [S row, I n', S acc', B (par q r), x']) ∧ acc'.length ≤ 3 * (pre ++ r).length ∧
      (∀ x r', Sp (par q r) x r' → Sp false (acc' ++ x) ((pre ++ r) ++ r'))
  | [], n, acc, q, x, pre, _, _, _, _, h1, _, h3 => ⟨n, acc, x, rfl, by simpa using h1, by simpa [par] using h3⟩
  | c :: r, n, acc, q, x, pre, hall, hn, hn2, hx, h1, h2, h3 => by
    rw [List.all_cons, Bool.and_eq_true, Bool.and_eq_true, decide_eq_true_eq] at hall
    rw [List.length_cons] at h2
    obtain ⟨n', t, m, a1, a2, a3, a4, a5, e⟩ := sp_body (F := F) (l := l) (row := row) (n := n) (acc := acc) (c := c) (q := q) hall.1.2 hn hn2 (by omega)
    have hlow : isLow c = false ∧ c ≠ 32 := by
      have := hall.1.1
      unfold rowC at this
      rw [Bool.and_eq_true, decide_eq_true_eq] at this
      exact ⟨by simpa using this.2, this.1⟩
    have hb : ∀ x r', Sp (if c == 39 then !q else q) x r' → Sp false ((acc ++ (List.replicate m 32 ++ [t])) ++ x) ((pre ++ [c]) ++ r') := by
      intro x r' hs
      rw [show (acc ++ (List.replicate m 32 ++ [t])) ++ x = acc ++ (List.replicate m 32 ++ (t :: x)) by simp, show (pre ++ [c]) ++ r' = pre ++ (c :: r') by simp]
      refine h3 _ _ ?_
      by_cases h39 : c = 39
      · subst h39
        rw [if_pos (by decide)] at hs a5
        have et : t = 39 := by
          rcases a5 with e | ⟨_, e, _⟩
          · exact e
          · exact absurd e (by decide)
        subst et
        cases q with
        | true =>
          have := a4 rfl
          subst this
          exact .cls hs
        | false => exact Sp.blanks (.opn hs) m
      · have hcf : (c == 39) = false := by simpa using h39
        rw [hcf, if_neg Bool.false_ne_true] at hs a5
        cases q with
        | true =>
          have := a4 rfl
          subst this
          have et : t = c := by
            rcases a5 with e | ⟨_, _, e⟩
            · exact e
            · cases e
          subst et
          exact .inn h39 hs
        | false =>
          refine Sp.blanks (.ch h39 hlow.2 hlow.1 ?_ hs) m
          rcases a5 with e | ⟨e, h, _⟩
          · exact .inl e
          · exact .inr ⟨e, h⟩
    have hl' : (acc ++ (List.replicate m 32 ++ [t])).length ≤ 3 * (pre ++ [c]).length := by
      simp; omega
    obtain ⟨n'', acc', x', b1, b2, b3⟩ := sp_loop r n' _ _ (S [t]) (pre ++ [c]) hall.2 a1 a2 rfl hl' (by simp; omega) hb
    refine ⟨n'', acc', x', ?_, by simpa using b2, fun x r' h => by have := b3 x r' h; simpa using this⟩
    have hp : putM [S row, I n, S acc, B q, x] 4 (S [c]) = some [S row, I n, S acc, B q, S [c]] := put_flat (i := 4) rfl hx
    rw [List.map_cons]
    exact l_next (st_put hp e) b1

theorem r_spread (l : Nat) {row : List Nat} {k : Nat} (hall : row.all (fun c => rowC c && decide (c < 128)) = true) (hk : k < 1000) (hr : row.length < 300) (hq : row.count 39 % 2 = 0) :
    ∃ text, FN F (l + 1) 28 [S row, I k] = some (S text) ∧ text.length ≤ 3 * row.length ∧ Sp false text row := by
  obtain ⟨n', acc', x', b1, b2, b3⟩ := sp_loop (F := F) (l := l) (row := row) row k [] false .undef [] hall (by omega) (by omega) rfl (by simp) (by simpa using hr) (fun x r' h => h)
  have hp : par false row = false := by rw [par_count, hq]; rfl
  refine ⟨acc', ?_, by simpa using b2, ?_⟩
  · refine FN_run (f := ⟨"_law_spread", 298, 2, none, n_law_spread, m_law_spread⟩) (ρ := [S row, I k, .undef, .undef, .undef]) rfl rfl rfl ?_
    refine x_assign (v := S []) rfl rfl (x_assign (v := B false) rfl rfl (x_forStr (v_loc rfl) (t_next b1 (x_ret (v_loc rfl)))))
  · rw [hp] at b3
    have := b3 [] [] .nil
    simpa using this
end
end Mine

end
section
open PySem PySem.W PyProof.Rows
namespace Mine

/-! ## the rows that the law makes -/
noncomputable def rowOK (row : List Nat) : Bool := row.all (fun c => rowC c && decide (c < 128)) && decide (row.length < 280) && okH false row
noncomputable def strong (s : List Nat) : Bool := okH true s && !(s.head? == some 72)
theorem okH_false : ∀ {s : List Nat} {b : Bool}, okH true s = true → okH b s = true
  | [], _, _ => rfl
  | c :: r, b, h => by
    rw [okH, Bool.and_eq_true] at h ⊢
    refine ⟨?_, h.2⟩
    cases b with
    | true => exact h.1
    | false => rfl
theorem strong_dig : ∀ {s : List Nat}, strong s = true → (s.dropWhile isDig).head? ≠ some 72
  | [], _ => by simp
  | c :: r, h => by
    unfold strong at h
    rw [Bool.and_eq_true] at h
    rw [okH, Bool.and_eq_true] at h
    cases hd : isDig c with
    | true =>
      have := h.1.1
      rw [hd] at this
      simpa using this
    | false =>
      rw [List.dropWhile_cons, hd]
      simpa using h.2
theorem okH_join {s : List Nat} (hs : strong s = true) : ∀ {y : List Nat} {b : Bool}, okH b y = true → okH b (y ++ s) = true
  | [], b, _ => by
    unfold strong at hs
    rw [Bool.and_eq_true] at hs
    exact okH_false hs.1
  | c :: y, b, h => by
    rw [okH, Bool.and_eq_true] at h
    rw [List.cons_append, okH, Bool.and_eq_true]
    refine ⟨?_, okH_join hs h.2⟩
    cases hb : (b && isDig c) with
    | false => simp
    | true =>
      rw [hb] at h
      have h1 := h.1
      simp only [Bool.true_and, Bool.not_eq_true', beq_eq_false_iff_ne, ne_eq] at h1 ⊢
      rw [← List.cons_append, List.dropWhile_append]
      split
      · exact strong_dig hs
      · rename_i hne
        cases hd : (c :: y).dropWhile isDig with
        | nil => rw [hd] at hne; exact absurd rfl hne
        | cons d z => rw [hd] at h1; simpa using h1

noncomputable def wholes : List (List Nat) := match m_law_whole with
  | .ret (.texts l) => l
  | _ => []
noncomputable def mixes (w : List Nat) (i j : Nat) : Bool := okH false (w.take i ++ w.drop j) && g_pieces.all fun p => okH false (w.take i ++ p ++ w.drop j)
noncomputable def chkW (w : List Nat) : Bool := rowOK w && decide (0 < w.length) && decide (w.length < 100) && (List.range (w.length + 1)).all fun i => okH false (w.take i) && (strong (w.drop i) || mixes w i i) && (strong (w.drop (i + 1)) || mixes w i (i + 1))
set_option maxHeartbeats 2000000 in
theorem wholes_ok : wholes.all chkW = true := by decide +kernel
theorem pieces_ok : g_pieces.all (fun p => strong p && p.all (fun c => rowC c && decide (c < 128)) && decide (p.length < 20)) = true := by decide +kernel
theorem wholes_len : wholes.length = 42 := by decide
theorem pieces_len : g_pieces.length = 32 := by decide

theorem mix_ok {w x : List Nat} {i j : Nat} (hw : chkW w = true) (hi : i < w.length) (hj : j = i ∨ j = i + 1) (hx : x = [] ∨ x ∈ g_pieces) : rowOK (w.take i ++ x ++ w.drop j) = true := by
  unfold chkW at hw
  simp only [Bool.and_eq_true, decide_eq_true_eq, Bool.or_eq_true] at hw
  obtain ⟨⟨⟨h1, h2⟩, h3⟩, h4⟩ := hw
  have h5 := List.all_eq_true.mp h4 i (List.mem_range.mpr (by omega))
  simp only [Bool.and_eq_true, Bool.or_eq_true] at h5
  obtain ⟨⟨h6, h7⟩, h8⟩ := h5
  unfold rowOK at h1
  simp only [Bool.and_eq_true, decide_eq_true_eq] at h1
  have hxp : strong x = true ∧ x.all (fun c => rowC c && decide (c < 128)) = true ∧ x.length < 20 := by
    rcases hx with rfl | hx
    · exact ⟨rfl, rfl, by simp⟩
    · have := List.all_eq_true.mp pieces_ok x hx
      simp only [Bool.and_eq_true, decide_eq_true_eq] at this
      exact ⟨this.1.1, this.1.2, this.2⟩
  have hall : (w.take i ++ x ++ w.drop j).all (fun c => rowC c && decide (c < 128)) = true := by
    rw [List.all_append, List.all_append, hxp.2.1]
    have a1 : (w.take i).all (fun c => rowC c && decide (c < 128)) = true := by
      rw [List.all_eq_true]
      exact fun c hc => List.all_eq_true.mp h1.1.1 c (List.mem_of_mem_take hc)
    have a2 : (w.drop j).all (fun c => rowC c && decide (c < 128)) = true := by
      rw [List.all_eq_true]
      exact fun c hc => List.all_eq_true.mp h1.1.1 c (List.mem_of_mem_drop hc)
    rw [a1, a2]; rfl
  have hok : okH false (w.take i ++ x ++ w.drop j) = true := by
    have hst : (strong (w.drop j) = true) ∨ mixes w i j = true := by
      rcases hj with rfl | rfl
      · exact h7
      · exact h8
    rcases hst with hst | hm
    · exact okH_join hst (okH_join hxp.1 h6)
    · unfold mixes at hm
      rw [Bool.and_eq_true] at hm
      rcases hx with rfl | hx
      · rw [List.append_nil]; exact hm.1
      · exact List.all_eq_true.mp hm.2 x hx
  unfold rowOK
  rw [hall, hok]
  simp only [Bool.true_and, Bool.and_true, decide_eq_true_eq, List.length_append, List.length_take, List.length_drop]
  have := hxp.2.2
  omega

noncomputable def b_lawK : MB := (.ite (.cmp .NotEq (.call1 18 (.loc 5)) (.call1 27 (.loc 5)))
    (.ret (.bool false))
    .done
    (.ite (.cmp .Eq (.bin .Mod (.count (.loc 5) (.str [39])) (.int 2)) (.int 0))
    (.assign 10 (.call2 28 (.loc 5) (.loc 4)) (.ite (.or (.cmp .NotEq (.call1 5 (.loc 10)) (.loc 5)) (.cmp .NotEq (.call1 18 (.call1 5 (.loc 10))) (.call1 27 (.loc 5))))
    (.ret (.bool false))
    .done
    .done))
    .done
    .done))
theorem ne_self {x : List Nat} : pCmp .NotEq (S x) (S x) = some false := by
  show some (x != x) = _
  rw [bne_self_eq_false]
section
variable {F : Nat} (hF : 200000 < F) {l : Nat}
include hF
theorem lawK {row : List Nat} {k : Nat} {a0 a1 a2 a3 a6 a7 a8 a9 a10 : PV} (hk : k < 1000) (hr : rowOK row = true) (h10 : a10.isOwn = false) :
    ∃ a10', a10'.isOwn = false ∧ execM (FN F (l + 5)) gtab F b_lawK [a0, a1, a2, a3, I k, S row, a6, a7, a8, a9, a10] = some (.next [a0, a1, a2, a3, I k, S row, a6, a7, a8, a9, a10']) := by
  unfold rowOK at hr
  simp only [Bool.and_eq_true, decide_eq_true_eq] at hr
  obtain ⟨⟨hall, hlen⟩, hok⟩ := hr
  obtain ⟨z, e1, e2⟩ := classify_law hF (l := l) (row := row) (by omega)
  have t1 : testM (FN F (l + 5)) gtab [a0, a1, a2, a3, I k, S row, a6, a7, a8, a9, a10] (.cmp .NotEq (.call1 18 (.loc 5)) (.call1 27 (.loc 5))) = some false := t_cmp (v_call1 (v_loc rfl) e1) (v_call1 (v_loc rfl) e2) ne_self
  have ec : evalM (FN F (l + 5)) gtab [a0, a1, a2, a3, I k, S row, a6, a7, a8, a9, a10] (.count (.loc 5) (.str [39])) = some (I (row.count 39 : Nat)) := rfl
  have t2 : testM (FN F (l + 5)) gtab [a0, a1, a2, a3, I k, S row, a6, a7, a8, a9, a10] (.cmp .Eq (.bin .Mod (.count (.loc 5) (.str [39])) (.int 2)) (.int 0)) = some (row.count 39 % 2 == 0) := by
    refine t_cmp (v_mod ec (by omega)) rfl (eqI.trans (congrArg some ?_))
    rw [Bool.eq_iff_iff, beq_iff_eq, beq_iff_eq]; omega
  cases hq : row.count 39 % 2 == 0 with
  | false =>
    rw [hq] at t2
    exact ⟨a10, h10, x_skip t1 (x_skip t2 x_done)⟩
  | true =>
    rw [hq] at t2
    obtain ⟨text, s1, s2, s3⟩ := r_spread (F := F) (l + 4) hall hk (by omega) (eq_of_beq hq)
    have esq := r_squeezed hF (l := l) (text := text) (row := row) (by omega) (by omega) s3 hok
    refine ⟨S text, rfl, x_skip t1 (x_yes t2 (t_next (x_assign (v_call2 (v_loc rfl) (v_loc rfl) s1) (put_flat (i := 10) rfl h10) (x_skip ?_ x_done)) x_done))⟩
    exact t_or (r := false) (q := false) (t_cmp (v_call1 (v_loc rfl) esq) (v_loc rfl) ne_self) (t_cmp (v_call1 (v_call1 (v_loc rfl) esq) e1) (v_call1 (v_loc rfl) e2) ne_self)
end
end Mine

end
section
open PySem PySem.W PyProof.Rows
namespace Mine

section
variable {fn : Nat → List PV → Option PV} {gl : Nat → Option PV} {ρ : List PV} {a b : ME}
theorem smallN {m : Nat} (h : m < 10000000000000000000) : smallI (m : Int) = true := small_of (k := 16) (by omega) (by omega) (by omega)
theorem v_divN {m j : Nat} (ha : evalM fn gl ρ a = some (I m)) (hm : m < 10000000000000000000) (hj : 0 < j) (hj2 : j < 10000000000000000000) : evalM fn gl ρ (.bin .FloorDiv a (.int (j : Nat))) = some (I ((m / j : Nat) : Int)) := by
  rw [evalM, ha]
  show (if (smallI (m : Int) && smallI (j : Int) && decide ((0 : Int) < (j : Int))) = true then some (I ((m : Int) / (j : Int))) else none) = _
  rw [smallN hm, smallN hj2, if_pos (by simp; omega), Int.natCast_ediv]
theorem v_modN {m j : Nat} (ha : evalM fn gl ρ a = some (I m)) (hb : evalM fn gl ρ b = some (I j)) (hj : 0 < j) : evalM fn gl ρ (.bin .Mod a b) = some (I ((m % j : Nat) : Int)) := by
  rw [evalM, ha]; simp only [hb]
  show (if decide ((0 : Int) < (j : Int)) = true then some (I ((m : Int) % (j : Int))) else none) = _
  rw [if_pos (by simp; omega), Int.natCast_emod]
theorem v_lenL {x : List Fl} (ha : evalM fn gl ρ a = some (.list x)) : evalM fn gl ρ (.len a) = some (I x.length) := by
  rw [evalM, ha]
theorem v_addS {x y : List Nat} (ha : evalM fn gl ρ a = some (S x)) (hb : evalM fn gl ρ b = some (S y)) (h : x.length + y.length ≤ lim) : evalM fn gl ρ (.bin .Add a b) = some (S (x ++ y)) := by
  rw [evalM, ha]; simp only [hb, pBin]; rw [if_pos h]
end

theorem r_whole {F : Nat} (l : Nat) : FN F (l + 1) 19 [] = some (.list (wholes.map .str)) := by
  refine FN_run (f := ⟨"_law_whole", 235, 0, none, n_law_whole, m_law_whole⟩) (ρ := []) rfl rfl rfl (x_ret (e := .texts wholes) ?_)
  have h : wholes.length ≤ lim := by rw [wholes_len]; decide
  rw [evalM, if_pos h]

noncomputable def b_lawA : MB := (.assign 5 (.idx (.call0 19) (.bin .Mod (.bin .FloorDiv (.bin .FloorDiv (.loc 3) (.int 3)) (.int 7)) (.len (.call0 19)))) (.assign 6 (.bin .Mod (.bin .FloorDiv (.loc 3) (.int 3)) (.int 7)) (.ite (.cmp .Gt (.loc 6) (.int 2))
    (.assign 7 (.bin .Mod (.loc 4) (.len (.loc 5))) (.assign 8 (.idx (.glob 7) (.bin .Mod (.loc 4) (.int 32))) (.assign 5 (.bin .Add (.bin .Add (.slT (.loc 5) (.loc 7)) (.idx (.list2 (.str []) (.loc 8)) (.bin .Mod (.loc 6) (.int 2)))) (.slF (.loc 5) (.bin .Add (.loc 7) (.bin .FloorDiv (.loc 6) (.int 5))))) .done)))
    .done
    .done)))
noncomputable def b_lawB1 : MB := (.aug 5 .Add (.idx (.glob 7) (.bin .Mod (.loc 3) (.int 32))) (.aug 3 .FloorDiv (.int 32) .done))
noncomputable def b_lawB : MB := (.aug 3 .FloorDiv (.int 3) (.forRange1 9 (.bin .Add (.int 1) (.bin .Mod (.loc 4) (.int 9))) b_lawB1 .done))

section
variable {F : Nat} {l : Nat}
theorem idx_pieces {ρ : List PV} {a : ME} {i : Nat} (ha : evalM (FN F l) gtab ρ a = some (I i)) (hi : i < 32) : ∃ p, p ∈ g_pieces ∧ evalM (FN F l) gtab ρ (.idx (.glob 7) a) = some (S p) := by
  have hlt : i < g_pieces.length := by rw [pieces_len]; exact hi
  refine ⟨g_pieces[i], List.getElem_mem hlt, ?_⟩
  refine v_idxL (x := g_pieces.map .str) (k := i) rfl ha ?_
  rw [List.getElem?_map, List.getElem?_eq_getElem hlt]; rfl

theorem lawA {n k : Nat} {a0 a1 a2 a6 a7 a8 a9 a10 : PV} (hn : n < 10000000000000000000) (hk : k < 1000) (h6 : a6.isOwn = false) (h7 : a7.isOwn = false) (h8 : a8.isOwn = false) :
    ∃ row a6' a7' a8', rowOK row = true ∧ a6'.isOwn = false ∧ a7'.isOwn = false ∧ a8'.isOwn = false ∧
    execM (FN F (l + 1)) gtab F b_lawA [a0, a1, a2, I n, I k, S [], a6, a7, a8, a9, a10] = some (.next [a0, a1, a2, I n, I k, S row, a6', a7', a8', a9, a10]) := by
  have e19 : ∀ ρ, evalM (FN F (l + 1)) gtab ρ (.call0 19) = some (.list (wholes.map .str)) := fun ρ => r_whole l
  have d1 : ∀ x, evalM (FN F (l + 1)) gtab [a0, a1, a2, I n, I k, x, a6, a7, a8, a9, a10] (.bin .FloorDiv (.loc 3) (.int 3)) = some (I ((n / 3 : Nat) : Int)) := fun x => v_divN (j := 3) (v_loc rfl) hn (by omega) (by omega)
  have d2 : evalM (FN F (l + 1)) gtab [a0, a1, a2, I n, I k, S [], a6, a7, a8, a9, a10] (.bin .FloorDiv (.bin .FloorDiv (.loc 3) (.int 3)) (.int 7)) = some (I ((n / 3 / 7 : Nat) : Int)) := v_divN (j := 7) (d1 _) (by omega) (by omega) (by omega)
  have hl : (wholes.map Fl.str).length = 42 := by rw [List.length_map, wholes_len]
  have d3 := v_lenL (e19 [a0, a1, a2, I n, I k, S [], a6, a7, a8, a9, a10])
  rw [hl] at d3
  have d4 := v_modN d2 (b := .len (.call0 19)) (j := 42) d3 (by omega)
  have hi : n / 3 / 7 % 42 < wholes.length := by rw [wholes_len]; omega
  have hw : chkW wholes[n / 3 / 7 % 42] = true := List.all_eq_true.mp wholes_ok _ (List.getElem_mem hi)
  have d5 := v_idxL (e19 _) d4 (d := .str wholes[n / 3 / 7 % 42]) (by rw [List.getElem?_map, List.getElem?_eq_getElem hi]; rfl)
  generalize wholes[n / 3 / 7 % 42] = w at *
  have d6 := v_modN (d1 (S w)) (b := .int 7) (j := 7) rfl (by omega)
  have hrw : rowOK w = true ∧ 0 < w.length ∧ w.length < 100 := by
    unfold chkW at hw
    simp only [Bool.and_eq_true, decide_eq_true_eq] at hw
    exact ⟨hw.1.1.1, hw.1.1.2, hw.1.2⟩
  have hm6 : n / 3 % 7 < 7 := by omega
  have p6 : putM [a0, a1, a2, I n, I k, S w, a6, a7, a8, a9, a10] 6 (I ((n / 3 % 7 : Nat) : Int)) = some [a0, a1, a2, I n, I k, S w, I ((n / 3 % 7 : Nat) : Int), a7, a8, a9, a10] := put_flat (i := 6) rfl h6
  generalize n / 3 % 7 = m at *
  have tg : testM (FN F (l + 1)) gtab [a0, a1, a2, I n, I k, S w, I (m : Nat), a7, a8, a9, a10] (.cmp .Gt (.loc 6) (.int 2)) = some (decide (2 < m)) := t_cmp (v_loc rfl) rfl (gtI.trans (congrArg some (by rw [Bool.eq_iff_iff, decide_eq_true_eq, decide_eq_true_eq]; omega)))
  by_cases hm : 2 < m
  · rw [decide_eq_true hm] at tg
    have d7 := v_modN (fn := FN F (l + 1)) (gl := gtab) (ρ := [a0, a1, a2, I n, I k, S w, I (m : Nat), a7, a8, a9, a10]) (a := .loc 4) (b := .len (.loc 5)) (m := k) (j := w.length) (v_loc rfl) (v_len (v_loc rfl)) hrw.2.1
    have hsp : k % w.length < w.length := Nat.mod_lt _ hrw.2.1
    have p7 : putM [a0, a1, a2, I n, I k, S w, I (m : Nat), a7, a8, a9, a10] 7 (I ((k % w.length : Nat) : Int)) = some [a0, a1, a2, I n, I k, S w, I (m : Nat), I ((k % w.length : Nat) : Int), a8, a9, a10] := put_flat (i := 7) rfl h7
    generalize k % w.length = sp at *
    have d8 := v_modN (fn := FN F (l + 1)) (gl := gtab) (ρ := [a0, a1, a2, I n, I k, S w, I (m : Nat), I (sp : Nat), a8, a9, a10]) (a := .loc 4) (b := .int 32) (m := k) (j := 32) (v_loc rfl) rfl (by omega)
    obtain ⟨p, hp, ep⟩ := idx_pieces (F := F) (l := l + 1) d8 (by omega)
    have p8 : putM [a0, a1, a2, I n, I k, S w, I (m : Nat), I (sp : Nat), a8, a9, a10] 8 (S p) = some [a0, a1, a2, I n, I k, S w, I (m : Nat), I (sp : Nat), S p, a9, a10] := put_flat (i := 8) rfl h8
    obtain ⟨x, hx, hxl, ex⟩ : ∃ x, (x = [] ∨ x ∈ g_pieces) ∧ x.length < 20 ∧ evalM (FN F (l + 1)) gtab [a0, a1, a2, I n, I k, S w, I (m : Nat), I (sp : Nat), S p, a9, a10] (.idx (.list2 (.str []) (.loc 8)) (.bin .Mod (.loc 6) (.int 2))) = some (S x) := by
      have el : evalM (FN F (l + 1)) gtab [a0, a1, a2, I n, I k, S w, I (m : Nat), I (sp : Nat), S p, a9, a10] (.list2 (.str []) (.loc 8)) = some (.list [.str [], .str p]) := rfl
      have em := v_modN (fn := FN F (l + 1)) (gl := gtab) (ρ := [a0, a1, a2, I n, I k, S w, I (m : Nat), I (sp : Nat), S p, a9, a10]) (a := .loc 6) (b := .int 2) (m := m) (j := 2) (v_loc rfl) rfl (by omega)
      have hpl : p.length < 20 := by
        have := List.all_eq_true.mp pieces_ok p hp
        simp only [Bool.and_eq_true, decide_eq_true_eq] at this
        exact this.2
      rcases Nat.mod_two_eq_zero_or_one m with h | h
      · rw [h] at em
        exact ⟨[], .inl rfl, by simp, v_idxL el em rfl⟩
      · rw [h] at em
        exact ⟨p, .inr hp, hpl, v_idxL el em rfl⟩
    have f1 := v_slT (fn := FN F (l + 1)) (gl := gtab) (ρ := [a0, a1, a2, I n, I k, S w, I (m : Nat), I (sp : Nat), S p, a9, a10]) (a := .loc 5) (b := .loc 7) (x := w) (k := sp) (v_loc rfl) (v_loc rfl) (by omega)
    have f2 := v_divN (fn := FN F (l + 1)) (gl := gtab) (ρ := [a0, a1, a2, I n, I k, S w, I (m : Nat), I (sp : Nat), S p, a9, a10]) (a := .loc 6) (m := m) (j := 5) (v_loc rfl) (by omega) (by omega) (by omega)
    have f2' : evalM (FN F (l + 1)) gtab [a0, a1, a2, I n, I k, S w, I (m : Nat), I (sp : Nat), S p, a9, a10] (.bin .Add (.loc 7) (.bin .FloorDiv (.loc 6) (.int 5))) = some (I ((sp + m / 5 : Nat) : Int)) := by
      have e := v_add (fn := FN F (l + 1)) (gl := gtab) (ρ := [a0, a1, a2, I n, I k, S w, I (m : Nat), I (sp : Nat), S p, a9, a10]) (a := .loc 7) (i := (sp : Nat)) (v_loc rfl) f2
      exact e
    have f3 := v_slF (fn := FN F (l + 1)) (gl := gtab) (ρ := [a0, a1, a2, I n, I k, S w, I (m : Nat), I (sp : Nat), S p, a9, a10]) (a := .loc 5) (b := .bin .Add (.loc 7) (.bin .FloorDiv (.loc 6) (.int 5))) (x := w) (k := sp + m / 5) (v_loc rfl) f2' (by omega)
    have f4 := v_addS (v_addS f1 ex (by unfold lim; rw [List.length_take]; omega)) f3 (by unfold lim; rw [List.length_append, List.length_take, List.length_drop]; omega)
    refine ⟨w.take sp ++ x ++ w.drop (sp + m / 5), I (m : Nat), I (sp : Nat), S p, mix_ok hw hsp (by omega) hx, rfl, rfl, rfl, ?_⟩
    exact x_assign d5 rfl (x_assign d6 p6 (x_yes tg (t_next (x_assign d7 p7 (x_assign ep p8 (x_assign f4 rfl x_done))) x_done)))
  · rw [decide_eq_false hm] at tg
    exact ⟨w, I (m : Nat), a7, a8, hrw.1, rfl, h7, h8, x_assign d5 rfl (x_assign d6 p6 (x_skip tg x_done))⟩

theorem lawB_loop {k : Nat} {a0 a1 a2 a6 a7 a8 a10 : PV} : ∀ (c j m : Nat) (acc : List Nat) (x : PV), m < 10000000000000000000 → x.isOwn = false → acc.all (fun c => rowC c && decide (c < 128)) = true → okH false acc = true → acc.length + 20 * c ≤ 200 →
    ∃ m' acc' x', x'.isOwn = false ∧ rowOK acc' = true ∧ loopM (fun v ρ => match putM ρ 9 v with
        | some ρ' => execM (FN F (l + 1)) gtab F b_lawB1 ρ'
        | none => none) ((List.range' j c).map fun j => I (j : Nat)) [a0, a1, a2, I (m : Nat), I k, S acc, a6, a7, a8, x, a10] = some (.next [a0, a1, a2, I (m' : Nat), I k, S acc', a6, a7, a8, x', a10])
  | 0, j, m, acc, x, hm, hx, h1, h2, h3 => ⟨m, acc, x, hx, by unfold rowOK; rw [h1, h2]; simp; omega, rfl⟩
  | c + 1, j, m, acc, x, hm, hx, h1, h2, h3 => by
    have e1 := v_modN (fn := FN F (l + 1)) (gl := gtab) (ρ := [a0, a1, a2, I (m : Nat), I k, S acc, a6, a7, a8, I (j : Nat), a10]) (a := .loc 3) (b := .int 32) (m := m) (j := 32) (v_loc rfl) rfl (by omega)
    obtain ⟨p, hp, ep⟩ := idx_pieces (F := F) (l := l + 1) e1 (by omega)
    have hpo := List.all_eq_true.mp pieces_ok p hp
    simp only [Bool.and_eq_true, decide_eq_true_eq] at hpo
    have hall : (acc ++ p).all (fun c => rowC c && decide (c < 128)) = true := by rw [List.all_append, h1, hpo.1.2]; rfl
    have hlen : (acc ++ p).length + 20 * c ≤ 200 := by rw [List.length_append]; omega
    obtain ⟨m', acc', x', q1, q2, q3⟩ := lawB_loop c (j + 1) (m / 32) (acc ++ p) (I (j : Nat)) (by omega) rfl hall (okH_join hpo.1.1 h2) hlen
    refine ⟨m', acc', x', q1, q2, ?_⟩
    have hput : putM [a0, a1, a2, I (m : Nat), I k, S acc, a6, a7, a8, x, a10] 9 (I (j : Nat)) = some [a0, a1, a2, I (m : Nat), I k, S acc, a6, a7, a8, I (j : Nat), a10] := put_flat (i := 9) rfl hx
    have hdiv : pAug .FloorDiv (I (m : Nat)) (I 32) = some (I ((m / 32 : Nat) : Int)) := by
      show (if (smallI (m : Int) && smallI 32 && decide ((0 : Int) < 32)) = true then some (I ((m : Int) / 32)) else none) = _
      rw [smallN hm, show smallI 32 = true from smallN (m := 32) (by omega), if_pos (by decide), Int.natCast_ediv]; rfl
    rw [List.range'_succ, List.map_cons]
    exact l_next (st_put hput (x_aug (v := S acc) (u := S p) (v_loc rfl) ep (addS (by unfold lim; omega)) rfl (x_aug (v := I (m : Nat)) (u := I 32) (v_loc rfl) rfl hdiv rfl x_done))) q3

theorem lawB {n k : Nat} {a0 a1 a2 a6 a7 a8 a9 a10 : PV} (hn : n < 10000000000000000000) (h9 : a9.isOwn = false) :
    ∃ m row a9', rowOK row = true ∧ a9'.isOwn = false ∧
    execM (FN F (l + 1)) gtab F b_lawB [a0, a1, a2, I n, I k, S [], a6, a7, a8, a9, a10] = some (.next [a0, a1, a2, I (m : Nat), I k, S row, a6, a7, a8, a9', a10]) := by
  obtain ⟨m', acc', x', q1, q2, q3⟩ := lawB_loop (F := F) (l := l) (k := k) (a0 := a0) (a1 := a1) (a2 := a2) (a6 := a6) (a7 := a7) (a8 := a8) (a10 := a10) (1 + k % 9) 0 (n / 3) [] a9 (by omega) h9 rfl rfl (by simp; omega)
  refine ⟨m', acc', x', q2, q1, ?_⟩
  have hdiv : pAug .FloorDiv (I (n : Nat)) (I 3) = some (I ((n / 3 : Nat) : Int)) := by
    show (if (smallI (n : Int) && smallI 3 && decide ((0 : Int) < 3)) = true then some (I ((n : Int) / 3)) else none) = _
    rw [smallN hn, show smallI 3 = true from smallN (m := 3) (by omega), if_pos (by decide), Int.natCast_ediv]; rfl
  have em := v_modN (fn := FN F (l + 1)) (gl := gtab) (ρ := [a0, a1, a2, I ((n / 3 : Nat) : Int), I k, S [], a6, a7, a8, a9, a10]) (a := .loc 4) (b := .int 9) (m := k) (j := 9) (v_loc rfl) rfl (by omega)
  have er : evalM (FN F (l + 1)) gtab [a0, a1, a2, I ((n / 3 : Nat) : Int), I k, S [], a6, a7, a8, a9, a10] (.bin .Add (.int 1) (.bin .Mod (.loc 4) (.int 9))) = some (I ((1 + k % 9 : Nat) : Int)) := by
    rw [v_add (i := 1) rfl em]; rfl
  exact x_aug (v := I (n : Nat)) (u := I 3) (v_loc rfl) rfl hdiv rfl (x_range1 er (by omega) (t_next q3 x_done))
end
end Mine

end
section
open PySem PySem.W PyProof.Rows
namespace Mine

noncomputable def b_law : MB := (.assign 3 (.bin .Mod (.abs (.idx (.loc 1) (.loc 2))) (.bin .Pow (.int 10) (.int 18))) (.assign 4 (.bin .Mod (.abs (.idx (.loc 1) (.bin .Add (.loc 2) (.int 1)))) (.int 1000)) (.assign 5 (.str []) (.ite (.cmp .Eq (.bin .Mod (.loc 3) (.int 3)) (.int 0)) b_lawA b_lawB b_lawK))))
theorem v_abs {fn : Nat → List PV → Option PV} {gl : Nat → Option PV} {ρ : List PV} {a : ME} {i : Int} (ha : evalM fn gl ρ a = some (I i)) : evalM fn gl ρ (.abs a) = some (I (i.natAbs : Nat)) := by
  rw [evalM, ha]
  show some (I (if i < 0 then -i else i)) = _
  have : (if i < 0 then -i else i) = (i.natAbs : Int) := by split <;> omega
  rw [this]
theorem x_range3 {fn : Nat → List PV → Option PV} {gl : Nat → Option PV} {F : Nat} {i : Nat} {lo hi st : ME} {b k : MB} {ρ : List PV} {x y z : Int} {r : Option Res} {l : List PV} (h1 : evalM fn gl ρ lo = some (I x)) (h2 : evalM fn gl ρ hi = some (I y)) (h3 : evalM fn gl ρ st = some (I z)) (e : rangeM x y z = some l)
    (h : thenM (loopM (fun v ρ => match putM ρ i v with
          | some ρ' => execM fn gl F b ρ'
          | none => none) l ρ) (execM fn gl F k) = r) : execM fn gl F (.forRange3 i lo hi st b k) ρ = r := by
  rw [execM, h1]; dsimp only; rw [h2]; dsimp only; rw [h3]; dsimp only; rw [e]; exact h

section
variable {F : Nat} (hF : 200000 < F) {l : Nat}
include hF
theorem law_body {sc : PV} {cells : List Int} {i : Nat} {a3 a4 a5 a6 a7 a8 a9 a10 : PV} (hi : i + 1 < cells.length)
    (h3 : a3.isOwn = false) (h4 : a4.isOwn = false) (h5 : a5.isOwn = false) (h6 : a6.isOwn = false) (h7 : a7.isOwn = false) (h8 : a8.isOwn = false) (h9 : a9.isOwn = false) (h10 : a10.isOwn = false) :
    ∃ b3 b4 b5 b6 b7 b8 b9 b10 : PV, b3.isOwn = false ∧ b4.isOwn = false ∧ b5.isOwn = false ∧ b6.isOwn = false ∧ b7.isOwn = false ∧ b8.isOwn = false ∧ b9.isOwn = false ∧ b10.isOwn = false ∧
    execM (FN F (l + 5)) gtab F b_law [sc, L cells, I (i : Nat), a3, a4, a5, a6, a7, a8, a9, a10] = some (.next [sc, L cells, I (i : Nat), b3, b4, b5, b6, b7, b8, b9, b10]) := by
  have c1 : cells[i]? = some cells[i] := List.getElem?_eq_getElem (by omega)
  have c2 : cells[i + 1]? = some cells[i + 1] := List.getElem?_eq_getElem (by omega)
  generalize cells[i] = x at *
  generalize cells[i + 1] = y at *
  have e1 := v_modN (fn := FN F (l + 5)) (gl := gtab) (ρ := [sc, L cells, I (i : Nat), a3, a4, a5, a6, a7, a8, a9, a10]) (a := .abs (.idx (.loc 1) (.loc 2))) (b := .bin .Pow (.int 10) (.int 18)) (m := x.natAbs) (j := 1000000000000000000) (v_abs (v_idxL rfl (v_loc rfl) (lvl_at c1))) rfl (by omega)
  have hn : x.natAbs % 1000000000000000000 < 10000000000000000000 := by omega
  have p3 : putM [sc, L cells, I (i : Nat), a3, a4, a5, a6, a7, a8, a9, a10] 3 (I ((x.natAbs % 1000000000000000000 : Nat) : Int)) = some [sc, L cells, I (i : Nat), I ((x.natAbs % 1000000000000000000 : Nat) : Int), a4, a5, a6, a7, a8, a9, a10] := put_flat (i := 3) rfl h3
  generalize x.natAbs % 1000000000000000000 = n at *
  have e2 := v_modN (fn := FN F (l + 5)) (gl := gtab) (ρ := [sc, L cells, I (i : Nat), I (n : Nat), a4, a5, a6, a7, a8, a9, a10]) (a := .abs (.idx (.loc 1) (.bin .Add (.loc 2) (.int 1)))) (b := .int 1000) (m := y.natAbs) (j := 1000) (v_abs (v_idxL (k := i + 1) rfl (v_add (i := (i : Nat)) (j := 1) (v_loc rfl) rfl) (lvl_at c2))) rfl (by omega)
  have hk : y.natAbs % 1000 < 1000 := by omega
  have p4 : putM [sc, L cells, I (i : Nat), I (n : Nat), a4, a5, a6, a7, a8, a9, a10] 4 (I ((y.natAbs % 1000 : Nat) : Int)) = some [sc, L cells, I (i : Nat), I (n : Nat), I ((y.natAbs % 1000 : Nat) : Int), a5, a6, a7, a8, a9, a10] := put_flat (i := 4) rfl h4
  generalize y.natAbs % 1000 = k at *
  have p5 : putM [sc, L cells, I (i : Nat), I (n : Nat), I (k : Nat), a5, a6, a7, a8, a9, a10] 5 (S []) = some [sc, L cells, I (i : Nat), I (n : Nat), I (k : Nat), S [], a6, a7, a8, a9, a10] := put_flat (i := 5) rfl h5
  have t : testM (FN F (l + 5)) gtab [sc, L cells, I (i : Nat), I (n : Nat), I (k : Nat), S [], a6, a7, a8, a9, a10] (.cmp .Eq (.bin .Mod (.loc 3) (.int 3)) (.int 0)) = some (n % 3 == 0) := by
    refine t_cmp (v_modN (m := n) (j := 3) (v_loc rfl) rfl (by omega)) rfl (eqI.trans (congrArg some ?_))
    rw [Bool.eq_iff_iff, beq_iff_eq, beq_iff_eq]; omega
  cases hq : (n % 3 == 0) with
  | true =>
    rw [hq] at t
    obtain ⟨row, a6', a7', a8', r1, r2, r3, r4, r5⟩ := lawA (F := F) (l := l + 4) (n := n) (k := k) (a0 := sc) (a1 := L cells) (a2 := I (i : Nat)) (a9 := a9) (a10 := a10) hn hk h6 h7 h8
    obtain ⟨a10', s1, s2⟩ := lawK hF (l := l) (row := row) (k := k) (a0 := sc) (a1 := L cells) (a2 := I (i : Nat)) (a3 := I (n : Nat)) (a6 := a6') (a7 := a7') (a8 := a8') (a9 := a9) hk r1 h10
    exact ⟨I (n : Nat), I (k : Nat), S row, a6', a7', a8', a9, a10', rfl, rfl, rfl, r2, r3, r4, h9, s1, x_assign e1 p3 (x_assign e2 p4 (x_assign (v := S []) rfl p5 (x_yes t (t_next r5 s2))))⟩
  | false =>
    rw [hq] at t
    obtain ⟨m, row, a9', r1, r2, r3⟩ := lawB (F := F) (l := l + 4) (n := n) (k := k) (a0 := sc) (a1 := L cells) (a2 := I (i : Nat)) (a6 := a6) (a7 := a7) (a8 := a8) (a10 := a10) hn h9
    obtain ⟨a10', s1, s2⟩ := lawK hF (l := l) (row := row) (k := k) (a0 := sc) (a1 := L cells) (a2 := I (i : Nat)) (a3 := I (m : Nat)) (a6 := a6) (a7 := a7) (a8 := a8) (a9 := a9') hk r1 h10
    exact ⟨I (m : Nat), I (k : Nat), S row, a6, a7, a8, a9', a10', rfl, rfl, rfl, h6, h7, h8, r2, s1, x_assign e1 p3 (x_assign e2 p4 (x_assign (v := S []) rfl p5 (x_no t (t_next r3 s2))))⟩

theorem law_loop {sc : PV} {cells : List Int} : ∀ (is : List Nat) (a2 a3 a4 a5 a6 a7 a8 a9 a10 : PV), (∀ i ∈ is, 2 * i + 1 < cells.length) → a2.isOwn = false → a3.isOwn = false → a4.isOwn = false → a5.isOwn = false → a6.isOwn = false → a7.isOwn = false → a8.isOwn = false → a9.isOwn = false → a10.isOwn = false →
    ∃ b2 b3 b4 b5 b6 b7 b8 b9 b10 : PV, loopM (fun v ρ => match putM ρ 2 v with
        | some ρ' => execM (FN F (l + 5)) gtab F b_law ρ'
        | none => none) (is.map fun (k : Nat) => PV.fl (.int (0 + 2 * (k : Int)))) [sc, L cells, a2, a3, a4, a5, a6, a7, a8, a9, a10] = some (.next [sc, L cells, b2, b3, b4, b5, b6, b7, b8, b9, b10])
  | [], a2, a3, a4, a5, a6, a7, a8, a9, a10, _, _, _, _, _, _, _, _, _, _ => ⟨a2, a3, a4, a5, a6, a7, a8, a9, a10, rfl⟩
  | i :: is, a2, a3, a4, a5, a6, a7, a8, a9, a10, hi, h2, h3, h4, h5, h6, h7, h8, h9, h10 => by
    have h0 := hi i (List.mem_cons_self ..)
    obtain ⟨b3, b4, b5, b6, b7, b8, b9, b10, q3, q4, q5, q6, q7, q8, q9, q10, e⟩ := law_body hF (l := l) (sc := sc) (cells := cells) (i := 2 * i) h0 h3 h4 h5 h6 h7 h8 h9 h10
    obtain ⟨c2, c3, c4, c5, c6, c7, c8, c9, c10, e'⟩ := law_loop (sc := sc) (cells := cells) is (I ((2 * i : Nat) : Int)) b3 b4 b5 b6 b7 b8 b9 b10 (fun j hj => hi j (List.mem_cons_of_mem _ hj)) rfl q3 q4 q5 q6 q7 q8 q9 q10
    refine ⟨c2, c3, c4, c5, c6, c7, c8, c9, c10, ?_⟩
    have ei : (0 + 2 * (i : Int)) = ((2 * i : Nat) : Int) := by omega
    have hp : putM [sc, L cells, a2, a3, a4, a5, a6, a7, a8, a9, a10] 2 (I ((2 * i : Nat) : Int)) = some [sc, L cells, I ((2 * i : Nat) : Int), a3, a4, a5, a6, a7, a8, a9, a10] := put_flat (i := 2) rfl h2
    rw [List.map_cons, ei]
    exact l_next (st_put hp e) e'

theorem law_exec (sc : List Int) : execM (FN F (l + 5)) gtab F m_law [L sc, U, U, U, U, U, U, U, U, U, U] = some (.ret (B true)) := by
  have e1 : evalM (FN F (l + 5)) gtab [L sc, U, U, U, U, U, U, U, U, U, U] (.bin .Add (.slT (.loc 0) (.int 8)) (.list2 (.int 3) (.int 18))) = some (L (sc.take 8 ++ [3, 18])) := by
    have s1 : evalM (FN F (l + 5)) gtab [L sc, U, U, U, U, U, U, U, U, U, U] (.slT (.loc 0) (.int 8)) = some (L (sc.take 8)) := by
      show some (PV.list ((sc.map Fl.int).take 8)) = _
      exact congrArg (fun z => some (PV.list z)) List.map_take.symm
    have s2 : evalM (FN F (l + 5)) gtab [L sc, U, U, U, U, U, U, U, U, U, U] (.list2 (.int 3) (.int 18)) = some (L [3, 18]) := rfl
    rw [evalM, s1]; simp only [s2, pBin]
    rw [if_pos (by unfold lim; simp; omega)]
    exact congrArg (fun z => some (PV.list z)) List.map_append.symm
  refine x_assign e1 rfl ?_
  have hlen : (sc.take 8 ++ [(3 : Int), 18]).length = (sc.take 8).length + 2 := by simp
  have hle : (sc.take 8).length ≤ 8 := by rw [List.length_take]; omega
  generalize sc.take 8 ++ [(3 : Int), 18] = cells at *
  have el : evalM (FN F (l + 5)) gtab [L sc, L cells, U, U, U, U, U, U, U, U, U] (.bin .Sub (.len (.loc 1)) (.int 1)) = some (I ((cells.length - 1 : Nat) : Int)) := by
    show some (I (((cells.map Fl.int).length : Int) - 1)) = _
    rw [List.length_map]
    have : ((cells.length : Nat) : Int) - 1 = ((cells.length - 1 : Nat) : Int) := by omega
    rw [this]
  have er : rangeM 0 ((cells.length - 1 : Nat) : Int) 2 = some ((List.range ((((cells.length - 1 : Nat) : Int) - 0 + 2 - 1) / 2).toNat).map fun (k : Nat) => PV.fl (.int (0 + 2 * (k : Int)))) := by
    unfold rangeM
    rw [fitI_nat (by omega)]
    rfl
  obtain ⟨b2, b3, b4, b5, b6, b7, b8, b9, b10, e⟩ := law_loop hF (l := l) (sc := L sc) (cells := cells) (List.range ((((cells.length - 1 : Nat) : Int) - 0 + 2 - 1) / 2).toNat) U U U U U U U U U (by intro i hi; rw [List.mem_range] at hi; omega) rfl rfl rfl rfl rfl rfl rfl rfl rfl
  exact x_range3 rfl el rfl er (t_next e (x_ret rfl))
end
end Mine

end
section
open PySem PySem.W PyProof.Rows
namespace Mine

noncomputable def repFk : Value → Fl → Bool
  | .str s _, .str x => s.cps.toList == x && okS x
  | _, _ => false
noncomputable def allFk : List Value → List Fl → Bool
  | [], [] => true
  | v :: vs, f :: fs => repFk v f && allFk vs fs
  | _, _ => false
noncomputable def rowK (K : Frag) (v : Value) (l : List Fl) : Bool := match v with
  | .ref a => (match K.lookup a with
    | some ⟨.type n, _, .seq vs _, _⟩ => n == "tuple" && allFk vs.toList l
    | _ => false)
  | _ => false
noncomputable def allRk (K : Frag) : List Value → List (List Fl) → Bool
  | [], [] => true
  | v :: vs, f :: fs => rowK K v f && allRk K vs fs
  | _, _ => false
noncomputable def repK (K : Frag) (v : Value) : PV → Bool
  | .fl f => repFk v f
  | .list l => (match v with
    | .ref a => (match K.lookup a with
      | some ⟨.type n, _, .seq vs _, _⟩ => n == "list" && allFk vs.toList l && decide (l.length ≤ lim)
      | _ => false)
    | _ => false)
  | .rows l => (match v with
    | .ref a => (match K.lookup a with
      | some ⟨.type n, _, .seq vs _, _⟩ => n == "list" && allRk K vs.toList l && decide (l.length ≤ lim)
      | _ => false)
    | _ => false)
  | _ => false
theorem repFk_ok {v : Value} {f : Fl} (h : repFk v f = true) : RepF v f := by
  unfold repFk at h
  split at h
  · rename_i s t x
    rw [Bool.and_eq_true, beq_iff_eq] at h
    have := RepF.str x t h.2
    have e : s = ⟨x.toArray⟩ := by
      apply Str.ext'; apply Array.toList_inj.mp; rw [h.1]
    rw [e]; exact this
  · cases h
theorem allFk_ok : ∀ {vs : List Value} {fs : List Fl}, allFk vs fs = true → All2 RepF vs fs
  | [], [], _ => .nil
  | v :: vs, f :: fs, h => by
    unfold allFk at h
    rw [Bool.and_eq_true] at h
    exact .cons (repFk_ok h.1) (allFk_ok h.2)
  | [], _ :: _, h => by cases h
  | _ :: _, [], h => by cases h
theorem rowK_ok {K : Frag} {h : Heap} (X : K.In h) {v : Value} {l : List Fl} (e : rowK K v l = true) : RepT h v l := by
  unfold rowK at e
  split at e
  · rename_i a
    split at e
    · rename_i n d vs m sl ho
      rw [Bool.and_eq_true, beq_iff_eq] at e
      obtain ⟨rfl, e2⟩ := e
      exact ⟨a, vs.toList, rfl, ⟨_, X _ _ ho, rfl, m, by simp⟩, allFk_ok e2⟩
    · cases e
  · cases e
theorem allRk_ok {K : Frag} {h : Heap} (X : K.In h) : ∀ {vs : List Value} {fs : List (List Fl)}, allRk K vs fs = true → All2 (RepT h) vs fs
  | [], [], _ => .nil
  | v :: vs, f :: fs, e => by
    unfold allRk at e
    rw [Bool.and_eq_true] at e
    exact .cons (rowK_ok X e.1) (allRk_ok X e.2)
  | [], _ :: _, e => by cases e
  | _ :: _, [], e => by cases e
theorem repK_ok {prog : Program} {w : World} {K : Frag} {h : Heap} (X : K.In h) {v : Value} {p : PV} (e : repK K v p = true) : Rep prog w h v p := by
  unfold repK at e
  split at e
  · exact repFk_ok e
  · split at e
    · rename_i a
      split at e
      · rename_i n d vs m sl ho
        rw [Bool.and_eq_true, Bool.and_eq_true, beq_iff_eq, decide_eq_true_eq] at e
        obtain ⟨⟨rfl, e2⟩, e3⟩ := e
        exact ⟨a, vs.toList, rfl, ⟨_, X _ _ ho, rfl, m, by simp⟩, allFk_ok e2, e3⟩
      · cases e
    · cases e
  · split at e
    · rename_i a
      split at e
      · rename_i n d vs m sl ho
        rw [Bool.and_eq_true, Bool.and_eq_true, beq_iff_eq, decide_eq_true_eq] at e
        obtain ⟨⟨rfl, e2⟩, e3⟩ := e
        exact ⟨a, vs.toList, rfl, ⟨_, X _ _ ho, rfl, m, by simp⟩, allRk_ok X e2, e3⟩
      · cases e
    · cases e
  · cases e

noncomputable def glOne (K : Frag) (g : Nat) : Bool := match gnames[g]?, gtab g with
  | some x, some p => (match nsIn K mainGlobals x with
    | some (some v) => repK K v p
    | _ => false)
  | _, _ => true
noncomputable def glOk (K : Frag) : Bool := (List.range 10).all (glOne K)
noncomputable def isFree (K : Frag) (x : Str) : Bool := match nsIn K mainGlobals x with
  | some none => true
  | _ => false
noncomputable def bnOk (K : Frag) : Bool := bnames.all fun p => isFree K (Str.ofString p.1)
noncomputable def isDef (K : Frag) (x : Str) (a : Addr) : Bool := match nsIn K mainGlobals x with
  | some (some (.ref b)) => b == a
  | _ => false
noncomputable def fnOne (K : Frag) (i : Nat) : Bool := match fnames[i]? with
  | some x => isDef K x (faddr i)
  | none => true
noncomputable def fnsOk (K : Frag) : Bool := (List.range 29).all (fnOne K)
theorem isDef_ok {K : Frag} {x : Str} {a : Addr} {h : Heap} {mg : Str → Option Value} (X : K.In h) (g : h.Ns mainGlobals mg) (e : isDef K x a = true) : mg x = some (.ref a) := by
  unfold isDef at e
  split at e
  · rename_i b hb
    rw [beq_iff_eq] at e
    rw [← e]
    exact mg_of X g hb
  · cases e

theorem gl_make {prog : Program} {w : World} {K : Frag} {mg mb : Str → Option Value} {h : Heap} (X : K.In h) (g : h.Ns mainGlobals mg) (b : h.Ns builtinsNs mb) (nl : h.NoLimit) (tb : ∀ x : Str, x ≠ "__name__" → mb x = bootBuiltins x)
    (hb : ∀ n v, (n, v) ∈ bnames → bootBuiltins (Str.ofString n) = some v) (h1 : glOk K = true) (h2 : bnOk K = true) (h3 : fnsOk K = true) (hall : finfo.all (funOk K) = true) : Gl prog w K mg mb faddr gtab h where
  inK := X
  g := g
  b := b
  nolimit := nl
  bi := by
    intro n v hm
    have e := List.all_eq_true.mp h2 _ hm
    constructor
    · unfold isFree at e
      split at e
      · rename_i hn; exact mg_none_of X g hn
      · cases e
    · rw [tb _ ?_]
      · exact hb n v hm
      · have key : bnames.all (fun p => !(Str.ofString p.1 == ("__name__" : Str))) = true := by decide
        have := List.all_eq_true.mp key _ hm
        intro e
        simp [e] at this
  gls := by
    intro i x p e1 e2
    have hi : i < 10 := (List.getElem?_eq_some_iff.mp e1).1
    have e := List.all_eq_true.mp h1 i (List.mem_range.mpr hi)
    unfold glOne at e
    rw [e1, e2] at e
    simp only at e
    split at e
    · rename_i v hv
      exact ⟨v, mg_of X g hv, repK_ok X e⟩
    · cases e
  fns := by
    intro i x e1
    have hi : i < 29 := (List.getElem?_eq_some_iff.mp e1).1
    have e := List.all_eq_true.mp h3 i (List.mem_range.mpr hi)
    unfold fnOne at e
    rw [e1] at e
    refine ⟨isDef_ok X g e, ?_⟩
    have hlen : finfo.length = 29 := by decide
    have hf : finfo[i]? = some (finfo[i]'(by omega)) := List.getElem?_eq_getElem (by omega)
    have hfa : faddr i = (finfo[i]'(by omega)).addr := by unfold faddr; rw [hf]
    have hfo := List.all_eq_true.mp hall _ (List.getElem_mem (by omega : i < finfo.length))
    rw [hfa]
    unfold funOk at hfo
    split at hfo
    · rename_i cls dd fd sl hK
      exact ⟨_, fd, X _ _ hK, rfl⟩
    · cases hfo

theorem ints_rep {vs : List Value} {ns : List Int} (h : IntsAre vs ns) : All2 RepF vs (ns.map Fl.int) := by
  induction h with
  | nil => exact .nil
  | cons n t _ ih => exact .cons (.int n t) ih

theorem law_call {prog : Program} {w : World} {K : Frag} {mg mb : Str → Option Value} {A : Around} {s : Shared} {a : Addr} {vs : List Value} {ns : List Int} (hall : finfo.all (funOk K) = true) (hlaw : funOk K f_law = true) (hh : A.handled = none) (hd : A.depth + 20 < recursionLimit)
    (G : Gl prog w K mg mb faddr gtab s.heap) (hv : s.heap.IsList a vs.toArray) (hi : IntsAre vs ns) (hl : ns.length ≤ 63) : wpAny (model prog w) A (call (.ref 305) [.ref a]) (EPost prog w s (B true)) NoE s := by
  obtain ⟨F, hF⟩ : ∃ F : Nat, 200000 < F := ⟨200001, by omega⟩
  have hrep : Rep prog w s.heap (.ref a) (L ns) := ⟨a, vs, rfl, hv, ints_rep hi, by unfold lim; rw [List.length_map]; omega⟩
  have hr : runM (FN F 5) gtab F f_law (.olist []) [L ns] = some (B true) := by
    unfold runM
    have := law_exec hF (l := 0) ns
    have e : frame0 f_law (.olist []) [L ns] = [L ns, U, U, U, U, U, U, U, U, U, U] := rfl
    rw [e, show f_law.body = m_law from rfl, this]
  have := call_ok (prog := prog) (w := w) (mg := mg) (mb := mb) (f := f_law) (lvl := 5) (ps := [L ns]) (r := B true) (own0 := .olist []) hlaw (by decide) (by decide) rfl rfl (FN_sound F hall 5) (.inl rfl) (.inl rfl) hr
  exact this A s [.ref a] hh (by omega) G (.cons hrep .nil)
end Mine

end
open PySem PySem.W PyProof.Rows
set_option maxRecDepth 1000000
namespace Mine
/-- the row's statements -/
noncomputable def sts (a n : Nat) : List Stmt := ((behindTheImports PySem.Challenge.pw_no0246_01).drop a).take n
noncomputable def stOf (i : Nat) : Stmt := match sts i 1 with
  | [s] => s
  | _ => .Pass ⟨0, 0, 0, 0⟩
noncomputable def fPar (i : Nat) : Arguments := match stOf i with
  | .FunctionDef _ a _ _ _ _ _ _ _ _ => a
  | _ => { posonlyargs := [], args := [], vararg := none, kwonlyargs := [], kw_defaults := [], kwarg := none, defaults := [] }
noncomputable def fBod (i : Nat) : List Stmt := match stOf i with
  | .FunctionDef _ _ b _ _ _ _ _ _ _ => b
  | .ClassDef _ _ _ b _ _ _ _ _ _ _ => b
  | _ => []
noncomputable def fSco (i : Nat) : Scope := match stOf i with
  | .FunctionDef _ _ _ _ _ _ s _ _ _ => s
  | .ClassDef _ _ _ _ _ _ s _ _ _ _ => s
  | _ => { kind := .function, names := [], isGenerator := false, isCoroutine := false }
/-- a class's method -/
noncomputable def mth (i j : Nat) : Stmt := match (fBod i)[j]? with
  | some s => s
  | none => .Pass ⟨0, 0, 0, 0⟩
noncomputable def mPar (i j : Nat) : Arguments := match mth i j with
  | .FunctionDef _ a _ _ _ _ _ _ _ _ => a
  | _ => fPar 0
noncomputable def mBod (i j : Nat) : List Stmt := match mth i j with
  | .FunctionDef _ _ b _ _ _ _ _ _ _ => b
  | _ => []
noncomputable def mSco (i j : Nat) : Scope := match mth i j with
  | .FunctionDef _ _ _ _ _ _ s _ _ _ => s
  | _ => fSco 0
noncomputable abbrev qs (x : String) : Str := Str.ofString x
end Mine

open PySem PySem.W PyProof.Rows
set_option maxRecDepth 1000000
set_option maxHeartbeats 20000000
namespace Mine
noncomputable def ob_11_pre (P : Params) : Obj := { cls := Value.type "tuple", data := Data.seq #[] }
noncomputable def ob_12_pre (P : Params) : Obj := { cls := Value.none, data := Data.fields #[] }
noncomputable def ob_13_pre (P : Params) : Obj := { cls := Value.type "code", data := Data.fields #[Value.str (qs "<module>") 182, Value.str (qs "<module>") 183, Value.str (qs "/claim/cut.py") 184, Value.int 1 0, Value.int 0 0, Value.int 0 0, Value.int 0 0, Value.int 0 0, Value.ref 11, Value.bool false, Value.int 181 0, Value.ref 12, Value.none, Value.none, Value.none, Value.none, Value.int 185 0, Value.int 1 0, Value.str (qs "/claim/cut.py") 186] }
noncomputable def ob_14_pre (P : Params) : Obj := { cls := Value.type "frame", slots := #[some (Value.ref 13), some (Value.ref 3), some (Value.ref 3), none, some (Value.str (qs "__main__") 164), none, some (Value.ref 0)] }
noncomputable def ob_2_c1 (P : Params) : Obj := { cls := Value.none, data := Data.dict #[{ hash := PyData.keyHash P (qs "type.__subclasses__.Exception.0"), key := Value.str (qs "type.__subclasses__.Exception.0") 214, val := Value.int 31 0 }, { hash := PyData.keyHash P (qs "type.__subclasses__.Exception.n"), key := Value.str (qs "type.__subclasses__.Exception.n") 215, val := Value.int 1 0 }] 2 }
noncomputable def ob_3_c1 (P : Params) : Obj := { cls := Value.type "dict", data := Data.dict #[{ hash := PyData.keyHash P (qs "__name__"), key := Value.str (qs "__name__") 165, val := Value.str (qs "f77.errors") 187 }, { hash := PyData.keyHash P (qs "__doc__"), key := Value.str (qs "__doc__") 166, val := Value.none }, { hash := PyData.keyHash P (qs "__package__"), key := Value.str (qs "__package__") 167, val := Value.none }, { hash := PyData.keyHash P (qs "__loader__"), key := Value.str (qs "__loader__") 168, val := Value.builtin "__main__.__loader__#opaque" }, { hash := PyData.keyHash P (qs "__spec__"), key := Value.str (qs "__spec__") 169, val := Value.none }, { hash := PyData.keyHash P (qs "__annotations__"), key := Value.str (qs "__annotations__") 170, val := Value.ref 6 }, { hash := PyData.keyHash P (qs "__builtins__"), key := Value.str (qs "__builtins__") 171, val := Value.ref 4 }, { hash := PyData.keyHash P (qs "__file__"), key := Value.str (qs "__file__") 173, val := Value.str (qs "/claim/cut.py") 172 }, { hash := PyData.keyHash P (qs "__cached__"), key := Value.str (qs "__cached__") 174, val := Value.none }, { hash := PyData.keyHash P (qs "F77Error"), key := Value.str (qs "F77Error") 217, val := Value.ref 31 }, { hash := PyData.keyHash P (qs "LexFault"), key := Value.str (qs "LexFault") 243, val := Value.ref 51 }] 11 }
noncomputable def ob_12_c1 (P : Params) : Obj := { cls := Value.none, data := Data.fields #[Value.int 2 0, Value.int 0 0, Value.ref 20, Value.int 7 0, Value.int 0 0, Value.ref 40] }
noncomputable def ob_15_c1 (P : Params) : Obj := { cls := Value.type "tuple", data := Data.seq #[Value.type "Exception"] }
noncomputable def ob_16_c1 (P : Params) : Obj := { cls := Value.type "builtin_function_or_method", data := Data.fields #[Value.builtin "type.__prepare__", Value.type "type"] }
noncomputable def ob_17_c1 (P : Params) : Obj := { cls := Value.type "dict", data := Data.dict #[{ hash := PyData.keyHash P (qs "__module__"), key := Value.str (qs "__module__") 196, val := Value.str (qs "f77.errors") 187 }, { hash := PyData.keyHash P (qs "__qualname__"), key := Value.str (qs "__qualname__") 198, val := Value.str (qs "F77Error") 197 }, { hash := PyData.keyHash P (qs "__firstlineno__"), key := Value.str (qs "__firstlineno__") 200, val := Value.int 2 199 }, { hash := PyData.keyHash P (qs "__init__"), key := Value.str (qs "__init__") 208, val := Value.ref 28 }, { hash := PyData.keyHash P (qs "__static_attributes__"), key := Value.str (qs "__static_attributes__") 210, val := Value.ref 29 }] 5 }
noncomputable def ob_18_c1 (P : Params) : Obj := { cls := Value.type "tuple", data := Data.seq #[] }
noncomputable def ob_19_c1 (P : Params) : Obj := { cls := Value.none, data := Data.fields #[Value.int 4 0, Value.int 4 0, Value.ref 27] }
noncomputable def ob_20_c1 (P : Params) : Obj := { cls := Value.type "code", data := Data.fields #[Value.str (qs "F77Error") 191, Value.str (qs "F77Error") 192, Value.str (qs "/claim/cut.py") 193, Value.int 2 0, Value.int 0 0, Value.int 0 0, Value.int 0 0, Value.int 0 0, Value.ref 18, Value.bool false, Value.int 181 0, Value.ref 19, Value.none, Value.none, Value.none, Value.none, Value.int 194 0, Value.int 2 0, Value.str (qs "/claim/cut.py") 195] }
noncomputable def ob_21_c1 (P : Params) : Obj := { cls := Value.type "frame", slots := #[some (Value.ref 20), some (Value.ref 3), some (Value.ref 17), none, some (Value.str (qs "f77.errors") 187), none, some (Value.ref 0)] }
noncomputable def ob_22_c1 (P : Params) : Obj := { cls := Value.type "tuple", data := Data.seq #[] }
noncomputable def ob_23_c1 (P : Params) : Obj := { cls := Value.none, data := Data.fields #[] }
noncomputable def ob_24_c1 (P : Params) : Obj := { cls := Value.type "tuple", data := Data.seq #[Value.str (qs "self") 204, Value.str (qs "text") 205] }
noncomputable def ob_25_c1 (P : Params) : Obj := { cls := Value.type "tuple", data := Data.seq #[] }
noncomputable def ob_26_c1 (P : Params) : Obj := { cls := Value.none, data := Data.func { name := qs "__init__", qualname := qs "F77Error.__init__", params := mPar 1 0, body := FuncBody.stmts (mBod 1 0), scope := mSco 1 0, globals := 0, closure := [], defaults := Value.none, kwdefaults := Value.none } }
noncomputable def ob_27_c1 (P : Params) : Obj := { cls := Value.type "code", data := Data.fields #[Value.str (qs "__init__") 201, Value.str (qs "F77Error.__init__") 202, Value.str (qs "/claim/cut.py") 203, Value.int 4 0, Value.int 2 0, Value.int 0 0, Value.int 0 0, Value.int 3 0, Value.ref 22, Value.bool true, Value.int 181 0, Value.ref 23, Value.none, Value.ref 24, Value.ref 25, Value.ref 26, Value.int 206 0, Value.int 4 0, Value.str (qs "/claim/cut.py") 207] }
noncomputable def ob_28_c1 (P : Params) : Obj := { cls := Value.type "function", data := Data.func { name := qs "__init__", qualname := qs "F77Error.__init__", params := mPar 1 0, body := FuncBody.stmts (mBod 1 0), scope := mSco 1 0, globals := 3, closure := [], defaults := Value.none, kwdefaults := Value.none, pyModule := Value.str (qs "f77.errors") 187, code := Value.ref 27 } }
noncomputable def ob_29_c1 (P : Params) : Obj := { cls := Value.type "tuple", data := Data.seq #[Value.str (qs "text") 209] }
noncomputable def ob_30_c1 (P : Params) : Obj := { cls := Value.type "dict", data := Data.dict #[{ hash := PyData.keyHash P (qs "__module__"), key := Value.str (qs "__module__") 196, val := Value.str (qs "f77.errors") 187 }, { hash := PyData.keyHash P (qs "__firstlineno__"), key := Value.str (qs "__firstlineno__") 200, val := Value.int 2 199 }, { hash := PyData.keyHash P (qs "__init__"), key := Value.str (qs "__init__") 208, val := Value.ref 28 }, { hash := PyData.keyHash P (qs "__static_attributes__"), key := Value.str (qs "__static_attributes__") 210, val := Value.ref 29 }, { hash := PyData.keyHash P (qs "__weakref__"), key := Value.str (qs "__weakref__") 212, val := Value.ref 32 }, { hash := PyData.keyHash P (qs "__doc__"), key := Value.str (qs "__doc__") 213, val := Value.none }] 3 }
noncomputable def ob_31_c1 (P : Params) : Obj := { cls := Value.type "type", data := Data.cls { name := qs "F77Error", bases := [Value.type "Exception"], mro := [Value.ref 31, Value.type "Exception", Value.type "BaseException", Value.type "object"], ns := 30, qualname := qs "F77Error", subclasses := [Value.ref 51] }, slots := #[some (Value.ref 15), none, some (Value.str (qs "F77Error") 189), some (Value.str (qs "F77Error") 197), some (Value.builtin "Exception.__new__"), some (Value.bool true)] }
noncomputable def ob_32_c1 (P : Params) : Obj := { cls := Value.type "getset_descriptor", data := Data.fields #[Value.str (qs "__weakref__") 211, Value.ref 31, Value.builtin "ExceptionGroup.__weakref__", Value.none] }
noncomputable def ob_33_c1 (P : Params) : Obj := { cls := Value.type "super", data := Data.fields #[Value.ref 31, Value.ref 31, Value.ref 31] }
noncomputable def ob_34_c1 (P : Params) : Obj := { cls := Value.type "builtin_function_or_method", data := Data.fields #[Value.builtin "object.__init_subclass__", Value.ref 31] }
noncomputable def ob_35_c1 (P : Params) : Obj := { cls := Value.type "tuple", data := Data.seq #[Value.ref 31] }
noncomputable def ob_36_c1 (P : Params) : Obj := { cls := Value.type "builtin_function_or_method", data := Data.fields #[Value.builtin "type.__prepare__", Value.type "type"] }
noncomputable def ob_37_c1 (P : Params) : Obj := { cls := Value.type "dict", data := Data.dict #[{ hash := PyData.keyHash P (qs "__module__"), key := Value.str (qs "__module__") 225, val := Value.str (qs "f77.errors") 187 }, { hash := PyData.keyHash P (qs "__qualname__"), key := Value.str (qs "__qualname__") 227, val := Value.str (qs "LexFault") 226 }, { hash := PyData.keyHash P (qs "__firstlineno__"), key := Value.str (qs "__firstlineno__") 229, val := Value.int 7 228 }, { hash := PyData.keyHash P (qs "__init__"), key := Value.str (qs "__init__") 238, val := Value.ref 48 }, { hash := PyData.keyHash P (qs "__static_attributes__"), key := Value.str (qs "__static_attributes__") 240, val := Value.ref 49 }] 5 }
noncomputable def ob_38_c1 (P : Params) : Obj := { cls := Value.type "tuple", data := Data.seq #[] }
noncomputable def ob_39_c1 (P : Params) : Obj := { cls := Value.none, data := Data.fields #[Value.int 9 0, Value.int 4 0, Value.ref 47] }
noncomputable def ob_40_c1 (P : Params) : Obj := { cls := Value.type "code", data := Data.fields #[Value.str (qs "LexFault") 220, Value.str (qs "LexFault") 221, Value.str (qs "/claim/cut.py") 222, Value.int 7 0, Value.int 0 0, Value.int 0 0, Value.int 0 0, Value.int 0 0, Value.ref 38, Value.bool false, Value.int 181 0, Value.ref 39, Value.none, Value.none, Value.none, Value.none, Value.int 223 0, Value.int 7 0, Value.str (qs "/claim/cut.py") 224] }
noncomputable def ob_41_c1 (P : Params) : Obj := { cls := Value.type "frame", slots := #[some (Value.ref 40), some (Value.ref 3), some (Value.ref 37), none, some (Value.str (qs "f77.errors") 187), none, some (Value.ref 0)] }
noncomputable def ob_42_c1 (P : Params) : Obj := { cls := Value.type "tuple", data := Data.seq #[] }
noncomputable def ob_43_c1 (P : Params) : Obj := { cls := Value.none, data := Data.fields #[] }
noncomputable def ob_44_c1 (P : Params) : Obj := { cls := Value.type "tuple", data := Data.seq #[Value.str (qs "self") 233, Value.str (qs "at") 234, Value.str (qs "text") 235] }
noncomputable def ob_45_c1 (P : Params) : Obj := { cls := Value.type "tuple", data := Data.seq #[] }
noncomputable def ob_46_c1 (P : Params) : Obj := { cls := Value.none, data := Data.func { name := qs "__init__", qualname := qs "LexFault.__init__", params := mPar 2 0, body := FuncBody.stmts (mBod 2 0), scope := mSco 2 0, globals := 0, closure := [], defaults := Value.none, kwdefaults := Value.none } }
noncomputable def ob_47_c1 (P : Params) : Obj := { cls := Value.type "code", data := Data.fields #[Value.str (qs "__init__") 230, Value.str (qs "LexFault.__init__") 231, Value.str (qs "/claim/cut.py") 232, Value.int 9 0, Value.int 3 0, Value.int 0 0, Value.int 0 0, Value.int 3 0, Value.ref 42, Value.bool true, Value.int 181 0, Value.ref 43, Value.none, Value.ref 44, Value.ref 45, Value.ref 46, Value.int 236 0, Value.int 9 0, Value.str (qs "/claim/cut.py") 237] }
noncomputable def ob_48_c1 (P : Params) : Obj := { cls := Value.type "function", data := Data.func { name := qs "__init__", qualname := qs "LexFault.__init__", params := mPar 2 0, body := FuncBody.stmts (mBod 2 0), scope := mSco 2 0, globals := 3, closure := [], defaults := Value.none, kwdefaults := Value.none, pyModule := Value.str (qs "f77.errors") 187, code := Value.ref 47 } }
noncomputable def ob_49_c1 (P : Params) : Obj := { cls := Value.type "tuple", data := Data.seq #[Value.str (qs "at") 239] }
noncomputable def ob_50_c1 (P : Params) : Obj := { cls := Value.type "dict", data := Data.dict #[{ hash := PyData.keyHash P (qs "__module__"), key := Value.str (qs "__module__") 225, val := Value.str (qs "f77.errors") 187 }, { hash := PyData.keyHash P (qs "__firstlineno__"), key := Value.str (qs "__firstlineno__") 229, val := Value.int 7 228 }, { hash := PyData.keyHash P (qs "__init__"), key := Value.str (qs "__init__") 238, val := Value.ref 48 }, { hash := PyData.keyHash P (qs "__static_attributes__"), key := Value.str (qs "__static_attributes__") 240, val := Value.ref 49 }, { hash := PyData.keyHash P (qs "__doc__"), key := Value.str (qs "__doc__") 241, val := Value.none }] 2 }
noncomputable def ob_51_c1 (P : Params) : Obj := { cls := Value.type "type", data := Data.cls { name := qs "LexFault", bases := [Value.ref 31], mro := [Value.ref 51, Value.ref 31, Value.type "Exception", Value.type "BaseException", Value.type "object"], ns := 50, qualname := qs "LexFault" }, slots := #[some (Value.ref 35), none, some (Value.str (qs "LexFault") 218), some (Value.str (qs "LexFault") 226), some (Value.builtin "Exception.__new__"), some (Value.bool true)] }
noncomputable def ob_52_c1 (P : Params) : Obj := { cls := Value.type "super", data := Data.fields #[Value.ref 51, Value.ref 51, Value.ref 51] }
noncomputable def ob_53_c1 (P : Params) : Obj := { cls := Value.type "builtin_function_or_method", data := Data.fields #[Value.builtin "object.__init_subclass__", Value.ref 51] }
noncomputable def ob_3_c2 (P : Params) : Obj := { cls := Value.type "dict", data := Data.dict #[{ hash := PyData.keyHash P (qs "__name__"), key := Value.str (qs "__name__") 165, val := Value.str (qs "f77.squeeze") 244 }, { hash := PyData.keyHash P (qs "__doc__"), key := Value.str (qs "__doc__") 166, val := Value.none }, { hash := PyData.keyHash P (qs "__package__"), key := Value.str (qs "__package__") 167, val := Value.none }, { hash := PyData.keyHash P (qs "__loader__"), key := Value.str (qs "__loader__") 168, val := Value.builtin "__main__.__loader__#opaque" }, { hash := PyData.keyHash P (qs "__spec__"), key := Value.str (qs "__spec__") 169, val := Value.none }, { hash := PyData.keyHash P (qs "__annotations__"), key := Value.str (qs "__annotations__") 170, val := Value.ref 6 }, { hash := PyData.keyHash P (qs "__builtins__"), key := Value.str (qs "__builtins__") 171, val := Value.ref 4 }, { hash := PyData.keyHash P (qs "__file__"), key := Value.str (qs "__file__") 173, val := Value.str (qs "/claim/cut.py") 172 }, { hash := PyData.keyHash P (qs "__cached__"), key := Value.str (qs "__cached__") 174, val := Value.none }, { hash := PyData.keyHash P (qs "F77Error"), key := Value.str (qs "F77Error") 217, val := Value.ref 31 }, { hash := PyData.keyHash P (qs "LexFault"), key := Value.str (qs "LexFault") 243, val := Value.ref 51 }, { hash := PyData.keyHash P (qs "DIGITS_squeeze"), key := Value.str (qs "DIGITS_squeeze") 247, val := Value.str (qs "0123456789") 246 }, { hash := PyData.keyHash P (qs "AHEAD_OF_COUNT"), key := Value.str (qs "AHEAD_OF_COUNT") 249, val := Value.str (qs "(,/:") 248 }, { hash := PyData.keyHash P (qs "capital"), key := Value.str (qs "capital") 256, val := Value.ref 60 }, { hash := PyData.keyHash P (qs "constant_end"), key := Value.str (qs "constant_end") 265, val := Value.ref 67 }, { hash := PyData.keyHash P (qs "count_end"), key := Value.str (qs "count_end") 275, val := Value.ref 74 }, { hash := PyData.keyHash P (qs "hollerith"), key := Value.str (qs "hollerith") 286, val := Value.ref 81 }, { hash := PyData.keyHash P (qs "squeeze"), key := Value.str (qs "squeeze") 300, val := Value.ref 88 }, { hash := PyData.keyHash P (qs "squeezed"), key := Value.str (qs "squeezed") 310, val := Value.ref 95 }, { hash := PyData.keyHash P (qs "depths"), key := Value.str (qs "depths") 321, val := Value.ref 102 }, { hash := PyData.keyHash P (qs "closing"), key := Value.str (qs "closing") 331, val := Value.ref 109 }] 21 }
noncomputable def ob_12_c2 (P : Params) : Obj := { cls := Value.none, data := Data.fields #[Value.int 2 0, Value.int 0 0, Value.ref 20, Value.int 7 0, Value.int 0 0, Value.ref 40, Value.int 15 0, Value.int 0 0, Value.ref 59, Value.int 19 0, Value.int 0 0, Value.ref 66, Value.int 28 0, Value.int 0 0, Value.ref 73, Value.int 38 0, Value.int 0 0, Value.ref 80, Value.int 46 0, Value.int 0 0, Value.ref 87, Value.int 71 0, Value.int 0 0, Value.ref 94, Value.int 76 0, Value.int 0 0, Value.ref 101, Value.int 97 0, Value.int 0 0, Value.ref 108] }
noncomputable def ob_54_c2 (P : Params) : Obj := { cls := Value.type "tuple", data := Data.seq #[] }
noncomputable def ob_55_c2 (P : Params) : Obj := { cls := Value.none, data := Data.fields #[] }
noncomputable def ob_56_c2 (P : Params) : Obj := { cls := Value.type "tuple", data := Data.seq #[Value.str (qs "sign") 253] }
noncomputable def ob_57_c2 (P : Params) : Obj := { cls := Value.type "tuple", data := Data.seq #[] }
noncomputable def ob_58_c2 (P : Params) : Obj := { cls := Value.none, data := Data.func { name := qs "capital", qualname := qs "capital", params := fPar 6, body := FuncBody.stmts (fBod 6), scope := fSco 6, globals := 0, closure := [], defaults := Value.none, kwdefaults := Value.none } }
noncomputable def ob_59_c2 (P : Params) : Obj := { cls := Value.type "code", data := Data.fields #[Value.str (qs "capital") 250, Value.str (qs "capital") 251, Value.str (qs "/claim/cut.py") 252, Value.int 15 0, Value.int 1 0, Value.int 0 0, Value.int 0 0, Value.int 3 0, Value.ref 54, Value.bool true, Value.int 181 0, Value.ref 55, Value.none, Value.ref 56, Value.ref 57, Value.ref 58, Value.int 254 0, Value.int 15 0, Value.str (qs "/claim/cut.py") 255] }
noncomputable def ob_60_c2 (P : Params) : Obj := { cls := Value.type "function", data := Data.func { name := qs "capital", qualname := qs "capital", params := fPar 6, body := FuncBody.stmts (fBod 6), scope := fSco 6, globals := 3, closure := [], defaults := Value.none, kwdefaults := Value.none, pyModule := Value.str (qs "f77.squeeze") 244, code := Value.ref 59 } }
noncomputable def ob_61_c2 (P : Params) : Obj := { cls := Value.type "tuple", data := Data.seq #[] }
noncomputable def ob_62_c2 (P : Params) : Obj := { cls := Value.none, data := Data.fields #[] }
noncomputable def ob_63_c2 (P : Params) : Obj := { cls := Value.type "tuple", data := Data.seq #[Value.str (qs "text") 260, Value.str (qs "at") 261, Value.str (qs "end") 262] }
noncomputable def ob_64_c2 (P : Params) : Obj := { cls := Value.type "tuple", data := Data.seq #[] }
noncomputable def ob_65_c2 (P : Params) : Obj := { cls := Value.none, data := Data.func { name := qs "constant_end", qualname := qs "constant_end", params := fPar 7, body := FuncBody.stmts (fBod 7), scope := fSco 7, globals := 0, closure := [], defaults := Value.none, kwdefaults := Value.none } }
noncomputable def ob_66_c2 (P : Params) : Obj := { cls := Value.type "code", data := Data.fields #[Value.str (qs "constant_end") 257, Value.str (qs "constant_end") 258, Value.str (qs "/claim/cut.py") 259, Value.int 19 0, Value.int 2 0, Value.int 0 0, Value.int 0 0, Value.int 3 0, Value.ref 61, Value.bool true, Value.int 181 0, Value.ref 62, Value.none, Value.ref 63, Value.ref 64, Value.ref 65, Value.int 263 0, Value.int 19 0, Value.str (qs "/claim/cut.py") 264] }
noncomputable def ob_67_c2 (P : Params) : Obj := { cls := Value.type "function", data := Data.func { name := qs "constant_end", qualname := qs "constant_end", params := fPar 7, body := FuncBody.stmts (fBod 7), scope := fSco 7, globals := 3, closure := [], defaults := Value.none, kwdefaults := Value.none, pyModule := Value.str (qs "f77.squeeze") 244, code := Value.ref 66 } }
noncomputable def ob_68_c2 (P : Params) : Obj := { cls := Value.type "tuple", data := Data.seq #[] }
noncomputable def ob_69_c2 (P : Params) : Obj := { cls := Value.none, data := Data.fields #[] }
noncomputable def ob_70_c2 (P : Params) : Obj := { cls := Value.type "tuple", data := Data.seq #[Value.str (qs "text") 269, Value.str (qs "at") 270, Value.str (qs "count") 271, Value.str (qs "end") 272] }
noncomputable def ob_71_c2 (P : Params) : Obj := { cls := Value.type "tuple", data := Data.seq #[] }
noncomputable def ob_72_c2 (P : Params) : Obj := { cls := Value.none, data := Data.func { name := qs "count_end", qualname := qs "count_end", params := fPar 8, body := FuncBody.stmts (fBod 8), scope := fSco 8, globals := 0, closure := [], defaults := Value.none, kwdefaults := Value.none } }
noncomputable def ob_73_c2 (P : Params) : Obj := { cls := Value.type "code", data := Data.fields #[Value.str (qs "count_end") 266, Value.str (qs "count_end") 267, Value.str (qs "/claim/cut.py") 268, Value.int 28 0, Value.int 2 0, Value.int 0 0, Value.int 0 0, Value.int 3 0, Value.ref 68, Value.bool true, Value.int 181 0, Value.ref 69, Value.none, Value.ref 70, Value.ref 71, Value.ref 72, Value.int 273 0, Value.int 28 0, Value.str (qs "/claim/cut.py") 274] }
noncomputable def ob_74_c2 (P : Params) : Obj := { cls := Value.type "function", data := Data.func { name := qs "count_end", qualname := qs "count_end", params := fPar 8, body := FuncBody.stmts (fBod 8), scope := fSco 8, globals := 3, closure := [], defaults := Value.none, kwdefaults := Value.none, pyModule := Value.str (qs "f77.squeeze") 244, code := Value.ref 73 } }
noncomputable def ob_75_c2 (P : Params) : Obj := { cls := Value.type "tuple", data := Data.seq #[] }
noncomputable def ob_76_c2 (P : Params) : Obj := { cls := Value.none, data := Data.fields #[] }
noncomputable def ob_77_c2 (P : Params) : Obj := { cls := Value.type "tuple", data := Data.seq #[Value.str (qs "text") 279, Value.str (qs "at") 280, Value.str (qs "count") 281, Value.str (qs "begin") 282, Value.str (qs "inner") 283] }
noncomputable def ob_78_c2 (P : Params) : Obj := { cls := Value.type "tuple", data := Data.seq #[] }
noncomputable def ob_79_c2 (P : Params) : Obj := { cls := Value.none, data := Data.func { name := qs "hollerith", qualname := qs "hollerith", params := fPar 9, body := FuncBody.stmts (fBod 9), scope := fSco 9, globals := 0, closure := [], defaults := Value.none, kwdefaults := Value.none } }
noncomputable def ob_80_c2 (P : Params) : Obj := { cls := Value.type "code", data := Data.fields #[Value.str (qs "hollerith") 276, Value.str (qs "hollerith") 277, Value.str (qs "/claim/cut.py") 278, Value.int 38 0, Value.int 2 0, Value.int 0 0, Value.int 0 0, Value.int 3 0, Value.ref 75, Value.bool true, Value.int 181 0, Value.ref 76, Value.none, Value.ref 77, Value.ref 78, Value.ref 79, Value.int 284 0, Value.int 38 0, Value.str (qs "/claim/cut.py") 285] }
noncomputable def ob_81_c2 (P : Params) : Obj := { cls := Value.type "function", data := Data.func { name := qs "hollerith", qualname := qs "hollerith", params := fPar 9, body := FuncBody.stmts (fBod 9), scope := fSco 9, globals := 3, closure := [], defaults := Value.none, kwdefaults := Value.none, pyModule := Value.str (qs "f77.squeeze") 244, code := Value.ref 80 } }
noncomputable def ob_82_c2 (P : Params) : Obj := { cls := Value.type "tuple", data := Data.seq #[] }
noncomputable def ob_83_c2 (P : Params) : Obj := { cls := Value.none, data := Data.fields #[] }
noncomputable def ob_84_c2 (P : Params) : Obj := { cls := Value.type "tuple", data := Data.seq #[Value.str (qs "text") 290, Value.str (qs "out") 291, Value.str (qs "last") 292, Value.str (qs "at") 293, Value.str (qs "sign") 294, Value.str (qs "constant") 295, Value.str (qs "end") 296, Value.str (qs "part") 297] }
noncomputable def ob_85_c2 (P : Params) : Obj := { cls := Value.type "tuple", data := Data.seq #[] }
noncomputable def ob_86_c2 (P : Params) : Obj := { cls := Value.none, data := Data.func { name := qs "squeeze", qualname := qs "squeeze", params := fPar 10, body := FuncBody.stmts (fBod 10), scope := fSco 10, globals := 0, closure := [], defaults := Value.none, kwdefaults := Value.none } }
noncomputable def ob_87_c2 (P : Params) : Obj := { cls := Value.type "code", data := Data.fields #[Value.str (qs "squeeze") 287, Value.str (qs "squeeze") 288, Value.str (qs "/claim/cut.py") 289, Value.int 46 0, Value.int 1 0, Value.int 0 0, Value.int 0 0, Value.int 3 0, Value.ref 82, Value.bool true, Value.int 181 0, Value.ref 83, Value.none, Value.ref 84, Value.ref 85, Value.ref 86, Value.int 298 0, Value.int 46 0, Value.str (qs "/claim/cut.py") 299] }
noncomputable def ob_88_c2 (P : Params) : Obj := { cls := Value.type "function", data := Data.func { name := qs "squeeze", qualname := qs "squeeze", params := fPar 10, body := FuncBody.stmts (fBod 10), scope := fSco 10, globals := 3, closure := [], defaults := Value.none, kwdefaults := Value.none, pyModule := Value.str (qs "f77.squeeze") 244, code := Value.ref 87 } }
noncomputable def ob_89_c2 (P : Params) : Obj := { cls := Value.type "tuple", data := Data.seq #[] }
noncomputable def ob_90_c2 (P : Params) : Obj := { cls := Value.none, data := Data.fields #[] }
noncomputable def ob_91_c2 (P : Params) : Obj := { cls := Value.type "tuple", data := Data.seq #[Value.str (qs "text") 304, Value.str (qs "row") 305, Value.str (qs "sign") 306, Value.str (qs "is_inside") 307] }
noncomputable def ob_92_c2 (P : Params) : Obj := { cls := Value.type "tuple", data := Data.seq #[] }
noncomputable def ob_93_c2 (P : Params) : Obj := { cls := Value.none, data := Data.func { name := qs "squeezed", qualname := qs "squeezed", params := fPar 11, body := FuncBody.stmts (fBod 11), scope := fSco 11, globals := 0, closure := [], defaults := Value.none, kwdefaults := Value.none } }
noncomputable def ob_94_c2 (P : Params) : Obj := { cls := Value.type "code", data := Data.fields #[Value.str (qs "squeezed") 301, Value.str (qs "squeezed") 302, Value.str (qs "/claim/cut.py") 303, Value.int 71 0, Value.int 1 0, Value.int 0 0, Value.int 0 0, Value.int 3 0, Value.ref 89, Value.bool true, Value.int 181 0, Value.ref 90, Value.none, Value.ref 91, Value.ref 92, Value.ref 93, Value.int 308 0, Value.int 71 0, Value.str (qs "/claim/cut.py") 309] }
noncomputable def ob_95_c2 (P : Params) : Obj := { cls := Value.type "function", data := Data.func { name := qs "squeezed", qualname := qs "squeezed", params := fPar 11, body := FuncBody.stmts (fBod 11), scope := fSco 11, globals := 3, closure := [], defaults := Value.none, kwdefaults := Value.none, pyModule := Value.str (qs "f77.squeeze") 244, code := Value.ref 94 } }
noncomputable def ob_96_c2 (P : Params) : Obj := { cls := Value.type "tuple", data := Data.seq #[] }
noncomputable def ob_97_c2 (P : Params) : Obj := { cls := Value.none, data := Data.fields #[] }
noncomputable def ob_98_c2 (P : Params) : Obj := { cls := Value.type "tuple", data := Data.seq #[Value.str (qs "row") 314, Value.str (qs "out") 315, Value.str (qs "depth") 316, Value.str (qs "is_inside") 317, Value.str (qs "sign") 318] }
noncomputable def ob_99_c2 (P : Params) : Obj := { cls := Value.type "tuple", data := Data.seq #[] }
noncomputable def ob_100_c2 (P : Params) : Obj := { cls := Value.none, data := Data.func { name := qs "depths", qualname := qs "depths", params := fPar 12, body := FuncBody.stmts (fBod 12), scope := fSco 12, globals := 0, closure := [], defaults := Value.none, kwdefaults := Value.none } }
noncomputable def ob_101_c2 (P : Params) : Obj := { cls := Value.type "code", data := Data.fields #[Value.str (qs "depths") 311, Value.str (qs "depths") 312, Value.str (qs "/claim/cut.py") 313, Value.int 76 0, Value.int 1 0, Value.int 0 0, Value.int 0 0, Value.int 3 0, Value.ref 96, Value.bool true, Value.int 181 0, Value.ref 97, Value.none, Value.ref 98, Value.ref 99, Value.ref 100, Value.int 319 0, Value.int 76 0, Value.str (qs "/claim/cut.py") 320] }
noncomputable def ob_102_c2 (P : Params) : Obj := { cls := Value.type "function", data := Data.func { name := qs "depths", qualname := qs "depths", params := fPar 12, body := FuncBody.stmts (fBod 12), scope := fSco 12, globals := 3, closure := [], defaults := Value.none, kwdefaults := Value.none, pyModule := Value.str (qs "f77.squeeze") 244, code := Value.ref 101 } }
noncomputable def ob_103_c2 (P : Params) : Obj := { cls := Value.type "tuple", data := Data.seq #[] }
noncomputable def ob_104_c2 (P : Params) : Obj := { cls := Value.none, data := Data.fields #[] }
noncomputable def ob_105_c2 (P : Params) : Obj := { cls := Value.type "tuple", data := Data.seq #[Value.str (qs "row") 325, Value.str (qs "at") 326, Value.str (qs "levels") 327, Value.str (qs "end") 328] }
noncomputable def ob_106_c2 (P : Params) : Obj := { cls := Value.type "tuple", data := Data.seq #[] }
noncomputable def ob_107_c2 (P : Params) : Obj := { cls := Value.none, data := Data.func { name := qs "closing", qualname := qs "closing", params := fPar 13, body := FuncBody.stmts (fBod 13), scope := fSco 13, globals := 0, closure := [], defaults := Value.none, kwdefaults := Value.none } }
noncomputable def ob_108_c2 (P : Params) : Obj := { cls := Value.type "code", data := Data.fields #[Value.str (qs "closing") 322, Value.str (qs "closing") 323, Value.str (qs "/claim/cut.py") 324, Value.int 97 0, Value.int 2 0, Value.int 0 0, Value.int 0 0, Value.int 3 0, Value.ref 103, Value.bool true, Value.int 181 0, Value.ref 104, Value.none, Value.ref 105, Value.ref 106, Value.ref 107, Value.int 329 0, Value.int 97 0, Value.str (qs "/claim/cut.py") 330] }
noncomputable def ob_109_c2 (P : Params) : Obj := { cls := Value.type "function", data := Data.func { name := qs "closing", qualname := qs "closing", params := fPar 13, body := FuncBody.stmts (fBod 13), scope := fSco 13, globals := 3, closure := [], defaults := Value.none, kwdefaults := Value.none, pyModule := Value.str (qs "f77.squeeze") 244, code := Value.ref 108 } }
noncomputable def ob_3_c3 (P : Params) : Obj := { cls := Value.type "dict", data := Data.dict #[{ hash := PyData.keyHash P (qs "__name__"), key := Value.str (qs "__name__") 165, val := Value.str (qs "f77.classify") 332 }, { hash := PyData.keyHash P (qs "__doc__"), key := Value.str (qs "__doc__") 166, val := Value.none }, { hash := PyData.keyHash P (qs "__package__"), key := Value.str (qs "__package__") 167, val := Value.none }, { hash := PyData.keyHash P (qs "__loader__"), key := Value.str (qs "__loader__") 168, val := Value.builtin "__main__.__loader__#opaque" }, { hash := PyData.keyHash P (qs "__spec__"), key := Value.str (qs "__spec__") 169, val := Value.none }, { hash := PyData.keyHash P (qs "__annotations__"), key := Value.str (qs "__annotations__") 170, val := Value.ref 6 }, { hash := PyData.keyHash P (qs "__builtins__"), key := Value.str (qs "__builtins__") 171, val := Value.ref 4 }, { hash := PyData.keyHash P (qs "__file__"), key := Value.str (qs "__file__") 173, val := Value.str (qs "/claim/cut.py") 172 }, { hash := PyData.keyHash P (qs "__cached__"), key := Value.str (qs "__cached__") 174, val := Value.none }, { hash := PyData.keyHash P (qs "F77Error"), key := Value.str (qs "F77Error") 217, val := Value.ref 31 }, { hash := PyData.keyHash P (qs "LexFault"), key := Value.str (qs "LexFault") 243, val := Value.ref 51 }, { hash := PyData.keyHash P (qs "DIGITS_squeeze"), key := Value.str (qs "DIGITS_squeeze") 247, val := Value.str (qs "0123456789") 246 }, { hash := PyData.keyHash P (qs "AHEAD_OF_COUNT"), key := Value.str (qs "AHEAD_OF_COUNT") 249, val := Value.str (qs "(,/:") 248 }, { hash := PyData.keyHash P (qs "capital"), key := Value.str (qs "capital") 256, val := Value.ref 60 }, { hash := PyData.keyHash P (qs "constant_end"), key := Value.str (qs "constant_end") 265, val := Value.ref 67 }, { hash := PyData.keyHash P (qs "count_end"), key := Value.str (qs "count_end") 275, val := Value.ref 74 }, { hash := PyData.keyHash P (qs "hollerith"), key := Value.str (qs "hollerith") 286, val := Value.ref 81 }, { hash := PyData.keyHash P (qs "squeeze"), key := Value.str (qs "squeeze") 300, val := Value.ref 88 }, { hash := PyData.keyHash P (qs "squeezed"), key := Value.str (qs "squeezed") 310, val := Value.ref 95 }, { hash := PyData.keyHash P (qs "depths"), key := Value.str (qs "depths") 321, val := Value.ref 102 }, { hash := PyData.keyHash P (qs "closing"), key := Value.str (qs "closing") 331, val := Value.ref 109 }, { hash := PyData.keyHash P (qs "DIGITS_classify"), key := Value.str (qs "DIGITS_classify") 335, val := Value.str (qs "0123456789") 334 }, { hash := PyData.keyHash P (qs "LETTERS"), key := Value.str (qs "LETTERS") 337, val := Value.str (qs "ABCDEFGHIJKLMNOPQRSTUVWXYZ") 336 }, { hash := PyData.keyHash P (qs "WHOLE"), key := Value.str (qs "WHOLE") 346, val := Value.ref 114 }, { hash := PyData.keyHash P (qs "TYPES"), key := Value.str (qs "TYPES") 359, val := Value.ref 121 }, { hash := PyData.keyHash P (qs "BEGINS"), key := Value.str (qs "BEGINS") 416, val := Value.ref 150 }] 26 }
noncomputable def ob_110_c3 (P : Params) : Obj := { cls := Value.type "tuple", data := Data.seq #[Value.str (qs "ELSE") 338, Value.str (qs "else") 339] }
noncomputable def ob_111_c3 (P : Params) : Obj := { cls := Value.type "tuple", data := Data.seq #[Value.str (qs "ENDIF") 340, Value.str (qs "endif") 341] }
noncomputable def ob_112_c3 (P : Params) : Obj := { cls := Value.type "tuple", data := Data.seq #[Value.str (qs "END") 342, Value.str (qs "end") 343] }
noncomputable def ob_113_c3 (P : Params) : Obj := { cls := Value.type "tuple", data := Data.seq #[Value.str (qs "CONTINUE") 344, Value.str (qs "continue") 345] }
noncomputable def ob_114_c3 (P : Params) : Obj := { cls := Value.type "list", data := Data.seq #[Value.ref 110, Value.ref 111, Value.ref 112, Value.ref 113] }
noncomputable def ob_115_c3 (P : Params) : Obj := { cls := Value.type "tuple", data := Data.seq #[Value.str (qs "INTEGER") 347, Value.str (qs "integer") 348] }
noncomputable def ob_116_c3 (P : Params) : Obj := { cls := Value.type "tuple", data := Data.seq #[Value.str (qs "REAL") 349, Value.str (qs "real") 350] }
noncomputable def ob_117_c3 (P : Params) : Obj := { cls := Value.type "tuple", data := Data.seq #[Value.str (qs "DOUBLEPRECISION") 351, Value.str (qs "doubleprecision") 352] }
noncomputable def ob_118_c3 (P : Params) : Obj := { cls := Value.type "tuple", data := Data.seq #[Value.str (qs "COMPLEX") 353, Value.str (qs "complex") 354] }
noncomputable def ob_119_c3 (P : Params) : Obj := { cls := Value.type "tuple", data := Data.seq #[Value.str (qs "LOGICAL") 355, Value.str (qs "logical") 356] }
noncomputable def ob_120_c3 (P : Params) : Obj := { cls := Value.type "tuple", data := Data.seq #[Value.str (qs "CHARACTER") 357, Value.str (qs "character") 358] }
noncomputable def ob_121_c3 (P : Params) : Obj := { cls := Value.type "list", data := Data.seq #[Value.ref 115, Value.ref 116, Value.ref 117, Value.ref 118, Value.ref 119, Value.ref 120] }
noncomputable def ob_122_c3 (P : Params) : Obj := { cls := Value.type "tuple", data := Data.seq #[Value.str (qs "FORMAT(") 360, Value.str (qs "format") 361] }
noncomputable def ob_123_c3 (P : Params) : Obj := { cls := Value.type "tuple", data := Data.seq #[Value.str (qs "CALL") 362, Value.str (qs "call") 363] }
noncomputable def ob_124_c3 (P : Params) : Obj := { cls := Value.type "tuple", data := Data.seq #[Value.str (qs "RETURN") 364, Value.str (qs "return") 365] }
noncomputable def ob_125_c3 (P : Params) : Obj := { cls := Value.type "tuple", data := Data.seq #[Value.str (qs "STOP") 366, Value.str (qs "stop") 367] }
noncomputable def ob_126_c3 (P : Params) : Obj := { cls := Value.type "tuple", data := Data.seq #[Value.str (qs "PAUSE") 368, Value.str (qs "pause") 369] }
noncomputable def ob_127_c3 (P : Params) : Obj := { cls := Value.type "tuple", data := Data.seq #[Value.str (qs "READ") 370, Value.str (qs "read") 371] }
noncomputable def ob_128_c3 (P : Params) : Obj := { cls := Value.type "tuple", data := Data.seq #[Value.str (qs "WRITE(") 372, Value.str (qs "write") 373] }
noncomputable def ob_129_c3 (P : Params) : Obj := { cls := Value.type "tuple", data := Data.seq #[Value.str (qs "PRINT") 374, Value.str (qs "print") 375] }
noncomputable def ob_130_c3 (P : Params) : Obj := { cls := Value.type "tuple", data := Data.seq #[Value.str (qs "OPEN(") 376, Value.str (qs "open") 377] }
noncomputable def ob_131_c3 (P : Params) : Obj := { cls := Value.type "tuple", data := Data.seq #[Value.str (qs "CLOSE(") 378, Value.str (qs "close") 379] }
noncomputable def ob_132_c3 (P : Params) : Obj := { cls := Value.type "tuple", data := Data.seq #[Value.str (qs "INQUIRE(") 380, Value.str (qs "inquire") 381] }
noncomputable def ob_133_c3 (P : Params) : Obj := { cls := Value.type "tuple", data := Data.seq #[Value.str (qs "BACKSPACE") 382, Value.str (qs "backspace") 383] }
noncomputable def ob_134_c3 (P : Params) : Obj := { cls := Value.type "tuple", data := Data.seq #[Value.str (qs "REWIND") 384, Value.str (qs "rewind") 385] }
noncomputable def ob_135_c3 (P : Params) : Obj := { cls := Value.type "tuple", data := Data.seq #[Value.str (qs "ENDFILE") 386, Value.str (qs "endfile") 387] }
noncomputable def ob_136_c3 (P : Params) : Obj := { cls := Value.type "tuple", data := Data.seq #[Value.str (qs "IMPLICIT") 388, Value.str (qs "implicit") 389] }
noncomputable def ob_137_c3 (P : Params) : Obj := { cls := Value.type "tuple", data := Data.seq #[Value.str (qs "PARAMETER(") 390, Value.str (qs "parameter") 391] }
noncomputable def ob_138_c3 (P : Params) : Obj := { cls := Value.type "tuple", data := Data.seq #[Value.str (qs "DIMENSION") 392, Value.str (qs "dimension") 393] }
noncomputable def ob_139_c3 (P : Params) : Obj := { cls := Value.type "tuple", data := Data.seq #[Value.str (qs "COMMON") 394, Value.str (qs "common") 395] }
noncomputable def ob_140_c3 (P : Params) : Obj := { cls := Value.type "tuple", data := Data.seq #[Value.str (qs "EQUIVALENCE(") 396, Value.str (qs "equivalence") 397] }
noncomputable def ob_141_c3 (P : Params) : Obj := { cls := Value.type "tuple", data := Data.seq #[Value.str (qs "EXTERNAL") 398, Value.str (qs "external") 399] }
noncomputable def ob_142_c3 (P : Params) : Obj := { cls := Value.type "tuple", data := Data.seq #[Value.str (qs "INTRINSIC") 400, Value.str (qs "intrinsic") 401] }
noncomputable def ob_143_c3 (P : Params) : Obj := { cls := Value.type "tuple", data := Data.seq #[Value.str (qs "SAVE") 402, Value.str (qs "save") 403] }
noncomputable def ob_144_c3 (P : Params) : Obj := { cls := Value.type "tuple", data := Data.seq #[Value.str (qs "DATA") 404, Value.str (qs "data") 405] }
noncomputable def ob_145_c3 (P : Params) : Obj := { cls := Value.type "tuple", data := Data.seq #[Value.str (qs "PROGRAM") 406, Value.str (qs "program") 407] }
noncomputable def ob_146_c3 (P : Params) : Obj := { cls := Value.type "tuple", data := Data.seq #[Value.str (qs "SUBROUTINE") 408, Value.str (qs "subroutine") 409] }
noncomputable def ob_147_c3 (P : Params) : Obj := { cls := Value.type "tuple", data := Data.seq #[Value.str (qs "FUNCTION") 410, Value.str (qs "function") 411] }
noncomputable def ob_148_c3 (P : Params) : Obj := { cls := Value.type "tuple", data := Data.seq #[Value.str (qs "BLOCKDATA") 412, Value.str (qs "blockdata") 413] }
noncomputable def ob_149_c3 (P : Params) : Obj := { cls := Value.type "tuple", data := Data.seq #[Value.str (qs "ENTRY") 414, Value.str (qs "entry") 415] }
noncomputable def ob_150_c3 (P : Params) : Obj := { cls := Value.type "list", data := Data.seq #[Value.ref 122, Value.ref 123, Value.ref 124, Value.ref 125, Value.ref 126, Value.ref 127, Value.ref 128, Value.ref 129, Value.ref 130, Value.ref 131, Value.ref 132, Value.ref 133, Value.ref 134, Value.ref 135, Value.ref 136, Value.ref 137, Value.ref 138, Value.ref 139, Value.ref 140, Value.ref 141, Value.ref 142, Value.ref 143, Value.ref 144, Value.ref 145, Value.ref 146, Value.ref 147, Value.ref 148, Value.ref 149] }
noncomputable def ob_3_c4 (P : Params) : Obj := { cls := Value.type "dict", data := Data.dict #[{ hash := PyData.keyHash P (qs "__name__"), key := Value.str (qs "__name__") 165, val := Value.str (qs "f77.classify") 332 }, { hash := PyData.keyHash P (qs "__doc__"), key := Value.str (qs "__doc__") 166, val := Value.none }, { hash := PyData.keyHash P (qs "__package__"), key := Value.str (qs "__package__") 167, val := Value.none }, { hash := PyData.keyHash P (qs "__loader__"), key := Value.str (qs "__loader__") 168, val := Value.builtin "__main__.__loader__#opaque" }, { hash := PyData.keyHash P (qs "__spec__"), key := Value.str (qs "__spec__") 169, val := Value.none }, { hash := PyData.keyHash P (qs "__annotations__"), key := Value.str (qs "__annotations__") 170, val := Value.ref 6 }, { hash := PyData.keyHash P (qs "__builtins__"), key := Value.str (qs "__builtins__") 171, val := Value.ref 4 }, { hash := PyData.keyHash P (qs "__file__"), key := Value.str (qs "__file__") 173, val := Value.str (qs "/claim/cut.py") 172 }, { hash := PyData.keyHash P (qs "__cached__"), key := Value.str (qs "__cached__") 174, val := Value.none }, { hash := PyData.keyHash P (qs "F77Error"), key := Value.str (qs "F77Error") 217, val := Value.ref 31 }, { hash := PyData.keyHash P (qs "LexFault"), key := Value.str (qs "LexFault") 243, val := Value.ref 51 }, { hash := PyData.keyHash P (qs "DIGITS_squeeze"), key := Value.str (qs "DIGITS_squeeze") 247, val := Value.str (qs "0123456789") 246 }, { hash := PyData.keyHash P (qs "AHEAD_OF_COUNT"), key := Value.str (qs "AHEAD_OF_COUNT") 249, val := Value.str (qs "(,/:") 248 }, { hash := PyData.keyHash P (qs "capital"), key := Value.str (qs "capital") 256, val := Value.ref 60 }, { hash := PyData.keyHash P (qs "constant_end"), key := Value.str (qs "constant_end") 265, val := Value.ref 67 }, { hash := PyData.keyHash P (qs "count_end"), key := Value.str (qs "count_end") 275, val := Value.ref 74 }, { hash := PyData.keyHash P (qs "hollerith"), key := Value.str (qs "hollerith") 286, val := Value.ref 81 }, { hash := PyData.keyHash P (qs "squeeze"), key := Value.str (qs "squeeze") 300, val := Value.ref 88 }, { hash := PyData.keyHash P (qs "squeezed"), key := Value.str (qs "squeezed") 310, val := Value.ref 95 }, { hash := PyData.keyHash P (qs "depths"), key := Value.str (qs "depths") 321, val := Value.ref 102 }, { hash := PyData.keyHash P (qs "closing"), key := Value.str (qs "closing") 331, val := Value.ref 109 }, { hash := PyData.keyHash P (qs "DIGITS_classify"), key := Value.str (qs "DIGITS_classify") 335, val := Value.str (qs "0123456789") 334 }, { hash := PyData.keyHash P (qs "LETTERS"), key := Value.str (qs "LETTERS") 337, val := Value.str (qs "ABCDEFGHIJKLMNOPQRSTUVWXYZ") 336 }, { hash := PyData.keyHash P (qs "WHOLE"), key := Value.str (qs "WHOLE") 346, val := Value.ref 114 }, { hash := PyData.keyHash P (qs "TYPES"), key := Value.str (qs "TYPES") 359, val := Value.ref 121 }, { hash := PyData.keyHash P (qs "BEGINS"), key := Value.str (qs "BEGINS") 416, val := Value.ref 150 }, { hash := PyData.keyHash P (qs "name_end"), key := Value.str (qs "name_end") 425, val := Value.ref 157 }, { hash := PyData.keyHash P (qs "digits_end"), key := Value.str (qs "digits_end") 434, val := Value.ref 164 }, { hash := PyData.keyHash P (qs "is_target"), key := Value.str (qs "is_target") 443, val := Value.ref 171 }, { hash := PyData.keyHash P (qs "is_balanced"), key := Value.str (qs "is_balanced") 453, val := Value.ref 178 }, { hash := PyData.keyHash P (qs "equals_at"), key := Value.str (qs "equals_at") 463, val := Value.ref 185 }, { hash := PyData.keyHash P (qs "is_do_head"), key := Value.str (qs "is_do_head") 471, val := Value.ref 192 }, { hash := PyData.keyHash P (qs "word_of_if"), key := Value.str (qs "word_of_if") 479, val := Value.ref 199 }, { hash := PyData.keyHash P (qs "word_of_goto"), key := Value.str (qs "word_of_goto") 486, val := Value.ref 206 }, { hash := PyData.keyHash P (qs "word_of_type"), key := Value.str (qs "word_of_type") 497, val := Value.ref 213 }, { hash := PyData.keyHash P (qs "word_by_begin"), key := Value.str (qs "word_by_begin") 506, val := Value.ref 220 }, { hash := PyData.keyHash P (qs "classify"), key := Value.str (qs "classify") 516, val := Value.ref 227 }] 37 }
noncomputable def ob_12_c4 (P : Params) : Obj := { cls := Value.none, data := Data.fields #[Value.int 2 0, Value.int 0 0, Value.ref 20, Value.int 7 0, Value.int 0 0, Value.ref 40, Value.int 15 0, Value.int 0 0, Value.ref 59, Value.int 19 0, Value.int 0 0, Value.ref 66, Value.int 28 0, Value.int 0 0, Value.ref 73, Value.int 38 0, Value.int 0 0, Value.ref 80, Value.int 46 0, Value.int 0 0, Value.ref 87, Value.int 71 0, Value.int 0 0, Value.ref 94, Value.int 76 0, Value.int 0 0, Value.ref 101, Value.int 97 0, Value.int 0 0, Value.ref 108, Value.int 109 0, Value.int 0 0, Value.ref 156, Value.int 116 0, Value.int 0 0, Value.ref 163, Value.int 121 0, Value.int 0 0, Value.ref 170, Value.int 131 0, Value.int 0 0, Value.ref 177, Value.int 141 0, Value.int 0 0, Value.ref 184, Value.int 149 0, Value.int 0 0, Value.ref 191, Value.int 156 0, Value.int 0 0, Value.ref 198, Value.int 165 0, Value.int 0 0, Value.ref 205, Value.int 173 0, Value.int 0 0, Value.ref 212, Value.int 187 0, Value.int 0 0, Value.ref 219, Value.int 203 0, Value.int 0 0, Value.ref 226] }
noncomputable def ob_151_c4 (P : Params) : Obj := { cls := Value.type "tuple", data := Data.seq #[] }
noncomputable def ob_152_c4 (P : Params) : Obj := { cls := Value.none, data := Data.fields #[] }
noncomputable def ob_153_c4 (P : Params) : Obj := { cls := Value.type "tuple", data := Data.seq #[Value.str (qs "row") 420, Value.str (qs "at") 421, Value.str (qs "end") 422] }
noncomputable def ob_154_c4 (P : Params) : Obj := { cls := Value.type "tuple", data := Data.seq #[] }
noncomputable def ob_155_c4 (P : Params) : Obj := { cls := Value.none, data := Data.func { name := qs "name_end", qualname := qs "name_end", params := fPar 20, body := FuncBody.stmts (fBod 20), scope := fSco 20, globals := 0, closure := [], defaults := Value.none, kwdefaults := Value.none } }
noncomputable def ob_156_c4 (P : Params) : Obj := { cls := Value.type "code", data := Data.fields #[Value.str (qs "name_end") 417, Value.str (qs "name_end") 418, Value.str (qs "/claim/cut.py") 419, Value.int 109 0, Value.int 2 0, Value.int 0 0, Value.int 0 0, Value.int 3 0, Value.ref 151, Value.bool true, Value.int 181 0, Value.ref 152, Value.none, Value.ref 153, Value.ref 154, Value.ref 155, Value.int 423 0, Value.int 109 0, Value.str (qs "/claim/cut.py") 424] }
noncomputable def ob_157_c4 (P : Params) : Obj := { cls := Value.type "function", data := Data.func { name := qs "name_end", qualname := qs "name_end", params := fPar 20, body := FuncBody.stmts (fBod 20), scope := fSco 20, globals := 3, closure := [], defaults := Value.none, kwdefaults := Value.none, pyModule := Value.str (qs "f77.classify") 332, code := Value.ref 156 } }
noncomputable def ob_158_c4 (P : Params) : Obj := { cls := Value.type "tuple", data := Data.seq #[] }
noncomputable def ob_159_c4 (P : Params) : Obj := { cls := Value.none, data := Data.fields #[] }
noncomputable def ob_160_c4 (P : Params) : Obj := { cls := Value.type "tuple", data := Data.seq #[Value.str (qs "row") 429, Value.str (qs "at") 430, Value.str (qs "end") 431] }
noncomputable def ob_161_c4 (P : Params) : Obj := { cls := Value.type "tuple", data := Data.seq #[] }
noncomputable def ob_162_c4 (P : Params) : Obj := { cls := Value.none, data := Data.func { name := qs "digits_end", qualname := qs "digits_end", params := fPar 21, body := FuncBody.stmts (fBod 21), scope := fSco 21, globals := 0, closure := [], defaults := Value.none, kwdefaults := Value.none } }
noncomputable def ob_163_c4 (P : Params) : Obj := { cls := Value.type "code", data := Data.fields #[Value.str (qs "digits_end") 426, Value.str (qs "digits_end") 427, Value.str (qs "/claim/cut.py") 428, Value.int 116 0, Value.int 2 0, Value.int 0 0, Value.int 0 0, Value.int 3 0, Value.ref 158, Value.bool true, Value.int 181 0, Value.ref 159, Value.none, Value.ref 160, Value.ref 161, Value.ref 162, Value.int 432 0, Value.int 116 0, Value.str (qs "/claim/cut.py") 433] }
noncomputable def ob_164_c4 (P : Params) : Obj := { cls := Value.type "function", data := Data.func { name := qs "digits_end", qualname := qs "digits_end", params := fPar 21, body := FuncBody.stmts (fBod 21), scope := fSco 21, globals := 3, closure := [], defaults := Value.none, kwdefaults := Value.none, pyModule := Value.str (qs "f77.classify") 332, code := Value.ref 163 } }
noncomputable def ob_165_c4 (P : Params) : Obj := { cls := Value.type "tuple", data := Data.seq #[] }
noncomputable def ob_166_c4 (P : Params) : Obj := { cls := Value.none, data := Data.fields #[] }
noncomputable def ob_167_c4 (P : Params) : Obj := { cls := Value.type "tuple", data := Data.seq #[Value.str (qs "text") 438, Value.str (qs "at") 439, Value.str (qs "turn") 440] }
noncomputable def ob_168_c4 (P : Params) : Obj := { cls := Value.type "tuple", data := Data.seq #[] }
noncomputable def ob_169_c4 (P : Params) : Obj := { cls := Value.none, data := Data.func { name := qs "is_target", qualname := qs "is_target", params := fPar 22, body := FuncBody.stmts (fBod 22), scope := fSco 22, globals := 0, closure := [], defaults := Value.none, kwdefaults := Value.none } }
noncomputable def ob_170_c4 (P : Params) : Obj := { cls := Value.type "code", data := Data.fields #[Value.str (qs "is_target") 435, Value.str (qs "is_target") 436, Value.str (qs "/claim/cut.py") 437, Value.int 121 0, Value.int 1 0, Value.int 0 0, Value.int 0 0, Value.int 3 0, Value.ref 165, Value.bool true, Value.int 181 0, Value.ref 166, Value.none, Value.ref 167, Value.ref 168, Value.ref 169, Value.int 441 0, Value.int 121 0, Value.str (qs "/claim/cut.py") 442] }
noncomputable def ob_171_c4 (P : Params) : Obj := { cls := Value.type "function", data := Data.func { name := qs "is_target", qualname := qs "is_target", params := fPar 22, body := FuncBody.stmts (fBod 22), scope := fSco 22, globals := 3, closure := [], defaults := Value.none, kwdefaults := Value.none, pyModule := Value.str (qs "f77.classify") 332, code := Value.ref 170 } }
noncomputable def ob_172_c4 (P : Params) : Obj := { cls := Value.type "tuple", data := Data.seq #[] }
noncomputable def ob_173_c4 (P : Params) : Obj := { cls := Value.none, data := Data.fields #[] }
noncomputable def ob_174_c4 (P : Params) : Obj := { cls := Value.type "tuple", data := Data.seq #[Value.str (qs "row") 447, Value.str (qs "levels") 448, Value.str (qs "depth") 449, Value.str (qs "place") 450] }
noncomputable def ob_175_c4 (P : Params) : Obj := { cls := Value.type "tuple", data := Data.seq #[] }
noncomputable def ob_176_c4 (P : Params) : Obj := { cls := Value.none, data := Data.func { name := qs "is_balanced", qualname := qs "is_balanced", params := fPar 23, body := FuncBody.stmts (fBod 23), scope := fSco 23, globals := 0, closure := [], defaults := Value.none, kwdefaults := Value.none } }
noncomputable def ob_177_c4 (P : Params) : Obj := { cls := Value.type "code", data := Data.fields #[Value.str (qs "is_balanced") 444, Value.str (qs "is_balanced") 445, Value.str (qs "/claim/cut.py") 446, Value.int 131 0, Value.int 2 0, Value.int 0 0, Value.int 0 0, Value.int 3 0, Value.ref 172, Value.bool true, Value.int 181 0, Value.ref 173, Value.none, Value.ref 174, Value.ref 175, Value.ref 176, Value.int 451 0, Value.int 131 0, Value.str (qs "/claim/cut.py") 452] }
noncomputable def ob_178_c4 (P : Params) : Obj := { cls := Value.type "function", data := Data.func { name := qs "is_balanced", qualname := qs "is_balanced", params := fPar 23, body := FuncBody.stmts (fBod 23), scope := fSco 23, globals := 3, closure := [], defaults := Value.none, kwdefaults := Value.none, pyModule := Value.str (qs "f77.classify") 332, code := Value.ref 177 } }
noncomputable def ob_179_c4 (P : Params) : Obj := { cls := Value.type "tuple", data := Data.seq #[] }
noncomputable def ob_180_c4 (P : Params) : Obj := { cls := Value.none, data := Data.fields #[] }
noncomputable def ob_181_c4 (P : Params) : Obj := { cls := Value.type "tuple", data := Data.seq #[Value.str (qs "row") 457, Value.str (qs "levels") 458, Value.str (qs "found") 459, Value.str (qs "place") 460] }
noncomputable def ob_182_c4 (P : Params) : Obj := { cls := Value.type "tuple", data := Data.seq #[] }
noncomputable def ob_183_c4 (P : Params) : Obj := { cls := Value.none, data := Data.func { name := qs "equals_at", qualname := qs "equals_at", params := fPar 24, body := FuncBody.stmts (fBod 24), scope := fSco 24, globals := 0, closure := [], defaults := Value.none, kwdefaults := Value.none } }
noncomputable def ob_184_c4 (P : Params) : Obj := { cls := Value.type "code", data := Data.fields #[Value.str (qs "equals_at") 454, Value.str (qs "equals_at") 455, Value.str (qs "/claim/cut.py") 456, Value.int 141 0, Value.int 2 0, Value.int 0 0, Value.int 0 0, Value.int 3 0, Value.ref 179, Value.bool true, Value.int 181 0, Value.ref 180, Value.none, Value.ref 181, Value.ref 182, Value.ref 183, Value.int 461 0, Value.int 141 0, Value.str (qs "/claim/cut.py") 462] }
noncomputable def ob_185_c4 (P : Params) : Obj := { cls := Value.type "function", data := Data.func { name := qs "equals_at", qualname := qs "equals_at", params := fPar 24, body := FuncBody.stmts (fBod 24), scope := fSco 24, globals := 3, closure := [], defaults := Value.none, kwdefaults := Value.none, pyModule := Value.str (qs "f77.classify") 332, code := Value.ref 184 } }
noncomputable def ob_186_c4 (P : Params) : Obj := { cls := Value.type "tuple", data := Data.seq #[] }
noncomputable def ob_187_c4 (P : Params) : Obj := { cls := Value.none, data := Data.fields #[] }
noncomputable def ob_188_c4 (P : Params) : Obj := { cls := Value.type "tuple", data := Data.seq #[Value.str (qs "head") 467, Value.str (qs "end") 468] }
noncomputable def ob_189_c4 (P : Params) : Obj := { cls := Value.type "tuple", data := Data.seq #[] }
noncomputable def ob_190_c4 (P : Params) : Obj := { cls := Value.none, data := Data.func { name := qs "is_do_head", qualname := qs "is_do_head", params := fPar 25, body := FuncBody.stmts (fBod 25), scope := fSco 25, globals := 0, closure := [], defaults := Value.none, kwdefaults := Value.none } }
noncomputable def ob_191_c4 (P : Params) : Obj := { cls := Value.type "code", data := Data.fields #[Value.str (qs "is_do_head") 464, Value.str (qs "is_do_head") 465, Value.str (qs "/claim/cut.py") 466, Value.int 149 0, Value.int 1 0, Value.int 0 0, Value.int 0 0, Value.int 3 0, Value.ref 186, Value.bool true, Value.int 181 0, Value.ref 187, Value.none, Value.ref 188, Value.ref 189, Value.ref 190, Value.int 469 0, Value.int 149 0, Value.str (qs "/claim/cut.py") 470] }
noncomputable def ob_192_c4 (P : Params) : Obj := { cls := Value.type "function", data := Data.func { name := qs "is_do_head", qualname := qs "is_do_head", params := fPar 25, body := FuncBody.stmts (fBod 25), scope := fSco 25, globals := 3, closure := [], defaults := Value.none, kwdefaults := Value.none, pyModule := Value.str (qs "f77.classify") 332, code := Value.ref 191 } }
noncomputable def ob_193_c4 (P : Params) : Obj := { cls := Value.type "tuple", data := Data.seq #[] }
noncomputable def ob_194_c4 (P : Params) : Obj := { cls := Value.none, data := Data.fields #[] }
noncomputable def ob_195_c4 (P : Params) : Obj := { cls := Value.type "tuple", data := Data.seq #[Value.str (qs "row") 475, Value.str (qs "rest") 476] }
noncomputable def ob_196_c4 (P : Params) : Obj := { cls := Value.type "tuple", data := Data.seq #[] }
noncomputable def ob_197_c4 (P : Params) : Obj := { cls := Value.none, data := Data.func { name := qs "word_of_if", qualname := qs "word_of_if", params := fPar 26, body := FuncBody.stmts (fBod 26), scope := fSco 26, globals := 0, closure := [], defaults := Value.none, kwdefaults := Value.none } }
noncomputable def ob_198_c4 (P : Params) : Obj := { cls := Value.type "code", data := Data.fields #[Value.str (qs "word_of_if") 472, Value.str (qs "word_of_if") 473, Value.str (qs "/claim/cut.py") 474, Value.int 156 0, Value.int 1 0, Value.int 0 0, Value.int 0 0, Value.int 3 0, Value.ref 193, Value.bool true, Value.int 181 0, Value.ref 194, Value.none, Value.ref 195, Value.ref 196, Value.ref 197, Value.int 477 0, Value.int 156 0, Value.str (qs "/claim/cut.py") 478] }
noncomputable def ob_199_c4 (P : Params) : Obj := { cls := Value.type "function", data := Data.func { name := qs "word_of_if", qualname := qs "word_of_if", params := fPar 26, body := FuncBody.stmts (fBod 26), scope := fSco 26, globals := 3, closure := [], defaults := Value.none, kwdefaults := Value.none, pyModule := Value.str (qs "f77.classify") 332, code := Value.ref 198 } }
noncomputable def ob_200_c4 (P : Params) : Obj := { cls := Value.type "tuple", data := Data.seq #[] }
noncomputable def ob_201_c4 (P : Params) : Obj := { cls := Value.none, data := Data.fields #[] }
noncomputable def ob_202_c4 (P : Params) : Obj := { cls := Value.type "tuple", data := Data.seq #[Value.str (qs "row") 483] }
noncomputable def ob_203_c4 (P : Params) : Obj := { cls := Value.type "tuple", data := Data.seq #[] }
noncomputable def ob_204_c4 (P : Params) : Obj := { cls := Value.none, data := Data.func { name := qs "word_of_goto", qualname := qs "word_of_goto", params := fPar 27, body := FuncBody.stmts (fBod 27), scope := fSco 27, globals := 0, closure := [], defaults := Value.none, kwdefaults := Value.none } }
noncomputable def ob_205_c4 (P : Params) : Obj := { cls := Value.type "code", data := Data.fields #[Value.str (qs "word_of_goto") 480, Value.str (qs "word_of_goto") 481, Value.str (qs "/claim/cut.py") 482, Value.int 165 0, Value.int 1 0, Value.int 0 0, Value.int 0 0, Value.int 3 0, Value.ref 200, Value.bool true, Value.int 181 0, Value.ref 201, Value.none, Value.ref 202, Value.ref 203, Value.ref 204, Value.int 484 0, Value.int 165 0, Value.str (qs "/claim/cut.py") 485] }
noncomputable def ob_206_c4 (P : Params) : Obj := { cls := Value.type "function", data := Data.func { name := qs "word_of_goto", qualname := qs "word_of_goto", params := fPar 27, body := FuncBody.stmts (fBod 27), scope := fSco 27, globals := 3, closure := [], defaults := Value.none, kwdefaults := Value.none, pyModule := Value.str (qs "f77.classify") 332, code := Value.ref 205 } }
noncomputable def ob_207_c4 (P : Params) : Obj := { cls := Value.type "tuple", data := Data.seq #[] }
noncomputable def ob_208_c4 (P : Params) : Obj := { cls := Value.none, data := Data.fields #[] }
noncomputable def ob_209_c4 (P : Params) : Obj := { cls := Value.type "tuple", data := Data.seq #[Value.str (qs "row") 490, Value.str (qs "text") 491, Value.str (qs "word") 492, Value.str (qs "at") 493, Value.str (qs "end") 494] }
noncomputable def ob_210_c4 (P : Params) : Obj := { cls := Value.type "tuple", data := Data.seq #[] }
noncomputable def ob_211_c4 (P : Params) : Obj := { cls := Value.none, data := Data.func { name := qs "word_of_type", qualname := qs "word_of_type", params := fPar 28, body := FuncBody.stmts (fBod 28), scope := fSco 28, globals := 0, closure := [], defaults := Value.none, kwdefaults := Value.none } }
noncomputable def ob_212_c4 (P : Params) : Obj := { cls := Value.type "code", data := Data.fields #[Value.str (qs "word_of_type") 487, Value.str (qs "word_of_type") 488, Value.str (qs "/claim/cut.py") 489, Value.int 173 0, Value.int 1 0, Value.int 0 0, Value.int 0 0, Value.int 3 0, Value.ref 207, Value.bool true, Value.int 181 0, Value.ref 208, Value.none, Value.ref 209, Value.ref 210, Value.ref 211, Value.int 495 0, Value.int 173 0, Value.str (qs "/claim/cut.py") 496] }
noncomputable def ob_213_c4 (P : Params) : Obj := { cls := Value.type "function", data := Data.func { name := qs "word_of_type", qualname := qs "word_of_type", params := fPar 28, body := FuncBody.stmts (fBod 28), scope := fSco 28, globals := 3, closure := [], defaults := Value.none, kwdefaults := Value.none, pyModule := Value.str (qs "f77.classify") 332, code := Value.ref 212 } }
noncomputable def ob_214_c4 (P : Params) : Obj := { cls := Value.type "tuple", data := Data.seq #[] }
noncomputable def ob_215_c4 (P : Params) : Obj := { cls := Value.none, data := Data.fields #[] }
noncomputable def ob_216_c4 (P : Params) : Obj := { cls := Value.type "tuple", data := Data.seq #[Value.str (qs "row") 501, Value.str (qs "text") 502, Value.str (qs "word") 503] }
noncomputable def ob_217_c4 (P : Params) : Obj := { cls := Value.type "tuple", data := Data.seq #[] }
noncomputable def ob_218_c4 (P : Params) : Obj := { cls := Value.none, data := Data.func { name := qs "word_by_begin", qualname := qs "word_by_begin", params := fPar 29, body := FuncBody.stmts (fBod 29), scope := fSco 29, globals := 0, closure := [], defaults := Value.none, kwdefaults := Value.none } }
noncomputable def ob_219_c4 (P : Params) : Obj := { cls := Value.type "code", data := Data.fields #[Value.str (qs "word_by_begin") 498, Value.str (qs "word_by_begin") 499, Value.str (qs "/claim/cut.py") 500, Value.int 187 0, Value.int 1 0, Value.int 0 0, Value.int 0 0, Value.int 3 0, Value.ref 214, Value.bool true, Value.int 181 0, Value.ref 215, Value.none, Value.ref 216, Value.ref 217, Value.ref 218, Value.int 504 0, Value.int 187 0, Value.str (qs "/claim/cut.py") 505] }
noncomputable def ob_220_c4 (P : Params) : Obj := { cls := Value.type "function", data := Data.func { name := qs "word_by_begin", qualname := qs "word_by_begin", params := fPar 29, body := FuncBody.stmts (fBod 29), scope := fSco 29, globals := 3, closure := [], defaults := Value.none, kwdefaults := Value.none, pyModule := Value.str (qs "f77.classify") 332, code := Value.ref 219 } }
noncomputable def ob_221_c4 (P : Params) : Obj := { cls := Value.type "tuple", data := Data.seq #[] }
noncomputable def ob_222_c4 (P : Params) : Obj := { cls := Value.none, data := Data.fields #[] }
noncomputable def ob_223_c4 (P : Params) : Obj := { cls := Value.type "tuple", data := Data.seq #[Value.str (qs "row") 510, Value.str (qs "levels") 511, Value.str (qs "at") 512, Value.str (qs "has_comma") 513] }
noncomputable def ob_224_c4 (P : Params) : Obj := { cls := Value.type "tuple", data := Data.seq #[] }
noncomputable def ob_225_c4 (P : Params) : Obj := { cls := Value.none, data := Data.func { name := qs "classify", qualname := qs "classify", params := fPar 30, body := FuncBody.stmts (fBod 30), scope := fSco 30, globals := 0, closure := [], defaults := Value.none, kwdefaults := Value.none } }
noncomputable def ob_226_c4 (P : Params) : Obj := { cls := Value.type "code", data := Data.fields #[Value.str (qs "classify") 507, Value.str (qs "classify") 508, Value.str (qs "/claim/cut.py") 509, Value.int 203 0, Value.int 1 0, Value.int 0 0, Value.int 0 0, Value.int 3 0, Value.ref 221, Value.bool true, Value.int 181 0, Value.ref 222, Value.none, Value.ref 223, Value.ref 224, Value.ref 225, Value.int 514 0, Value.int 203 0, Value.str (qs "/claim/cut.py") 515] }
noncomputable def ob_227_c4 (P : Params) : Obj := { cls := Value.type "function", data := Data.func { name := qs "classify", qualname := qs "classify", params := fPar 30, body := FuncBody.stmts (fBod 30), scope := fSco 30, globals := 3, closure := [], defaults := Value.none, kwdefaults := Value.none, pyModule := Value.str (qs "f77.classify") 332, code := Value.ref 226 } }
noncomputable def ob_3_c5 (P : Params) : Obj := { cls := Value.type "dict", data := Data.dict #[{ hash := PyData.keyHash P (qs "__name__"), key := Value.str (qs "__name__") 165, val := Value.str (qs "law_no0246_01") 517 }, { hash := PyData.keyHash P (qs "__doc__"), key := Value.str (qs "__doc__") 166, val := Value.none }, { hash := PyData.keyHash P (qs "__package__"), key := Value.str (qs "__package__") 167, val := Value.none }, { hash := PyData.keyHash P (qs "__loader__"), key := Value.str (qs "__loader__") 168, val := Value.builtin "__main__.__loader__#opaque" }, { hash := PyData.keyHash P (qs "__spec__"), key := Value.str (qs "__spec__") 169, val := Value.none }, { hash := PyData.keyHash P (qs "__annotations__"), key := Value.str (qs "__annotations__") 170, val := Value.ref 6 }, { hash := PyData.keyHash P (qs "__builtins__"), key := Value.str (qs "__builtins__") 171, val := Value.ref 4 }, { hash := PyData.keyHash P (qs "__file__"), key := Value.str (qs "__file__") 173, val := Value.str (qs "/claim/cut.py") 172 }, { hash := PyData.keyHash P (qs "__cached__"), key := Value.str (qs "__cached__") 174, val := Value.none }, { hash := PyData.keyHash P (qs "F77Error"), key := Value.str (qs "F77Error") 217, val := Value.ref 31 }, { hash := PyData.keyHash P (qs "LexFault"), key := Value.str (qs "LexFault") 243, val := Value.ref 51 }, { hash := PyData.keyHash P (qs "DIGITS_squeeze"), key := Value.str (qs "DIGITS_squeeze") 247, val := Value.str (qs "0123456789") 246 }, { hash := PyData.keyHash P (qs "AHEAD_OF_COUNT"), key := Value.str (qs "AHEAD_OF_COUNT") 249, val := Value.str (qs "(,/:") 248 }, { hash := PyData.keyHash P (qs "capital"), key := Value.str (qs "capital") 256, val := Value.ref 60 }, { hash := PyData.keyHash P (qs "constant_end"), key := Value.str (qs "constant_end") 265, val := Value.ref 67 }, { hash := PyData.keyHash P (qs "count_end"), key := Value.str (qs "count_end") 275, val := Value.ref 74 }, { hash := PyData.keyHash P (qs "hollerith"), key := Value.str (qs "hollerith") 286, val := Value.ref 81 }, { hash := PyData.keyHash P (qs "squeeze"), key := Value.str (qs "squeeze") 300, val := Value.ref 88 }, { hash := PyData.keyHash P (qs "squeezed"), key := Value.str (qs "squeezed") 310, val := Value.ref 95 }, { hash := PyData.keyHash P (qs "depths"), key := Value.str (qs "depths") 321, val := Value.ref 102 }, { hash := PyData.keyHash P (qs "closing"), key := Value.str (qs "closing") 331, val := Value.ref 109 }, { hash := PyData.keyHash P (qs "DIGITS_classify"), key := Value.str (qs "DIGITS_classify") 335, val := Value.str (qs "0123456789") 334 }, { hash := PyData.keyHash P (qs "LETTERS"), key := Value.str (qs "LETTERS") 337, val := Value.str (qs "ABCDEFGHIJKLMNOPQRSTUVWXYZ") 336 }, { hash := PyData.keyHash P (qs "WHOLE"), key := Value.str (qs "WHOLE") 346, val := Value.ref 114 }, { hash := PyData.keyHash P (qs "TYPES"), key := Value.str (qs "TYPES") 359, val := Value.ref 121 }, { hash := PyData.keyHash P (qs "BEGINS"), key := Value.str (qs "BEGINS") 416, val := Value.ref 150 }, { hash := PyData.keyHash P (qs "name_end"), key := Value.str (qs "name_end") 425, val := Value.ref 157 }, { hash := PyData.keyHash P (qs "digits_end"), key := Value.str (qs "digits_end") 434, val := Value.ref 164 }, { hash := PyData.keyHash P (qs "is_target"), key := Value.str (qs "is_target") 443, val := Value.ref 171 }, { hash := PyData.keyHash P (qs "is_balanced"), key := Value.str (qs "is_balanced") 453, val := Value.ref 178 }, { hash := PyData.keyHash P (qs "equals_at"), key := Value.str (qs "equals_at") 463, val := Value.ref 185 }, { hash := PyData.keyHash P (qs "is_do_head"), key := Value.str (qs "is_do_head") 471, val := Value.ref 192 }, { hash := PyData.keyHash P (qs "word_of_if"), key := Value.str (qs "word_of_if") 479, val := Value.ref 199 }, { hash := PyData.keyHash P (qs "word_of_goto"), key := Value.str (qs "word_of_goto") 486, val := Value.ref 206 }, { hash := PyData.keyHash P (qs "word_of_type"), key := Value.str (qs "word_of_type") 497, val := Value.ref 213 }, { hash := PyData.keyHash P (qs "word_by_begin"), key := Value.str (qs "word_by_begin") 506, val := Value.ref 220 }, { hash := PyData.keyHash P (qs "classify"), key := Value.str (qs "classify") 516, val := Value.ref 227 }, { hash := PyData.keyHash P (qs "_law_pieces"), key := Value.str (qs "_law_pieces") 551, val := Value.ref 228 }, { hash := PyData.keyHash P (qs "_law_whole"), key := Value.str (qs "_law_whole") 557, val := Value.ref 235 }, { hash := PyData.keyHash P (qs "_law_begins"), key := Value.str (qs "_law_begins") 563, val := Value.ref 242 }, { hash := PyData.keyHash P (qs "_law_letters"), key := Value.str (qs "_law_letters") 565, val := Value.str (qs "ABCDEFGHIJKLMNOPQRSTUVWXYZ") 564 }, { hash := PyData.keyHash P (qs "_law_digits"), key := Value.str (qs "_law_digits") 567, val := Value.str (qs "0123456789") 566 }, { hash := PyData.keyHash P (qs "_law_lone"), key := Value.str (qs "_law_lone") 573, val := Value.ref 249 }, { hash := PyData.keyHash P (qs "_law_outline"), key := Value.str (qs "_law_outline") 584, val := Value.ref 256 }] 44 }
noncomputable def ob_12_c5 (P : Params) : Obj := { cls := Value.none, data := Data.fields #[Value.int 2 0, Value.int 0 0, Value.ref 20, Value.int 7 0, Value.int 0 0, Value.ref 40, Value.int 15 0, Value.int 0 0, Value.ref 59, Value.int 19 0, Value.int 0 0, Value.ref 66, Value.int 28 0, Value.int 0 0, Value.ref 73, Value.int 38 0, Value.int 0 0, Value.ref 80, Value.int 46 0, Value.int 0 0, Value.ref 87, Value.int 71 0, Value.int 0 0, Value.ref 94, Value.int 76 0, Value.int 0 0, Value.ref 101, Value.int 97 0, Value.int 0 0, Value.ref 108, Value.int 109 0, Value.int 0 0, Value.ref 156, Value.int 116 0, Value.int 0 0, Value.ref 163, Value.int 121 0, Value.int 0 0, Value.ref 170, Value.int 131 0, Value.int 0 0, Value.ref 177, Value.int 141 0, Value.int 0 0, Value.ref 184, Value.int 149 0, Value.int 0 0, Value.ref 191, Value.int 156 0, Value.int 0 0, Value.ref 198, Value.int 165 0, Value.int 0 0, Value.ref 205, Value.int 173 0, Value.int 0 0, Value.ref 212, Value.int 187 0, Value.int 0 0, Value.ref 219, Value.int 203 0, Value.int 0 0, Value.ref 226, Value.int 219 0, Value.int 0 0, Value.ref 234, Value.int 221 0, Value.int 0 0, Value.ref 241, Value.int 225 0, Value.int 0 0, Value.ref 248, Value.int 227 0, Value.int 0 0, Value.ref 255] }
noncomputable def ob_228_c5 (P : Params) : Obj := { cls := Value.type "list", data := Data.seq #[Value.str (qs "DO") 519, Value.str (qs "10") 520, Value.str (qs "I") 521, Value.str (qs "=") 522, Value.str (qs "1") 523, Value.str (qs ",") 524, Value.str (qs "(") 525, Value.str (qs ")") 526, Value.str (qs "'A,=('") 527, Value.str (qs "IF") 528, Value.str (qs "GOTO") 529, Value.str (qs "FORMAT") 530, Value.str (qs "READ") 531, Value.str (qs "REAL") 532, Value.str (qs "FUNCTION") 533, Value.str (qs "THEN") 534, Value.str (qs "END") 535, Value.str (qs "ELSE") 536, Value.str (qs "FILE") 537, Value.str (qs "*") 538, Value.str (qs "X") 539, Value.str (qs "ASSIGN") 540, Value.str (qs "TO") 541, Value.str (qs "CHARACTER") 542, Value.str (qs "*(*)") 543, Value.str (qs ".") 544, Value.str (qs "BLOCKDATA") 545, Value.str (qs "(I,J)") 546, Value.str (qs "ENDIF") 547, Value.str (qs "DATA") 548, Value.str (qs "WRITE") 549, Value.str (qs "DOUBLEPRECISION") 550] }
noncomputable def ob_229_c5 (P : Params) : Obj := { cls := Value.type "tuple", data := Data.seq #[] }
noncomputable def ob_230_c5 (P : Params) : Obj := { cls := Value.none, data := Data.fields #[] }
noncomputable def ob_231_c5 (P : Params) : Obj := { cls := Value.type "tuple", data := Data.seq #[] }
noncomputable def ob_232_c5 (P : Params) : Obj := { cls := Value.type "tuple", data := Data.seq #[] }
noncomputable def ob_233_c5 (P : Params) : Obj := { cls := Value.none, data := Data.func { name := qs "_law_whole", qualname := qs "_law_whole", params := fPar 37, body := FuncBody.stmts (fBod 33), scope := fSco 37, globals := 0, closure := [], defaults := Value.none, kwdefaults := Value.none } }
noncomputable def ob_234_c5 (P : Params) : Obj := { cls := Value.type "code", data := Data.fields #[Value.str (qs "_law_whole") 552, Value.str (qs "_law_whole") 553, Value.str (qs "/claim/cut.py") 554, Value.int 219 0, Value.int 0 0, Value.int 0 0, Value.int 0 0, Value.int 3 0, Value.ref 229, Value.bool true, Value.int 181 0, Value.ref 230, Value.none, Value.ref 231, Value.ref 232, Value.ref 233, Value.int 555 0, Value.int 219 0, Value.str (qs "/claim/cut.py") 556] }
noncomputable def ob_235_c5 (P : Params) : Obj := { cls := Value.type "function", data := Data.func { name := qs "_law_whole", qualname := qs "_law_whole", params := fPar 37, body := FuncBody.stmts (fBod 33), scope := fSco 37, globals := 3, closure := [], defaults := Value.none, kwdefaults := Value.none, pyModule := Value.str (qs "law_no0246_01") 517, code := Value.ref 234 } }
noncomputable def ob_236_c5 (P : Params) : Obj := { cls := Value.type "tuple", data := Data.seq #[] }
noncomputable def ob_237_c5 (P : Params) : Obj := { cls := Value.none, data := Data.fields #[] }
noncomputable def ob_238_c5 (P : Params) : Obj := { cls := Value.type "tuple", data := Data.seq #[] }
noncomputable def ob_239_c5 (P : Params) : Obj := { cls := Value.type "tuple", data := Data.seq #[] }
noncomputable def ob_240_c5 (P : Params) : Obj := { cls := Value.none, data := Data.func { name := qs "_law_begins", qualname := qs "_law_begins", params := fPar 37, body := FuncBody.stmts (fBod 34), scope := fSco 37, globals := 0, closure := [], defaults := Value.none, kwdefaults := Value.none } }
noncomputable def ob_241_c5 (P : Params) : Obj := { cls := Value.type "code", data := Data.fields #[Value.str (qs "_law_begins") 558, Value.str (qs "_law_begins") 559, Value.str (qs "/claim/cut.py") 560, Value.int 221 0, Value.int 0 0, Value.int 0 0, Value.int 0 0, Value.int 3 0, Value.ref 236, Value.bool true, Value.int 181 0, Value.ref 237, Value.none, Value.ref 238, Value.ref 239, Value.ref 240, Value.int 561 0, Value.int 221 0, Value.str (qs "/claim/cut.py") 562] }
noncomputable def ob_242_c5 (P : Params) : Obj := { cls := Value.type "function", data := Data.func { name := qs "_law_begins", qualname := qs "_law_begins", params := fPar 37, body := FuncBody.stmts (fBod 34), scope := fSco 37, globals := 3, closure := [], defaults := Value.none, kwdefaults := Value.none, pyModule := Value.str (qs "law_no0246_01") 517, code := Value.ref 241 } }
noncomputable def ob_243_c5 (P : Params) : Obj := { cls := Value.type "tuple", data := Data.seq #[] }
noncomputable def ob_244_c5 (P : Params) : Obj := { cls := Value.none, data := Data.fields #[] }
noncomputable def ob_245_c5 (P : Params) : Obj := { cls := Value.type "tuple", data := Data.seq #[] }
noncomputable def ob_246_c5 (P : Params) : Obj := { cls := Value.type "tuple", data := Data.seq #[] }
noncomputable def ob_247_c5 (P : Params) : Obj := { cls := Value.none, data := Data.func { name := qs "_law_lone", qualname := qs "_law_lone", params := fPar 37, body := FuncBody.stmts (fBod 37), scope := fSco 37, globals := 0, closure := [], defaults := Value.none, kwdefaults := Value.none } }
noncomputable def ob_248_c5 (P : Params) : Obj := { cls := Value.type "code", data := Data.fields #[Value.str (qs "_law_lone") 568, Value.str (qs "_law_lone") 569, Value.str (qs "/claim/cut.py") 570, Value.int 225 0, Value.int 0 0, Value.int 0 0, Value.int 0 0, Value.int 3 0, Value.ref 243, Value.bool true, Value.int 181 0, Value.ref 244, Value.none, Value.ref 245, Value.ref 246, Value.ref 247, Value.int 571 0, Value.int 225 0, Value.str (qs "/claim/cut.py") 572] }
noncomputable def ob_249_c5 (P : Params) : Obj := { cls := Value.type "function", data := Data.func { name := qs "_law_lone", qualname := qs "_law_lone", params := fPar 37, body := FuncBody.stmts (fBod 37), scope := fSco 37, globals := 3, closure := [], defaults := Value.none, kwdefaults := Value.none, pyModule := Value.str (qs "law_no0246_01") 517, code := Value.ref 248 } }
noncomputable def ob_250_c5 (P : Params) : Obj := { cls := Value.type "tuple", data := Data.seq #[] }
noncomputable def ob_251_c5 (P : Params) : Obj := { cls := Value.none, data := Data.fields #[] }
noncomputable def ob_252_c5 (P : Params) : Obj := { cls := Value.type "tuple", data := Data.seq #[Value.str (qs "row") 577, Value.str (qs "out") 578, Value.str (qs "deep") 579, Value.str (qs "quoted") 580, Value.str (qs "sign") 581] }
noncomputable def ob_253_c5 (P : Params) : Obj := { cls := Value.type "tuple", data := Data.seq #[] }
noncomputable def ob_254_c5 (P : Params) : Obj := { cls := Value.none, data := Data.func { name := qs "_law_outline", qualname := qs "_law_outline", params := fPar 38, body := FuncBody.stmts (fBod 38), scope := fSco 38, globals := 0, closure := [], defaults := Value.none, kwdefaults := Value.none } }
noncomputable def ob_255_c5 (P : Params) : Obj := { cls := Value.type "code", data := Data.fields #[Value.str (qs "_law_outline") 574, Value.str (qs "_law_outline") 575, Value.str (qs "/claim/cut.py") 576, Value.int 227 0, Value.int 1 0, Value.int 0 0, Value.int 0 0, Value.int 3 0, Value.ref 250, Value.bool true, Value.int 181 0, Value.ref 251, Value.none, Value.ref 252, Value.ref 253, Value.ref 254, Value.int 582 0, Value.int 227 0, Value.str (qs "/claim/cut.py") 583] }
noncomputable def ob_256_c5 (P : Params) : Obj := { cls := Value.type "function", data := Data.func { name := qs "_law_outline", qualname := qs "_law_outline", params := fPar 38, body := FuncBody.stmts (fBod 38), scope := fSco 38, globals := 3, closure := [], defaults := Value.none, kwdefaults := Value.none, pyModule := Value.str (qs "law_no0246_01") 517, code := Value.ref 255 } }
noncomputable def ob_3_c6 (P : Params) : Obj := { cls := Value.type "dict", data := Data.dict #[{ hash := PyData.keyHash P (qs "__name__"), key := Value.str (qs "__name__") 165, val := Value.str (qs "law_no0246_01") 517 }, { hash := PyData.keyHash P (qs "__doc__"), key := Value.str (qs "__doc__") 166, val := Value.none }, { hash := PyData.keyHash P (qs "__package__"), key := Value.str (qs "__package__") 167, val := Value.none }, { hash := PyData.keyHash P (qs "__loader__"), key := Value.str (qs "__loader__") 168, val := Value.builtin "__main__.__loader__#opaque" }, { hash := PyData.keyHash P (qs "__spec__"), key := Value.str (qs "__spec__") 169, val := Value.none }, { hash := PyData.keyHash P (qs "__annotations__"), key := Value.str (qs "__annotations__") 170, val := Value.ref 6 }, { hash := PyData.keyHash P (qs "__builtins__"), key := Value.str (qs "__builtins__") 171, val := Value.ref 4 }, { hash := PyData.keyHash P (qs "__file__"), key := Value.str (qs "__file__") 173, val := Value.str (qs "/claim/cut.py") 172 }, { hash := PyData.keyHash P (qs "__cached__"), key := Value.str (qs "__cached__") 174, val := Value.none }, { hash := PyData.keyHash P (qs "F77Error"), key := Value.str (qs "F77Error") 217, val := Value.ref 31 }, { hash := PyData.keyHash P (qs "LexFault"), key := Value.str (qs "LexFault") 243, val := Value.ref 51 }, { hash := PyData.keyHash P (qs "DIGITS_squeeze"), key := Value.str (qs "DIGITS_squeeze") 247, val := Value.str (qs "0123456789") 246 }, { hash := PyData.keyHash P (qs "AHEAD_OF_COUNT"), key := Value.str (qs "AHEAD_OF_COUNT") 249, val := Value.str (qs "(,/:") 248 }, { hash := PyData.keyHash P (qs "capital"), key := Value.str (qs "capital") 256, val := Value.ref 60 }, { hash := PyData.keyHash P (qs "constant_end"), key := Value.str (qs "constant_end") 265, val := Value.ref 67 }, { hash := PyData.keyHash P (qs "count_end"), key := Value.str (qs "count_end") 275, val := Value.ref 74 }, { hash := PyData.keyHash P (qs "hollerith"), key := Value.str (qs "hollerith") 286, val := Value.ref 81 }, { hash := PyData.keyHash P (qs "squeeze"), key := Value.str (qs "squeeze") 300, val := Value.ref 88 }, { hash := PyData.keyHash P (qs "squeezed"), key := Value.str (qs "squeezed") 310, val := Value.ref 95 }, { hash := PyData.keyHash P (qs "depths"), key := Value.str (qs "depths") 321, val := Value.ref 102 }, { hash := PyData.keyHash P (qs "closing"), key := Value.str (qs "closing") 331, val := Value.ref 109 }, { hash := PyData.keyHash P (qs "DIGITS_classify"), key := Value.str (qs "DIGITS_classify") 335, val := Value.str (qs "0123456789") 334 }, { hash := PyData.keyHash P (qs "LETTERS"), key := Value.str (qs "LETTERS") 337, val := Value.str (qs "ABCDEFGHIJKLMNOPQRSTUVWXYZ") 336 }, { hash := PyData.keyHash P (qs "WHOLE"), key := Value.str (qs "WHOLE") 346, val := Value.ref 114 }, { hash := PyData.keyHash P (qs "TYPES"), key := Value.str (qs "TYPES") 359, val := Value.ref 121 }, { hash := PyData.keyHash P (qs "BEGINS"), key := Value.str (qs "BEGINS") 416, val := Value.ref 150 }, { hash := PyData.keyHash P (qs "name_end"), key := Value.str (qs "name_end") 425, val := Value.ref 157 }, { hash := PyData.keyHash P (qs "digits_end"), key := Value.str (qs "digits_end") 434, val := Value.ref 164 }, { hash := PyData.keyHash P (qs "is_target"), key := Value.str (qs "is_target") 443, val := Value.ref 171 }, { hash := PyData.keyHash P (qs "is_balanced"), key := Value.str (qs "is_balanced") 453, val := Value.ref 178 }, { hash := PyData.keyHash P (qs "equals_at"), key := Value.str (qs "equals_at") 463, val := Value.ref 185 }, { hash := PyData.keyHash P (qs "is_do_head"), key := Value.str (qs "is_do_head") 471, val := Value.ref 192 }, { hash := PyData.keyHash P (qs "word_of_if"), key := Value.str (qs "word_of_if") 479, val := Value.ref 199 }, { hash := PyData.keyHash P (qs "word_of_goto"), key := Value.str (qs "word_of_goto") 486, val := Value.ref 206 }, { hash := PyData.keyHash P (qs "word_of_type"), key := Value.str (qs "word_of_type") 497, val := Value.ref 213 }, { hash := PyData.keyHash P (qs "word_by_begin"), key := Value.str (qs "word_by_begin") 506, val := Value.ref 220 }, { hash := PyData.keyHash P (qs "classify"), key := Value.str (qs "classify") 516, val := Value.ref 227 }, { hash := PyData.keyHash P (qs "_law_pieces"), key := Value.str (qs "_law_pieces") 551, val := Value.ref 228 }, { hash := PyData.keyHash P (qs "_law_whole"), key := Value.str (qs "_law_whole") 557, val := Value.ref 235 }, { hash := PyData.keyHash P (qs "_law_begins"), key := Value.str (qs "_law_begins") 563, val := Value.ref 242 }, { hash := PyData.keyHash P (qs "_law_letters"), key := Value.str (qs "_law_letters") 565, val := Value.str (qs "ABCDEFGHIJKLMNOPQRSTUVWXYZ") 564 }, { hash := PyData.keyHash P (qs "_law_digits"), key := Value.str (qs "_law_digits") 567, val := Value.str (qs "0123456789") 566 }, { hash := PyData.keyHash P (qs "_law_lone"), key := Value.str (qs "_law_lone") 573, val := Value.ref 249 }, { hash := PyData.keyHash P (qs "_law_outline"), key := Value.str (qs "_law_outline") 584, val := Value.ref 256 }, { hash := PyData.keyHash P (qs "_law_first"), key := Value.str (qs "_law_first") 593, val := Value.ref 263 }, { hash := PyData.keyHash P (qs "_law_is_name"), key := Value.str (qs "_law_is_name") 600, val := Value.ref 270 }, { hash := PyData.keyHash P (qs "_law_is_target"), key := Value.str (qs "_law_is_target") 608, val := Value.ref 277 }, { hash := PyData.keyHash P (qs "_law_typed"), key := Value.str (qs "_law_typed") 619, val := Value.ref 284 }, { hash := PyData.keyHash P (qs "_law_word"), key := Value.str (qs "_law_word") 635, val := Value.ref 291 }, { hash := PyData.keyHash P (qs "_law_spread"), key := Value.str (qs "_law_spread") 646, val := Value.ref 298 }, { hash := PyData.keyHash P (qs "law"), key := Value.str (qs "law") 663, val := Value.ref 305 }] 51 }
noncomputable def ob_12_c6 (P : Params) : Obj := { cls := Value.none, data := Data.fields #[Value.int 2 0, Value.int 0 0, Value.ref 20, Value.int 7 0, Value.int 0 0, Value.ref 40, Value.int 15 0, Value.int 0 0, Value.ref 59, Value.int 19 0, Value.int 0 0, Value.ref 66, Value.int 28 0, Value.int 0 0, Value.ref 73, Value.int 38 0, Value.int 0 0, Value.ref 80, Value.int 46 0, Value.int 0 0, Value.ref 87, Value.int 71 0, Value.int 0 0, Value.ref 94, Value.int 76 0, Value.int 0 0, Value.ref 101, Value.int 97 0, Value.int 0 0, Value.ref 108, Value.int 109 0, Value.int 0 0, Value.ref 156, Value.int 116 0, Value.int 0 0, Value.ref 163, Value.int 121 0, Value.int 0 0, Value.ref 170, Value.int 131 0, Value.int 0 0, Value.ref 177, Value.int 141 0, Value.int 0 0, Value.ref 184, Value.int 149 0, Value.int 0 0, Value.ref 191, Value.int 156 0, Value.int 0 0, Value.ref 198, Value.int 165 0, Value.int 0 0, Value.ref 205, Value.int 173 0, Value.int 0 0, Value.ref 212, Value.int 187 0, Value.int 0 0, Value.ref 219, Value.int 203 0, Value.int 0 0, Value.ref 226, Value.int 219 0, Value.int 0 0, Value.ref 234, Value.int 221 0, Value.int 0 0, Value.ref 241, Value.int 225 0, Value.int 0 0, Value.ref 248, Value.int 227 0, Value.int 0 0, Value.ref 255, Value.int 245 0, Value.int 0 0, Value.ref 262, Value.int 250 0, Value.int 0 0, Value.ref 269, Value.int 252 0, Value.int 0 0, Value.ref 276, Value.int 257 0, Value.int 0 0, Value.ref 283, Value.int 269 0, Value.int 0 0, Value.ref 290, Value.int 309 0, Value.int 0 0, Value.ref 297, Value.int 324 0, Value.int 0 0, Value.ref 304] }
noncomputable def ob_257_c6 (P : Params) : Obj := { cls := Value.type "tuple", data := Data.seq #[] }
noncomputable def ob_258_c6 (P : Params) : Obj := { cls := Value.none, data := Data.fields #[] }
noncomputable def ob_259_c6 (P : Params) : Obj := { cls := Value.type "tuple", data := Data.seq #[Value.str (qs "text") 588, Value.str (qs "signs") 589, Value.str (qs "at") 590] }
noncomputable def ob_260_c6 (P : Params) : Obj := { cls := Value.type "tuple", data := Data.seq #[] }
noncomputable def ob_261_c6 (P : Params) : Obj := { cls := Value.none, data := Data.func { name := qs "_law_first", qualname := qs "_law_first", params := fPar 39, body := FuncBody.stmts (fBod 39), scope := fSco 39, globals := 0, closure := [], defaults := Value.none, kwdefaults := Value.none } }
noncomputable def ob_262_c6 (P : Params) : Obj := { cls := Value.type "code", data := Data.fields #[Value.str (qs "_law_first") 585, Value.str (qs "_law_first") 586, Value.str (qs "/claim/cut.py") 587, Value.int 245 0, Value.int 2 0, Value.int 0 0, Value.int 0 0, Value.int 3 0, Value.ref 257, Value.bool true, Value.int 181 0, Value.ref 258, Value.none, Value.ref 259, Value.ref 260, Value.ref 261, Value.int 591 0, Value.int 245 0, Value.str (qs "/claim/cut.py") 592] }
noncomputable def ob_263_c6 (P : Params) : Obj := { cls := Value.type "function", data := Data.func { name := qs "_law_first", qualname := qs "_law_first", params := fPar 39, body := FuncBody.stmts (fBod 39), scope := fSco 39, globals := 3, closure := [], defaults := Value.none, kwdefaults := Value.none, pyModule := Value.str (qs "law_no0246_01") 517, code := Value.ref 262 } }
noncomputable def ob_264_c6 (P : Params) : Obj := { cls := Value.type "tuple", data := Data.seq #[] }
noncomputable def ob_265_c6 (P : Params) : Obj := { cls := Value.none, data := Data.fields #[] }
noncomputable def ob_266_c6 (P : Params) : Obj := { cls := Value.type "tuple", data := Data.seq #[Value.str (qs "text") 597] }
noncomputable def ob_267_c6 (P : Params) : Obj := { cls := Value.type "tuple", data := Data.seq #[] }
noncomputable def ob_268_c6 (P : Params) : Obj := { cls := Value.none, data := Data.func { name := qs "_law_is_name", qualname := qs "_law_is_name", params := fPar 40, body := FuncBody.stmts (fBod 40), scope := fSco 40, globals := 0, closure := [], defaults := Value.none, kwdefaults := Value.none } }
noncomputable def ob_269_c6 (P : Params) : Obj := { cls := Value.type "code", data := Data.fields #[Value.str (qs "_law_is_name") 594, Value.str (qs "_law_is_name") 595, Value.str (qs "/claim/cut.py") 596, Value.int 250 0, Value.int 1 0, Value.int 0 0, Value.int 0 0, Value.int 3 0, Value.ref 264, Value.bool true, Value.int 181 0, Value.ref 265, Value.none, Value.ref 266, Value.ref 267, Value.ref 268, Value.int 598 0, Value.int 250 0, Value.str (qs "/claim/cut.py") 599] }
noncomputable def ob_270_c6 (P : Params) : Obj := { cls := Value.type "function", data := Data.func { name := qs "_law_is_name", qualname := qs "_law_is_name", params := fPar 40, body := FuncBody.stmts (fBod 40), scope := fSco 40, globals := 3, closure := [], defaults := Value.none, kwdefaults := Value.none, pyModule := Value.str (qs "law_no0246_01") 517, code := Value.ref 269 } }
noncomputable def ob_271_c6 (P : Params) : Obj := { cls := Value.type "tuple", data := Data.seq #[] }
noncomputable def ob_272_c6 (P : Params) : Obj := { cls := Value.none, data := Data.fields #[] }
noncomputable def ob_273_c6 (P : Params) : Obj := { cls := Value.type "tuple", data := Data.seq #[Value.str (qs "head") 604, Value.str (qs "turn") 605] }
noncomputable def ob_274_c6 (P : Params) : Obj := { cls := Value.type "tuple", data := Data.seq #[] }
noncomputable def ob_275_c6 (P : Params) : Obj := { cls := Value.none, data := Data.func { name := qs "_law_is_target", qualname := qs "_law_is_target", params := fPar 41, body := FuncBody.stmts (fBod 41), scope := fSco 41, globals := 0, closure := [], defaults := Value.none, kwdefaults := Value.none } }
noncomputable def ob_276_c6 (P : Params) : Obj := { cls := Value.type "code", data := Data.fields #[Value.str (qs "_law_is_target") 601, Value.str (qs "_law_is_target") 602, Value.str (qs "/claim/cut.py") 603, Value.int 252 0, Value.int 1 0, Value.int 0 0, Value.int 0 0, Value.int 3 0, Value.ref 271, Value.bool true, Value.int 181 0, Value.ref 272, Value.none, Value.ref 273, Value.ref 274, Value.ref 275, Value.int 606 0, Value.int 252 0, Value.str (qs "/claim/cut.py") 607] }
noncomputable def ob_277_c6 (P : Params) : Obj := { cls := Value.type "function", data := Data.func { name := qs "_law_is_target", qualname := qs "_law_is_target", params := fPar 41, body := FuncBody.stmts (fBod 41), scope := fSco 41, globals := 3, closure := [], defaults := Value.none, kwdefaults := Value.none, pyModule := Value.str (qs "law_no0246_01") 517, code := Value.ref 276 } }
noncomputable def ob_278_c6 (P : Params) : Obj := { cls := Value.type "tuple", data := Data.seq #[] }
noncomputable def ob_279_c6 (P : Params) : Obj := { cls := Value.none, data := Data.fields #[] }
noncomputable def ob_280_c6 (P : Params) : Obj := { cls := Value.type "tuple", data := Data.seq #[Value.str (qs "outline") 612, Value.str (qs "word") 613, Value.str (qs "rest") 614, Value.str (qs "run") 615, Value.str (qs "behind") 616] }
noncomputable def ob_281_c6 (P : Params) : Obj := { cls := Value.type "tuple", data := Data.seq #[] }
noncomputable def ob_282_c6 (P : Params) : Obj := { cls := Value.none, data := Data.func { name := qs "_law_typed", qualname := qs "_law_typed", params := fPar 42, body := FuncBody.stmts (fBod 42), scope := fSco 42, globals := 0, closure := [], defaults := Value.none, kwdefaults := Value.none } }
noncomputable def ob_283_c6 (P : Params) : Obj := { cls := Value.type "code", data := Data.fields #[Value.str (qs "_law_typed") 609, Value.str (qs "_law_typed") 610, Value.str (qs "/claim/cut.py") 611, Value.int 257 0, Value.int 1 0, Value.int 0 0, Value.int 0 0, Value.int 3 0, Value.ref 278, Value.bool true, Value.int 181 0, Value.ref 279, Value.none, Value.ref 280, Value.ref 281, Value.ref 282, Value.int 617 0, Value.int 257 0, Value.str (qs "/claim/cut.py") 618] }
noncomputable def ob_284_c6 (P : Params) : Obj := { cls := Value.type "function", data := Data.func { name := qs "_law_typed", qualname := qs "_law_typed", params := fPar 42, body := FuncBody.stmts (fBod 42), scope := fSco 42, globals := 3, closure := [], defaults := Value.none, kwdefaults := Value.none, pyModule := Value.str (qs "law_no0246_01") 517, code := Value.ref 283 } }
noncomputable def ob_285_c6 (P : Params) : Obj := { cls := Value.type "tuple", data := Data.seq #[] }
noncomputable def ob_286_c6 (P : Params) : Obj := { cls := Value.none, data := Data.fields #[] }
noncomputable def ob_287_c6 (P : Params) : Obj := { cls := Value.type "tuple", data := Data.seq #[Value.str (qs "row") 623, Value.str (qs "outline") 624, Value.str (qs "spot") 625, Value.str (qs "head") 626, Value.str (qs "tail") 627, Value.str (qs "label") 628, Value.str (qs "name") 629, Value.str (qs "rest") 630, Value.str (qs "best") 631, Value.str (qs "opening") 632] }
noncomputable def ob_288_c6 (P : Params) : Obj := { cls := Value.type "tuple", data := Data.seq #[] }
noncomputable def ob_289_c6 (P : Params) : Obj := { cls := Value.none, data := Data.func { name := qs "_law_word", qualname := qs "_law_word", params := fPar 43, body := FuncBody.stmts (fBod 43), scope := fSco 43, globals := 0, closure := [], defaults := Value.none, kwdefaults := Value.none } }
noncomputable def ob_290_c6 (P : Params) : Obj := { cls := Value.type "code", data := Data.fields #[Value.str (qs "_law_word") 620, Value.str (qs "_law_word") 621, Value.str (qs "/claim/cut.py") 622, Value.int 269 0, Value.int 1 0, Value.int 0 0, Value.int 0 0, Value.int 3 0, Value.ref 285, Value.bool true, Value.int 181 0, Value.ref 286, Value.none, Value.ref 287, Value.ref 288, Value.ref 289, Value.int 633 0, Value.int 269 0, Value.str (qs "/claim/cut.py") 634] }
noncomputable def ob_291_c6 (P : Params) : Obj := { cls := Value.type "function", data := Data.func { name := qs "_law_word", qualname := qs "_law_word", params := fPar 43, body := FuncBody.stmts (fBod 43), scope := fSco 43, globals := 3, closure := [], defaults := Value.none, kwdefaults := Value.none, pyModule := Value.str (qs "law_no0246_01") 517, code := Value.ref 290 } }
noncomputable def ob_292_c6 (P : Params) : Obj := { cls := Value.type "tuple", data := Data.seq #[] }
noncomputable def ob_293_c6 (P : Params) : Obj := { cls := Value.none, data := Data.fields #[] }
noncomputable def ob_294_c6 (P : Params) : Obj := { cls := Value.type "tuple", data := Data.seq #[Value.str (qs "row") 639, Value.str (qs "n") 640, Value.str (qs "text") 641, Value.str (qs "quoted") 642, Value.str (qs "sign") 643] }
noncomputable def ob_295_c6 (P : Params) : Obj := { cls := Value.type "tuple", data := Data.seq #[] }
noncomputable def ob_296_c6 (P : Params) : Obj := { cls := Value.none, data := Data.func { name := qs "_law_spread", qualname := qs "_law_spread", params := fPar 44, body := FuncBody.stmts (fBod 44), scope := fSco 44, globals := 0, closure := [], defaults := Value.none, kwdefaults := Value.none } }
noncomputable def ob_297_c6 (P : Params) : Obj := { cls := Value.type "code", data := Data.fields #[Value.str (qs "_law_spread") 636, Value.str (qs "_law_spread") 637, Value.str (qs "/claim/cut.py") 638, Value.int 309 0, Value.int 2 0, Value.int 0 0, Value.int 0 0, Value.int 3 0, Value.ref 292, Value.bool true, Value.int 181 0, Value.ref 293, Value.none, Value.ref 294, Value.ref 295, Value.ref 296, Value.int 644 0, Value.int 309 0, Value.str (qs "/claim/cut.py") 645] }
noncomputable def ob_298_c6 (P : Params) : Obj := { cls := Value.type "function", data := Data.func { name := qs "_law_spread", qualname := qs "_law_spread", params := fPar 44, body := FuncBody.stmts (fBod 44), scope := fSco 44, globals := 3, closure := [], defaults := Value.none, kwdefaults := Value.none, pyModule := Value.str (qs "law_no0246_01") 517, code := Value.ref 297 } }
noncomputable def ob_299_c6 (P : Params) : Obj := { cls := Value.type "tuple", data := Data.seq #[] }
noncomputable def ob_300_c6 (P : Params) : Obj := { cls := Value.none, data := Data.fields #[] }
noncomputable def ob_301_c6 (P : Params) : Obj := { cls := Value.type "tuple", data := Data.seq #[Value.str (qs "script") 650, Value.str (qs "cells") 651, Value.str (qs "at") 652, Value.str (qs "n") 653, Value.str (qs "seed") 654, Value.str (qs "row") 655, Value.str (qs "bend") 656, Value.str (qs "spot") 657, Value.str (qs "piece") 658, Value.str (qs "turn") 659, Value.str (qs "text") 660] }
noncomputable def ob_302_c6 (P : Params) : Obj := { cls := Value.type "tuple", data := Data.seq #[] }
noncomputable def ob_303_c6 (P : Params) : Obj := { cls := Value.none, data := Data.func { name := qs "law", qualname := qs "law", params := fPar 45, body := FuncBody.stmts (fBod 45), scope := fSco 45, globals := 0, closure := [], defaults := Value.none, kwdefaults := Value.none } }
noncomputable def ob_304_c6 (P : Params) : Obj := { cls := Value.type "code", data := Data.fields #[Value.str (qs "law") 647, Value.str (qs "law") 648, Value.str (qs "/claim/cut.py") 649, Value.int 324 0, Value.int 1 0, Value.int 0 0, Value.int 0 0, Value.int 3 0, Value.ref 299, Value.bool true, Value.int 181 0, Value.ref 300, Value.none, Value.ref 301, Value.ref 302, Value.ref 303, Value.int 661 0, Value.int 324 0, Value.str (qs "/claim/cut.py") 662] }
noncomputable def ob_305_c6 (P : Params) : Obj := { cls := Value.type "function", data := Data.func { name := qs "law", qualname := qs "law", params := fPar 45, body := FuncBody.stmts (fBod 45), scope := fSco 45, globals := 3, closure := [], defaults := Value.none, kwdefaults := Value.none, pyModule := Value.str (qs "law_no0246_01") 517, code := Value.ref 304 } }
noncomputable def t_pre (P : Params) : BT := (.node (boot_o_0 P) (.node (boot_o_1 P) (.node (boot_o_3 P) (.node (boot_o_7 P) .nil .nil) (.node (ob_11_pre P) .nil .nil)) (.node (boot_o_5 P) (.node (boot_o_9 P) .nil .nil) (.node (ob_13_pre P) .nil .nil))) (.node (boot_o_2 P) (.node (boot_o_4 P) (.node (boot_o_8 P) .nil .nil) (.node (ob_12_pre P) .nil .nil)) (.node (boot_o_6 P) (.node (boot_o_10 P) .nil .nil) (.node (ob_14_pre P) .nil .nil))))
noncomputable def t_c1 (P : Params) : BT := (.node (boot_o_0 P) (.node (boot_o_1 P) (.node (ob_3_c1 P) (.node (boot_o_7 P) (.node (ob_15_c1 P) (.node (ob_31_c1 P) .nil .nil) (.node (ob_47_c1 P) .nil .nil)) (.node (ob_23_c1 P) (.node (ob_39_c1 P) .nil .nil) .nil)) (.node (ob_11_pre P) (.node (ob_19_c1 P) (.node (ob_35_c1 P) .nil .nil) (.node (ob_51_c1 P) .nil .nil)) (.node (ob_27_c1 P) (.node (ob_43_c1 P) .nil .nil) .nil))) (.node (boot_o_5 P) (.node (boot_o_9 P) (.node (ob_17_c1 P) (.node (ob_33_c1 P) .nil .nil) (.node (ob_49_c1 P) .nil .nil)) (.node (ob_25_c1 P) (.node (ob_41_c1 P) .nil .nil) .nil)) (.node (ob_13_pre P) (.node (ob_21_c1 P) (.node (ob_37_c1 P) .nil .nil) (.node (ob_53_c1 P) .nil .nil)) (.node (ob_29_c1 P) (.node (ob_45_c1 P) .nil .nil) .nil)))) (.node (ob_2_c1 P) (.node (boot_o_4 P) (.node (boot_o_8 P) (.node (ob_16_c1 P) (.node (ob_32_c1 P) .nil .nil) (.node (ob_48_c1 P) .nil .nil)) (.node (ob_24_c1 P) (.node (ob_40_c1 P) .nil .nil) .nil)) (.node (ob_12_c1 P) (.node (ob_20_c1 P) (.node (ob_36_c1 P) .nil .nil) (.node (ob_52_c1 P) .nil .nil)) (.node (ob_28_c1 P) (.node (ob_44_c1 P) .nil .nil) .nil))) (.node (boot_o_6 P) (.node (boot_o_10 P) (.node (ob_18_c1 P) (.node (ob_34_c1 P) .nil .nil) (.node (ob_50_c1 P) .nil .nil)) (.node (ob_26_c1 P) (.node (ob_42_c1 P) .nil .nil) .nil)) (.node (ob_14_pre P) (.node (ob_22_c1 P) (.node (ob_38_c1 P) .nil .nil) .nil) (.node (ob_30_c1 P) (.node (ob_46_c1 P) .nil .nil) .nil)))))
noncomputable def t_c2 (P : Params) : BT := (.node (boot_o_0 P) (.node (boot_o_1 P) (.node (ob_3_c2 P) (.node (boot_o_7 P) (.node (ob_15_c1 P) (.node (ob_31_c1 P) (.node (ob_63_c2 P) .nil .nil) (.node (ob_95_c2 P) .nil .nil)) (.node (ob_47_c1 P) (.node (ob_79_c2 P) .nil .nil) .nil)) (.node (ob_23_c1 P) (.node (ob_39_c1 P) (.node (ob_71_c2 P) .nil .nil) (.node (ob_103_c2 P) .nil .nil)) (.node (ob_55_c2 P) (.node (ob_87_c2 P) .nil .nil) .nil))) (.node (ob_11_pre P) (.node (ob_19_c1 P) (.node (ob_35_c1 P) (.node (ob_67_c2 P) .nil .nil) (.node (ob_99_c2 P) .nil .nil)) (.node (ob_51_c1 P) (.node (ob_83_c2 P) .nil .nil) .nil)) (.node (ob_27_c1 P) (.node (ob_43_c1 P) (.node (ob_75_c2 P) .nil .nil) (.node (ob_107_c2 P) .nil .nil)) (.node (ob_59_c2 P) (.node (ob_91_c2 P) .nil .nil) .nil)))) (.node (boot_o_5 P) (.node (boot_o_9 P) (.node (ob_17_c1 P) (.node (ob_33_c1 P) (.node (ob_65_c2 P) .nil .nil) (.node (ob_97_c2 P) .nil .nil)) (.node (ob_49_c1 P) (.node (ob_81_c2 P) .nil .nil) .nil)) (.node (ob_25_c1 P) (.node (ob_41_c1 P) (.node (ob_73_c2 P) .nil .nil) (.node (ob_105_c2 P) .nil .nil)) (.node (ob_57_c2 P) (.node (ob_89_c2 P) .nil .nil) .nil))) (.node (ob_13_pre P) (.node (ob_21_c1 P) (.node (ob_37_c1 P) (.node (ob_69_c2 P) .nil .nil) (.node (ob_101_c2 P) .nil .nil)) (.node (ob_53_c1 P) (.node (ob_85_c2 P) .nil .nil) .nil)) (.node (ob_29_c1 P) (.node (ob_45_c1 P) (.node (ob_77_c2 P) .nil .nil) (.node (ob_109_c2 P) .nil .nil)) (.node (ob_61_c2 P) (.node (ob_93_c2 P) .nil .nil) .nil))))) (.node (ob_2_c1 P) (.node (boot_o_4 P) (.node (boot_o_8 P) (.node (ob_16_c1 P) (.node (ob_32_c1 P) (.node (ob_64_c2 P) .nil .nil) (.node (ob_96_c2 P) .nil .nil)) (.node (ob_48_c1 P) (.node (ob_80_c2 P) .nil .nil) .nil)) (.node (ob_24_c1 P) (.node (ob_40_c1 P) (.node (ob_72_c2 P) .nil .nil) (.node (ob_104_c2 P) .nil .nil)) (.node (ob_56_c2 P) (.node (ob_88_c2 P) .nil .nil) .nil))) (.node (ob_12_c2 P) (.node (ob_20_c1 P) (.node (ob_36_c1 P) (.node (ob_68_c2 P) .nil .nil) (.node (ob_100_c2 P) .nil .nil)) (.node (ob_52_c1 P) (.node (ob_84_c2 P) .nil .nil) .nil)) (.node (ob_28_c1 P) (.node (ob_44_c1 P) (.node (ob_76_c2 P) .nil .nil) (.node (ob_108_c2 P) .nil .nil)) (.node (ob_60_c2 P) (.node (ob_92_c2 P) .nil .nil) .nil)))) (.node (boot_o_6 P) (.node (boot_o_10 P) (.node (ob_18_c1 P) (.node (ob_34_c1 P) (.node (ob_66_c2 P) .nil .nil) (.node (ob_98_c2 P) .nil .nil)) (.node (ob_50_c1 P) (.node (ob_82_c2 P) .nil .nil) .nil)) (.node (ob_26_c1 P) (.node (ob_42_c1 P) (.node (ob_74_c2 P) .nil .nil) (.node (ob_106_c2 P) .nil .nil)) (.node (ob_58_c2 P) (.node (ob_90_c2 P) .nil .nil) .nil))) (.node (ob_14_pre P) (.node (ob_22_c1 P) (.node (ob_38_c1 P) (.node (ob_70_c2 P) .nil .nil) (.node (ob_102_c2 P) .nil .nil)) (.node (ob_54_c2 P) (.node (ob_86_c2 P) .nil .nil) .nil)) (.node (ob_30_c1 P) (.node (ob_46_c1 P) (.node (ob_78_c2 P) .nil .nil) .nil) (.node (ob_62_c2 P) (.node (ob_94_c2 P) .nil .nil) .nil))))))
noncomputable def t_c3 (P : Params) : BT := (.node (boot_o_0 P) (.node (boot_o_1 P) (.node (ob_3_c3 P) (.node (boot_o_7 P) (.node (ob_15_c1 P) (.node (ob_31_c1 P) (.node (ob_63_c2 P) (.node (ob_127_c3 P) .nil .nil) .nil) (.node (ob_95_c2 P) .nil .nil)) (.node (ob_47_c1 P) (.node (ob_79_c2 P) (.node (ob_143_c3 P) .nil .nil) .nil) (.node (ob_111_c3 P) .nil .nil))) (.node (ob_23_c1 P) (.node (ob_39_c1 P) (.node (ob_71_c2 P) (.node (ob_135_c3 P) .nil .nil) .nil) (.node (ob_103_c2 P) .nil .nil)) (.node (ob_55_c2 P) (.node (ob_87_c2 P) .nil .nil) (.node (ob_119_c3 P) .nil .nil)))) (.node (ob_11_pre P) (.node (ob_19_c1 P) (.node (ob_35_c1 P) (.node (ob_67_c2 P) (.node (ob_131_c3 P) .nil .nil) .nil) (.node (ob_99_c2 P) .nil .nil)) (.node (ob_51_c1 P) (.node (ob_83_c2 P) (.node (ob_147_c3 P) .nil .nil) .nil) (.node (ob_115_c3 P) .nil .nil))) (.node (ob_27_c1 P) (.node (ob_43_c1 P) (.node (ob_75_c2 P) (.node (ob_139_c3 P) .nil .nil) .nil) (.node (ob_107_c2 P) .nil .nil)) (.node (ob_59_c2 P) (.node (ob_91_c2 P) .nil .nil) (.node (ob_123_c3 P) .nil .nil))))) (.node (boot_o_5 P) (.node (boot_o_9 P) (.node (ob_17_c1 P) (.node (ob_33_c1 P) (.node (ob_65_c2 P) (.node (ob_129_c3 P) .nil .nil) .nil) (.node (ob_97_c2 P) .nil .nil)) (.node (ob_49_c1 P) (.node (ob_81_c2 P) (.node (ob_145_c3 P) .nil .nil) .nil) (.node (ob_113_c3 P) .nil .nil))) (.node (ob_25_c1 P) (.node (ob_41_c1 P) (.node (ob_73_c2 P) (.node (ob_137_c3 P) .nil .nil) .nil) (.node (ob_105_c2 P) .nil .nil)) (.node (ob_57_c2 P) (.node (ob_89_c2 P) .nil .nil) (.node (ob_121_c3 P) .nil .nil)))) (.node (ob_13_pre P) (.node (ob_21_c1 P) (.node (ob_37_c1 P) (.node (ob_69_c2 P) (.node (ob_133_c3 P) .nil .nil) .nil) (.node (ob_101_c2 P) .nil .nil)) (.node (ob_53_c1 P) (.node (ob_85_c2 P) (.node (ob_149_c3 P) .nil .nil) .nil) (.node (ob_117_c3 P) .nil .nil))) (.node (ob_29_c1 P) (.node (ob_45_c1 P) (.node (ob_77_c2 P) (.node (ob_141_c3 P) .nil .nil) .nil) (.node (ob_109_c2 P) .nil .nil)) (.node (ob_61_c2 P) (.node (ob_93_c2 P) .nil .nil) (.node (ob_125_c3 P) .nil .nil)))))) (.node (ob_2_c1 P) (.node (boot_o_4 P) (.node (boot_o_8 P) (.node (ob_16_c1 P) (.node (ob_32_c1 P) (.node (ob_64_c2 P) (.node (ob_128_c3 P) .nil .nil) .nil) (.node (ob_96_c2 P) .nil .nil)) (.node (ob_48_c1 P) (.node (ob_80_c2 P) (.node (ob_144_c3 P) .nil .nil) .nil) (.node (ob_112_c3 P) .nil .nil))) (.node (ob_24_c1 P) (.node (ob_40_c1 P) (.node (ob_72_c2 P) (.node (ob_136_c3 P) .nil .nil) .nil) (.node (ob_104_c2 P) .nil .nil)) (.node (ob_56_c2 P) (.node (ob_88_c2 P) .nil .nil) (.node (ob_120_c3 P) .nil .nil)))) (.node (ob_12_c2 P) (.node (ob_20_c1 P) (.node (ob_36_c1 P) (.node (ob_68_c2 P) (.node (ob_132_c3 P) .nil .nil) .nil) (.node (ob_100_c2 P) .nil .nil)) (.node (ob_52_c1 P) (.node (ob_84_c2 P) (.node (ob_148_c3 P) .nil .nil) .nil) (.node (ob_116_c3 P) .nil .nil))) (.node (ob_28_c1 P) (.node (ob_44_c1 P) (.node (ob_76_c2 P) (.node (ob_140_c3 P) .nil .nil) .nil) (.node (ob_108_c2 P) .nil .nil)) (.node (ob_60_c2 P) (.node (ob_92_c2 P) .nil .nil) (.node (ob_124_c3 P) .nil .nil))))) (.node (boot_o_6 P) (.node (boot_o_10 P) (.node (ob_18_c1 P) (.node (ob_34_c1 P) (.node (ob_66_c2 P) (.node (ob_130_c3 P) .nil .nil) .nil) (.node (ob_98_c2 P) .nil .nil)) (.node (ob_50_c1 P) (.node (ob_82_c2 P) (.node (ob_146_c3 P) .nil .nil) .nil) (.node (ob_114_c3 P) .nil .nil))) (.node (ob_26_c1 P) (.node (ob_42_c1 P) (.node (ob_74_c2 P) (.node (ob_138_c3 P) .nil .nil) .nil) (.node (ob_106_c2 P) .nil .nil)) (.node (ob_58_c2 P) (.node (ob_90_c2 P) .nil .nil) (.node (ob_122_c3 P) .nil .nil)))) (.node (ob_14_pre P) (.node (ob_22_c1 P) (.node (ob_38_c1 P) (.node (ob_70_c2 P) (.node (ob_134_c3 P) .nil .nil) .nil) (.node (ob_102_c2 P) .nil .nil)) (.node (ob_54_c2 P) (.node (ob_86_c2 P) (.node (ob_150_c3 P) .nil .nil) .nil) (.node (ob_118_c3 P) .nil .nil))) (.node (ob_30_c1 P) (.node (ob_46_c1 P) (.node (ob_78_c2 P) (.node (ob_142_c3 P) .nil .nil) .nil) (.node (ob_110_c3 P) .nil .nil)) (.node (ob_62_c2 P) (.node (ob_94_c2 P) .nil .nil) (.node (ob_126_c3 P) .nil .nil)))))))
noncomputable def t_c4 (P : Params) : BT := (.node (boot_o_0 P) (.node (boot_o_1 P) (.node (ob_3_c4 P) (.node (boot_o_7 P) (.node (ob_15_c1 P) (.node (ob_31_c1 P) (.node (ob_63_c2 P) (.node (ob_127_c3 P) .nil .nil) (.node (ob_191_c4 P) .nil .nil)) (.node (ob_95_c2 P) (.node (ob_159_c4 P) .nil .nil) (.node (ob_223_c4 P) .nil .nil))) (.node (ob_47_c1 P) (.node (ob_79_c2 P) (.node (ob_143_c3 P) .nil .nil) (.node (ob_207_c4 P) .nil .nil)) (.node (ob_111_c3 P) (.node (ob_175_c4 P) .nil .nil) .nil))) (.node (ob_23_c1 P) (.node (ob_39_c1 P) (.node (ob_71_c2 P) (.node (ob_135_c3 P) .nil .nil) (.node (ob_199_c4 P) .nil .nil)) (.node (ob_103_c2 P) (.node (ob_167_c4 P) .nil .nil) .nil)) (.node (ob_55_c2 P) (.node (ob_87_c2 P) (.node (ob_151_c4 P) .nil .nil) (.node (ob_215_c4 P) .nil .nil)) (.node (ob_119_c3 P) (.node (ob_183_c4 P) .nil .nil) .nil)))) (.node (ob_11_pre P) (.node (ob_19_c1 P) (.node (ob_35_c1 P) (.node (ob_67_c2 P) (.node (ob_131_c3 P) .nil .nil) (.node (ob_195_c4 P) .nil .nil)) (.node (ob_99_c2 P) (.node (ob_163_c4 P) .nil .nil) (.node (ob_227_c4 P) .nil .nil))) (.node (ob_51_c1 P) (.node (ob_83_c2 P) (.node (ob_147_c3 P) .nil .nil) (.node (ob_211_c4 P) .nil .nil)) (.node (ob_115_c3 P) (.node (ob_179_c4 P) .nil .nil) .nil))) (.node (ob_27_c1 P) (.node (ob_43_c1 P) (.node (ob_75_c2 P) (.node (ob_139_c3 P) .nil .nil) (.node (ob_203_c4 P) .nil .nil)) (.node (ob_107_c2 P) (.node (ob_171_c4 P) .nil .nil) .nil)) (.node (ob_59_c2 P) (.node (ob_91_c2 P) (.node (ob_155_c4 P) .nil .nil) (.node (ob_219_c4 P) .nil .nil)) (.node (ob_123_c3 P) (.node (ob_187_c4 P) .nil .nil) .nil))))) (.node (boot_o_5 P) (.node (boot_o_9 P) (.node (ob_17_c1 P) (.node (ob_33_c1 P) (.node (ob_65_c2 P) (.node (ob_129_c3 P) .nil .nil) (.node (ob_193_c4 P) .nil .nil)) (.node (ob_97_c2 P) (.node (ob_161_c4 P) .nil .nil) (.node (ob_225_c4 P) .nil .nil))) (.node (ob_49_c1 P) (.node (ob_81_c2 P) (.node (ob_145_c3 P) .nil .nil) (.node (ob_209_c4 P) .nil .nil)) (.node (ob_113_c3 P) (.node (ob_177_c4 P) .nil .nil) .nil))) (.node (ob_25_c1 P) (.node (ob_41_c1 P) (.node (ob_73_c2 P) (.node (ob_137_c3 P) .nil .nil) (.node (ob_201_c4 P) .nil .nil)) (.node (ob_105_c2 P) (.node (ob_169_c4 P) .nil .nil) .nil)) (.node (ob_57_c2 P) (.node (ob_89_c2 P) (.node (ob_153_c4 P) .nil .nil) (.node (ob_217_c4 P) .nil .nil)) (.node (ob_121_c3 P) (.node (ob_185_c4 P) .nil .nil) .nil)))) (.node (ob_13_pre P) (.node (ob_21_c1 P) (.node (ob_37_c1 P) (.node (ob_69_c2 P) (.node (ob_133_c3 P) .nil .nil) (.node (ob_197_c4 P) .nil .nil)) (.node (ob_101_c2 P) (.node (ob_165_c4 P) .nil .nil) .nil)) (.node (ob_53_c1 P) (.node (ob_85_c2 P) (.node (ob_149_c3 P) .nil .nil) (.node (ob_213_c4 P) .nil .nil)) (.node (ob_117_c3 P) (.node (ob_181_c4 P) .nil .nil) .nil))) (.node (ob_29_c1 P) (.node (ob_45_c1 P) (.node (ob_77_c2 P) (.node (ob_141_c3 P) .nil .nil) (.node (ob_205_c4 P) .nil .nil)) (.node (ob_109_c2 P) (.node (ob_173_c4 P) .nil .nil) .nil)) (.node (ob_61_c2 P) (.node (ob_93_c2 P) (.node (ob_157_c4 P) .nil .nil) (.node (ob_221_c4 P) .nil .nil)) (.node (ob_125_c3 P) (.node (ob_189_c4 P) .nil .nil) .nil)))))) (.node (ob_2_c1 P) (.node (boot_o_4 P) (.node (boot_o_8 P) (.node (ob_16_c1 P) (.node (ob_32_c1 P) (.node (ob_64_c2 P) (.node (ob_128_c3 P) .nil .nil) (.node (ob_192_c4 P) .nil .nil)) (.node (ob_96_c2 P) (.node (ob_160_c4 P) .nil .nil) (.node (ob_224_c4 P) .nil .nil))) (.node (ob_48_c1 P) (.node (ob_80_c2 P) (.node (ob_144_c3 P) .nil .nil) (.node (ob_208_c4 P) .nil .nil)) (.node (ob_112_c3 P) (.node (ob_176_c4 P) .nil .nil) .nil))) (.node (ob_24_c1 P) (.node (ob_40_c1 P) (.node (ob_72_c2 P) (.node (ob_136_c3 P) .nil .nil) (.node (ob_200_c4 P) .nil .nil)) (.node (ob_104_c2 P) (.node (ob_168_c4 P) .nil .nil) .nil)) (.node (ob_56_c2 P) (.node (ob_88_c2 P) (.node (ob_152_c4 P) .nil .nil) (.node (ob_216_c4 P) .nil .nil)) (.node (ob_120_c3 P) (.node (ob_184_c4 P) .nil .nil) .nil)))) (.node (ob_12_c4 P) (.node (ob_20_c1 P) (.node (ob_36_c1 P) (.node (ob_68_c2 P) (.node (ob_132_c3 P) .nil .nil) (.node (ob_196_c4 P) .nil .nil)) (.node (ob_100_c2 P) (.node (ob_164_c4 P) .nil .nil) .nil)) (.node (ob_52_c1 P) (.node (ob_84_c2 P) (.node (ob_148_c3 P) .nil .nil) (.node (ob_212_c4 P) .nil .nil)) (.node (ob_116_c3 P) (.node (ob_180_c4 P) .nil .nil) .nil))) (.node (ob_28_c1 P) (.node (ob_44_c1 P) (.node (ob_76_c2 P) (.node (ob_140_c3 P) .nil .nil) (.node (ob_204_c4 P) .nil .nil)) (.node (ob_108_c2 P) (.node (ob_172_c4 P) .nil .nil) .nil)) (.node (ob_60_c2 P) (.node (ob_92_c2 P) (.node (ob_156_c4 P) .nil .nil) (.node (ob_220_c4 P) .nil .nil)) (.node (ob_124_c3 P) (.node (ob_188_c4 P) .nil .nil) .nil))))) (.node (boot_o_6 P) (.node (boot_o_10 P) (.node (ob_18_c1 P) (.node (ob_34_c1 P) (.node (ob_66_c2 P) (.node (ob_130_c3 P) .nil .nil) (.node (ob_194_c4 P) .nil .nil)) (.node (ob_98_c2 P) (.node (ob_162_c4 P) .nil .nil) (.node (ob_226_c4 P) .nil .nil))) (.node (ob_50_c1 P) (.node (ob_82_c2 P) (.node (ob_146_c3 P) .nil .nil) (.node (ob_210_c4 P) .nil .nil)) (.node (ob_114_c3 P) (.node (ob_178_c4 P) .nil .nil) .nil))) (.node (ob_26_c1 P) (.node (ob_42_c1 P) (.node (ob_74_c2 P) (.node (ob_138_c3 P) .nil .nil) (.node (ob_202_c4 P) .nil .nil)) (.node (ob_106_c2 P) (.node (ob_170_c4 P) .nil .nil) .nil)) (.node (ob_58_c2 P) (.node (ob_90_c2 P) (.node (ob_154_c4 P) .nil .nil) (.node (ob_218_c4 P) .nil .nil)) (.node (ob_122_c3 P) (.node (ob_186_c4 P) .nil .nil) .nil)))) (.node (ob_14_pre P) (.node (ob_22_c1 P) (.node (ob_38_c1 P) (.node (ob_70_c2 P) (.node (ob_134_c3 P) .nil .nil) (.node (ob_198_c4 P) .nil .nil)) (.node (ob_102_c2 P) (.node (ob_166_c4 P) .nil .nil) .nil)) (.node (ob_54_c2 P) (.node (ob_86_c2 P) (.node (ob_150_c3 P) .nil .nil) (.node (ob_214_c4 P) .nil .nil)) (.node (ob_118_c3 P) (.node (ob_182_c4 P) .nil .nil) .nil))) (.node (ob_30_c1 P) (.node (ob_46_c1 P) (.node (ob_78_c2 P) (.node (ob_142_c3 P) .nil .nil) (.node (ob_206_c4 P) .nil .nil)) (.node (ob_110_c3 P) (.node (ob_174_c4 P) .nil .nil) .nil)) (.node (ob_62_c2 P) (.node (ob_94_c2 P) (.node (ob_158_c4 P) .nil .nil) (.node (ob_222_c4 P) .nil .nil)) (.node (ob_126_c3 P) (.node (ob_190_c4 P) .nil .nil) .nil)))))))
noncomputable def t_c5 (P : Params) : BT := (.node (boot_o_0 P) (.node (boot_o_1 P) (.node (ob_3_c5 P) (.node (boot_o_7 P) (.node (ob_15_c1 P) (.node (ob_31_c1 P) (.node (ob_63_c2 P) (.node (ob_127_c3 P) (.node (ob_255_c5 P) .nil .nil) .nil) (.node (ob_191_c4 P) .nil .nil)) (.node (ob_95_c2 P) (.node (ob_159_c4 P) .nil .nil) (.node (ob_223_c4 P) .nil .nil))) (.node (ob_47_c1 P) (.node (ob_79_c2 P) (.node (ob_143_c3 P) .nil .nil) (.node (ob_207_c4 P) .nil .nil)) (.node (ob_111_c3 P) (.node (ob_175_c4 P) .nil .nil) (.node (ob_239_c5 P) .nil .nil)))) (.node (ob_23_c1 P) (.node (ob_39_c1 P) (.node (ob_71_c2 P) (.node (ob_135_c3 P) .nil .nil) (.node (ob_199_c4 P) .nil .nil)) (.node (ob_103_c2 P) (.node (ob_167_c4 P) .nil .nil) (.node (ob_231_c5 P) .nil .nil))) (.node (ob_55_c2 P) (.node (ob_87_c2 P) (.node (ob_151_c4 P) .nil .nil) (.node (ob_215_c4 P) .nil .nil)) (.node (ob_119_c3 P) (.node (ob_183_c4 P) .nil .nil) (.node (ob_247_c5 P) .nil .nil))))) (.node (ob_11_pre P) (.node (ob_19_c1 P) (.node (ob_35_c1 P) (.node (ob_67_c2 P) (.node (ob_131_c3 P) .nil .nil) (.node (ob_195_c4 P) .nil .nil)) (.node (ob_99_c2 P) (.node (ob_163_c4 P) .nil .nil) (.node (ob_227_c4 P) .nil .nil))) (.node (ob_51_c1 P) (.node (ob_83_c2 P) (.node (ob_147_c3 P) .nil .nil) (.node (ob_211_c4 P) .nil .nil)) (.node (ob_115_c3 P) (.node (ob_179_c4 P) .nil .nil) (.node (ob_243_c5 P) .nil .nil)))) (.node (ob_27_c1 P) (.node (ob_43_c1 P) (.node (ob_75_c2 P) (.node (ob_139_c3 P) .nil .nil) (.node (ob_203_c4 P) .nil .nil)) (.node (ob_107_c2 P) (.node (ob_171_c4 P) .nil .nil) (.node (ob_235_c5 P) .nil .nil))) (.node (ob_59_c2 P) (.node (ob_91_c2 P) (.node (ob_155_c4 P) .nil .nil) (.node (ob_219_c4 P) .nil .nil)) (.node (ob_123_c3 P) (.node (ob_187_c4 P) .nil .nil) (.node (ob_251_c5 P) .nil .nil)))))) (.node (boot_o_5 P) (.node (boot_o_9 P) (.node (ob_17_c1 P) (.node (ob_33_c1 P) (.node (ob_65_c2 P) (.node (ob_129_c3 P) .nil .nil) (.node (ob_193_c4 P) .nil .nil)) (.node (ob_97_c2 P) (.node (ob_161_c4 P) .nil .nil) (.node (ob_225_c4 P) .nil .nil))) (.node (ob_49_c1 P) (.node (ob_81_c2 P) (.node (ob_145_c3 P) .nil .nil) (.node (ob_209_c4 P) .nil .nil)) (.node (ob_113_c3 P) (.node (ob_177_c4 P) .nil .nil) (.node (ob_241_c5 P) .nil .nil)))) (.node (ob_25_c1 P) (.node (ob_41_c1 P) (.node (ob_73_c2 P) (.node (ob_137_c3 P) .nil .nil) (.node (ob_201_c4 P) .nil .nil)) (.node (ob_105_c2 P) (.node (ob_169_c4 P) .nil .nil) (.node (ob_233_c5 P) .nil .nil))) (.node (ob_57_c2 P) (.node (ob_89_c2 P) (.node (ob_153_c4 P) .nil .nil) (.node (ob_217_c4 P) .nil .nil)) (.node (ob_121_c3 P) (.node (ob_185_c4 P) .nil .nil) (.node (ob_249_c5 P) .nil .nil))))) (.node (ob_13_pre P) (.node (ob_21_c1 P) (.node (ob_37_c1 P) (.node (ob_69_c2 P) (.node (ob_133_c3 P) .nil .nil) (.node (ob_197_c4 P) .nil .nil)) (.node (ob_101_c2 P) (.node (ob_165_c4 P) .nil .nil) (.node (ob_229_c5 P) .nil .nil))) (.node (ob_53_c1 P) (.node (ob_85_c2 P) (.node (ob_149_c3 P) .nil .nil) (.node (ob_213_c4 P) .nil .nil)) (.node (ob_117_c3 P) (.node (ob_181_c4 P) .nil .nil) (.node (ob_245_c5 P) .nil .nil)))) (.node (ob_29_c1 P) (.node (ob_45_c1 P) (.node (ob_77_c2 P) (.node (ob_141_c3 P) .nil .nil) (.node (ob_205_c4 P) .nil .nil)) (.node (ob_109_c2 P) (.node (ob_173_c4 P) .nil .nil) (.node (ob_237_c5 P) .nil .nil))) (.node (ob_61_c2 P) (.node (ob_93_c2 P) (.node (ob_157_c4 P) .nil .nil) (.node (ob_221_c4 P) .nil .nil)) (.node (ob_125_c3 P) (.node (ob_189_c4 P) .nil .nil) (.node (ob_253_c5 P) .nil .nil))))))) (.node (ob_2_c1 P) (.node (boot_o_4 P) (.node (boot_o_8 P) (.node (ob_16_c1 P) (.node (ob_32_c1 P) (.node (ob_64_c2 P) (.node (ob_128_c3 P) (.node (ob_256_c5 P) .nil .nil) .nil) (.node (ob_192_c4 P) .nil .nil)) (.node (ob_96_c2 P) (.node (ob_160_c4 P) .nil .nil) (.node (ob_224_c4 P) .nil .nil))) (.node (ob_48_c1 P) (.node (ob_80_c2 P) (.node (ob_144_c3 P) .nil .nil) (.node (ob_208_c4 P) .nil .nil)) (.node (ob_112_c3 P) (.node (ob_176_c4 P) .nil .nil) (.node (ob_240_c5 P) .nil .nil)))) (.node (ob_24_c1 P) (.node (ob_40_c1 P) (.node (ob_72_c2 P) (.node (ob_136_c3 P) .nil .nil) (.node (ob_200_c4 P) .nil .nil)) (.node (ob_104_c2 P) (.node (ob_168_c4 P) .nil .nil) (.node (ob_232_c5 P) .nil .nil))) (.node (ob_56_c2 P) (.node (ob_88_c2 P) (.node (ob_152_c4 P) .nil .nil) (.node (ob_216_c4 P) .nil .nil)) (.node (ob_120_c3 P) (.node (ob_184_c4 P) .nil .nil) (.node (ob_248_c5 P) .nil .nil))))) (.node (ob_12_c5 P) (.node (ob_20_c1 P) (.node (ob_36_c1 P) (.node (ob_68_c2 P) (.node (ob_132_c3 P) .nil .nil) (.node (ob_196_c4 P) .nil .nil)) (.node (ob_100_c2 P) (.node (ob_164_c4 P) .nil .nil) (.node (ob_228_c5 P) .nil .nil))) (.node (ob_52_c1 P) (.node (ob_84_c2 P) (.node (ob_148_c3 P) .nil .nil) (.node (ob_212_c4 P) .nil .nil)) (.node (ob_116_c3 P) (.node (ob_180_c4 P) .nil .nil) (.node (ob_244_c5 P) .nil .nil)))) (.node (ob_28_c1 P) (.node (ob_44_c1 P) (.node (ob_76_c2 P) (.node (ob_140_c3 P) .nil .nil) (.node (ob_204_c4 P) .nil .nil)) (.node (ob_108_c2 P) (.node (ob_172_c4 P) .nil .nil) (.node (ob_236_c5 P) .nil .nil))) (.node (ob_60_c2 P) (.node (ob_92_c2 P) (.node (ob_156_c4 P) .nil .nil) (.node (ob_220_c4 P) .nil .nil)) (.node (ob_124_c3 P) (.node (ob_188_c4 P) .nil .nil) (.node (ob_252_c5 P) .nil .nil)))))) (.node (boot_o_6 P) (.node (boot_o_10 P) (.node (ob_18_c1 P) (.node (ob_34_c1 P) (.node (ob_66_c2 P) (.node (ob_130_c3 P) .nil .nil) (.node (ob_194_c4 P) .nil .nil)) (.node (ob_98_c2 P) (.node (ob_162_c4 P) .nil .nil) (.node (ob_226_c4 P) .nil .nil))) (.node (ob_50_c1 P) (.node (ob_82_c2 P) (.node (ob_146_c3 P) .nil .nil) (.node (ob_210_c4 P) .nil .nil)) (.node (ob_114_c3 P) (.node (ob_178_c4 P) .nil .nil) (.node (ob_242_c5 P) .nil .nil)))) (.node (ob_26_c1 P) (.node (ob_42_c1 P) (.node (ob_74_c2 P) (.node (ob_138_c3 P) .nil .nil) (.node (ob_202_c4 P) .nil .nil)) (.node (ob_106_c2 P) (.node (ob_170_c4 P) .nil .nil) (.node (ob_234_c5 P) .nil .nil))) (.node (ob_58_c2 P) (.node (ob_90_c2 P) (.node (ob_154_c4 P) .nil .nil) (.node (ob_218_c4 P) .nil .nil)) (.node (ob_122_c3 P) (.node (ob_186_c4 P) .nil .nil) (.node (ob_250_c5 P) .nil .nil))))) (.node (ob_14_pre P) (.node (ob_22_c1 P) (.node (ob_38_c1 P) (.node (ob_70_c2 P) (.node (ob_134_c3 P) .nil .nil) (.node (ob_198_c4 P) .nil .nil)) (.node (ob_102_c2 P) (.node (ob_166_c4 P) .nil .nil) (.node (ob_230_c5 P) .nil .nil))) (.node (ob_54_c2 P) (.node (ob_86_c2 P) (.node (ob_150_c3 P) .nil .nil) (.node (ob_214_c4 P) .nil .nil)) (.node (ob_118_c3 P) (.node (ob_182_c4 P) .nil .nil) (.node (ob_246_c5 P) .nil .nil)))) (.node (ob_30_c1 P) (.node (ob_46_c1 P) (.node (ob_78_c2 P) (.node (ob_142_c3 P) .nil .nil) (.node (ob_206_c4 P) .nil .nil)) (.node (ob_110_c3 P) (.node (ob_174_c4 P) .nil .nil) (.node (ob_238_c5 P) .nil .nil))) (.node (ob_62_c2 P) (.node (ob_94_c2 P) (.node (ob_158_c4 P) .nil .nil) (.node (ob_222_c4 P) .nil .nil)) (.node (ob_126_c3 P) (.node (ob_190_c4 P) .nil .nil) (.node (ob_254_c5 P) .nil .nil))))))))
noncomputable def t_c6 (P : Params) : BT := (.node (boot_o_0 P) (.node (boot_o_1 P) (.node (ob_3_c6 P) (.node (boot_o_7 P) (.node (ob_15_c1 P) (.node (ob_31_c1 P) (.node (ob_63_c2 P) (.node (ob_127_c3 P) (.node (ob_255_c5 P) .nil .nil) .nil) (.node (ob_191_c4 P) .nil .nil)) (.node (ob_95_c2 P) (.node (ob_159_c4 P) (.node (ob_287_c6 P) .nil .nil) .nil) (.node (ob_223_c4 P) .nil .nil))) (.node (ob_47_c1 P) (.node (ob_79_c2 P) (.node (ob_143_c3 P) (.node (ob_271_c6 P) .nil .nil) .nil) (.node (ob_207_c4 P) .nil .nil)) (.node (ob_111_c3 P) (.node (ob_175_c4 P) (.node (ob_303_c6 P) .nil .nil) .nil) (.node (ob_239_c5 P) .nil .nil)))) (.node (ob_23_c1 P) (.node (ob_39_c1 P) (.node (ob_71_c2 P) (.node (ob_135_c3 P) (.node (ob_263_c6 P) .nil .nil) .nil) (.node (ob_199_c4 P) .nil .nil)) (.node (ob_103_c2 P) (.node (ob_167_c4 P) (.node (ob_295_c6 P) .nil .nil) .nil) (.node (ob_231_c5 P) .nil .nil))) (.node (ob_55_c2 P) (.node (ob_87_c2 P) (.node (ob_151_c4 P) (.node (ob_279_c6 P) .nil .nil) .nil) (.node (ob_215_c4 P) .nil .nil)) (.node (ob_119_c3 P) (.node (ob_183_c4 P) .nil .nil) (.node (ob_247_c5 P) .nil .nil))))) (.node (ob_11_pre P) (.node (ob_19_c1 P) (.node (ob_35_c1 P) (.node (ob_67_c2 P) (.node (ob_131_c3 P) (.node (ob_259_c6 P) .nil .nil) .nil) (.node (ob_195_c4 P) .nil .nil)) (.node (ob_99_c2 P) (.node (ob_163_c4 P) (.node (ob_291_c6 P) .nil .nil) .nil) (.node (ob_227_c4 P) .nil .nil))) (.node (ob_51_c1 P) (.node (ob_83_c2 P) (.node (ob_147_c3 P) (.node (ob_275_c6 P) .nil .nil) .nil) (.node (ob_211_c4 P) .nil .nil)) (.node (ob_115_c3 P) (.node (ob_179_c4 P) .nil .nil) (.node (ob_243_c5 P) .nil .nil)))) (.node (ob_27_c1 P) (.node (ob_43_c1 P) (.node (ob_75_c2 P) (.node (ob_139_c3 P) (.node (ob_267_c6 P) .nil .nil) .nil) (.node (ob_203_c4 P) .nil .nil)) (.node (ob_107_c2 P) (.node (ob_171_c4 P) (.node (ob_299_c6 P) .nil .nil) .nil) (.node (ob_235_c5 P) .nil .nil))) (.node (ob_59_c2 P) (.node (ob_91_c2 P) (.node (ob_155_c4 P) (.node (ob_283_c6 P) .nil .nil) .nil) (.node (ob_219_c4 P) .nil .nil)) (.node (ob_123_c3 P) (.node (ob_187_c4 P) .nil .nil) (.node (ob_251_c5 P) .nil .nil)))))) (.node (boot_o_5 P) (.node (boot_o_9 P) (.node (ob_17_c1 P) (.node (ob_33_c1 P) (.node (ob_65_c2 P) (.node (ob_129_c3 P) (.node (ob_257_c6 P) .nil .nil) .nil) (.node (ob_193_c4 P) .nil .nil)) (.node (ob_97_c2 P) (.node (ob_161_c4 P) (.node (ob_289_c6 P) .nil .nil) .nil) (.node (ob_225_c4 P) .nil .nil))) (.node (ob_49_c1 P) (.node (ob_81_c2 P) (.node (ob_145_c3 P) (.node (ob_273_c6 P) .nil .nil) .nil) (.node (ob_209_c4 P) .nil .nil)) (.node (ob_113_c3 P) (.node (ob_177_c4 P) (.node (ob_305_c6 P) .nil .nil) .nil) (.node (ob_241_c5 P) .nil .nil)))) (.node (ob_25_c1 P) (.node (ob_41_c1 P) (.node (ob_73_c2 P) (.node (ob_137_c3 P) (.node (ob_265_c6 P) .nil .nil) .nil) (.node (ob_201_c4 P) .nil .nil)) (.node (ob_105_c2 P) (.node (ob_169_c4 P) (.node (ob_297_c6 P) .nil .nil) .nil) (.node (ob_233_c5 P) .nil .nil))) (.node (ob_57_c2 P) (.node (ob_89_c2 P) (.node (ob_153_c4 P) (.node (ob_281_c6 P) .nil .nil) .nil) (.node (ob_217_c4 P) .nil .nil)) (.node (ob_121_c3 P) (.node (ob_185_c4 P) .nil .nil) (.node (ob_249_c5 P) .nil .nil))))) (.node (ob_13_pre P) (.node (ob_21_c1 P) (.node (ob_37_c1 P) (.node (ob_69_c2 P) (.node (ob_133_c3 P) (.node (ob_261_c6 P) .nil .nil) .nil) (.node (ob_197_c4 P) .nil .nil)) (.node (ob_101_c2 P) (.node (ob_165_c4 P) (.node (ob_293_c6 P) .nil .nil) .nil) (.node (ob_229_c5 P) .nil .nil))) (.node (ob_53_c1 P) (.node (ob_85_c2 P) (.node (ob_149_c3 P) (.node (ob_277_c6 P) .nil .nil) .nil) (.node (ob_213_c4 P) .nil .nil)) (.node (ob_117_c3 P) (.node (ob_181_c4 P) .nil .nil) (.node (ob_245_c5 P) .nil .nil)))) (.node (ob_29_c1 P) (.node (ob_45_c1 P) (.node (ob_77_c2 P) (.node (ob_141_c3 P) (.node (ob_269_c6 P) .nil .nil) .nil) (.node (ob_205_c4 P) .nil .nil)) (.node (ob_109_c2 P) (.node (ob_173_c4 P) (.node (ob_301_c6 P) .nil .nil) .nil) (.node (ob_237_c5 P) .nil .nil))) (.node (ob_61_c2 P) (.node (ob_93_c2 P) (.node (ob_157_c4 P) (.node (ob_285_c6 P) .nil .nil) .nil) (.node (ob_221_c4 P) .nil .nil)) (.node (ob_125_c3 P) (.node (ob_189_c4 P) .nil .nil) (.node (ob_253_c5 P) .nil .nil))))))) (.node (ob_2_c1 P) (.node (boot_o_4 P) (.node (boot_o_8 P) (.node (ob_16_c1 P) (.node (ob_32_c1 P) (.node (ob_64_c2 P) (.node (ob_128_c3 P) (.node (ob_256_c5 P) .nil .nil) .nil) (.node (ob_192_c4 P) .nil .nil)) (.node (ob_96_c2 P) (.node (ob_160_c4 P) (.node (ob_288_c6 P) .nil .nil) .nil) (.node (ob_224_c4 P) .nil .nil))) (.node (ob_48_c1 P) (.node (ob_80_c2 P) (.node (ob_144_c3 P) (.node (ob_272_c6 P) .nil .nil) .nil) (.node (ob_208_c4 P) .nil .nil)) (.node (ob_112_c3 P) (.node (ob_176_c4 P) (.node (ob_304_c6 P) .nil .nil) .nil) (.node (ob_240_c5 P) .nil .nil)))) (.node (ob_24_c1 P) (.node (ob_40_c1 P) (.node (ob_72_c2 P) (.node (ob_136_c3 P) (.node (ob_264_c6 P) .nil .nil) .nil) (.node (ob_200_c4 P) .nil .nil)) (.node (ob_104_c2 P) (.node (ob_168_c4 P) (.node (ob_296_c6 P) .nil .nil) .nil) (.node (ob_232_c5 P) .nil .nil))) (.node (ob_56_c2 P) (.node (ob_88_c2 P) (.node (ob_152_c4 P) (.node (ob_280_c6 P) .nil .nil) .nil) (.node (ob_216_c4 P) .nil .nil)) (.node (ob_120_c3 P) (.node (ob_184_c4 P) .nil .nil) (.node (ob_248_c5 P) .nil .nil))))) (.node (ob_12_c6 P) (.node (ob_20_c1 P) (.node (ob_36_c1 P) (.node (ob_68_c2 P) (.node (ob_132_c3 P) (.node (ob_260_c6 P) .nil .nil) .nil) (.node (ob_196_c4 P) .nil .nil)) (.node (ob_100_c2 P) (.node (ob_164_c4 P) (.node (ob_292_c6 P) .nil .nil) .nil) (.node (ob_228_c5 P) .nil .nil))) (.node (ob_52_c1 P) (.node (ob_84_c2 P) (.node (ob_148_c3 P) (.node (ob_276_c6 P) .nil .nil) .nil) (.node (ob_212_c4 P) .nil .nil)) (.node (ob_116_c3 P) (.node (ob_180_c4 P) .nil .nil) (.node (ob_244_c5 P) .nil .nil)))) (.node (ob_28_c1 P) (.node (ob_44_c1 P) (.node (ob_76_c2 P) (.node (ob_140_c3 P) (.node (ob_268_c6 P) .nil .nil) .nil) (.node (ob_204_c4 P) .nil .nil)) (.node (ob_108_c2 P) (.node (ob_172_c4 P) (.node (ob_300_c6 P) .nil .nil) .nil) (.node (ob_236_c5 P) .nil .nil))) (.node (ob_60_c2 P) (.node (ob_92_c2 P) (.node (ob_156_c4 P) (.node (ob_284_c6 P) .nil .nil) .nil) (.node (ob_220_c4 P) .nil .nil)) (.node (ob_124_c3 P) (.node (ob_188_c4 P) .nil .nil) (.node (ob_252_c5 P) .nil .nil)))))) (.node (boot_o_6 P) (.node (boot_o_10 P) (.node (ob_18_c1 P) (.node (ob_34_c1 P) (.node (ob_66_c2 P) (.node (ob_130_c3 P) (.node (ob_258_c6 P) .nil .nil) .nil) (.node (ob_194_c4 P) .nil .nil)) (.node (ob_98_c2 P) (.node (ob_162_c4 P) (.node (ob_290_c6 P) .nil .nil) .nil) (.node (ob_226_c4 P) .nil .nil))) (.node (ob_50_c1 P) (.node (ob_82_c2 P) (.node (ob_146_c3 P) (.node (ob_274_c6 P) .nil .nil) .nil) (.node (ob_210_c4 P) .nil .nil)) (.node (ob_114_c3 P) (.node (ob_178_c4 P) .nil .nil) (.node (ob_242_c5 P) .nil .nil)))) (.node (ob_26_c1 P) (.node (ob_42_c1 P) (.node (ob_74_c2 P) (.node (ob_138_c3 P) (.node (ob_266_c6 P) .nil .nil) .nil) (.node (ob_202_c4 P) .nil .nil)) (.node (ob_106_c2 P) (.node (ob_170_c4 P) (.node (ob_298_c6 P) .nil .nil) .nil) (.node (ob_234_c5 P) .nil .nil))) (.node (ob_58_c2 P) (.node (ob_90_c2 P) (.node (ob_154_c4 P) (.node (ob_282_c6 P) .nil .nil) .nil) (.node (ob_218_c4 P) .nil .nil)) (.node (ob_122_c3 P) (.node (ob_186_c4 P) .nil .nil) (.node (ob_250_c5 P) .nil .nil))))) (.node (ob_14_pre P) (.node (ob_22_c1 P) (.node (ob_38_c1 P) (.node (ob_70_c2 P) (.node (ob_134_c3 P) (.node (ob_262_c6 P) .nil .nil) .nil) (.node (ob_198_c4 P) .nil .nil)) (.node (ob_102_c2 P) (.node (ob_166_c4 P) (.node (ob_294_c6 P) .nil .nil) .nil) (.node (ob_230_c5 P) .nil .nil))) (.node (ob_54_c2 P) (.node (ob_86_c2 P) (.node (ob_150_c3 P) (.node (ob_278_c6 P) .nil .nil) .nil) (.node (ob_214_c4 P) .nil .nil)) (.node (ob_118_c3 P) (.node (ob_182_c4 P) .nil .nil) (.node (ob_246_c5 P) .nil .nil)))) (.node (ob_30_c1 P) (.node (ob_46_c1 P) (.node (ob_78_c2 P) (.node (ob_142_c3 P) (.node (ob_270_c6 P) .nil .nil) .nil) (.node (ob_206_c4 P) .nil .nil)) (.node (ob_110_c3 P) (.node (ob_174_c4 P) (.node (ob_302_c6 P) .nil .nil) .nil) (.node (ob_238_c5 P) .nil .nil))) (.node (ob_62_c2 P) (.node (ob_94_c2 P) (.node (ob_158_c4 P) (.node (ob_286_c6 P) .nil .nil) .nil) (.node (ob_222_c4 P) .nil .nil)) (.node (ob_126_c3 P) (.node (ob_190_c4 P) .nil .nil) (.node (ob_254_c5 P) .nil .nil))))))))
noncomputable def h_fin (P : Params) : Heap := ⟨⟨[boot_o_0 P, boot_o_1 P, ob_2_c1 P, ob_3_c6 P, boot_o_4 P, boot_o_5 P, boot_o_6 P, boot_o_7 P, boot_o_8 P, boot_o_9 P, boot_o_10 P, ob_11_pre P, ob_12_c6 P, ob_13_pre P, ob_14_pre P, ob_15_c1 P, ob_16_c1 P, ob_17_c1 P, ob_18_c1 P, ob_19_c1 P, ob_20_c1 P, ob_21_c1 P, ob_22_c1 P, ob_23_c1 P, ob_24_c1 P, ob_25_c1 P, ob_26_c1 P, ob_27_c1 P, ob_28_c1 P, ob_29_c1 P, ob_30_c1 P, ob_31_c1 P, ob_32_c1 P, ob_33_c1 P, ob_34_c1 P, ob_35_c1 P, ob_36_c1 P, ob_37_c1 P, ob_38_c1 P, ob_39_c1 P, ob_40_c1 P, ob_41_c1 P, ob_42_c1 P, ob_43_c1 P, ob_44_c1 P, ob_45_c1 P, ob_46_c1 P, ob_47_c1 P, ob_48_c1 P, ob_49_c1 P, ob_50_c1 P, ob_51_c1 P, ob_52_c1 P, ob_53_c1 P, ob_54_c2 P, ob_55_c2 P, ob_56_c2 P, ob_57_c2 P, ob_58_c2 P, ob_59_c2 P, ob_60_c2 P, ob_61_c2 P, ob_62_c2 P, ob_63_c2 P, ob_64_c2 P, ob_65_c2 P, ob_66_c2 P, ob_67_c2 P, ob_68_c2 P, ob_69_c2 P, ob_70_c2 P, ob_71_c2 P, ob_72_c2 P, ob_73_c2 P, ob_74_c2 P, ob_75_c2 P, ob_76_c2 P, ob_77_c2 P, ob_78_c2 P, ob_79_c2 P, ob_80_c2 P, ob_81_c2 P, ob_82_c2 P, ob_83_c2 P, ob_84_c2 P, ob_85_c2 P, ob_86_c2 P, ob_87_c2 P, ob_88_c2 P, ob_89_c2 P, ob_90_c2 P, ob_91_c2 P, ob_92_c2 P, ob_93_c2 P, ob_94_c2 P, ob_95_c2 P, ob_96_c2 P, ob_97_c2 P, ob_98_c2 P, ob_99_c2 P, ob_100_c2 P, ob_101_c2 P, ob_102_c2 P, ob_103_c2 P, ob_104_c2 P, ob_105_c2 P, ob_106_c2 P, ob_107_c2 P, ob_108_c2 P, ob_109_c2 P, ob_110_c3 P, ob_111_c3 P, ob_112_c3 P, ob_113_c3 P, ob_114_c3 P, ob_115_c3 P, ob_116_c3 P, ob_117_c3 P, ob_118_c3 P, ob_119_c3 P, ob_120_c3 P, ob_121_c3 P, ob_122_c3 P, ob_123_c3 P, ob_124_c3 P, ob_125_c3 P, ob_126_c3 P, ob_127_c3 P, ob_128_c3 P, ob_129_c3 P, ob_130_c3 P, ob_131_c3 P, ob_132_c3 P, ob_133_c3 P, ob_134_c3 P, ob_135_c3 P, ob_136_c3 P, ob_137_c3 P, ob_138_c3 P, ob_139_c3 P, ob_140_c3 P, ob_141_c3 P, ob_142_c3 P, ob_143_c3 P, ob_144_c3 P, ob_145_c3 P, ob_146_c3 P, ob_147_c3 P, ob_148_c3 P, ob_149_c3 P, ob_150_c3 P, ob_151_c4 P, ob_152_c4 P, ob_153_c4 P, ob_154_c4 P, ob_155_c4 P, ob_156_c4 P, ob_157_c4 P, ob_158_c4 P, ob_159_c4 P, ob_160_c4 P, ob_161_c4 P, ob_162_c4 P, ob_163_c4 P, ob_164_c4 P, ob_165_c4 P, ob_166_c4 P, ob_167_c4 P, ob_168_c4 P, ob_169_c4 P, ob_170_c4 P, ob_171_c4 P, ob_172_c4 P, ob_173_c4 P, ob_174_c4 P, ob_175_c4 P, ob_176_c4 P, ob_177_c4 P, ob_178_c4 P, ob_179_c4 P, ob_180_c4 P, ob_181_c4 P, ob_182_c4 P, ob_183_c4 P, ob_184_c4 P, ob_185_c4 P, ob_186_c4 P, ob_187_c4 P, ob_188_c4 P, ob_189_c4 P, ob_190_c4 P, ob_191_c4 P, ob_192_c4 P, ob_193_c4 P, ob_194_c4 P, ob_195_c4 P, ob_196_c4 P, ob_197_c4 P, ob_198_c4 P, ob_199_c4 P, ob_200_c4 P, ob_201_c4 P, ob_202_c4 P, ob_203_c4 P, ob_204_c4 P, ob_205_c4 P, ob_206_c4 P, ob_207_c4 P, ob_208_c4 P, ob_209_c4 P, ob_210_c4 P, ob_211_c4 P, ob_212_c4 P, ob_213_c4 P, ob_214_c4 P, ob_215_c4 P, ob_216_c4 P, ob_217_c4 P, ob_218_c4 P, ob_219_c4 P, ob_220_c4 P, ob_221_c4 P, ob_222_c4 P, ob_223_c4 P, ob_224_c4 P, ob_225_c4 P, ob_226_c4 P, ob_227_c4 P, ob_228_c5 P, ob_229_c5 P, ob_230_c5 P, ob_231_c5 P, ob_232_c5 P, ob_233_c5 P, ob_234_c5 P, ob_235_c5 P, ob_236_c5 P, ob_237_c5 P, ob_238_c5 P, ob_239_c5 P, ob_240_c5 P, ob_241_c5 P, ob_242_c5 P, ob_243_c5 P, ob_244_c5 P, ob_245_c5 P, ob_246_c5 P, ob_247_c5 P, ob_248_c5 P, ob_249_c5 P, ob_250_c5 P, ob_251_c5 P, ob_252_c5 P, ob_253_c5 P, ob_254_c5 P, ob_255_c5 P, ob_256_c5 P, ob_257_c6 P, ob_258_c6 P, ob_259_c6 P, ob_260_c6 P, ob_261_c6 P, ob_262_c6 P, ob_263_c6 P, ob_264_c6 P, ob_265_c6 P, ob_266_c6 P, ob_267_c6 P, ob_268_c6 P, ob_269_c6 P, ob_270_c6 P, ob_271_c6 P, ob_272_c6 P, ob_273_c6 P, ob_274_c6 P, ob_275_c6 P, ob_276_c6 P, ob_277_c6 P, ob_278_c6 P, ob_279_c6 P, ob_280_c6 P, ob_281_c6 P, ob_282_c6 P, ob_283_c6 P, ob_284_c6 P, ob_285_c6 P, ob_286_c6 P, ob_287_c6 P, ob_288_c6 P, ob_289_c6 P, ob_290_c6 P, ob_291_c6 P, ob_292_c6 P, ob_293_c6 P, ob_294_c6 P, ob_295_c6 P, ob_296_c6 P, ob_297_c6 P, ob_298_c6 P, ob_299_c6 P, ob_300_c6 P, ob_301_c6 P, ob_302_c6 P, ob_303_c6 P, ob_304_c6 P, ob_305_c6 P]⟩, (boot_heap P).life⟩
end Mine

open PySem PySem.W PyProof.Rows
set_option maxRecDepth 1000000
set_option maxHeartbeats 20000000
namespace Mine
noncomputable def bdy : List Stmt := behindTheImports PySem.Challenge.pw_no0246_01
noncomputable def evm : Env := { scope := PySem.Challenge.pw_no0246_01.main.scope, locals := mainNs, globals := mainNs, cells := [], code := .ref 13, frame := some 14 }
noncomputable def cdm : Code := .body bdy evm
noncomputable def sT (t : Params → BT) (n k : Nat) (w : World) (os : OsState) : SharedT := ⟨t w.params, n, (boot_heap w.params).life, Array.mk [], boot_drawn, k, os⟩
theorem p_pre (w : World) (os : OsState) : topGo treeTable PySem.Challenge.pw_no0246_01 w 11 (some (.ref 6)) 12 ⟨boot_heap w.params, Array.mk [], boot_drawn, boot_toks, os⟩ (topStub PySem.Challenge.pw_no0246_01) =
    some ((sT t_pre 15 187 w os).abs, ⟨denote treeTable cdm, cdm, ⟨0, 0, 0, 0⟩, [topFrame ⟨0, 0, 0, 0⟩]⟩) := by kernel_rfl
theorem p_block (w : World) (os : OsState) : segRunT treeTable PySem.Challenge.pw_no0246_01 w 11 (some (.ref 6)) 1 1 (sT t_pre 15 187 w os) (blockOf bdy evm cdm ⟨0, 0, 0, 0⟩ [topFrame ⟨0, 0, 0, 0⟩]) =
    some (.next, sT t_pre 15 187 w os, cdm, ⟨0, 0, 0, 0⟩) := by kernel_rfl
theorem p_1 (w : World) (os : OsState) : segRunT treeTable PySem.Challenge.pw_no0246_01 w 11 (some (.ref 6)) 1 500 (sT t_pre 15 187 w os) (piecesOf (sts 0 3) evm cdm ⟨0, 0, 0, 0⟩ [topFrame ⟨0, 0, 0, 0⟩]) =
    some (.next, sT t_c1 54 244 w os, cdm, ⟨7, 0, 11, 20⟩) := by kernel_rfl
theorem p_2 (w : World) (os : OsState) : segRunT treeTable PySem.Challenge.pw_no0246_01 w 11 (some (.ref 6)) 1 500 (sT t_c1 54 244 w os) (piecesOf (sts 3 11) evm cdm ⟨7, 0, 11, 20⟩ [topFrame ⟨0, 0, 0, 0⟩]) =
    some (.next, sT t_c2 110 332 w os, cdm, ⟨97, 0, 102, 13⟩) := by kernel_rfl
theorem p_3 (w : World) (os : OsState) : segRunT treeTable PySem.Challenge.pw_no0246_01 w 11 (some (.ref 6)) 1 500 (sT t_c2 110 332 w os) (piecesOf (sts 14 6) evm cdm ⟨97, 0, 102, 13⟩ [topFrame ⟨0, 0, 0, 0⟩]) =
    some (.next, sT t_c3 151 417 w os, cdm, ⟨108, 0, 108, 6⟩) := by kernel_rfl
theorem p_4 (w : World) (os : OsState) : segRunT treeTable PySem.Challenge.pw_no0246_01 w 11 (some (.ref 6)) 1 500 (sT t_c3 151 417 w os) (piecesOf (sts 20 11) evm cdm ⟨108, 0, 108, 6⟩ [topFrame ⟨0, 0, 0, 0⟩]) =
    some (.next, sT t_c4 228 517 w os, cdm, ⟨203, 0, 216, 13⟩) := by kernel_rfl
theorem p_5 (w : World) (os : OsState) : segRunT treeTable PySem.Challenge.pw_no0246_01 w 11 (some (.ref 6)) 1 500 (sT t_c4 228 517 w os) (piecesOf (sts 31 8) evm cdm ⟨203, 0, 216, 13⟩ [topFrame ⟨0, 0, 0, 0⟩]) =
    some (.next, sT t_c5 257 585 w os, cdm, ⟨227, 0, 244, 37⟩) := by kernel_rfl
theorem p_6 (w : World) (os : OsState) : segRunT treeTable PySem.Challenge.pw_no0246_01 w 11 (some (.ref 6)) 1 500 (sT t_c5 257 585 w os) (piecesOf (sts 39 7) evm cdm ⟨227, 0, 244, 37⟩ [topFrame ⟨0, 0, 0, 0⟩]) =
    some (.next, sT t_c6 306 664 w os, cdm, ⟨324, 0, 348, 15⟩) := by kernel_rfl
theorem p_fin (w : World) (os : OsState) : topRun treeTable PySem.Challenge.pw_no0246_01 w 11 (some (.ref 6)) 2 (sT t_c6 306 664 w os).abs ⟨doneF .next, cdm, ⟨324, 0, 348, 15⟩, [topFrame ⟨0, 0, 0, 0⟩]⟩ =
    some ⟨h_fin w.params, Array.mk [], boot_drawn, 664, os⟩ := by kernel_rfl
theorem bdy_cut : sts 0 3 ++ (sts 3 11 ++ (sts 14 6 ++ (sts 20 11 ++ (sts 31 8 ++ (sts 39 7 ++ []))))) = bdy := by kernel_rfl
end Mine

open PySem PySem.W PyProof.Rows
set_option maxRecDepth 1000000
set_option maxHeartbeats 20000000
namespace Mine
noncomputable def fuelT : Nat := 12 + (1 + (500 + (500 + (500 + (500 + (500 + (500 + 2)))))))
theorem rest_of {l l' : List Stmt} {N : Nat} {w : World} {s r : Shared} (h : l = l') (k : topRun treeTable PySem.Challenge.pw_no0246_01 w 11 (some (.ref 6)) N s (restOf l evm cdm ⟨0, 0, 0, 0⟩ [topFrame ⟨0, 0, 0, 0⟩]) = some r) :
    topRun treeTable PySem.Challenge.pw_no0246_01 w 11 (some (.ref 6)) N s (restOf l' evm cdm ⟨0, 0, 0, 0⟩ [topFrame ⟨0, 0, 0, 0⟩]) = some r := by
  cases h; exact k
theorem top_run (w : World) (os : OsState) : topRun treeTable PySem.Challenge.pw_no0246_01 w 11 (some (.ref 6)) fuelT ⟨boot_heap w.params, Array.mk [], boot_drawn, boot_toks, os⟩ (topStub PySem.Challenge.pw_no0246_01) =
    some ⟨h_fin w.params, Array.mk [], boot_drawn, 664, os⟩ :=
  go_top (p_pre w os) (piece_block (segRun_of (p_block w os)) (rest_of bdy_cut
    (piece_app (l := sts 0 3) (segRun_of (p_1 w os)) (piece_app (l := sts 3 11) (segRun_of (p_2 w os)) (piece_app (l := sts 14 6) (segRun_of (p_3 w os)) (piece_app (l := sts 20 11) (segRun_of (p_4 w os)) (piece_app (l := sts 31 8) (segRun_of (p_5 w os)) (piece_app (l := sts 39 7) (segRun_of (p_6 w os)) (piece_nil (p_fin w os))))))))))
theorem top_open : ∀ w : World, (fencedOpening treeTable PySem.Challenge.pw_no0246_01 w 4000).map (fun s => (s.heap, s.gens, s.drawn, s.toks)) = some (boot_heap w.params, Array.mk [], boot_drawn, boot_toks) :=
  boot_open (by kernel_rfl) (by kernel_rfl) (fun s => by kernel_rfl)
theorem top_size : ∀ w : World, ((boot_heap w.params).isNs mainGlobals && (Array.mk ([] : List GenState)).size == 0, (boot_heap w.params).objs.size, (boot_heap w.params).nsMap mainGlobals "__annotations__") = (true, 11, some (.ref 6)) := by
  intro w; kernel_rfl
end Mine

open PySem PySem.W PyProof.Rows
set_option maxRecDepth 1000000
set_option maxHeartbeats 20000000
namespace Mine
noncomputable def qv : Program := view PySem.Challenge.pw_no0246_01 [45]
noncomputable def lz : List Str := (["F77Error", "LexFault", "DIGITS_squeeze", "AHEAD_OF_COUNT", "capital", "constant_end", "count_end", "hollerith", "squeeze", "squeezed", "depths", "closing", "DIGITS_classify", "LETTERS", "WHOLE", "TYPES", "BEGINS", "name_end", "digits_end", "is_target", "is_balanced", "equals_at", "is_do_head", "word_of_if", "word_of_goto", "word_of_type", "word_by_begin", "classify", "_law_pieces", "_law_whole", "_law_begins", "_law_letters", "_law_digits", "_law_lone", "_law_outline", "_law_first", "_law_is_name", "_law_is_target", "_law_typed", "_law_word", "_law_spread"] : List String).map Str.ofString
noncomputable def fragAt (as : List Addr) (h : Heap) : Frag := as.filterMap fun a => (h.get? a).map fun o => (a, o)
theorem fragAt_in (as : List Addr) (h : Heap) : (fragAt as h).In h := by
  intro a o e
  induction as with
  | nil => cases e
  | cons b r ih =>
    unfold fragAt at e
    rw [List.filterMap_cons] at e
    split at e
    · exact ih e
    · rename_i p hp
      obtain ⟨x, hx, rfl⟩ := Option.map_eq_some_iff.mp hp
      rw [List.lookup_cons] at e
      split at e
      · rename_i q
        rw [beq_iff_eq.mp q]
        cases e
        exact hx
      · exact ih e
noncomputable def kOk (K : Frag) : Bool := finfo.all (funOk K) && (funOk K f_law && (glOk K && (bnOk K && (fnsOk K && isDef K ("law" : Str) 305))))
noncomputable def seenK (s : Shared) : Bool := kOk (fragAt (List.range 306) s.heap)
noncomputable def s_fin (w : World) (os : OsState) : Shared := ⟨h_fin w.params, Array.mk [], boot_drawn, 664, os⟩
theorem look_1 (w : World) (os : OsState) : (staticsOk (importedModules PySem.Challenge.pw_no0246_01.main.body) (boot_heap w.params) (h_fin w.params) && namesBound PySem.Challenge.pw_no0246_01 (h_fin w.params) && gensDone (s_fin w os) && laidKept (boot_heap w.params) (h_fin w.params)) = true := by kernel_rfl
theorem look_2 (w : World) (os : OsState) : openSeen qv lz (importedModules PySem.Challenge.pw_no0246_01.main.body) (fun s => xlAt qv [] s && recOk [] s) true (s_fin w os) = openGood qv lz := by kernel_rfl
noncomputable def k_fin (w : World) : Frag := fragAt (List.range 306) (h_fin w.params)
theorem k_1 (w : World) : finfo.all (funOk (k_fin w)) = true := by kernel_rfl
theorem k_2 (w : World) : funOk (k_fin w) f_law = true := by kernel_rfl
theorem k_3 (w : World) : glOk (k_fin w) = true := by kernel_rfl
theorem k_4 (w : World) : bnOk (k_fin w) = true := by kernel_rfl
theorem k_5 (w : World) : fnsOk (k_fin w) = true := by kernel_rfl
theorem k_6 (w : World) : isDef (k_fin w) ("law" : Str) 305 = true := by kernel_rfl
theorem kOk_of {K : Frag} (h1 : finfo.all (funOk K) = true) (h2 : funOk K f_law = true) (h3 : glOk K = true) (h4 : bnOk K = true) (h5 : fnsOk K = true) (h6 : isDef K ("law" : Str) 305 = true) : kOk K = true := by
  unfold kOk
  rw [h1, h2, h3, h4, h5, h6]; rfl
theorem seen_eq (w : World) (os : OsState) : seenK (s_fin w os) = kOk (k_fin w) := by
  unfold seenK s_fin k_fin; rfl
theorem k_all (w : World) (os : OsState) : seenK (s_fin w os) = true := (seen_eq w os).trans (kOk_of (k_1 w) (k_2 w) (k_3 w) (k_4 w) (k_5 w) (k_6 w))
end Mine

open PySem PySem.W PyProof.Rows
set_option maxRecDepth 1000000
set_option maxHeartbeats 20000000
namespace Mine
theorem pair3 {α β γ : Type} {a a' : α} {b b' : β} {c c' : γ} (x : a = a') (y : b = b') (z : c = c') : (a, b, c) = (a', b', c') := by rw [x, y, z]
theorem looks_all (w : World) (os : OsState) : ((staticsOk (importedModules PySem.Challenge.pw_no0246_01.main.body) (boot_heap w.params) (h_fin w.params) && namesBound PySem.Challenge.pw_no0246_01 (h_fin w.params) && gensDone ⟨h_fin w.params, Array.mk [], boot_drawn, 664, os⟩ && laidKept (boot_heap w.params) (h_fin w.params)),
    openSeen qv lz (importedModules PySem.Challenge.pw_no0246_01.main.body) (fun s => xlAt qv [] s && recOk [] s) true ⟨h_fin w.params, Array.mk [], boot_drawn, 664, os⟩, seenK ⟨h_fin w.params, Array.mk [], boot_drawn, 664, os⟩) = (true, openGood qv lz, true) :=
  pair3 (look_1 w os) (look_2 w os) (k_all w os)
theorem lawLeft : LeftO PySem.Challenge.pw_no0246_01 qv lz (fun s => xlAt qv [] s && recOk [] s) seenK (fun _ => true) 4000 :=
  LeftO.of_pieces (p := PySem.Challenge.pw_no0246_01) (q := qv) (loose := lz) (Xt := fun s => xlAt qv [] s && recOk [] s) (Yf := seenK) (Ya := fun _ => true) (N := 4000) (g0 := true)
    (H₀ := boot_heap) (H₁ := h_fin) (gs₀ := Array.mk []) (gs₁ := Array.mk []) (d₀ := boot_drawn) (d₁ := boot_drawn) (k₀ := boot_toks) (k₁ := 664) (m₀ := 11) (ann := some (.ref 6)) (M := fuelT)
    top_open top_size top_run (by kernel_rfl) (fun w => funext fun os => looks_all w os)
end Mine

open PySem PySem.W PyProof.Rows
set_option maxRecDepth 1000000
set_option maxHeartbeats 20000000
namespace Mine
theorem dfl_some : (defOf qv PySem.Challenge.rw_no0246_01.row.name).isSome = true := by kernel_rfl
noncomputable def dfl : DefRec × List (Str × Expr) := (defOf qv PySem.Challenge.rw_no0246_01.row.name).get dfl_some
theorem dfl_eq : defOf qv PySem.Challenge.rw_no0246_01.row.name = some (dfl.1, dfl.2) := (Option.some_get dfl_some).symm
theorem dfl_p : PySem.Challenge.rw_no0246_01.row.prog.theDef PySem.Challenge.rw_no0246_01.row.name = some (dfl.1.params, dfl.1.body, dfl.1.scope) := by kernel_rfl
theorem dfl_k : kwWritten? dfl.1.params.kwonlyargs dfl.1.params.kw_defaults = some dfl.2 := by kernel_rfl
theorem dfl_n : dfl.1.name = ("law" : Str) := by kernel_rfl

theorem bn_boot : ∀ n v, (n, v) ∈ bnames → bootBuiltins (Str.ofString n) = some v := by
  intro n v h
  unfold bnames at h
  rcases List.mem_cons.mp h with e | h
  · cases e; first | rfl | boot_by_name
  rcases List.mem_cons.mp h with e | h
  · cases e; first | rfl | boot_by_name
  rcases List.mem_cons.mp h with e | h
  · cases e; first | rfl | boot_by_name
  rcases List.mem_cons.mp h with e | h
  · cases e; first | rfl | boot_by_name
  rcases List.mem_cons.mp h with e | h
  · cases e; first | rfl | boot_by_name
  rcases List.mem_cons.mp h with e | h
  · cases e; first | rfl | boot_by_name
  rcases List.mem_cons.mp h with e | h
  · cases e; first | rfl | boot_by_name
  cases h
theorem row_h5 : (chainsOk qv && opensWell PySem.Challenge.rw_no0246_01.row.prog && (frees PySem.Challenge.rw_no0246_01.row.toRowW && PySem.Challenge.rw_no0246_01.row.within.isEmpty)) = true := by kernel_rfl
theorem row_h6 : PySem.Challenge.rw_no0246_01.row.prog.bare := ⟨rfl, rfl, rfl, rfl, rfl, by decide +kernel⟩
theorem row_hw : PySem.Challenge.rw_no0246_01.row.toRowW.promised := by w_witness2
noncomputable def YQ (_ : World) (h : Heap) : Prop := ∃ K : Frag, K.In h ∧ kOk K = true
theorem row_hc : WalkO qv lz (XL qv []) YQ PySem.Challenge.rw_no0246_01.row.toRowW dfl.1 dfl.2 fun f vs => PySem.call f vs := by
  intro w s₀ s₁ mg mb G Y fa o pm cd doc dV kV ho hd hcd hD hmg hg args vals as hpre hlay hrd hwl hlo
  obtain ⟨K, KX, ok⟩ := Y
  simp only [kOk, Bool.and_eq_true] at ok
  obtain ⟨o1, o2, o3, o4, o5, o6⟩ := ok
  clear hcd hD hd ho
  refine Ground.open G ?_
  intro T B D TE TW
  have hfa := isDef_ok KX T.g o6
  rw [dfl_n] at hmg
  wrow_args hpre hlay hrd hwl hlo
  rename_i hL _ _ _ hI _ hlen _
  have e : fa = 305 := by
    have := hmg.symm.trans hfa
    injection this with this
    injection this
  subst e
  have GG := gl_make (prog := PySem.Challenge.rw_no0246_01.row.prog) (w := w) KX T.g T.b T.nolimit T.builtins bn_boot o3 o4 o5 o1
  refine wpAny_mono (law_call o1 o2 rfl (by decide +kernel) GG hL hI (by omega)) (fun v s' h => ?_) fun _ _ e => e.elim
  obtain ⟨⟨h', tk, rfl, k⟩, rv⟩ := h
  cases rv
  refine GoodW.toG ⟨.inl ⟨.bool true, .bool true, [], rfl, ?_, .bool true, ?_, unshared_nil⟩, k, rfl, hg⟩
  · exact raisesW_false (by wrow_none_raised)
  · wrow_post
theorem lk_res : namesResolve PySem.Challenge.rw_no0246_01.row.prog = true := by kernel_rfl
theorem lk_road : noRoadLSs { strict := !(importedModules PySem.Challenge.rw_no0246_01.row.prog.main.body).all cThrough.contains, foot := none, bare := (["vars", "dir", "locals"] : List Str).filter (readsOut PySem.Challenge.rw_no0246_01.row.prog PySem.Challenge.rw_no0246_01.row.prog.main.body) } PySem.Challenge.rw_no0246_01.row.prog.main.body = true := by kernel_rfl
theorem lk_meet : (namesMeet PySem.Challenge.rw_no0246_01.row.prog PySem.Challenge.rw_no0246_01.row.prog.main.body fun _ n => attrL n) = true := by kernel_rfl
theorem row_looks : looksOpen PySem.Challenge.rw_no0246_01.row.prog = true := by
  delta looksOpen
  repeat' (with_reducible refine look_both ?_ ?_)
  any_goals (with_reducible exact lk_res)
  any_goals (with_reducible exact lk_road)
  any_goals (with_reducible exact lk_meet)
  all_goals kernel_rfl
theorem row_said : PySem.Challenge.rw_no0246_01.row.wellSaid = true := by
  delta OpenRow.wellSaid OpenRow.partSaid
  repeat' (with_reducible refine look_both ?_ ?_)
  any_goals (with_reducible exact row_looks)
  all_goals kernel_rfl
theorem law_road : noRoadLSs { strict := true, foot := some PySem.Challenge.rw_no0246_01.bound', writes := PySem.Challenge.rw_no0246_01.writes, may := PySem.Challenge.rw_no0246_01.may } PySem.Challenge.rw_no0246_01.footing = true := by kernel_rfl
theorem law_bound : (PySem.Challenge.rw_no0246_01.bound'.all (fun n => !builtinNamed n || PySem.Challenge.rw_no0246_01.about == [n] || !PySem.Challenge.rw_no0246_01.reads n)) = true := by kernel_rfl
theorem law_said : PySem.Challenge.rw_no0246_01.wellSaid = true := by
  delta OpenLaw.wellSaid
  repeat' (with_reducible refine look_both ?_ ?_)
  any_goals (with_reducible exact row_said)
  any_goals (with_reducible exact law_road)
  any_goals (with_reducible exact law_bound)
  all_goals kernel_rfl
end Mine
open Mine
theorem PySem.Challenge.cw_no0246_01_holds : PySem.Challenge.rw_no0246_01.Holds := by
  w_on
  refine holds_law law_said fun said => ?_
  exact holds_open lawLeft (fun _ s e => ⟨_, fragAt_in _ s.heap, e⟩) (fun _ _ _ ⟨K, x, e⟩ k => ⟨K, x.keeps k, e⟩) (fun s e => xl_of s (Bool.and_eq_true_iff.mp e).1) XL.keeps dfl_eq dfl_p dfl_k (fun s e => recFacts_of (Bool.and_eq_true_iff.mp e).2) (by rfl) said row_h5 row_h6 row_hw row_hc
