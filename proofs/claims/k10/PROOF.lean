import PyProof.Rows.All
import Wide.All
import OpenK.AllK
import Wide.FinOn
import HandS.ForMost
import HandS.IsInst
import HandS.TupAny
import HandS.Deep
import HandS.Wide
import HandS.Conv
import HandS.Zip
import HandS.Style
import PySem.Challenge.RW_fewpans_k10_codes_run
set_option Elab.async false
set_option linter.all false
/-! A small language of my own and its evaluator: what the defs compute, over plain data. -/
namespace Fp
abbrev Tx := List Nat

/-- data: ref is a place among the mutable objects, scr the script -/
inductive D where
  | non | bl (b : Bool) | int (i : Int) | str (s : Tx) | tup (ds : List D) | lst (ds : List D) | scr (ns : List Int) | ref (l : Nat)

mutual
def D.dec : (a b : D) → Decidable (a = b)
  | .non, .non => isTrue rfl
  | .bl a, .bl b => if h : a = b then isTrue (by rw [h]) else isFalse (fun e => h (D.bl.inj e))
  | .int a, .int b => if h : a = b then isTrue (by rw [h]) else isFalse (fun e => h (D.int.inj e))
  | .str a, .str b => if h : a = b then isTrue (by rw [h]) else isFalse (fun e => h (D.str.inj e))
  | .scr a, .scr b => if h : a = b then isTrue (by rw [h]) else isFalse (fun e => h (D.scr.inj e))
  | .ref a, .ref b => if h : a = b then isTrue (by rw [h]) else isFalse (fun e => h (D.ref.inj e))
  | .tup a, .tup b => match D.decL a b with | isTrue h => isTrue (by rw [h]) | isFalse h => isFalse (fun e => h (D.tup.inj e))
  | .lst a, .lst b => match D.decL a b with | isTrue h => isTrue (by rw [h]) | isFalse h => isFalse (fun e => h (D.lst.inj e))
  | .non, .bl _ | .non, .int _ | .non, .str _ | .non, .tup _ | .non, .lst _ | .non, .scr _ | .non, .ref _ => isFalse nofun
  | .bl _, .non | .bl _, .int _ | .bl _, .str _ | .bl _, .tup _ | .bl _, .lst _ | .bl _, .scr _ | .bl _, .ref _ => isFalse nofun
  | .int _, .non | .int _, .bl _ | .int _, .str _ | .int _, .tup _ | .int _, .lst _ | .int _, .scr _ | .int _, .ref _ => isFalse nofun
  | .str _, .non | .str _, .bl _ | .str _, .int _ | .str _, .tup _ | .str _, .lst _ | .str _, .scr _ | .str _, .ref _ => isFalse nofun
  | .tup _, .non | .tup _, .bl _ | .tup _, .int _ | .tup _, .str _ | .tup _, .lst _ | .tup _, .scr _ | .tup _, .ref _ => isFalse nofun
  | .lst _, .non | .lst _, .bl _ | .lst _, .int _ | .lst _, .str _ | .lst _, .tup _ | .lst _, .scr _ | .lst _, .ref _ => isFalse nofun
  | .scr _, .non | .scr _, .bl _ | .scr _, .int _ | .scr _, .str _ | .scr _, .tup _ | .scr _, .lst _ | .scr _, .ref _ => isFalse nofun
  | .ref _, .non | .ref _, .bl _ | .ref _, .int _ | .ref _, .str _ | .ref _, .tup _ | .ref _, .lst _ | .ref _, .scr _ => isFalse nofun
def D.decL : (a b : List D) → Decidable (a = b)
  | [], [] => isTrue rfl
  | x :: xs, y :: ys => match D.dec x y, D.decL xs ys with
    | isTrue h, isTrue k => isTrue (by rw [h, k])
    | isFalse h, _ => isFalse (fun e => h (List.cons.inj e).1)
    | _, isFalse k => isFalse (fun e => k (List.cons.inj e).2)
  | [], _ :: _ => isFalse nofun
  | _ :: _, [] => isFalse nofun
end
instance : DecidableEq D := D.dec

/-- a mutable object -/
inductive MO where
  | lst (ds : List D)
  | ins (c : Nat) (fs : List (Tx × D))
  deriving DecidableEq
abbrev Ms := List MO
abbrev Sl := List (Option D)

/-! ### operations -/
inductive Bop | add | sub | mul | fdiv | mod
inductive Cop | lt | le | gt | ge | eq | ne | is_ | isn | mem | nmem
inductive Ty | tuple | str | int | bool

mutual
def D.eqv : D → D → Bool
  | .non, .non => true
  | .bl a, .bl b => a == b
  | .bl a, .int j => (if a then 1 else 0) == j
  | .int i, .bl b => i == (if b then 1 else 0)
  | .int i, .int j => i == j
  | .str x, .str y => x == y
  | .lst xs, .lst ys => D.eqvL xs ys
  | .tup xs, .tup ys => D.eqvL xs ys
  | _, _ => false
def D.eqvL : List D → List D → Bool
  | [], [] => true
  | x :: xs, y :: ys => D.eqv x y && D.eqvL xs ys
  | [], _ :: _ => false
  | _ :: _, [] => false
end
/-- plain data, at most so deep -/
def D.ok : Nat → D → Bool
  | _, .non | _, .bl _ | _, .int _ | _, .str _ => true
  | n + 1, .tup ds => ds.all (D.ok n)
  | n + 1, .lst ds => ds.all (D.ok n)
  | _, _ => false
def D.flat : D → Bool
  | .non | .bl _ | .int _ | .str _ => true
  | _ => false
def lim : Nat := 100000
def big : Nat := 2 ^ 4096
def mulOk (i j : Int) : Bool := decide (i.natAbs < 2 ^ 63) || decide (j.natAbs < 2 ^ 63) || (decide (i.natAbs < big) && decide (j.natAbs < big))
def binD : Bop → D → D → Option D
  | .add, .int i, .int j => some (.int (i + j))
  | .add, .str s, .str t => if s.length + t.length ≤ lim then some (.str (s ++ t)) else none
  | .add, .lst s, .lst t => if s.length + t.length ≤ lim then some (.lst (s ++ t)) else none
  | .add, .tup s, .tup t => if s.length + t.length ≤ lim then some (.tup (s ++ t)) else none
  | .sub, .int i, .int j => some (.int (i - j))
  | .mul, .int i, .int j => if mulOk i j then some (.int (i * j)) else none
  | .mul, .lst ds, .int k => if 0 ≤ k ∧ k ≤ 1000 ∧ ds.length = 1 then some (.lst (List.replicate k.toNat ds).flatten) else none
  | .fdiv, .int i, .int j => if 0 < j ∧ j < 1073741824 then some (.int (i / j)) else none
  | .mod, .int i, .int j => if 0 < j then some (.int (i % j)) else none
  | _, _, _ => none
def cmpD : Cop → D → D → Option Bool
  | .lt, .int i, .int j => some (decide (i < j))
  | .le, .int i, .int j => some (decide (i ≤ j))
  | .gt, .int i, .int j => some (decide (j < i))
  | .ge, .int i, .int j => some (decide (j ≤ i))
  | .eq, x, y => if x.ok 50 && y.ok 50 then some (x.eqv y) else none
  | .ne, x, y => if x.ok 50 && y.ok 50 then some (!(x.eqv y)) else none
  | .is_, x, .non => some (match x with | .non => true | _ => false)
  | .isn, x, .non => some (match x with | .non => false | _ => true)
  | .mem, .str [c], .str z => some (decide (c ∈ z))
  | .nmem, .str [c], .str z => some (!decide (c ∈ z))
  | .mem, x, .tup ds => if x.flat && ds.all D.flat then some (ds.any fun z => z.eqv x) else none
  | .nmem, x, .tup ds => if x.flat && ds.all D.flat then some (!(ds.any fun z => z.eqv x)) else none
  | .mem, x, .lst ds => if x.ok 50 && ds.all (D.ok 49) then some (ds.any fun z => z.eqv x) else none
  | .nmem, x, .lst ds => if x.ok 50 && ds.all (D.ok 49) then some (!(ds.any fun z => z.eqv x)) else none
  | _, _, _ => none
def isiD : Ty → D → Option Bool
  | .tuple, .tup _ => some true
  | .str, .str _ => some true
  | .int, .int _ => some true
  | .int, .bl _ => some true
  | .bool, .bl _ => some true
  | _, .ref _ => none
  | _, .scr _ => none
  | _, _ => some false
/-- a place counted from either end -/
def ixD (n : Nat) (i : Int) : Option Nat := if 0 ≤ i then (if i < n then some i.toNat else none) else if -(n : Int) ≤ i then some (i + n).toNat else none
def atD {α : Type} (xs : List α) (i : Int) : Option α := (ixD xs.length i).bind fun j => xs[j]?
/-- the items of a list that may be a mutable one -/
def itemsD (M : Ms) : D → Option (List D)
  | .tup ds => some ds
  | .lst ds => some ds
  | .ref l => match M[l]? with | some (.lst ds) => some ds | _ => none
  | _ => none
def idxD (M : Ms) : D → D → Option D
  | .str s, .int i => if s.length ≤ lim then (atD s i).map fun c => .str [c] else none
  | .scr ns, .int i => (atD ns i).map .int
  | x, .int i => (itemsD M x).bind fun ds => atD ds i
  | _, _ => none
def sIxD (n d : Nat) : Option Int → Nat
  | none => d
  | some v => if v < 0 then (v + (n : Int)).toNat else min v.toNat n
def cutL {α : Type} (xs : List α) (lo hi : Option Int) : List α := (xs.drop (sIxD xs.length 0 lo)).take (sIxD xs.length xs.length hi - sIxD xs.length 0 lo)
def slD (lo hi : Option Int) : D → Option D
  | .str s => if s.length ≤ lim then some (.str (cutL s lo hi)) else none
  | .tup ds => some (.tup (cutL ds lo hi))
  | .lst ds => some (.lst (cutL ds lo hi))
  | _ => none
def lenD (M : Ms) : D → Option D
  | .str s => if s.length ≤ lim then some (.int s.length) else none
  | .scr ns => some (.int ns.length)
  | x => (itemsD M x).map fun ds => .int ds.length
def intD : D → Option D
  | .int i => some (.int i)
  | .bl b => some (.int (if b then 1 else 0))
  | _ => none
def digits (i : Int) : Tx := (toString i).toList.map Char.toNat
/-- texts by their signs -/
def leT : Tx → Tx → Bool
  | [], _ => true
  | _ :: _, [] => false
  | a :: s, b :: t => if a < b then true else if b < a then false else leT s t
def insT (x : Tx) : List Tx → List Tx
  | [] => [x]
  | y :: r => if leT x y then x :: y :: r else y :: insT x r
def sortT : List Tx → List Tx
  | [] => []
  | x :: r => insT x (sortT r)
def txs : List D → Option (List Tx)
  | [] => some []
  | .str s :: r => (txs r).map fun t => s :: t
  | _ => none
def firstD (y : D) : List D → Option Nat
  | [] => none
  | x :: r => if x.eqv y then some 0 else (firstD y r).map (· + 1)
inductive Un
  | neg | len | isi (t : Ty) | int | abs | tup | lst | range | str | sorted | sortedSet | findLR
def unD (M : Ms) : Un → D → Option D
  | .neg, .int i => some (.int (-i))
  | .len, x => lenD M x
  | .isi t, x => (isiD t x).map .bl
  | .int, x => intD x
  | .abs, .int i => some (.int (if i < 0 then -i else i))
  | .tup, x => (itemsD M x).map .tup
  | .lst, .tup ds => some (.lst ds)
  | .lst, .lst ds => some (.lst ds)
  | .range, .int n => if 0 ≤ n ∧ n ≤ 1000 then some (.lst ((List.range n.toNat).map fun (k : Nat) => D.int k)) else none
  | .str, .int i => if i.natAbs < 2 ^ 63 then some (.str (digits i)) else none
  | .sorted, .lst ds => (txs ds).bind fun ts => if ts.length < 64 then some (.lst ((sortT ts).map .str)) else none
  | .sorted, .ref l => match M[l]? with | some (.lst ds) => (txs ds).bind fun ts => if ts.length < 64 then some (.lst ((sortT ts).map .str)) else none | _ => none
  | .findLR, .str [c] => some (.int (if c = 108 then 0 else if c = 114 then 1 else -1))
  | .sortedSet, .tup ds => (txs ds).bind fun ts => if ts.length < 64 ∧ ts.Nodup then some (.lst ((sortT ts).map .str)) else none
  | _, _ => none
inductive Bi | max | starts | index
def biD : Bi → D → D → Option D
  | .max, .int i, .int j => some (.int (if j > i then j else i))
  | .starts, .str s, .str t => some (.bl (t.isPrefixOf s))
  | .index, .lst ds, y => if y.flat && ds.all D.flat then (firstD y ds).map fun (j : Nat) => D.int (j : Int) else none
  | _, _, _ => none
def lookA (n : Tx) : List (Tx × D) → Option D
  | [] => none
  | (m, d) :: r => if m = n then some d else lookA n r
def putA (n : Tx) (d : D) : List (Tx × D) → List (Tx × D)
  | [] => [(n, d)]
  | (m, e) :: r => if m = n then (m, d) :: r else (m, e) :: putA n d r
def attrD (M : Ms) (n : Tx) : D → Option D
  | .ref l => match M[l]? with | some (.ins _ fs) => lookA n fs | _ => none
  | _ => none
def revD : D → Option D
  | .tup ds => some (.tup ds.reverse)
  | _ => none

/-! ### the language -/
mutual
inductive PX where
  | var (i : Nat)
  | cst (d : D)
  | bin (o : Bop) (a b : PX)
  | un (o : Un) (a : PX)
  | bi (o : Bi) (a b : PX)
  | cmp (o : Cop) (a b : PX)
  | chain (o o2 : Cop) (a b c : PX)
  | and (a b : PX)
  | or (a b : PX)
  | not (a : PX)
  | tup (as : PA)
  | lst (as : PA)
  | idx (a i : PX)
  | slF (a lo : PX)
  | slT (a hi : PX)
  | slB (a lo hi : PX)
  | rev (a : PX)
  | attr (a : PX) (n : Tx)
  | call (f : Nat) (as : PA)
  | meth (c : Nat) (m : Tx) (f : Nat) (o : PX) (as : PA)
  | filt (i : Nat) (xs c : PX)
  | sel (ps : List (Tx × Int)) (a : PX)
inductive PA where
  | nil
  | cons (a : PX) (as : PA)
end
mutual
inductive PS where
  | asg (i : Nat) (e : PX)
  | asgNew (i : Nat) (e : PX)
  | unpack (is : List Nat) (e : PX)
  | make (i : Nat) (c f : Nat) (as : PA)
  | setA (o : PX) (n : Tx) (e : PX)
  | setNew (o : Nat) (n : Tx) (e : PX)
  | setI (o i e : PX)
  | app (o e : PX)
  | eff (c : Nat) (m : Tx) (f : Nat) (o : PX) (as : PA)
  | ifNot (c : Nat) (m : Tx) (f : Nat) (o : PX) (as : PA) (b : PB)
  | ite (c : PX) (a b : PB)
  | ret (e : PX)
  | forIn (i : Nat) (xs : PX) (b : PB)
  | zip2 (i j : Nat) (xs ys : PX) (b : PB)
inductive PB where
  | nil
  | cons (s : PS) (b : PB)
end
inductive R where
  | nx (ρ : Sl) (M : Ms)
  | rt (d : D) (M : Ms)
abbrev Cf := Nat → List D → Ms → Option (D × Ms)

mutual
/-- no place of a mutable object in it, no script -/
def D.clean : D → Bool
  | .tup ds => D.cleanL ds
  | .lst ds => D.cleanL ds
  | .ref _ => false
  | .scr _ => false
  | _ => true
def D.cleanL : List D → Bool
  | [] => true
  | x :: xs => x.clean && D.cleanL xs
end
/-- what a call leaves where the caller sees data alone: new objects are forgotten, a new list that is handed back is data from then on -/
def fin (M : Ms) : Option (D × Ms) → Option D
  | none => none
  | some (d, M') =>
    if M' = M then some d
    else if M'.take M.length = M then
      match d with
      | .ref p => if M.length ≤ p then (match M'[p]? with | some (.lst ds) => if D.cleanL ds then some (.lst ds) else none | _ => none) else none
      | d => if d.clean then some d else none
    else none

/-- an instance of the c-th class, m no attribute of its own -/
def recv (M : Ms) (c : Nat) (m : Tx) : D → Bool
  | .ref l => match M[l]? with | some (.ins c' fs) => c' == c && (lookA m fs).isNone | _ => false
  | _ => false
def asB : D → Option Bool
  | .bl b => some b
  | _ => none
def asI : D → Option Int
  | .int i => some i
  | _ => none
/-- items that are walked -/
def walkD (M : Ms) : D → Option (List D)
  | .str s => some (s.map fun c => .str [c])
  | .tup ds => some ds
  | .lst ds => some ds
  | _ => none
def selD (a : D) : List (Tx × Int) → Option D
  | [] => none
  | (t, i) :: r => if a = .str t then some (.int i) else selD a r
def filtD (c : D → Option Bool) : List D → Option (List D)
  | [] => some []
  | d :: r => (c d).bind fun b => (filtD c r).map fun ys => if b then d :: ys else ys

mutual
def evalX (cf : Cf) (M : Ms) : PX → Sl → Option D
  | .var i, ρ => match ρ[i]? with | some (some d) => some d | _ => none
  | .cst d, _ => some d
  | .bin o a b, ρ => (evalX cf M a ρ).bind fun x => (evalX cf M b ρ).bind fun y => binD o x y
  | .un o a, ρ => (evalX cf M a ρ).bind fun x => unD M o x
  | .bi o a b, ρ => (evalX cf M a ρ).bind fun x => (evalX cf M b ρ).bind fun y => biD o x y
  | .cmp o a b, ρ => (evalX cf M a ρ).bind fun x => (evalX cf M b ρ).bind fun y => (cmpD o x y).map .bl
  | .chain o o2 a b c, ρ => (evalX cf M a ρ).bind fun x => (evalX cf M b ρ).bind fun y => (cmpD o x y).bind fun k =>
      if k then (evalX cf M c ρ).bind fun z => (cmpD o2 y z).map .bl else some (.bl false)
  | .and a b, ρ => (evalX cf M a ρ).bind fun x => (asB x).bind fun k => if k then evalX cf M b ρ else some (.bl false)
  | .or a b, ρ => (evalX cf M a ρ).bind fun x => (asB x).bind fun k => if k then some (.bl true) else evalX cf M b ρ
  | .not a, ρ => (evalX cf M a ρ).bind fun x => (asB x).map fun k => .bl (!k)
  | .tup as, ρ => (evalA cf M as ρ).map .tup
  | .lst as, ρ => (evalA cf M as ρ).map .lst
  | .idx a i, ρ => (evalX cf M a ρ).bind fun x => (evalX cf M i ρ).bind fun y => idxD M x y
  | .slF a lo, ρ => (evalX cf M a ρ).bind fun x => (evalX cf M lo ρ).bind fun l => (asI l).bind fun i => slD (some i) none x
  | .slT a hi, ρ => (evalX cf M a ρ).bind fun x => (evalX cf M hi ρ).bind fun l => (asI l).bind fun i => slD none (some i) x
  | .slB a lo hi, ρ => (evalX cf M a ρ).bind fun x => (evalX cf M lo ρ).bind fun l => (asI l).bind fun i => (evalX cf M hi ρ).bind fun h => (asI h).bind fun j => slD (some i) (some j) x
  | .rev a, ρ => (evalX cf M a ρ).bind revD
  | .attr a n, ρ => (evalX cf M a ρ).bind (attrD M n)
  | .call f as, ρ => (evalA cf M as ρ).bind fun ds => fin M (cf f ds M)
  | .meth c m f o as, ρ => (evalX cf M o ρ).bind fun x => if recv M c m x then (evalA cf M as ρ).bind fun ds => fin M (cf f (x :: ds) M) else none
  | .filt i xs c, ρ => (evalX cf M xs ρ).bind fun x => (walkD M x).bind fun ds => if ds.length ≤ lim ∧ M = [] then (filtD (fun d => (evalX cf M c (ρ.set i (some d))).bind asB) ds).map .lst else none
  | .sel ps a, ρ => (evalX cf M a ρ).bind fun x => selD x ps
termination_by structural e => e
def evalA (cf : Cf) (M : Ms) : PA → Sl → Option (List D)
  | .nil, _ => some []
  | .cons a as, ρ => (evalX cf M a ρ).bind fun x => (evalA cf M as ρ).bind fun xs => some (x :: xs)
termination_by structural e => e
end

def unpackD : List Nat → List D → Sl → Option Sl
  | [], [], ρ => some ρ
  | i :: is, d :: ds, ρ => unpackD is ds (ρ.set i (some d))
  | _, _, _ => none
/-- a body once for each item -/
def loop (b : Sl → Ms → Option R) (i : Nat) : List D → Sl → Ms → Option R
  | [], ρ, M => some (.nx ρ M)
  | d :: ds, ρ, M => (b (ρ.set i (some d)) M).bind fun r => match r with
    | .nx ρ' M' => loop b i ds ρ' M'
    | .rt d M' => some (.rt d M')
def loop2 (b : Sl → Ms → Option R) (i j : Nat) : List D → List D → Sl → Ms → Option R
  | d :: ds, e :: es, ρ, M => (b ((ρ.set i (some d)).set j (some e)) M).bind fun r => match r with
    | .nx ρ' M' => loop2 b i j ds es ρ' M'
    | .rt d M' => some (.rt d M')
  | _, _, ρ, M => some (.nx ρ M)
mutual
def evalS (cf : Cf) : PS → Sl → Ms → Option R
  | .asg i e, ρ, M => (evalX cf M e ρ).map fun d => .nx (ρ.set i (some d)) M
  | .asgNew i e, ρ, M => (evalX cf M e ρ).bind fun d => match d with
    | .lst ds => some (.nx (ρ.set i (some (.ref M.length))) (M ++ [.lst ds]))
    | _ => none
  | .unpack is e, ρ, M => (evalX cf M e ρ).bind fun d => match d with
    | .tup ds => (unpackD is ds ρ).map fun ρ' => .nx ρ' M
    | _ => none
  | .make i c f as, ρ, M => (evalA cf M as ρ).bind fun ds => (cf f (.ref M.length :: ds) (M ++ [.ins c []])).bind fun r => match r with
    | (.non, M') => some (.nx (ρ.set i (some (.ref M.length))) M')
    | _ => none
  | .setA o n e, ρ, M => (evalX cf M e ρ).bind fun d => (evalX cf M o ρ).bind fun x => match x with
    | .ref l => match M[l]? with | some (.ins c fs) => if fs.length < 100 then some (.nx ρ (M.set l (.ins c (putA n d fs)))) else none | _ => none
    | _ => none
  | .setNew o n e, ρ, M => (evalX cf M e ρ).bind fun d => match d, ρ[o]? with
    | .lst ds, some (some (.ref l)) => match M[l]? with | some (.ins c fs) => if fs.length < 100 then some (.nx ρ ((M.set l (.ins c (putA n (.ref M.length) fs))) ++ [.lst ds])) else none | _ => none
    | _, _ => none
  | .setI o i e, ρ, M => (evalX cf M e ρ).bind fun d => (evalX cf M o ρ).bind fun x => (evalX cf M i ρ).bind fun y => match x, y with
    | .ref l, .int k => match M[l]? with | some (.lst ds) => (ixD ds.length k).map fun j => .nx ρ (M.set l (.lst (ds.set j d))) | _ => none
    | _, _ => none
  | .app o e, ρ, M => (evalX cf M o ρ).bind fun x => (evalX cf M e ρ).bind fun d => match x with
    | .ref l => match M[l]? with | some (.lst ds) => if ds.length < lim then some (.nx ρ (M.set l (.lst (ds ++ [d])))) else none | _ => none
    | _ => none
  | .eff c m f o as, ρ, M => (evalX cf M o ρ).bind fun x => if recv M c m x then (evalA cf M as ρ).bind fun ds => (cf f (x :: ds) M).map fun r => .nx ρ r.2 else none
  | .ifNot c m f o as b, ρ, M => (evalX cf M o ρ).bind fun x => if recv M c m x then (evalA cf M as ρ).bind fun ds => (cf f (x :: ds) M).bind fun r => (asB r.1).bind fun k => if k then some (.nx ρ r.2) else evalB cf b ρ r.2 else none
  | .ite c a b, ρ, M => (evalX cf M c ρ).bind fun x => (asB x).bind fun k => if k then evalB cf a ρ M else evalB cf b ρ M
  | .ret e, ρ, M => (evalX cf M e ρ).map fun d => .rt d M
  | .forIn i xs b, ρ, M => (evalX cf M xs ρ).bind fun x => (walkD M x).bind fun ds => loop (fun ρ M => evalB cf b ρ M) i ds ρ M
  | .zip2 i j xs ys b, ρ, M => (evalX cf M xs ρ).bind fun x => (evalX cf M ys ρ).bind fun y => match x, y with
    | .tup ds, .tup es => if ds.length = es.length then loop2 (fun ρ M => evalB cf b ρ M) i j ds es ρ M else none
    | _, _ => none
termination_by structural e => e
def evalB (cf : Cf) : PB → Sl → Ms → Option R
  | .nil, ρ, M => some (.nx ρ M)
  | .cons s b, ρ, M => (evalS cf s ρ M).bind fun r => match r with
    | .nx ρ' M' => evalB cf b ρ' M'
    | .rt d M' => some (.rt d M')
termination_by structural e => e
end

/-- a def: how many parameters, how many names, its body -/
structure Df where
  np : Nat
  ns : Nat
  body : PB
abbrev Pg := List Df
def runD (cf : Cf) (f : Df) (ds : List D) (M : Ms) : Option (D × Ms) :=
  if ds.length = f.np then (evalB cf f.body (ds.map some ++ List.replicate (f.ns - f.np) none) M).map fun r => match r with
    | .nx _ M' => (.non, M')
    | .rt d M' => (d, M')
  else none
def callF (P : Pg) : Nat → Cf
  | 0, _, _, _ => none
  | n + 1, f, ds, M => (P[f]?).bind fun d => runD (callF P n) d ds M
end Fp

/-! Facts of Ev's operations (plain). -/
namespace Fp
theorem leT_refl : ∀ s : Tx, leT s s = true
  | [] => rfl
  | a :: s => by simp [leT, leT_refl s]
theorem leT_total : ∀ s t : Tx, leT s t = true ∨ leT t s = true
  | [], _ => .inl rfl
  | _ :: _, [] => .inr rfl
  | a :: s, b :: t => by
    simp only [leT]
    by_cases h1 : a < b
    · simp [h1]
    · by_cases h2 : b < a
      · simp [h2]
      · simp [h1, h2]
        exact leT_total s t
theorem leT_anti : ∀ s t : Tx, leT s t = true → leT t s = true → s = t
  | [], [], _, _ => rfl
  | [], _ :: _, _, h => by simp [leT] at h
  | _ :: _, [], h, _ => by simp [leT] at h
  | a :: s, b :: t, h1, h2 => by
    simp only [leT] at h1 h2
    by_cases c1 : a < b
    · have c2 : ¬ b < a := by omega
      simp [c1, c2] at h2
    · by_cases c2 : b < a
      · simp [c1, c2] at h1
      · simp [c1, c2] at h1 h2
        have e : a = b := by omega
        rw [e, leT_anti s t h1 h2]
theorem leT_trans : ∀ s t u : Tx, leT s t = true → leT t u = true → leT s u = true
  | [], _, _, _, _ => rfl
  | _ :: _, [], _, h, _ => by simp [leT] at h
  | _ :: _, _ :: _, [], _, h => by simp [leT] at h
  | a :: s, b :: t, c :: u, h1, h2 => by
    simp only [leT] at h1 h2 ⊢
    by_cases c1 : a < b
    · by_cases c2 : b < c
      · have : a < c := by omega
        simp [this]
      · by_cases c3 : c < b
        · simp [c2, c3] at h2
        · have : a < c := by omega
          simp [this]
    · by_cases c4 : b < a
      · simp [c1, c4] at h1
      · simp [c1, c4] at h1
        have e : a = b := by omega
        subst e
        by_cases c2 : a < c
        · simp [c2]
        · by_cases c3 : c < a
          · simp [c2, c3] at h2
          · simp [c2, c3] at h2 ⊢
            exact leT_trans s t u h1 h2
def Srt (l : List Tx) : Prop := l.Pairwise fun a b => leT a b = true
theorem insT_mem (x y : Tx) : ∀ l : List Tx, y ∈ insT x l ↔ y = x ∨ y ∈ l
  | [] => by simp [insT]
  | z :: r => by
    simp only [insT]
    split
    · simp
    · simp only [List.mem_cons, insT_mem x y r]
      constructor
      · rintro (h | h | h) <;> simp [h]
      · rintro (h | h | h) <;> simp [h]
theorem insT_srt (x : Tx) : ∀ l : List Tx, Srt l → Srt (insT x l)
  | [], _ => by simp [insT, Srt]
  | z :: r, h => by
    obtain ⟨h1, h2⟩ := List.pairwise_cons.mp h
    simp only [insT]
    split
    · rename_i c
      refine List.pairwise_cons.mpr ⟨fun y hy => ?_, h⟩
      rcases List.mem_cons.mp hy with rfl | hy
      · exact c
      · exact leT_trans _ _ _ c (h1 y hy)
    · rename_i c
      refine List.pairwise_cons.mpr ⟨fun y hy => ?_, insT_srt x r h2⟩
      rcases (insT_mem x y r).mp hy with rfl | hy
      · exact (leT_total y z).resolve_left c
      · exact h1 y hy
theorem sortT_srt : ∀ l : List Tx, Srt (sortT l)
  | [] => List.Pairwise.nil
  | x :: r => insT_srt x _ (sortT_srt r)
theorem insT_perm (x : Tx) : ∀ l : List Tx, (insT x l).Perm (x :: l)
  | [] => List.Perm.refl _
  | z :: r => by
    simp only [insT]
    split
    · exact List.Perm.refl _
    · exact (List.Perm.cons z (insT_perm x r)).trans (List.Perm.swap x z r)
theorem sortT_perm : ∀ l : List Tx, (sortT l).Perm l
  | [] => List.Perm.refl _
  | x :: r => (insT_perm x _).trans (List.Perm.cons x (sortT_perm r))
theorem srt_unique : ∀ {l m : List Tx}, Srt l → Srt m → l.Perm m → l = m
  | [], m, _, _, p => (List.nil_perm.mp p).symm
  | x :: r, [], _, _, p => by simp at p
  | x :: r, y :: t, h1, h2, p => by
    obtain ⟨a1, a2⟩ := List.pairwise_cons.mp h1
    obtain ⟨b1, b2⟩ := List.pairwise_cons.mp h2
    have hx : x ∈ y :: t := p.mem_iff.mp (List.mem_cons_self ..)
    have hy : y ∈ x :: r := p.mem_iff.mpr (List.mem_cons_self ..)
    have e : x = y := by
      rcases List.mem_cons.mp hx with h | h
      · exact h
      · rcases List.mem_cons.mp hy with h' | h'
        · exact h'.symm
        · exact leT_anti _ _ (a1 y h') (b1 x h)
    subst e
    rw [srt_unique a2 b2 ((List.perm_cons x).mp p)]
end Fp

set_option linter.all false
set_option maxRecDepth 100000
set_option maxHeartbeats 4000000
/-! The link between the walk's values and heap and the plain data of Ev: what stands for what. -/
namespace FpS
open PySem PySem.Spec PyProof.Rows L2 Fp

def toS (s : Tx) : Str := ⟨s.toArray⟩
theorem toS_len (s : Tx) : (toS s).length = s.length := by simp [toS, Str.length]
theorem toS_list (s : Tx) : (toS s).cps.toList = s := by simp [toS]
theorem toS_app (s t : Tx) : toS s ++ toS t = toS (s ++ t) := by
  show Str.append _ _ = _
  simp [toS, Str.append]
theorem toS_inj {s t : Tx} (h : toS s = toS t) : s = t := by
  have := congrArg (fun z => z.cps.toList) h
  simpa [toS] using this
theorem toS_sign (c : Nat) : toS [c] = ⟨#[c]⟩ := rfl
/-- signs that texts may have -/
def TxOk (s : Tx) : Prop := ∀ c ∈ s, c < 1114112
theorem TxOk.app {s t : Tx} (a : TxOk s) (b : TxOk t) : TxOk (s ++ t) := fun c h => (List.mem_append.mp h).elim (a c) (b c)

def KTup (K : PySem.W.Frag) (a : Addr) (xs : List V) : Prop :=
  ∃ (o : Obj) (its : Array Value) (n : Nat), K.lookup a = some o ∧ o.cls = .type "tuple" ∧ o.data = .seq its n ∧ its.size ≤ sizeLine ∧ Vals xs its.toList
def KLst (K : PySem.W.Frag) (a : Addr) (xs : List V) : Prop :=
  ∃ (o : Obj) (its : Array Value) (n : Nat), K.lookup a = some o ∧ o.cls = .type "list" ∧ o.dict = none ∧ o.data = .seq its n ∧ its.size ≤ sizeLine ∧ Vals xs its.toList

mutual
/-- the value v stands for the data d -/
inductive At (K : PySem.W.Frag) (L : List Addr) (H : Hp) : V → D → Prop
  | non : At K L H .non .non
  | bl (b : Bool) : At K L H (.bl b) (.bl b)
  | int (i : Int) : At K L H (.int i) (.int i)
  | str (s : Tx) (ok : TxOk s) : At K L H (.str (toS s)) (.str s)
  | tup {a : Addr} {xs : List V} {ds : List D} (h : (H a = some (.tup xs) ∧ a ∉ L) ∨ KTup K a xs) (z : Ats K L H xs ds) : At K L H (.ref a) (.tup ds)
  | lst {a : Addr} {xs : List V} {ds : List D} (h : H a = some (.lst xs)) (n : a ∉ L) (z : Ats K L H xs ds) : At K L H (.ref a) (.lst ds)
  | scr {a : Addr} {ns : List Int} (h : (Rd H a (.lst (ns.map V.int)) ∧ a ∉ L) ∨ KLst K a (ns.map V.int)) : At K L H (.ref a) (.scr ns)
  | ref {a : Addr} {l : Nat} (h : L[l]? = some a) : At K L H (.ref a) (.ref l)
inductive Ats (K : PySem.W.Frag) (L : List Addr) (H : Hp) : List V → List D → Prop
  | nil : Ats K L H [] []
  | cons {v : V} {d : D} {vs : List V} {ds : List D} (h : At K L H v d) (t : Ats K L H vs ds) : Ats K L H (v :: vs) (d :: ds)
end

def Grow (H : Hp) (L L' : List Addr) : Prop := ∃ N, L' = L ++ N ∧ ∀ b ∈ N, H b = none
def Step (L : List Addr) (H H' : Hp) : Prop := ∀ b o, H b = some o → b ∉ L → H' b = some o
theorem Grow.refl (H : Hp) (L : List Addr) : Grow H L L := ⟨[], by simp, by simp⟩
theorem Step.refl (L : List Addr) (H : Hp) : Step L H H := fun _ _ h _ => h

section
variable {K : PySem.W.Frag} {L L' : List Addr} {H H' : Hp}
theorem Grow.notin (g : Grow H L L') {a : Addr} {o : HO} (h : H a = some o) (n : a ∉ L) : a ∉ L' := by
  obtain ⟨N, rfl, hN⟩ := g
  intro z
  rcases List.mem_append.mp z with z | z
  · exact n z
  · rw [hN a z] at h
    cases h
theorem Grow.get (g : Grow H L L') {i : Nat} {a : Addr} (h : L[i]? = some a) : L'[i]? = some a := by
  obtain ⟨N, rfl, _⟩ := g
  rw [List.getElem?_append_left (List.getElem?_eq_some_iff.mp h).1]
  exact h
mutual
theorem At.mono (g : Grow H L L') (s : Step L H H') : ∀ {v : V} {d : D}, At K L H v d → At K L' H' v d
  | _, _, .non => .non
  | _, _, .bl b => .bl b
  | _, _, .int i => .int i
  | _, _, .str t o => .str t o
  | _, _, .tup h z => .tup (h.imp (fun ⟨a, b⟩ => ⟨s _ _ a b, g.notin a b⟩) id) (Ats.mono g s z)
  | _, _, .lst h n z => .lst (s _ _ h n) (g.notin h n) (Ats.mono g s z)
  | _, _, .scr h => .scr (h.imp (fun ⟨a, b⟩ => by
      rcases a with a | ⟨o, a⟩
      · exact ⟨.inl (s _ _ a b), g.notin a b⟩
      · exact ⟨.inr ⟨o, s _ _ a b⟩, g.notin a b⟩) id)
  | _, _, .ref h => .ref (g.get h)
theorem Ats.mono (g : Grow H L L') (s : Step L H H') : ∀ {vs : List V} {ds : List D}, Ats K L H vs ds → Ats K L' H' vs ds
  | _, _, .nil => .nil
  | _, _, .cons h t => .cons (At.mono g s h) (Ats.mono g s t)
end
theorem At.st (s : Step L H H') {v : V} {d : D} (h : At K L H v d) : At K L H' v d := h.mono (Grow.refl H L) s
theorem Ats.st (s : Step L H H') {v : List V} {d : List D} (h : Ats K L H v d) : Ats K L H' v d := h.mono (Grow.refl H L) s
theorem Ats.length : ∀ {vs : List V} {ds : List D}, Ats K L H vs ds → vs.length = ds.length
  | _, _, .nil => rfl
  | _, _, .cons _ t => by rw [List.length_cons, List.length_cons, Ats.length t]
theorem Ats.get : ∀ {vs : List V} {ds : List D} {i : Nat} {d : D}, Ats K L H vs ds → ds[i]? = some d → ∃ v, vs[i]? = some v ∧ At K L H v d
  | _, _, _, _, .nil, e => by simp at e
  | _, _, 0, _, .cons h _, e => by simp at e; subst e; exact ⟨_, rfl, h⟩
  | _, _, i + 1, d, .cons _ t, e => by
    obtain ⟨v, h1, h2⟩ := Ats.get (i := i) (d := d) t (by simpa using e)
    exact ⟨v, by simpa using h1, h2⟩
theorem Ats.getV : ∀ {vs : List V} {ds : List D} {i : Nat} {v : V}, Ats K L H vs ds → vs[i]? = some v → ∃ d, ds[i]? = some d ∧ At K L H v d
  | _, _, _, _, .nil, e => by simp at e
  | _, _, 0, _, .cons h _, e => by simp at e; subst e; exact ⟨_, rfl, h⟩
  | _, _, i + 1, d, .cons _ t, e => by
    obtain ⟨v, h1, h2⟩ := Ats.getV (i := i) (v := d) t (by simpa using e)
    exact ⟨v, by simpa using h1, h2⟩
theorem Ats.app : ∀ {vs ws : List V} {ds es : List D}, Ats K L H vs ds → Ats K L H ws es → Ats K L H (vs ++ ws) (ds ++ es)
  | _, _, _, _, .nil, s => s
  | _, _, _, _, .cons h t, s => .cons h (Ats.app t s)
theorem Ats.take : ∀ {vs : List V} {ds : List D} (n : Nat), Ats K L H vs ds → Ats K L H (vs.take n) (ds.take n)
  | _, _, 0, _ => .nil
  | _, _, _ + 1, .nil => .nil
  | _, _, n + 1, .cons h t => .cons h (Ats.take n t)
theorem Ats.drop : ∀ {vs : List V} {ds : List D} (n : Nat), Ats K L H vs ds → Ats K L H (vs.drop n) (ds.drop n)
  | _, _, 0, r => r
  | _, _, _ + 1, .nil => .nil
  | _, _, n + 1, .cons _ t => Ats.drop n t
theorem Ats.set {v : V} {d : D} (r : At K L H v d) : ∀ {vs : List V} {ds : List D} (i : Nat), Ats K L H vs ds → Ats K L H (vs.set i v) (ds.set i d)
  | _, _, _, .nil => .nil
  | _, _, 0, .cons _ t => .cons r t
  | _, _, i + 1, .cons q t => .cons q (Ats.set r i t)
theorem Ats.rev : ∀ {vs : List V} {ds : List D}, Ats K L H vs ds → Ats K L H vs.reverse ds.reverse
  | _, _, .nil => .nil
  | _, _, .cons h t => by
    rw [List.reverse_cons, List.reverse_cons]
    exact Ats.app (Ats.rev t) (.cons h .nil)
theorem Ats.cut {vs : List V} {ds : List D} (h : Ats K L H vs ds) (lo hi : Option Int) : Ats K L H (cutV vs lo hi) (cutL ds lo hi) := by
  unfold cutV cutL
  rw [h.length]
  have e : ∀ n d o, HT.sIx n d o = sIxD n d o := fun n d o => by cases o <;> rfl
  rw [e, e]
  exact (h.drop _).take _
theorem Ats.strs : ∀ (ts : List Tx), (∀ t ∈ ts, TxOk t) → Ats K L H (ts.map fun t => V.str (toS t)) (ts.map D.str)
  | [], _ => .nil
  | t :: r, h => .cons (.str t (h t (by simp))) (Ats.strs r fun x hx => h x (List.mem_cons_of_mem _ hx))
theorem Ats.ints : ∀ (ts : List Int), Ats K L H (ts.map V.int) (ts.map D.int)
  | [] => .nil
  | t :: r => .cons (.int t) (Ats.ints r)
theorem Ats.of_txs : ∀ {vs : List V} {ds : List D} {ts : List Tx}, Ats K L H vs ds → txs ds = some ts → vs = ts.map (fun t => V.str (toS t)) ∧ ds = ts.map D.str ∧ ∀ t ∈ ts, TxOk t
  | _, _, ts, .nil, e => by
    have e := Option.some.inj e
    subst e
    exact ⟨rfl, rfl, by simp⟩
  | _, _, ts, .cons (.str s o) t, e => by
    simp only [txs, Option.map_eq_some_iff] at e
    obtain ⟨r, h1, rfl⟩ := e
    obtain ⟨h2, h3, h4⟩ := Ats.of_txs t h1
    refine ⟨by rw [h2]; rfl, by rw [h3]; rfl, fun x hx => ?_⟩
    rcases List.mem_cons.mp hx with rfl | hx
    · exact o
    · exact h4 x hx
  | _, _, ts, .cons .non t, e => by simp [txs] at e
  | _, _, ts, .cons (.bl _) t, e => by simp [txs] at e
  | _, _, ts, .cons (.int _) t, e => by simp [txs] at e
  | _, _, ts, .cons (.tup _ _) t, e => by simp [txs] at e
  | _, _, ts, .cons (.lst _ _ _) t, e => by simp [txs] at e
  | _, _, ts, .cons (.scr _) t, e => by simp [txs] at e
  | _, _, ts, .cons (.ref _) t, e => by simp [txs] at e
end

/-! ### mutable objects -/
/-- the attributes -/
inductive Fs (K : PySem.W.Frag) (L : List Addr) (H : Hp) : List (Str × V) → List (Tx × D) → Prop
  | nil : Fs K L H [] []
  | cons {n : Tx} {v : V} {d : D} {vs : List (Str × V)} {ds : List (Tx × D)} (h : At K L H v d) (t : Fs K L H vs ds) : Fs K L H ((toS n, v) :: vs) ((n, d) :: ds)
section
variable {K : PySem.W.Frag} {L L' : List Addr} {H H' : Hp}
theorem Fs.mono (g : Grow H L L') (s : Step L H H') : ∀ {vs : List (Str × V)} {ds : List (Tx × D)}, Fs K L H vs ds → Fs K L' H' vs ds
  | _, _, .nil => .nil
  | _, _, .cons h t => .cons (h.mono g s) (Fs.mono g s t)
theorem Fs.length : ∀ {vs : List (Str × V)} {ds : List (Tx × D)}, Fs K L H vs ds → vs.length = ds.length
  | _, _, .nil => rfl
  | _, _, .cons _ t => by rw [List.length_cons, List.length_cons, Fs.length t]
theorem Fs.look {n : Tx} {d : D} : ∀ {vs : List (Str × V)} {ds : List (Tx × D)}, Fs K L H vs ds → lookA n ds = some d → ∃ v, vs.lookup (toS n) = some v ∧ At K L H v d
  | _, _, .nil, e => by simp [lookA] at e
  | _, _, .cons (n := m) (v := v) h t, e => by
    by_cases c : m = n
    · subst c
      simp [lookA] at e
      subst e
      exact ⟨v, by simp [List.lookup], h⟩
    · simp [lookA, c] at e
      obtain ⟨v', h1, h2⟩ := Fs.look t e
      refine ⟨v', ?_, h2⟩
      have b : (toS n == toS m) = false := beq_eq_false_iff_ne.mpr fun z => c (toS_inj z).symm
      rw [List.lookup, b]
      exact h1
theorem Fs.none {n : Tx} : ∀ {vs : List (Str × V)} {ds : List (Tx × D)}, Fs K L H vs ds → lookA n ds = none → vs.lookup (toS n) = none
  | _, _, .nil, e => rfl
  | _, _, .cons (n := m) (v := v) h t, e => by
    by_cases c : m = n
    · subst c
      simp [lookA] at e
    · simp [lookA, c] at e
      have b : (toS n == toS m) = false := beq_eq_false_iff_ne.mpr fun z => c (toS_inj z).symm
      rw [List.lookup, b]
      exact Fs.none t e
theorem Fs.put {n : Tx} {v : V} {d : D} (r : At K L H v d) : ∀ {vs : List (Str × V)} {ds : List (Tx × D)}, Fs K L H vs ds → Fs K L H (putF (toS n) v vs) (putA n d ds)
  | _, _, .nil => .cons r .nil
  | _, _, .cons (n := m) (v := u) h t => by
    by_cases c : m = n
    · subst c
      simp only [putF, putA, if_pos]
      exact .cons r t
    · have b : ¬ toS m = toS n := fun z => c (toS_inj z)
      simp only [putF, putA, if_neg c, if_neg b]
      exact .cons h (Fs.put r t)
end

def ObAt (K : PySem.W.Frag) (cl : Nat → Addr) (L : List Addr) (H : Hp) (a : Addr) : MO → Prop
  | .lst ds => ∃ xs, H a = some (.lst xs) ∧ Ats K L H xs ds
  | .ins c fs => ∃ dx vs, H a = some (.ins (cl c) dx vs) ∧ Fs K L H vs fs
theorem ObAt.there {K : PySem.W.Frag} {cl : Nat → Addr} {L : List Addr} {H : Hp} {a : Addr} : ∀ {m : MO}, ObAt K cl L H a m → ∃ o, H a = some o
  | .lst _, ⟨_, h, _⟩ => ⟨_, h⟩
  | .ins _ _, ⟨_, _, h, _⟩ => ⟨_, h⟩
theorem ObAt.mono {K : PySem.W.Frag} {cl : Nat → Addr} {L L' : List Addr} {H H' : Hp} {a : Addr} (g : Grow H L L') (s : Step L H H') (e : H' a = H a) : ∀ {m : MO}, ObAt K cl L H a m → ObAt K cl L' H' a m
  | .lst _, ⟨_, h, z⟩ => ⟨_, e.trans h, z.mono g s⟩
  | .ins _ _, ⟨_, _, h, z⟩ => ⟨_, _, e.trans h, z.mono g s⟩
/-- the mutable objects stand at the addresses L -/
structure Rel (K : PySem.W.Frag) (cl : Nat → Addr) (L : List Addr) (M : Ms) (H : Hp) : Prop where
  nd : L.Nodup
  len : L.length = M.length
  ob : ∀ (i : Nat) (a : Addr) (m : MO), L[i]? = some a → M[i]? = some m → ObAt K cl L H a m
section
variable {K : PySem.W.Frag} {cl : Nat → Addr} {L L' L2 : List Addr} {M M' : Ms} {H H' H2 : Hp}
theorem Rel.there (r : Rel K cl L M H) {a : Addr} (h : a ∈ L) : ∃ o, H a = some o := by
  obtain ⟨i, hi⟩ := List.mem_iff_getElem?.mp h
  have hl := (List.getElem?_eq_some_iff.mp hi).1
  have hm : i < M.length := by rw [← r.len]; exact hl
  exact (r.ob i a M[i] hi (List.getElem?_eq_getElem hm)).there
theorem Rel.fresh (r : Rel K cl L M H) {a : Addr} (h : H a = none) : a ∉ L := fun z => by
  obtain ⟨o, e⟩ := r.there z
  rw [h] at e
  cases e
theorem Rel.nil (H : Hp) : Rel K cl [] [] H := ⟨List.nodup_nil, rfl, fun i a m h => by simp at h⟩
/-- a new thing at p -/
theorem Step.new {p : Addr} {o : HO} (h : H p = none) : Step L H (upd H p o) := fun b u e _ => by rw [upd_ne (ne_of_none e h)]; exact e
theorem Rel.new {p : Addr} {o : HO} (r : Rel K cl L M H) (h : H p = none) : Rel K cl L M (upd H p o) := ⟨r.nd, r.len, fun i a m h1 h2 => by
  have x := r.ob i a m h1 h2
  obtain ⟨u, e⟩ := x.there
  exact x.mono (Grow.refl H L) (Step.new h) (upd_ne (ne_of_none e h))⟩
theorem Step.trans (a : Step L H H') (b : Step L H' H2) : Step L H H2 := fun c o h n => b c o (a c o h n) n
theorem Step.trans2 (g : Grow H L L') (a : Step L H H') (b : Step L' H' H2) : Step L H H2 := fun c o h n => b c o (a c o h n) (g.notin h n)
theorem Grow.trans2 (g : Grow H L L') (a : Step L H H') (r : Rel K cl L' M' H') (g2 : Grow H' L' L2) : Grow H L L2 := by
  obtain ⟨N, rfl, hN⟩ := g
  obtain ⟨N2, rfl, hN2⟩ := g2
  refine ⟨N ++ N2, by simp, fun b hb => ?_⟩
  rcases List.mem_append.mp hb with hb | hb
  · exact hN b hb
  · cases e : H b with
    | none => rfl
    | some o =>
      have n : b ∉ L := fun z => by
        have := r.fresh (hN2 b hb)
        exact this (List.mem_append_left _ z)
      have := a b o e n
      rw [hN2 b hb] at this
      cases this
end

/-! ### the frame's names -/
structure EnvR (K : PySem.W.Frag) (L : List Addr) (H : Hp) (σ : L2.St) (ρ : Sl) : Prop where
  len : σ.length = ρ.length
  at_ : ∀ (i : Nat) (d : D), ρ[i]? = some (some d) → ∃ v, σ[i]? = some (some v) ∧ At K L H v d
section
variable {K : PySem.W.Frag} {L L' : List Addr} {H H' : Hp} {σ : L2.St} {ρ : Sl}
theorem EnvR.mono (g : Grow H L L') (s : Step L H H') (e : EnvR K L H σ ρ) : EnvR K L' H' σ ρ := ⟨e.len, fun i d h => by
  obtain ⟨v, h1, h2⟩ := e.at_ i d h
  exact ⟨v, h1, h2.mono g s⟩⟩
theorem EnvR.st (s : Step L H H') (e : EnvR K L H σ ρ) : EnvR K L H' σ ρ := e.mono (Grow.refl H L) s
theorem EnvR.set {i : Nat} {v : V} {d : D} (e : EnvR K L H σ ρ) (h : At K L H v d) : EnvR K L H (σ.set i (some v)) (ρ.set i (some d)) := by
  refine ⟨by rw [List.length_set, List.length_set, e.len], fun j d' hj => ?_⟩
  by_cases c : i = j
  · subst c
    have hl : i < ρ.length := by
      have := (List.getElem?_eq_some_iff.mp hj).1
      rwa [List.length_set] at this
    rw [List.getElem?_set_self hl] at hj
    cases hj
    exact ⟨v, List.getElem?_set_self (by rw [e.len]; exact hl), h⟩
  · rw [List.getElem?_set_ne c] at hj
    obtain ⟨v', h1, h2⟩ := e.at_ j d' hj
    exact ⟨v', by rw [List.getElem?_set_ne c]; exact h1, h2⟩
/-- a slot of the walk forgotten and set anew -/
theorem EnvR.set2 {i : Nat} {v : V} {d : D} (e : EnvR K L H σ ρ) (h : At K L H v d) : EnvR K L H ((σ.set i none).set i (some v)) (ρ.set i (some d)) := by
  rw [List.set_set]
  exact e.set h
theorem EnvR.start {vs : List V} {ds : List D} {n : Nat} (h : Ats K L H vs ds) : EnvR K L H (vs.map some ++ List.replicate n none) (ds.map some ++ List.replicate n none) := by
  refine ⟨by simp [h.length], fun i d hi => ?_⟩
  by_cases c : i < ds.length
  · rw [List.getElem?_append_left (by simpa using c)] at hi
    rw [List.getElem?_map] at hi
    cases e : ds[i]? with
    | none => rw [e] at hi; cases hi
    | some d' =>
      rw [e] at hi
      cases hi
      obtain ⟨v, h1, h2⟩ := h.get e
      refine ⟨v, ?_, h2⟩
      rw [List.getElem?_append_left (by rw [List.length_map, h.length]; exact c), List.getElem?_map, h1]
      rfl
  · rw [List.getElem?_append_right (by simp; omega), List.getElem?_replicate] at hi
    split at hi <;> cases hi
end
end FpS

set_option linter.all false
set_option maxRecDepth 100000
set_option maxHeartbeats 4000000
/-! The weakest readings, and the operations on values. -/
namespace FpS
open PySem PySem.Spec PyProof.Rows L2 Fp

/-! ### the weakest reading of a piece of syntax -/
def wE (X : Cx) (e : Expr) : TE := fun σ H Q => ∀ pins s, Inv X pins σ H s → wpAny (model X.prog X.w) X.A (eval e X.env) (EP X pins σ Q) X.xe s
def wT (X : Cx) (e : Expr) : TT := fun σ H Q => ∀ pins s, Inv X pins σ H s → wpAny (model X.prog X.w) X.A (isTrue e X.env (eval e X.env)) (TP X pins σ Q) X.xe s
def wW (X : Cx) (e : Expr) : TT := fun σ H Q => ∀ whole pins s, Inv X pins σ H s → wpAny (model X.prog X.w) X.A (isTrue e X.env whole) (TP X pins σ Q) X.xe s
def wA (X : Cx) (es : List Expr) : TA := fun σ H Q => ∀ pos pins s, Inv X pins σ H s → wpAny (model X.prog X.w) X.A (spliced (backTo pos (starEach es X.env))) (AP X pins σ Q) X.xe s
def wS (X : Cx) (st : Stmt) : TS := fun D σ H => ∀ pins s, Inv X pins σ H s → wpAny (model X.prog X.w) X.A (exec st X.env) (SP X pins D) X.xe s
def wB (X : Cx) (st : List Stmt) : TS := fun D σ H => ∀ pins s, Inv X pins σ H s → wpAny (model X.prog X.w) X.A (execs st X.env) (SP X pins D) X.xe s
section
variable {X : Cx} {e : Expr} {es : List Expr} {st : Stmt} {b : List Stmt} {σ : L2.St} {H : Hp} {Q : VK} {D : Ends}
theorem pe_w : PE X e (wE X e) := ⟨fun pins s _ _ _ I h => h pins s I⟩
theorem pt_w : PT X e (wT X e) := ⟨fun pins s _ _ _ I h => h pins s I⟩
theorem pw_w : PW X e (wW X e) := ⟨fun whole pins s _ _ _ I h => h whole pins s I⟩
theorem pa_w : PA X es (wA X es) := ⟨fun pos pins s _ _ _ I h => h pos pins s I⟩
theorem ps_w : PS X st (wS X st) := ⟨fun pins s _ _ _ I h => h pins s I⟩
theorem pss_w : PSs X b (wB X b) := ⟨fun pins s _ _ _ I h => h pins s I⟩
theorem of_pe {t : TE} (h : PE X e t) (q : t σ H Q) : wE X e σ H Q := fun pins s I => h.run pins s σ H Q I q
theorem of_pt {t : TT} {Q : Bool → Hp → Prop} (h : PT X e t) (q : t σ H Q) : wT X e σ H Q := fun pins s I => h.run pins s σ H Q I q
theorem of_pw {t : TT} {Q : Bool → Hp → Prop} (h : PW X e t) (q : t σ H Q) : wW X e σ H Q := fun whole pins s I => h.run whole pins s σ H Q I q
theorem of_pa {t : TA} {Q : List V → Hp → Prop} (h : PA X es t) (q : t σ H Q) : wA X es σ H Q := fun pos pins s I => h.run pos pins s σ H Q I q
theorem of_ps {t : TS} (h : PS X st t) (q : t D σ H) : wS X st D σ H := fun pins s I => h.run pins s σ H D I q
theorem of_pss {t : TS} (h : PSs X b t) (q : t D σ H) : wB X b D σ H := fun pins s I => h.run pins s σ H D I q
end
def wR (X : Cx) (f : Value → Value → Sem Value) : R2 := fun x y H Q => ∀ pins s σ v u, Inv X pins σ H s → RelV x v → RelV y u → wpAny (model X.prog X.w) X.A (f v u) (EP X pins σ Q) X.xe s
def wC (X : Cx) (f : Value) : List V → Hp → VK → Prop := fun xs H Q => ∀ pins s σ us, Inv X pins σ H s → Vals xs us → wpAny (model X.prog X.w) X.A (call f us) (EP X pins σ Q) X.xe s
def wU (X : Cx) (f : Value → Sem Value) : V → Hp → VK → Prop := fun x H Q => ∀ pins s σ v, Inv X pins σ H s → RelV x v → wpAny (model X.prog X.w) X.A (f v) (EP X pins σ Q) X.xe s
theorem r_w {X : Cx} {f : Value → Value → Sem Value} : OpR X f (wR X f) := fun pins s σ H x y v u Q I rx ry h => h pins s σ v u I rx ry
theorem of_r {X : Cx} {f : Value → Value → Sem Value} {r : R2} {x y : V} {H : Hp} {Q : VK} (h : OpR X f r) (q : r x y H Q) : wR X f x y H Q := fun pins s σ v u I rx ry => h pins s σ H x y v u Q I rx ry q
theorem c_w {X : Cx} {f : Value} : CallR X f (wC X f) := fun pins s σ H xs us Q I r h => h pins s σ us I r
theorem of_c {X : Cx} {f : Value} {r : List V → Hp → VK → Prop} {xs : List V} {H : Hp} {Q : VK} (h : CallR X f r) (q : r xs H Q) : wC X f xs H Q := fun pins s σ us I rx => h pins s σ H xs us Q I rx q

/-! ### new data -/
section
variable {K : PySem.W.Frag} {cl : Nat → Addr} {L : List Addr} {M : Ms} {H : Hp}
/-- what is wanted behind a piece that hands back the data d -/
abbrev Wt (K : PySem.W.Frag) (cl : Nat → Addr) (L : List Addr) (M : Ms) (H : Hp) (d : D) (Q : VK) : Prop := ∀ (v : V) (H' : Hp), Step L H H' → Rel K cl L M H' → At K L H' v d → Q v H'
theorem Wt.here {d : D} {Q : VK} {v : V} (k : Wt K cl L M H d Q) (r : Rel K cl L M H) (h : At K L H v d) : Q v H := k v H (Step.refl L H) r h
theorem Wt.lst {ds : List D} {xs : List V} {Q : VK} (k : Wt K cl L M H (.lst ds) Q) (r : Rel K cl L M H) (z : Ats K L H xs ds) {p : Addr} (h : H p = none) : Q (.ref p) (upd H p (.lst xs)) :=
  k _ _ (Step.new h) (r.new h) (.lst upd_same (r.fresh h) (z.st (Step.new h)))
theorem Wt.tup {ds : List D} {xs : List V} {Q : VK} (k : Wt K cl L M H (.tup ds) Q) (r : Rel K cl L M H) (z : Ats K L H xs ds) {p : Addr} (h : H p = none) : Q (.ref p) (upd H p (.tup xs)) :=
  k _ _ (Step.new h) (r.new h) (.tup (.inl ⟨upd_same, r.fresh h⟩) (z.st (Step.new h)))
theorem sqT {a : Addr} {xs : List V} (h : (H a = some (.tup xs) ∧ a ∉ L) ∨ KTup K a xs) : SqT K H a xs := h.imp (fun z => .inl z.1) id
end
theorem small {n : Nat} (h : n ≤ lim) : n ≤ sizeLine := by
  rw [sizeLine_eq]
  have : lim = 100000 := rfl
  omega

/-! ### + - * // % -/
def OpS (X : Cx) (cl : Nat → Addr) (f : Value → Value → Sem Value) (o : D → D → Option D) : Prop :=
  ∀ ⦃L M H x y dx dy d Q⦄, o dx dy = some d → Rel X.K cl L M H → At X.K L H x dx → At X.K L H y dy → Wt X.K cl L M H d Q → wR X f x y H Q
section
variable {X : Cx} {cl : Nat → Addr}
theorem ats_nil_iff {K : PySem.W.Frag} {L : List Addr} {H : Hp} {xs : List V} {ds : List D} (z : Ats K L H xs ds) : xs = [] ↔ ds = [] := by
  cases z <;> simp
theorem s_add : OpS X cl (binaryOp .Add) (binD .add) := by
  intro L M H x y dx dy d Q e r hx hy k
  cases hx with
  | int i =>
    cases hy with
    | int j =>
      have e := Option.some.inj e
      subst e
      exact of_r op_add ⟨i, j, rfl, rfl, k.here r (.int _)⟩
    | _ => simp [binD] at e
  | str s os =>
    cases hy with
    | str t ot =>
      simp only [binD] at e
      split at e
      · rename_i hl
        have e := Option.some.inj e
        subst e
        refine of_r op_add_str ⟨_, _, rfl, rfl, ?_, ?_⟩
        · rw [toS_len, toS_len]; exact small hl
        · rw [toS_app]
          exact k.here r (.str _ (os.app ot))
      · cases e
    | _ => simp [binD] at e
  | lst h n z =>
    cases hy with
    | lst h2 n2 z2 =>
      simp only [binD] at e
      split at e
      · rename_i hl
        have e := Option.some.inj e
        subst e
        refine of_r op_cat ⟨_, _, _, _, rfl, rfl, h, h2, ?_, fun p hp => k.lst r (z.app z2) hp⟩
        rw [z.length, z2.length]; exact small hl
      · cases e
    | _ => simp [binD] at e
  | tup h z =>
    cases hy with
    | tup h2 z2 =>
      simp only [binD] at e
      split at e
      · rename_i hl
        have e := Option.some.inj e
        subst e
        refine of_r op_catA ⟨_, _, _, _, rfl, rfl, sqT h, sqT h2, ?_, fun hx => ?_, fun hx hy => ?_, fun hx hy p hp => k.tup r (z.app z2) hp⟩
        · rw [z.length, z2.length]; exact small hl
        · have := (ats_nil_iff z).mp hx
          subst this
          exact k.here r (.tup h2 z2)
        · have := (ats_nil_iff z2).mp hy
          subst this
          rw [List.append_nil] at k
          exact k.here r (.tup h z)
      · cases e
    | _ => simp [binD] at e
  | _ => cases hy <;> simp [binD] at e
theorem s_sub : OpS X cl (binaryOp .Sub) (binD .sub) := by
  intro L M H x y dx dy d Q e r hx hy k
  cases hx with
  | int i =>
    cases hy with
    | int j =>
      have e := Option.some.inj e
      subst e
      exact of_r op_sub ⟨i, j, rfl, rfl, k.here r (.int _)⟩
    | _ => simp [binD] at e
  | _ => cases hy <;> simp [binD] at e
theorem s_fdiv : OpS X cl (binaryOp .FloorDiv) (binD .fdiv) := by
  intro L M H x y dx dy d Q e r hx hy k
  cases hx with
  | int i =>
    cases hy with
    | int j =>
      simp only [binD] at e
      split at e
      · rename_i hl
        have e := Option.some.inj e
        subst e
        exact of_r op_fdiv ⟨i, j, rfl, rfl, hl, k.here r (.int _)⟩
      · cases e
    | _ => simp [binD] at e
  | _ => cases hy <;> simp [binD] at e
theorem s_mod : OpS X cl (binaryOp .Mod) (binD .mod) := by
  intro L M H x y dx dy d Q e r hx hy k
  cases hx with
  | int i =>
    cases hy with
    | int j =>
      simp only [binD] at e
      split at e
      · rename_i hl
        have e := Option.some.inj e
        subst e
        exact of_r op_mod ⟨i, j, rfl, rfl, hl, k.here r (.int _)⟩
      · cases e
    | _ => simp [binD] at e
  | _ => cases hy <;> simp [binD] at e
theorem natAbs_lt64 {i : Int} (h : i.natAbs < 2 ^ 63) : -(2 ^ 64) < i ∧ i < 2 ^ 64 := by
  have e : (2 : Nat) ^ 63 = 9223372036854775808 := by decide
  rw [e] at h
  omega
theorem log2_big {n : Nat} (h : n < big) : n.log2 < 4096 := by
  by_cases c : n = 0
  · subst c
    decide
  · exact (Nat.log2_lt c).mpr h
theorem rep_one {K : PySem.W.Frag} {L : List Addr} {H : Hp} {xs : List V} {ds : List D} (z : Ats K L H xs ds) : ∀ n : Nat, Ats K L H (List.replicate n xs).flatten (List.replicate n ds).flatten
  | 0 => .nil
  | n + 1 => by
    rw [List.replicate_succ, List.replicate_succ, List.flatten_cons, List.flatten_cons]
    exact z.app (rep_one z n)
theorem s_mul : OpS X cl (binaryOp .Mult) (binD .mul) := by
  intro L M H x y dx dy d Q e r hx hy k
  cases hx with
  | int i =>
    cases hy with
    | int j =>
      simp only [binD] at e
      split at e
      · rename_i hl
        have e := Option.some.inj e
        subst e
        simp only [mulOk, Bool.or_eq_true, Bool.and_eq_true, decide_eq_true_eq] at hl
        rcases hl with (hl | hl) | ⟨h1, h2⟩
        · exact of_r op_mul ⟨i, j, rfl, rfl, .inl (natAbs_lt64 hl), k.here r (.int _)⟩
        · exact of_r op_mul ⟨i, j, rfl, rfl, .inr (natAbs_lt64 hl), k.here r (.int _)⟩
        · have a := log2_big h1
          have b := log2_big h2
          exact of_r op_mulW ⟨i, j, rfl, rfl, (show i.natAbs.log2 + j.natAbs.log2 < 1000000 by omega), k.here r (.int _)⟩
      · cases e
    | _ => simp [binD] at e
  | lst h n z =>
    cases hy with
    | int j =>
      simp only [binD] at e
      split at e
      · rename_i hl
        have e := Option.some.inj e
        subst e
        obtain ⟨h0, h1, h2⟩ := hl
        refine of_r op_rep ⟨_, j, _, rfl, rfl, h, by omega, by omega, ?_, fun p hp => k.lst r (rep_one z _) hp⟩
        rw [z.length, h2, sizeLine_eq]
        omega
      · cases e
    | _ => simp [binD] at e
  | _ => cases hy <;> simp [binD] at e

/-! ### comparisons -/
mutual
def py : D → PyData
  | .non => .none
  | .bl b => .bool b
  | .int i => .int i
  | .str s => .str (toS s)
  | .tup ds => .tuple (pyL ds)
  | .lst ds => .list (pyL ds)
  | .scr _ => .none
  | .ref _ => .none
def pyL : List D → List PyData
  | [] => []
  | d :: ds => py d :: pyL ds
end
theorem toS_beq (s t : Tx) : (toS s == toS t) = (s == t) := by
  by_cases h : s = t
  · subst h; simp
  · rw [beq_eq_false_iff_ne.mpr h, beq_eq_false_iff_ne.mpr fun z => h (toS_inj z)]
/-- plain: no mutable object, no script -/
def plainD : D → Bool
  | .scr _ | .ref _ => false
  | _ => true
theorem ok_plain {n : Nat} {d : D} (h : d.ok n = true) : plainD d = true := by
  cases d <;> first | rfl | (cases n <;> simp [D.ok] at h)
mutual
theorem eqv_py : ∀ (n m : Nat) (x y : D), x.ok n = true → y.ok m = true → PyData.eqv (py x) (py y) = x.eqv y
  | n, m, .lst xs, .lst ys, h1, h2 => by
    cases n with
    | zero => simp [D.ok] at h1
    | succ n =>
      cases m with
      | zero => simp [D.ok] at h2
      | succ m =>
        simp only [D.ok] at h1 h2
        rw [py, py, PyData.eqv, D.eqv]
        exact eqvL_py n m xs ys h1 h2
  | n, m, .tup xs, .tup ys, h1, h2 => by
    cases n with
    | zero => simp [D.ok] at h1
    | succ n =>
      cases m with
      | zero => simp [D.ok] at h2
      | succ m =>
        simp only [D.ok] at h1 h2
        rw [py, py, PyData.eqv, D.eqv]
        exact eqvL_py n m xs ys h1 h2
  | _, _, .str s, .str t, _, _ => by rw [py, py, PyData.eqv, D.eqv, toS_beq]
  | _, _, .non, .non, _, _ | _, _, .bl _, .bl _, _, _ | _, _, .bl _, .int _, _, _ | _, _, .int _, .bl _, _, _ | _, _, .int _, .int _, _, _ => by simp [py, PyData.eqv, D.eqv]
  | n, m, .scr _, y, h1, h2 => by simp [D.ok] at h1
  | n, m, .ref _, y, h1, h2 => by simp [D.ok] at h1
  | n, m, x, .scr _, h1, h2 => by simp [D.ok] at h2
  | n, m, x, .ref _, h1, h2 => by simp [D.ok] at h2
  | _, _, .non, .bl _, _, _ | _, _, .non, .int _, _, _ | _, _, .non, .str _, _, _ | _, _, .non, .lst _, _, _ | _, _, .non, .tup _, _, _ => by simp [py, PyData.eqv, D.eqv]
  | _, _, .bl _, .non, _, _ | _, _, .bl _, .str _, _, _ | _, _, .bl _, .lst _, _, _ | _, _, .bl _, .tup _, _, _ => by simp [py, PyData.eqv, D.eqv]
  | _, _, .int _, .non, _, _ | _, _, .int _, .str _, _, _ | _, _, .int _, .lst _, _, _ | _, _, .int _, .tup _, _, _ => by simp [py, PyData.eqv, D.eqv]
  | _, _, .str _, .non, _, _ | _, _, .str _, .bl _, _, _ | _, _, .str _, .int _, _, _ | _, _, .str _, .lst _, _, _ | _, _, .str _, .tup _, _, _ => by simp [py, PyData.eqv, D.eqv]
  | _, _, .lst _, .non, _, _ | _, _, .lst _, .bl _, _, _ | _, _, .lst _, .int _, _, _ | _, _, .lst _, .str _, _, _ | _, _, .lst _, .tup _, _, _ => by simp [py, PyData.eqv, D.eqv]
  | _, _, .tup _, .non, _, _ | _, _, .tup _, .bl _, _, _ | _, _, .tup _, .int _, _, _ | _, _, .tup _, .str _, _, _ | _, _, .tup _, .lst _, _, _ => by simp [py, PyData.eqv, D.eqv]
theorem eqvL_py : ∀ (n m : Nat) (xs ys : List D), xs.all (D.ok n) = true → ys.all (D.ok m) = true → PyData.eqvAll (pyL xs) (pyL ys) = D.eqvL xs ys
  | _, _, [], [], _, _ => by simp [pyL, PyData.eqvAll, D.eqvL]
  | _, _, [], _ :: _, _, _ => by simp [pyL, PyData.eqvAll, D.eqvL]
  | _, _, _ :: _, [], _, _ => by simp [pyL, PyData.eqvAll, D.eqvL]
  | n, m, x :: xs, y :: ys, h1, h2 => by
    rw [List.all_cons, Bool.and_eq_true] at h1 h2
    rw [pyL, pyL, PyData.eqvAll, D.eqvL, eqv_py n m x y h1.1 h2.1, eqvL_py n m xs ys h1.2 h2.2]
end
mutual
theorem dp_of {K : PySem.W.Frag} {L : List Addr} {H : Hp} : ∀ (n : Nat) {v : V} {d : D}, At K L H v d → d.ok n = true → Dp K H v (py d)
  | _, _, _, .non, _ => .non
  | _, _, _, .bl b, _ => .bl b
  | _, _, _, .int i, _ => .int i
  | _, _, _, .str s _, _ => .str _
  | n, _, _, .tup h z, o => by
    cases n with
    | zero => simp [D.ok] at o
    | succ n =>
      simp only [D.ok] at o
      rw [py]
      exact .tup (sqT h) (dpL_of n z o)
  | n, _, _, .lst h _ z, o => by
    cases n with
    | zero => simp [D.ok] at o
    | succ n =>
      simp only [D.ok] at o
      rw [py]
      exact .lst (.inl (.inl h)) (dpL_of n z o)
  | _, _, _, .scr _, o => by simp [D.ok] at o
  | _, _, _, .ref _, o => by simp [D.ok] at o
theorem dpL_of {K : PySem.W.Frag} {L : List Addr} {H : Hp} : ∀ (n : Nat) {vs : List V} {ds : List D}, Ats K L H vs ds → ds.all (D.ok n) = true → DpAll K H vs (pyL ds)
  | _, _, _, .nil, _ => .nil
  | n, _, _, .cons h t, o => by
    rw [List.all_cons, Bool.and_eq_true] at o
    exact .cons (dp_of n h o.1) (dpL_of n t o.2)
end
theorem strOk_toS {s : Tx} (h : TxOk s) : PyData.strOk (toS s) = true := by
  unfold PyData.strOk
  rw [Array.all_eq_true]
  intro i hi
  have hi' : i < s.length := by simpa [toS] using hi
  have := h s[i] (List.getElem_mem hi')
  exact decide_eq_true (by simpa [toS] using this)
mutual
theorem shp_of {K : PySem.W.Frag} {L : List Addr} {H : Hp} : ∀ (n : Nat) {v : V} {d : D}, At K L H v d → d.ok n = true → (py d).canLay0 = true ∧ (py d).depth ≤ n
  | _, _, _, .non, _ => ⟨by simp [py, PyData.canLay0], by simp [py, PyData.depth]⟩
  | _, _, _, .bl b, _ => ⟨by simp [py, PyData.canLay0], by simp [py, PyData.depth]⟩
  | _, _, _, .int i, _ => ⟨by simp [py, PyData.canLay0], by simp [py, PyData.depth]⟩
  | _, _, _, .str s o, _ => ⟨by simp [py, PyData.canLay0, strOk_toS o], by simp [py, PyData.depth]⟩
  | n, _, _, .tup h z, o => by
    cases n with
    | zero => simp [D.ok] at o
    | succ n =>
      simp only [D.ok] at o
      obtain ⟨a, b⟩ := shpL_of n z o
      exact ⟨by simp only [py, PyData.canLay0]; exact a, by simp only [py, PyData.depth]; omega⟩
  | n, _, _, .lst h _ z, o => by
    cases n with
    | zero => simp [D.ok] at o
    | succ n =>
      simp only [D.ok] at o
      obtain ⟨a, b⟩ := shpL_of n z o
      exact ⟨by simp only [py, PyData.canLay0]; exact a, by simp only [py, PyData.depth]; omega⟩
  | _, _, _, .scr _, o => by simp [D.ok] at o
  | _, _, _, .ref _, o => by simp [D.ok] at o
theorem shpL_of {K : PySem.W.Frag} {L : List Addr} {H : Hp} : ∀ (n : Nat) {vs : List V} {ds : List D}, Ats K L H vs ds → ds.all (D.ok n) = true → PyData.canLayAll0 (pyL ds) = true ∧ PyData.depthAll (pyL ds) ≤ n
  | _, _, _, .nil, _ => ⟨by simp [pyL, PyData.canLayAll0], by simp [pyL, PyData.depthAll]⟩
  | n, _, _, .cons h t, o => by
    rw [List.all_cons, Bool.and_eq_true] at o
    obtain ⟨a, b⟩ := shp_of n h o.1
    obtain ⟨c, d⟩ := shpL_of n t o.2
    exact ⟨by simp only [pyL, PyData.canLayAll0, a, c, Bool.and_self], by simp only [pyL, PyData.depthAll]; omega⟩
end
theorem shaped_of {K : PySem.W.Frag} {L : List Addr} {H : Hp} {n : Nat} {v : V} {d : D} (h : At K L H v d) (o : d.ok n = true) (hn : n ≤ 64) : SeqAt.shaped (py d) = true := by
  obtain ⟨a, b⟩ := shp_of n h o
  unfold SeqAt.shaped
  rw [a, Bool.true_and]
  exact decide_eq_true (by omega)

def CmpS (X : Cx) (cl : Nat → Addr) (op : CmpOp) (c : Cop) : Prop :=
  ∀ ⦃L M H x y dx dy b⦄ ⦃Q : VK⦄, cmpD c dx dy = some b → Rel X.K cl L M H → At X.K L H x dx → At X.K L H y dy → Q (.bl b) H → wR X (compareOp op) x y H Q
theorem c_int {op : CmpOp} {c : Cop} {p : Int → Int → Bool} (hp : ∀ dx dy b, cmpD c dx dy = some b → ∃ i j, dx = .int i ∧ dy = .int j ∧ b = p i j)
    (ho : OpR X (compareOp op) (rI0 fun i j => .bl (p i j))) : CmpS X cl op c := by
  intro L M H x y dx dy b Q e r hx hy q
  obtain ⟨i, j, rfl, rfl, rfl⟩ := hp _ _ _ e
  cases hx
  cases hy
  exact of_r ho ⟨i, j, rfl, rfl, q⟩
theorem s_lt : CmpS X cl .Lt .lt := c_int (p := fun i j => decide (i < j)) (fun dx dy b e => by
  cases dx <;> cases dy <;> simp [cmpD] at e <;> exact ⟨_, _, rfl, rfl, by rw [← e]⟩) op_lt
theorem s_le : CmpS X cl .LtE .le := c_int (p := fun i j => decide (i ≤ j)) (fun dx dy b e => by
  cases dx <;> cases dy <;> simp [cmpD] at e <;> exact ⟨_, _, rfl, rfl, by rw [← e]⟩) op_le
theorem s_gt : CmpS X cl .Gt .gt := c_int (p := fun i j => decide (j < i)) (fun dx dy b e => by
  cases dx <;> cases dy <;> simp [cmpD] at e <;> exact ⟨_, _, rfl, rfl, by rw [← e]⟩) op_gt
theorem s_ge : CmpS X cl .GtE .ge := c_int (p := fun i j => decide (j ≤ i)) (fun dx dy b e => by
  cases dx <;> cases dy <;> simp [cmpD] at e <;> exact ⟨_, _, rfl, rfl, by rw [← e]⟩) op_ge
theorem s_eq (hu : X.A.units + 64 < cLine) : CmpS X cl .Eq .eq := by
  intro L M H x y dx dy b Q e r hx hy q
  simp only [cmpD] at e
  split at e
  · rename_i h
    rw [Bool.and_eq_true] at h
    have e := Option.some.inj e
    subst e
    refine of_r (op_eqD hu) ⟨_, _, dp_of 50 hx h.1, dp_of 50 hy h.2, shaped_of hx h.1 (by decide), shaped_of hy h.2 (by decide), ?_⟩
    rw [eqv_py 50 50 _ _ h.1 h.2]
    exact q
  · cases e
theorem s_ne (hu : X.A.units + 64 < cLine) : CmpS X cl .NotEq .ne := by
  intro L M H x y dx dy b Q e r hx hy q
  simp only [cmpD] at e
  split at e
  · rename_i h
    rw [Bool.and_eq_true] at h
    have e := Option.some.inj e
    subst e
    refine of_r (op_neD hu) ⟨_, _, dp_of 50 hx h.1, dp_of 50 hy h.2, shaped_of hx h.1 (by decide), shaped_of hy h.2 (by decide), ?_⟩
    rw [eqv_py 50 50 _ _ h.1 h.2]
    exact q
  · cases e
theorem s_is : CmpS X cl .Is .is_ := by
  intro L M H x y dx dy b Q e r hx hy q
  cases hy <;> simp [cmpD] at e
  refine of_r op_isN ⟨rfl, ?_⟩
  have : decide (x = .non) = b := by
    rw [← e]
    cases hx <;> simp
  rw [this]
  exact q
theorem s_isn : CmpS X cl .IsNot .isn := by
  intro L M H x y dx dy b Q e r hx hy q
  cases hy <;> simp [cmpD] at e
  refine of_r op_notN ⟨rfl, ?_⟩
  have : (!decide (x = .non)) = b := by
    rw [← e]
    cases hx <;> simp
  rw [this]
  exact q
theorem flat_of {K : PySem.W.Frag} {L : List Addr} {H : Hp} {v : V} {d : D} (h : At K L H v d) (f : d.flat = true) : flatV v = true := by
  cases h <;> first | rfl | simp [D.flat] at f
theorem eqV_of {K : PySem.W.Frag} {L : List Addr} {H : Hp} {v u : V} {d e : D} (h : At K L H v d) (h2 : At K L H u e) (f : d.flat = true) (g : e.flat = true) : eqV v u = d.eqv e := by
  cases h <;> cases h2 <;> first | (simp [D.flat] at f; done) | (simp [D.flat] at g; done) | (simp [eqV, D.eqv, toS_beq]; done)
theorem flats_of {K : PySem.W.Frag} {L : List Addr} {H : Hp} : ∀ {vs : List V} {ds : List D}, Ats K L H vs ds → ds.all D.flat = true → vs.all flatV = true
  | _, _, .nil, _ => rfl
  | _, _, .cons h t, f => by
    rw [List.all_cons, Bool.and_eq_true] at f
    rw [List.all_cons, flat_of h f.1, flats_of t f.2]
    rfl
theorem inV_of {K : PySem.W.Frag} {L : List Addr} {H : Hp} {u : V} {e : D} (h2 : At K L H u e) (g : e.flat = true) : ∀ {vs : List V} {ds : List D}, Ats K L H vs ds → ds.all D.flat = true → inV u vs = ds.any fun z => z.eqv e
  | _, _, .nil, _ => rfl
  | _, _, .cons h t, f => by
    rw [List.all_cons, Bool.and_eq_true] at f
    have ih := inV_of h2 g t f.2
    unfold inV at ih ⊢
    rw [List.any_cons, List.any_cons, eqV_of h h2 f.1 g, ih]
theorem any_py (n m : Nat) (e : D) (he : e.ok n = true) : ∀ (ds : List D), ds.all (D.ok m) = true → (pyL ds).any (fun z => PyData.eqv z (py e)) = ds.any fun z => z.eqv e
  | [], _ => rfl
  | d :: ds, f => by
    rw [List.all_cons, Bool.and_eq_true] at f
    rw [pyL, List.any_cons, List.any_cons, eqv_py m n d e f.1 he, any_py n m e he ds f.2]
theorem s_mem (hu : X.A.units + 65 < cLine) : CmpS X cl .In .mem := by
  intro L M H x y dx dy b Q e r hx hy q
  cases hy with
  | str z oz =>
    cases hx with
    | str s os =>
      match s, e, os with
      | [c], e, os =>
        have e := Option.some.inj e
        subst e
        refine of_r op_in_sign ⟨c, toS z, rfl, rfl, ?_⟩
        rw [toS_list]
        exact q
      | [], e, _ => simp [cmpD] at e
      | _ :: _ :: _, e, _ => simp [cmpD] at e
    | _ => simp [cmpD] at e
  | @tup a xs ds h z =>
    have e' : (if dx.flat && ds.all D.flat then some (ds.any fun z => z.eqv dx) else none) = some b := by
      cases hx with
      | str s _ => (match s, e with | [], e => exact e | [_], e => exact e | _ :: _ :: _, e => exact e)
      | _ => exact e
    split at e'
    · rename_i f
      rw [Bool.and_eq_true] at f
      have e' := Option.some.inj e'
      refine of_r op_in_seq ⟨_, _, rfl, .inr (sqT h), flat_of hx f.1, flats_of z f.2, ?_⟩
      rw [inV_of hx f.1 z f.2, e']
      exact q
    · cases e'
  | @lst a xs ds h n z =>
    have e' : (if dx.ok 50 && ds.all (D.ok 49) then some (ds.any fun z => z.eqv dx) else none) = some b := by
      cases hx with
      | str s _ => (match s, e with | [], e => exact e | [_], e => exact e | _ :: _ :: _, e => exact e)
      | _ => exact e
    split at e'
    · rename_i f
      rw [Bool.and_eq_true] at f
      have e' := Option.some.inj e'
      have hl : D.ok 50 (.lst ds) = true := by simp only [D.ok]; exact f.2
      refine of_r (op_inD hu) ⟨py dx, pyL ds, dp_of 50 hx f.1, (by have := dp_of 50 (.lst h n z) hl; rwa [py] at this), shaped_of hx f.1 (by decide), (by have := shaped_of (.lst h n z) hl (by decide); rwa [py] at this), ?_⟩
      rw [any_py 50 49 dx f.1 ds f.2, e']
      exact q
    · cases e'
  | _ => cases hx <;> simp [cmpD] at e
theorem s_nmem (hu : X.A.units + 65 < cLine) : CmpS X cl .NotIn .nmem := by
  intro L M H x y dx dy b Q e r hx hy q
  cases hy with
  | str z oz =>
    cases hx with
    | str s os =>
      match s, e, os with
      | [c], e, os =>
        have e := Option.some.inj e
        subst e
        refine of_r op_notIn_sign ⟨c, toS z, rfl, rfl, ?_⟩
        rw [toS_list]
        exact q
      | [], e, _ => simp [cmpD] at e
      | _ :: _ :: _, e, _ => simp [cmpD] at e
    | _ => simp [cmpD] at e
  | @tup a xs ds h z =>
    have e' : (if dx.flat && ds.all D.flat then some (!(ds.any fun z => z.eqv dx)) else none) = some b := by
      cases hx with
      | str s _ => (match s, e with | [], e => exact e | [_], e => exact e | _ :: _ :: _, e => exact e)
      | _ => exact e
    split at e'
    · rename_i f
      rw [Bool.and_eq_true] at f
      have e' := Option.some.inj e'
      refine of_r op_notIn_seq ⟨_, _, rfl, .inr (sqT h), flat_of hx f.1, flats_of z f.2, ?_⟩
      rw [inV_of hx f.1 z f.2]
      rw [if_pos rfl, e']
      exact q
    · cases e'
  | @lst a xs ds h n z =>
    have e' : (if dx.ok 50 && ds.all (D.ok 49) then some (!(ds.any fun z => z.eqv dx)) else none) = some b := by
      cases hx with
      | str s _ => (match s, e with | [], e => exact e | [_], e => exact e | _ :: _ :: _, e => exact e)
      | _ => exact e
    split at e'
    · rename_i f
      rw [Bool.and_eq_true] at f
      have e' := Option.some.inj e'
      have hl : D.ok 50 (.lst ds) = true := by simp only [D.ok]; exact f.2
      refine of_r (op_notInD hu) ⟨py dx, pyL ds, dp_of 50 hx f.1, (by have := dp_of 50 (.lst h n z) hl; rwa [py] at this), shaped_of hx f.1 (by decide), (by have := shaped_of (.lst h n z) hl (by decide); rwa [py] at this), ?_⟩
      rw [any_py 50 49 dx f.1 ds f.2, e']
      exact q
    · cases e'
  | _ => cases hx <;> simp [cmpD] at e
end
end FpS

set_option linter.all false
set_option maxRecDepth 100000
set_option maxHeartbeats 4000000
/-! Expressions: each piece of Python's syntax against its place in the small language. -/
namespace FpS
open PySem PySem.Spec PyProof.Rows L2 Fp

def SimE (cl : Nat → Addr) (cf : Cf) (X : Cx) (e : Expr) (p : PX) : Prop := ∀ ⦃ρ : Sl⦄ ⦃M : Ms⦄ ⦃d : D⦄, evalX cf M p ρ = some d → ∀ {L σ H Q}, Rel X.K cl L M H → EnvR X.K L H σ ρ → Wt X.K cl L M H d Q → wE X e σ H Q
abbrev WtB (K : PySem.W.Frag) (cl : Nat → Addr) (L : List Addr) (M : Ms) (H : Hp) (b : Bool) (Q : Bool → Hp → Prop) : Prop := ∀ (H' : Hp), Step L H H' → Rel K cl L M H' → Q b H'
def SimT (cl : Nat → Addr) (cf : Cf) (X : Cx) (e : Expr) (p : PX) : Prop := ∀ ⦃ρ : Sl⦄ ⦃M : Ms⦄ ⦃d : D⦄ ⦃b : Bool⦄, evalX cf M p ρ = some d → asB d = some b → ∀ {L σ H Q}, Rel X.K cl L M H → EnvR X.K L H σ ρ → WtB X.K cl L M H b Q → wT X e σ H Q
def SimW (cl : Nat → Addr) (cf : Cf) (X : Cx) (e : Expr) (p : PX) : Prop := ∀ ⦃ρ : Sl⦄ ⦃M : Ms⦄ ⦃d : D⦄ ⦃b : Bool⦄, evalX cf M p ρ = some d → asB d = some b → ∀ {L σ H Q}, Rel X.K cl L M H → EnvR X.K L H σ ρ → WtB X.K cl L M H b Q → wW X e σ H Q
def SimA (cl : Nat → Addr) (cf : Cf) (X : Cx) (es : List Expr) (p : PA) : Prop := ∀ ⦃ρ : Sl⦄ ⦃M : Ms⦄ ⦃ds : List D⦄, evalA cf M p ρ = some ds → ∀ {L σ H} {Q : List V → Hp → Prop}, Rel X.K cl L M H → EnvR X.K L H σ ρ →
  (∀ vs H', Step L H H' → Rel X.K cl L M H' → Ats X.K L H' vs ds → Q vs H') → wA X es σ H Q

section
variable {cl : Nat → Addr} {cf : Cf} {X : Cx} {a b c : Expr} {p q r : PX} {pos : Pos}
theorem asB_bl {d : D} {b : Bool} (h : asB d = some b) : d = .bl b := by
  cases d <;> simp [asB] at h
  rw [h]
theorem asI_int {d : D} {b : Int} (h : asI d = some b) : d = .int b := by
  cases d <;> simp [asI] at h
  rw [h]

/-! ### names, constants -/
theorem sim_var (i : Nat) {x : Str} (hN : X.N[i]? = some x := by rfl) (hv : Vis X.env.scope x := by first | exact Or.inl rfl | exact Or.inr (Or.inl rfl) | exact Or.inr (Or.inr rfl)) (hd : (x == ("__debug__" : Str)) = false := by decide)
    (hcd : (x == ("__classdict__" : Str)) = false := by decide) : SimE cl cf X (.Name x pos) (.var i) := by
  intro ρ M d e L σ H Q r en k
  simp only [evalX] at e
  split at e
  · rename_i d' h
    cases e
    obtain ⟨v, h1, h2⟩ := en.at_ i _ h
    exact of_pe (pe_var hN hv hd hcd) ⟨v, h1, k.here r h2⟩
  · cases e
theorem sim_cst {v : V} {d : D} (h : PE X a (tC v)) (hat : ∀ L H, At X.K L H v d) : SimE cl cf X a (.cst d) := by
  intro ρ M d' e L σ H Q r en k
  cases (show some d = some d' from e)
  exact of_pe h (k.here r (hat _ _))
theorem sim_int {i : Int} {j} : SimE cl cf X (.Constant (.int i) j pos) (.cst (.int i)) := sim_cst pe_int fun _ _ => .int i
theorem sim_bl {i : Bool} {j} : SimE cl cf X (.Constant (.bool i) j pos) (.cst (.bl i)) := sim_cst pe_bl fun _ _ => .bl i
theorem sim_non {j} : SimE cl cf X (.Constant .none j pos) (.cst .non) := sim_cst pe_non fun _ _ => .non
theorem sim_str {x : Str} {j} (s : Tx) (hx : x = toS s := by decide +kernel) (ok : s.all (fun c => decide (c < 1114112)) = true := by decide) : SimE cl cf X (.Constant (.str x) j pos) (.cst (.str s)) :=
  sim_cst pe_str fun _ _ => by
    subst hx
    exact .str s fun c hc => of_decide_eq_true (List.all_eq_true.mp ok c hc)
theorem sim_gint {x : Str} {i : Int} {t : Tok} (hg : Gl X x) (hm : X.mg x = some (.int i t)) (hd : (x == ("__debug__" : Str)) = false := by decide) : SimE cl cf X (.Name x pos) (.cst (.int i)) :=
  sim_cst (pe_glob hg hm (v := .int i) ⟨_, rfl⟩ hd) fun _ _ => .int i
theorem sim_gtup {x : Str} {t : Addr} {xs : List V} {ds : List D} (hg : Gl X x) (hm : X.mg x = some (.ref t)) (hk : KTup X.K t xs) (z : ∀ L H, Ats X.K L H xs ds) (hd : (x == ("__debug__" : Str)) = false := by decide) : SimE cl cf X (.Name x pos) (.cst (.tup ds)) :=
  sim_cst (pe_glob hg hm (v := .ref t) rfl hd) fun _ _ => .tup (.inr hk) (z _ _)

/-! ### two operands -/
theorem sim2 (ha : SimE cl cf X a p) (hb : SimE cl cf X b q) {ρ : Sl} {M : Ms} {x y : D} (ex : evalX cf M p ρ = some x) (ey : evalX cf M q ρ = some y) {L : List Addr} {σ : L2.St} {H : Hp} (r : Rel X.K cl L M H) (en : EnvR X.K L H σ ρ) {R : V → V → Hp → Prop}
    (k : ∀ v u H', Step L H H' → Rel X.K cl L M H' → At X.K L H' v x → At X.K L H' u y → R v u H') : wE X a σ H fun v H1 => wE X b σ H1 fun u H2 => R v u H2 := by
  refine ha ex r en fun v H1 s1 r1 h1 => ?_
  refine hb ey r1 (en.st s1) fun u H2 s2 r2 h2 => ?_
  exact k v u H2 (s1.trans s2) r2 (h1.st s2) h2
theorem sim_bin {op : Operator} {o : Bop} (s : OpS X cl (binaryOp op) (binD o)) (ha : SimE cl cf X a p) (hb : SimE cl cf X b q) : SimE cl cf X (.BinOp a op b pos) (.bin o p q) := by
  intro ρ M d e L σ H Q r en k
  simp only [evalX, Option.bind_eq_some_iff] at e
  obtain ⟨x, ex, y, ey, e⟩ := e
  refine of_pe (pe_op r_w pe_w pe_w) ?_
  exact sim2 ha hb ex ey r en fun v u H' s1 r1 h1 h2 => s e r1 h1 h2 fun w H'' s2 r2 h => k w H'' (s1.trans s2) r2 h
theorem sim_cmp {op : CmpOp} {o : Cop} (s : CmpS X cl op o) (ha : SimE cl cf X a p) (hb : SimE cl cf X b q) (hm : behindInMarks op b = false := by first | exact nomark _ | with_unfolding_all rfl) : SimE cl cf X (.Compare a [op] [b] pos) (.cmp o p q) := by
  intro ρ M d e L σ H Q r en k
  simp only [evalX, Option.bind_eq_some_iff, Option.map_eq_some_iff] at e
  obtain ⟨x, ex, y, ey, b, e, rfl⟩ := e
  refine of_pe (pe_cmpR r_w pe_w pe_w hm) ?_
  exact sim2 ha hb ex ey r en fun v u H' s1 r1 h1 h2 => s e r1 h1 h2 (k _ _ s1 r1 (.bl b))
theorem simT_cmp {op : CmpOp} {o : Cop} (s : CmpS X cl op o) (ha : SimE cl cf X a p) (hb : SimE cl cf X b q) (hm : behindInMarks op b = false := by first | exact nomark _ | with_unfolding_all rfl) : SimT cl cf X (.Compare a [op] [b] pos) (.cmp o p q) := by
  intro ρ M d bb e eb L σ H Q r en k
  simp only [evalX, Option.bind_eq_some_iff, Option.map_eq_some_iff] at e
  obtain ⟨x, ex, y, ey, b, e, rfl⟩ := e
  cases eb
  refine of_pt (pt_cmpR r_w pe_w pe_w hm) ?_
  exact sim2 ha hb ex ey r en fun v u H' s1 r1 h1 h2 => s e r1 h1 h2 ⟨_, rfl, k _ s1 r1⟩
theorem chain_go {op op2 : CmpOp} {o o2 : Cop} (s : CmpS X cl op o) (s2 : CmpS X cl op2 o2) (ha : SimE cl cf X a p) (hb : SimE cl cf X b q) (hc : SimE cl cf X c r) {ρ : Sl} {M : Ms} {d : D} (e : evalX cf M (.chain o o2 p q r) ρ = some d)
    {L : List Addr} {σ : L2.St} {H : Hp} {Q : VK} (rl : Rel X.K cl L M H) (en : EnvR X.K L H σ ρ) (k : Wt X.K cl L M H d Q) : tChain (wR X (compareOp op)) (wR X (compareOp op2)) (wE X a) (wE X b) (wE X c) σ H Q := by
  simp only [evalX, Option.bind_eq_some_iff] at e
  obtain ⟨x, ex, y, ey, b1, e1, e⟩ := e
  refine sim2 ha hb ex ey rl en fun v u H' s1 r1 h1 h2 => s e1 r1 h1 h2 ⟨_, rfl, ?_⟩
  cases b1 with
  | false =>
    simp only [Bool.false_eq_true, if_false] at e ⊢
    cases e
    exact k _ _ s1 r1 (.bl _)
  | true =>
    simp only [if_true, Option.bind_eq_some_iff, Option.map_eq_some_iff] at e ⊢
    obtain ⟨z, ez, b2, e2, rfl⟩ := e
    refine hc ez r1 (en.st s1) fun w H2 s3 r3 h3 => ?_
    exact s2 e2 r3 (h2.st s3) h3 (k _ _ (s1.trans s3) r3 (.bl _))
theorem sim_chain {op op2 : CmpOp} {o o2 : Cop} (s : CmpS X cl op o) (s2 : CmpS X cl op2 o2) (ha : SimE cl cf X a p) (hb : SimE cl cf X b q) (hc : SimE cl cf X c r)
    (hm : lastMarks [op, op2] [b, c] = false := by with_unfolding_all rfl) : SimE cl cf X (.Compare a [op, op2] [b, c] pos) (.chain o o2 p q r) := by
  intro ρ M d e L σ H Q rl en k
  exact of_pe (pe_chain r_w r_w pe_w pe_w pe_w hm) (chain_go s s2 ha hb hc e rl en k)
theorem simT_chain {op op2 : CmpOp} {o o2 : Cop} (s : CmpS X cl op o) (s2 : CmpS X cl op2 o2) (ha : SimE cl cf X a p) (hb : SimE cl cf X b q) (hc : SimE cl cf X c r)
    (hm : lastMarks [op, op2] [b, c] = false := by with_unfolding_all rfl) : SimT cl cf X (.Compare a [op, op2] [b, c] pos) (.chain o o2 p q r) := by
  intro ρ M d bb e eb L σ H Q rl en k
  have eb := asB_bl eb
  subst eb
  refine of_pt (pt_chain r_w r_w pe_w pe_w pe_w hm) ?_
  exact chain_go s s2 ha hb hc e rl en fun v H' s1 r1 h => by
    cases h
    exact ⟨bb, rfl, k _ s1 r1⟩

/-! ### truths -/
theorem sim_one {op : BoolOp} (h : SimE cl cf X a p) : SimE cl cf X (.BoolOp op [a] pos) p := by
  intro ρ M d e L σ H Q r en k
  exact of_pe (pe_one pe_w) (h e r en k)
theorem sim_and {rest : List Expr} (ha : SimE cl cf X a p) (hb : SimE cl cf X (.BoolOp .And (b :: rest) pos) q) : SimE cl cf X (.BoolOp .And (a :: b :: rest) pos) (.and p q) := by
  intro ρ M d e L σ H Q r en k
  simp only [evalX, Option.bind_eq_some_iff] at e
  obtain ⟨x, ex, c, ec, e⟩ := e
  have := asB_bl ec
  subst this
  refine of_pe (pe_and pe_w pe_w) ?_
  refine ha ex r en fun v H1 s1 r1 h1 => ?_
  cases h1
  refine ⟨c, rfl, ?_⟩
  cases c with
  | true =>
    simp only [if_true] at e ⊢
    exact hb e r1 (en.st s1) fun w H2 s2 r2 h2 => k w H2 (s1.trans s2) r2 h2
  | false =>
    simp only [Bool.false_eq_true, if_false] at e ⊢
    cases e
    exact k _ _ s1 r1 (.bl _)
theorem sim_or {rest : List Expr} (ha : SimE cl cf X a p) (hb : SimE cl cf X (.BoolOp .Or (b :: rest) pos) q) : SimE cl cf X (.BoolOp .Or (a :: b :: rest) pos) (.or p q) := by
  intro ρ M d e L σ H Q r en k
  simp only [evalX, Option.bind_eq_some_iff] at e
  obtain ⟨x, ex, c, ec, e⟩ := e
  have := asB_bl ec
  subst this
  refine of_pe (pe_or pe_w pe_w) ?_
  refine ha ex r en fun v H1 s1 r1 h1 => ?_
  cases h1
  refine ⟨c, rfl, ?_⟩
  cases c with
  | true =>
    simp only [if_true] at e ⊢
    cases e
    exact k _ _ s1 r1 (.bl _)
  | false =>
    simp only [Bool.false_eq_true, if_false] at e ⊢
    exact hb e r1 (en.st s1) fun w H2 s2 r2 h2 => k w H2 (s1.trans s2) r2 h2
theorem sim_not (ha : SimE cl cf X a p) : SimE cl cf X (.UnaryOp .Not a pos) (.not p) := by
  intro ρ M d e L σ H Q r en k
  simp only [evalX, Option.bind_eq_some_iff, Option.map_eq_some_iff] at e
  obtain ⟨x, ex, c, ec, rfl⟩ := e
  have := asB_bl ec
  subst this
  refine of_pe (pe_not pe_w) ?_
  refine ha ex r en fun v H1 s1 r1 h1 => ?_
  cases h1
  exact ⟨c, rfl, k _ _ s1 r1 (.bl _)⟩
theorem simT_val (ha : SimE cl cf X a p) (he : ∀ whole, isTrue a X.env whole = (do let v ← whole; standAt a.pos; holding [v] (truthy v)) := by intro _; rfl) : SimT cl cf X a p := by
  intro ρ M d b e eb L σ H Q r en k
  have := asB_bl eb
  subst this
  refine of_pt (pt_val pe_w he) ?_
  refine ha e r en fun v H1 s1 r1 h1 => ?_
  cases h1
  exact ⟨b, rfl, k _ s1 r1⟩
theorem simT_W (h : SimW cl cf X a p) : SimT cl cf X a p := by
  intro ρ M d b e eb L σ H Q r en k
  exact of_pt (PW.pt pw_w) (h e eb r en k)
theorem simW_and1 (h : SimT cl cf X a p) : SimW cl cf X (.BoolOp .And [a] pos) p := by
  intro ρ M d b e eb L σ H Q r en k
  exact of_pw (pw_and1 pt_w) (h e eb r en k)
theorem simW_or1 (h : SimT cl cf X a p) : SimW cl cf X (.BoolOp .Or [a] pos) p := by
  intro ρ M d b e eb L σ H Q r en k
  exact of_pw (pw_or1 pt_w) (h e eb r en k)
theorem simW_and {rest : List Expr} (ha : SimT cl cf X a p) (hb : SimW cl cf X (.BoolOp .And (b :: rest) pos) q) : SimW cl cf X (.BoolOp .And (a :: b :: rest) pos) (.and p q) := by
  intro ρ M d bb e eb L σ H Q r en k
  simp only [evalX, Option.bind_eq_some_iff] at e
  obtain ⟨x, ex, c, ec, e⟩ := e
  refine of_pw (pw_and pt_w pw_w) ?_
  refine ha ex ec r en fun H1 s1 r1 => ?_
  cases c with
  | true =>
    simp only [if_true] at e ⊢
    exact hb e eb r1 (en.st s1) fun H2 s2 r2 => k H2 (s1.trans s2) r2
  | false =>
    simp only [Bool.false_eq_true, if_false] at e ⊢
    cases e
    cases eb
    exact k _ s1 r1
theorem simW_or {rest : List Expr} (ha : SimT cl cf X a p) (hb : SimW cl cf X (.BoolOp .Or (b :: rest) pos) q) : SimW cl cf X (.BoolOp .Or (a :: b :: rest) pos) (.or p q) := by
  intro ρ M d bb e eb L σ H Q r en k
  simp only [evalX, Option.bind_eq_some_iff] at e
  obtain ⟨x, ex, c, ec, e⟩ := e
  refine of_pw (pw_or pt_w pw_w) ?_
  refine ha ex ec r en fun H1 s1 r1 => ?_
  cases c with
  | true =>
    simp only [if_true] at e ⊢
    cases e
    cases eb
    exact k _ s1 r1
  | false =>
    simp only [Bool.false_eq_true, if_false] at e ⊢
    exact hb e eb r1 (en.st s1) fun H2 s2 r2 => k H2 (s1.trans s2) r2
theorem simT_not (ha : SimT cl cf X a p) : SimT cl cf X (.UnaryOp .Not a pos) (.not p) := by
  intro ρ M d bb e eb L σ H Q r en k
  simp only [evalX, Option.bind_eq_some_iff, Option.map_eq_some_iff] at e
  obtain ⟨x, ex, c, ec, rfl⟩ := e
  cases eb
  exact of_pt (pt_not pt_w) (ha ex ec r en fun H1 s1 r1 => k _ s1 r1)

/-! ### arguments, displays -/
theorem simA_nil : SimA cl cf X [] .nil := by
  intro ρ M ds e L σ H Q r en k
  cases (show some [] = some ds from e)
  exact of_pa pa_nil (k _ _ (Step.refl L H) r .nil)
theorem simA_cons {es : List Expr} {ps : PA} (ha : SimE cl cf X a p) (hr : SimA cl cf X es ps) (hs : starEach (a :: es) X.env = (false, eval a X.env) :: starEach es X.env := by rfl) : SimA cl cf X (a :: es) (.cons p ps) := by
  intro ρ M ds e L σ H Q r en k
  simp only [evalA, Option.bind_eq_some_iff] at e
  obtain ⟨x, ex, xs, exs, e⟩ := e
  cases e
  refine of_pa (pa_cons pe_w pa_w hs) ?_
  refine ha ex r en fun v H1 s1 r1 h1 => ?_
  refine hr exs r1 (en.st s1) fun vs H2 s2 r2 h2 => ?_
  exact k _ _ (s1.trans s2) r2 (.cons (h1.st s2) h2)
def _root_.Fp.PA.len : PA → Nat
  | .nil => 0
  | .cons _ as => as.len + 1
theorem evalA_len {ρ : Sl} {M : Ms} : ∀ {ps : PA} {ds : List D}, evalA cf M ps ρ = some ds → ds.length = ps.len
  | .nil, ds, e => by
    cases (show some [] = some ds from e)
    rfl
  | .cons p ps, ds, e => by
    simp only [evalA, Option.bind_eq_some_iff] at e
    obtain ⟨x, ex, xs, exs, e⟩ := e
    cases e
    rw [List.length_cons, evalA_len exs]
    rfl
theorem sim_tup {es : List Expr} {ps : PA} {x1} (h : SimA cl cf X es ps) (hl : ps.len ≤ 1000 := by decide) : SimE cl cf X (.Tuple es x1 pos) (.tup ps) := by
  intro ρ M d e L σ H Q r en k
  simp only [evalX, Option.map_eq_some_iff] at e
  obtain ⟨ds, e, rfl⟩ := e
  refine of_pe (pe_tup pa_w) ?_
  refine h e r en fun vs H1 s1 r1 z => ⟨?_, fun t ht => ?_⟩
  · rw [z.length, evalA_len e]
    exact small (Nat.le_trans hl (by decide))
  · exact Wt.tup (fun v H' s r h => k v H' (s1.trans s) r h) r1 z ht
theorem sim_lst {es : List Expr} {ps : PA} (h : SimA cl cf X es ps) (hl : ps.len ≤ 1000 := by decide) : SimE cl cf X (.List es pos) (.lst ps) := by
  intro ρ M d e L σ H Q r en k
  simp only [evalX, Option.map_eq_some_iff] at e
  obtain ⟨ds, e, rfl⟩ := e
  refine of_pe (pe_lst pa_w) ?_
  refine h e r en fun vs H1 s1 r1 z => ⟨?_, fun t ht => ?_⟩
  · rw [z.length, evalA_len e]
    exact small (Nat.le_trans hl (by decide))
  · exact Wt.lst (fun v H' s r h => k v H' (s1.trans s) r h) r1 z ht

/-! ### places and slices -/
def wI (X : Cx) : R2 := fun x y H Q => ∀ (value slice : Expr) (pins : List (Addr × Obj)) (s : Shared) (σ : L2.St) (v u : Value), Inv X pins σ H s → RelV x v → RelV y u →
  subscripted slice false v u = operate [v, u] (getItem v u) → wpAny (model X.prog X.w) X.A (subscriptTail value slice v u) (EP X pins σ Q) X.xe s
theorem i_w : IxR X (wI X) := fun value slice pins s σ H x y v u Q I rx ry h hs => h value slice pins s σ v u I rx ry hs
theorem of_i {rr : R2} {x y : V} {H : Hp} {Q : VK} (h : IxR X rr) (q : rr x y H Q) : wI X x y H Q := fun value slice pins s σ v u I rx ry hs => h value slice pins s σ H x y v u Q I rx ry q hs
theorem atI_of {K : PySem.W.Frag} {L : List Addr} {H : Hp} {vs : List V} {ds : List D} {i : Int} {d : D} (z : Ats K L H vs ds) (e : atD ds i = some d) : ∃ v, atI vs i = some v ∧ At K L H v d := by
  unfold atD at e
  rw [Option.bind_eq_some_iff] at e
  obtain ⟨j, e1, e2⟩ := e
  obtain ⟨v, h1, h2⟩ := z.get e2
  refine ⟨v, ?_, h2⟩
  unfold atI
  rw [z.length, show ixN ds.length i = some j from e1]
  exact h1
/-- the items of a thing that stands for a tuple or a list -/
theorem items_of {K : PySem.W.Frag} {L : List Addr} {M : Ms} {H : Hp} {x : V} {dx : D} {ds : List D} (r : Rel K cl L M H) (h : At K L H x dx) (e : itemsD M dx = some ds) : ∃ a xs, x = .ref a ∧ Ats K L H xs ds ∧ (SqL K H a xs ∨ SqT K H a xs) := by
  cases h with
  | tup h z =>
    cases (show some _ = some ds from e)
    exact ⟨_, _, rfl, z, .inr (sqT h)⟩
  | lst h n z =>
    cases (show some _ = some ds from e)
    exact ⟨_, _, rfl, z, .inl (.inl (.inl h))⟩
  | @ref a l h =>
    simp only [itemsD] at e
    split at e
    · rename_i ds' hm
      cases e
      obtain ⟨xs, h1, h2⟩ := r.ob l a _ h hm
      exact ⟨a, xs, rfl, h2, .inl (.inl (.inl h1))⟩
    · cases e
  | _ => simp [itemsD] at e
theorem s_idx {L : List Addr} {M : Ms} {H : Hp} {x y : V} {dx dy d : D} {Q : VK} (e : idxD M dx dy = some d) (r : Rel X.K cl L M H) (hx : At X.K L H x dx) (hy : At X.K L H y dy) (k : Wt X.K cl L M H d Q) : wI X x y H Q := by
  have gen : ∀ {i : Int} {ds : List D}, itemsD M dx = some ds → atD ds i = some d → wI X x (.int i) H Q := fun {i ds} e1 e2 => by
    obtain ⟨a, xs, rfl, z, hs⟩ := items_of r hx e1
    obtain ⟨v, h1, h2⟩ := atI_of z e2
    rcases hs with hs | hs
    · exact of_i ix_list ⟨a, xs, i, v, rfl, rfl, hs, h1, k.here r h2⟩
    · exact of_i ix_tup ⟨a, xs, i, v, rfl, rfl, hs, h1, k.here r h2⟩
  cases hy with
  | int i =>
    cases hx with
    | str s os =>
      simp only [idxD] at e
      split at e
      case isFalse => cases e
      rename_i hsm
      rw [Option.map_eq_some_iff] at e
      obtain ⟨c, e, rfl⟩ := e
      refine of_i ix_str ⟨toS s, i, c, rfl, rfl, ?_, ?_, ?_⟩
      · rw [toS_len]; exact small hsm
      · rw [toS_list]; exact e
      · unfold atD at e
        rw [Option.bind_eq_some_iff] at e
        obtain ⟨j, _, e⟩ := e
        exact k.here r (.str [c] fun c' hc => by rw [List.mem_singleton.mp hc]; exact os c (List.mem_of_getElem? e))
    | @scr a ns h =>
      simp only [idxD, Option.map_eq_some_iff] at e
      obtain ⟨n, e, rfl⟩ := e
      have hs : SqL X.K H a (ns.map V.int) := h.imp (fun z => z.1) id
      refine of_i ix_list ⟨a, _, i, .int n, rfl, rfl, hs, ?_, k.here r (.int n)⟩
      unfold atD at e
      rw [Option.bind_eq_some_iff] at e
      obtain ⟨j, e1, e2⟩ := e
      unfold atI
      rw [List.length_map, show ixN ns.length i = some j from e1]
      show (ns.map V.int)[j]? = _
      rw [List.getElem?_map, e2]
      rfl
    | tup h z => exact gen (ds := _) rfl (by simpa [idxD, itemsD] using e)
    | lst h n z => exact gen (ds := _) rfl (by simpa [idxD, itemsD] using e)
    | ref h =>
      simp only [idxD, Option.bind_eq_some_iff] at e
      obtain ⟨ds, e1, e2⟩ := e
      exact gen e1 e2
    | _ => simp [idxD, itemsD] at e
  | _ => cases hx <;> simp [idxD] at e
/-- x[i] -/
theorem sim_idx (ha : SimE cl cf X a p) (hb : SimE cl cf X b q) (hs : PlainIx b := by exact fun _ _ => rfl) : SimE cl cf X (.Subscript a b pos) (.idx p q) := by
  intro ρ M d e L σ H Q r en k
  simp only [evalX, Option.bind_eq_some_iff] at e
  obtain ⟨x, ex, y, ey, e⟩ := e
  refine of_pe (pe_ix i_w pe_w pe_w hs) ?_
  refine sim2 ha hb ex ey r en fun v u H' s1 r1 h1 h2 => ?_
  exact s_idx e r1 h1 h2 (fun w H'' s2 r2 h => k w H'' (s1.trans s2) r2 h)
/-- x[lo:hi] by values -/
def wSl (X : Cx) : V → Option Int → Option Int → Hp → VK → Prop := fun x lo hi H Q => ∀ (pins : List (Addr × Obj)) (s : Shared) (σ : L2.St) (v vl vu : Value) (sl : Addr), Inv X pins σ H s → RelV x v → s.heap.IsSliceOf sl vl vu .none → IsPart vl lo → IsPart vu hi →
  ∃ T id, typeLookup (.type T) "__getitem__" = pure (some (.builtin id)) ∧ s.TypeIs v T ∧ wpAny (model X.prog X.w) X.A (getItem v (.ref sl)) (EP X pins σ Q) X.xe s
theorem sl_w : SlR X (wSl X) := fun pins s σ H x v vl vu lo hi sl Q I rx hs pl pu h => h pins s σ v vl vu sl I rx hs pl pu
theorem of_sl {rr : V → Option Int → Option Int → Hp → VK → Prop} {x : V} {lo hi : Option Int} {H : Hp} {Q : VK} (h : SlR X rr) (q : rr x lo hi H Q) : wSl X x lo hi H Q := fun pins s σ v vl vu sl I rx hs pl pu => h pins s σ H x v vl vu lo hi sl Q I rx hs pl pu q
theorem cutS_of {s : Tx} {lo hi : Option Int} : cutS (toS s) lo hi = toS (cutL s lo hi) := by
  have e : ∀ n d o, HT.sIx n d o = sIxD n d o := fun n d o => by cases o <;> rfl
  unfold cutS cutL toS
  simp only [Str.length, List.size_toArray, e]
theorem cut_mem {s : Tx} {lo hi : Option Int} (h : TxOk s) : TxOk (cutL s lo hi) := fun c hc => h c (List.mem_of_mem_drop (List.mem_of_mem_take hc))
theorem cut_all {ds : List D} {lo hi : Option Int} (h : sIxD ds.length 0 lo = 0 ∧ sIxD ds.length ds.length hi = ds.length) : cutL ds lo hi = ds := by
  unfold cutL
  rw [h.1, h.2]
  simp
theorem s_sl {L : List Addr} {M : Ms} {H : Hp} {x : V} {dx d : D} {lo hi : Option Int} {Q : VK} (e : slD lo hi dx = some d) (r : Rel X.K cl L M H) (hx : At X.K L H x dx) (k : Wt X.K cl L M H d Q) : wSl X x lo hi H Q := by
  cases hx with
  | str s os =>
    simp only [slD] at e
    split at e
    case isFalse => cases e
    rename_i hsm
    cases e
    refine of_sl sl_str ⟨toS s, rfl, by rw [toS_len]; exact small hsm, ?_⟩
    rw [cutS_of]
    exact k.here r (.str _ (cut_mem os))
  | lst h n z =>
    cases (show some _ = some d from e)
    exact of_sl sl_list ⟨_, _, rfl, .inl (.inl h), fun p hp => k.lst r (z.cut lo hi) hp⟩
  | @tup a xs ds h z =>
    cases (show some _ = some d from e)
    have ee : ∀ n d o, HT.sIx n d o = sIxD n d o := fun n d o => by cases o <;> rfl
    refine of_sl sl_tupA ⟨a, xs, rfl, sqT h, fun hw => ?_, fun hw p hp => k.tup r (z.cut lo hi) hp⟩
    rw [z.length, ee, ee] at hw
    rw [cut_all hw] at k
    exact k.here r (.tup h z)
  | _ => simp [slD] at e
theorem sim_slF {p2 : Pos} (ha : SimE cl cf X a p) (hb : SimE cl cf X b q) : SimE cl cf X (.Subscript a (.Slice (some b) none none p2) pos) (.slF p q) := by
  intro ρ M d e L σ H Q r en k
  simp only [evalX, Option.bind_eq_some_iff] at e
  obtain ⟨x, ex, y, ey, i, ei, e⟩ := e
  have := asI_int ei
  subst this
  refine of_pe (pe_slice sl_w pe_w (po_some pe_w) po_none) ?_
  refine sim2 ha hb ex ey r en fun v u H' s1 r1 h1 h2 => ?_
  cases h2
  exact ⟨i, rfl, s_sl e r1 h1 (fun w H'' s2 r2 h => k w H'' (s1.trans s2) r2 h)⟩
theorem sim_slT {p2 : Pos} (ha : SimE cl cf X a p) (hb : SimE cl cf X b q) : SimE cl cf X (.Subscript a (.Slice none (some b) none p2) pos) (.slT p q) := by
  intro ρ M d e L σ H Q r en k
  simp only [evalX, Option.bind_eq_some_iff] at e
  obtain ⟨x, ex, y, ey, i, ei, e⟩ := e
  have := asI_int ei
  subst this
  refine of_pe (pe_slice sl_w pe_w po_none (po_some pe_w)) ?_
  refine sim2 ha hb ex ey r en fun v u H' s1 r1 h1 h2 => ?_
  cases h2
  exact ⟨i, rfl, s_sl e r1 h1 (fun w H'' s2 r2 h => k w H'' (s1.trans s2) r2 h)⟩
theorem sim_slB {p2 : Pos} (ha : SimE cl cf X a p) (hb : SimE cl cf X b q) (hc : SimE cl cf X c r) : SimE cl cf X (.Subscript a (.Slice (some b) (some c) none p2) pos) (.slB p q r) := by
  intro ρ M d e L σ H Q rl en k
  simp only [evalX, Option.bind_eq_some_iff] at e
  obtain ⟨x, ex, y, ey, i, ei, z, ez, j, ej, e⟩ := e
  have := asI_int ei
  subst this
  have := asI_int ej
  subst this
  refine of_pe (pe_slice sl_w pe_w (po_some pe_w) (po_some pe_w)) ?_
  refine sim2 ha hb ex ey rl en fun v u H' s1 r1 h1 h2 => ?_
  cases h2
  refine ⟨i, rfl, hc ez r1 (en.st s1) fun w H2 s3 r3 h3 => ?_⟩
  cases h3
  exact ⟨j, rfl, s_sl e r3 (h1.st s3) (fun w H'' s2 r2 h => k w H'' ((s1.trans s3).trans s2) r2 h)⟩

/-! ### attributes -/
theorem sim_attr {n : Tx} {f : Str} (ha : SimE cl cf X a p) (hf : f = toS n) (hc : ∀ c, Cls X.K (cl c) ∧ NoAttr X.K (cl c) f) (hb : attributeBase a f X.env (eval a X.env) = eval a X.env := by rfl) : SimE cl cf X (.Attribute a f pos) (.attr p n) := by
  intro ρ M d e L σ H Q r en k
  simp only [evalX, Option.bind_eq_some_iff] at e
  obtain ⟨x, ex, e⟩ := e
  refine of_pe (pe_fld pe_w hb) ?_
  refine ha ex r en fun v H1 s1 r1 h1 => ?_
  cases h1 with
  | @ref ad l h =>
    simp only [attrD] at e
    split at e
    · rename_i c fs hm
      obtain ⟨dx, vs, h2, z⟩ := r1.ob l ad _ h hm
      obtain ⟨v, h3, h4⟩ := z.look e
      refine ⟨ad, cl c, dx, vs, v, rfl, h2, (hc c).1, (hc c).2, ?_, k _ _ s1 r1 h4⟩
      rw [hf]
      exact h3
    · cases e
  | _ => simp [attrD] at e

/-! ### built-ins of one argument -/
def UnS (X : Cx) (cl : Nat → Addr) (f : Value) (o : Un) : Prop :=
  ∀ ⦃L : List Addr⦄ ⦃M : Ms⦄ ⦃H : Hp⦄ ⦃x : V⦄ ⦃dx d : D⦄ ⦃Q : VK⦄, unD M o dx = some d → Rel X.K cl L M H → At X.K L H x dx → Wt X.K cl L M H d Q → wC X f [x] H Q
theorem sim_unB {o : Un} {x : Str} {id : String} {pf : Pos} (s : UnS X cl (.builtin id) o) (ha : SimE cl cf X a p) (hg : Gl X x) (hm : X.mg x = none) (hv : bootBuiltins x = some (.builtin id)) (hn : x ≠ "__name__" := by decide) (hdb : (x == ("__debug__" : Str)) = false := by decide)
    (he : starEach [a] X.env = (false, eval a X.env) :: starEach [] X.env := by rfl) : SimE cl cf X (.Call (.Name x pf) [a] [] pos) (.un o p) := by
  intro ρ M d e L σ H Q r en k
  simp only [evalX, Option.bind_eq_some_iff] at e
  obtain ⟨y, ey, e⟩ := e
  refine of_pe (pe_callB c_w hg hm hv (pa_cons pe_w pa_nil he) hn hdb he) ?_
  refine ha ey r en fun v H1 s1 r1 h1 => ?_
  exact s e r1 h1 fun w H2 s2 r2 h => k w H2 (s1.trans s2) r2 h
theorem sim_unT {o : Un} {x : Str} {T : String} {pf : Pos} (s : UnS X cl (.type T) o) (ha : SimE cl cf X a p) (hg : Gl X x) (hm : X.mg x = none) (hv : bootBuiltins x = some (.type T)) (hn : x ≠ "__name__" := by decide) (hdb : (x == ("__debug__" : Str)) = false := by decide)
    (he : starEach [a] X.env = (false, eval a X.env) :: starEach [] X.env := by rfl) : SimE cl cf X (.Call (.Name x pf) [a] [] pos) (.un o p) := by
  intro ρ M d e L σ H Q r en k
  simp only [evalX, Option.bind_eq_some_iff] at e
  obtain ⟨y, ey, e⟩ := e
  refine of_pe (pe_callTy c_w hg hm hv (pa_cons pe_w pa_nil he) hn hdb he) ?_
  refine ha ey r en fun v H1 s1 r1 h1 => ?_
  exact s e r1 h1 fun w H2 s2 r2 h => k w H2 (s1.trans s2) r2 h
theorem s_len : UnS X cl (.builtin "len") .len := by
  intro L M H x dx d Q e r h k
  have gen : ∀ {ds : List D}, itemsD M dx = some ds → d = .int ds.length → wC X (.builtin "len") [x] H Q := fun {ds} e1 e2 => by
    obtain ⟨a, xs, rfl, z, hs⟩ := items_of r h e1
    refine of_c call_len_seq ⟨a, xs, rfl, hs, ?_⟩
    rw [z.length]
    subst e2
    exact k.here r (.int _)
  cases h with
  | str s os =>
    simp only [unD, lenD] at e
    split at e
    case isFalse => cases e
    rename_i hsm
    cases e
    refine of_c call_len_str ⟨toS s, rfl, by rw [toS_len]; exact small hsm, ?_⟩
    rw [toS_len]
    exact k.here r (.int _)
  | @scr a ns h =>
    cases (show some _ = some d from e)
    refine of_c call_len_seq ⟨a, ns.map V.int, rfl, .inl (h.imp (fun z => z.1) id), ?_⟩
    rw [List.length_map]
    exact k.here r (.int _)
  | tup h z => exact gen rfl (Option.some.inj e).symm
  | lst h n z => exact gen rfl (Option.some.inj e).symm
  | ref h =>
    simp only [unD, lenD, Option.map_eq_some_iff] at e
    obtain ⟨ds, e1, rfl⟩ := e
    exact gen e1 rfl
  | _ => simp [unD, lenD, itemsD] at e
theorem s_int : UnS X cl (.type "int") .int := by
  intro L M H x dx d Q e r h k
  cases h with
  | int i =>
    cases (show some _ = some d from e)
    exact of_c call_int1 (.inl ⟨i, rfl, k.here r (.int _)⟩)
  | bl b =>
    cases (show some _ = some d from e)
    exact of_c call_int1 (.inr ⟨b, rfl, k.here r (.int _)⟩)
  | _ => simp [unD, Fp.intD] at e
theorem s_abs : UnS X cl (.builtin "abs") .abs := by
  intro L M H x dx d Q e r h k
  cases h with
  | int i =>
    cases (show some _ = some d from e)
    exact of_c call_abs ⟨i, rfl, k.here r (.int _)⟩
  | _ => simp [unD] at e
theorem s_tup : UnS X cl (.type "tuple") .tup := by
  intro L M H x dx d Q e r h k
  simp only [unD, Option.map_eq_some_iff] at e
  obtain ⟨ds, e1, rfl⟩ := e
  cases h with
  | tup h z =>
    cases (show some _ = some ds from e1)
    exact of_c call_tuple_of ⟨_, _, rfl, .inr ⟨sqT h, k.here r (.tup h z)⟩⟩
  | lst h n z =>
    cases (show some _ = some ds from e1)
    exact of_c call_tuple_of ⟨_, _, rfl, .inl ⟨.inl (.inl h), fun p hp => k.tup r z hp⟩⟩
  | @ref a l h =>
    simp only [itemsD] at e1
    split at e1
    · rename_i ds' hm
      cases e1
      obtain ⟨xs, h1, h2⟩ := r.ob l a _ h hm
      exact of_c call_tuple_of ⟨_, _, rfl, .inl ⟨.inl (.inl h1), fun p hp => k.tup r h2 hp⟩⟩
    · cases e1
  | _ => simp [itemsD] at e1
theorem s_lst : UnS X cl (.type "list") .lst := by
  intro L M H x dx d Q e r h k
  cases h with
  | tup h z =>
    cases (show some _ = some d from e)
    exact of_c call_list_of ⟨_, _, rfl, .inr (sqT h), fun p hp => k.lst r z hp⟩
  | lst h n z =>
    cases (show some _ = some d from e)
    exact of_c call_list_of ⟨_, _, rfl, .inl (.inl (.inl h)), fun p hp => k.lst r z hp⟩
  | _ => simp [unD] at e
theorem digits_ok (i : Int) : TxOk (digits i) := fun c hc => by
  obtain ⟨ch, _, rfl⟩ := List.mem_map.mp hc
  have h := ch.valid
  simp only [UInt32.isValidChar, Nat.isValidChar] at h
  have : ch.toNat = ch.val.toNat := rfl
  omega
theorem s_str : UnS X cl (.type "str") .str := by
  intro L M H x dx d Q e r h k
  cases h with
  | int i =>
    simp only [unD] at e
    split at e
    case isFalse => cases e
    rename_i hi
    cases e
    refine of_c call_str_int ⟨i, rfl, ?_, ?_⟩
    · by_cases c : i.natAbs = 0
      · rw [c]; decide
      · have := (Nat.log2_lt c).mpr hi
        omega
    · have : (Str.ofString (toString i)) = toS (digits i) := by
        rw [Str.ofString_eq_toList]
        rfl
      rw [this]
      exact k.here r (.str _ (digits_ok i))
  | _ => simp [unD] at e
end
end FpS

set_option linter.all false
set_option maxRecDepth 100000
set_option maxHeartbeats 4000000
/-! Expressions, further: isinstance, sorted, range, find, index, a tuple turned round, calls, comprehensions. -/
namespace FpS
open PySem PySem.Spec PyProof.Rows L2 Fp

section
variable {cl : Nat → Addr} {cf : Cf} {X : Cx} {a b c : Expr} {p q r : PX} {pos : Pos}

/-! ### -x -/
theorem sim_neg (ha : SimE cl cf X a p) : SimE cl cf X (.UnaryOp .USub a pos) (.un .neg p) := by
  intro ρ M d e L σ H Q r en k
  simp only [evalX, Option.bind_eq_some_iff] at e
  obtain ⟨x, ex, e⟩ := e
  refine of_pe (pe_un un_neg pe_w) ?_
  refine ha ex r en fun v H1 s1 r1 h1 => ?_
  cases h1 with
  | int i =>
    cases (show some _ = some d from e)
    exact ⟨i, rfl, k _ _ s1 r1 (.int _)⟩
  | _ => simp [unD] at e

/-! ### sorted -/
theorem ltCps_le : ∀ (s t : Tx), leT s t = !ltCps t s
  | [], [] => rfl
  | [], _ :: _ => rfl
  | _ :: _, [] => rfl
  | a :: s, b :: t => by
    simp only [leT, ltCps]
    by_cases h1 : a < b
    · have h2 : ¬ b < a := by omega
      simp [h1, h2]
      omega
    · by_cases h2 : b < a
      · simp [h1, h2]
      · have h3 : a = b := by omega
        subst h3
        simp [ltCps_le s t]
theorem rising_srt : ∀ (p : Str) (l : List Str), risingS p l = true → (p :: l).Pairwise fun a b => leT a.cps.toList b.cps.toList = true
  | _, [], _ => List.pairwise_singleton ..
  | p, x :: r, h => by
    simp only [risingS, Bool.and_eq_true] at h
    have ih := rising_srt x r h.2
    have h1 : leT p.cps.toList x.cps.toList = true := by rw [ltCps_le]; exact h.1
    refine List.pairwise_cons.mpr ⟨fun y hy => ?_, ih⟩
    rcases List.mem_cons.mp hy with rfl | hy
    · exact h1
    · exact leT_trans _ _ _ h1 ((List.pairwise_cons.mp ih).1 y hy)
theorem sortedS_srt {l : List Str} (h : sortedS l = true) : Srt (l.map fun z => z.cps.toList) := by
  cases l with
  | nil => exact List.Pairwise.nil
  | cons x r => exact List.pairwise_map.mpr (rising_srt x r h)
theorem sorted_eq {ys : List Str} {ts : List Tx} (p : ys.Perm (ts.map toS)) (h : sortedS ys = true) : ys = (sortT ts).map toS := by
  have e1 : (ys.map fun z => z.cps.toList) = sortT ts := by
    refine srt_unique (sortedS_srt h) (sortT_srt ts) ?_
    refine (p.map _).trans ?_
    rw [List.map_map]
    have : ((fun z : Str => z.cps.toList) ∘ toS) = id := by
      funext t
      exact toS_list t
    rw [this, List.map_id]
    exact (sortT_perm ts).symm
  rw [← e1, List.map_map]
  have : (toS ∘ fun z : Str => z.cps.toList) = id := by
    funext z
    simp [toS]
  rw [this, List.map_id]
theorem s_sorted : UnS X cl (.builtin "sorted") .sorted := by
  intro L M H x dx d Q e r h k
  have gen : ∀ {ad : Addr} {xs : List V} {ds : List D}, H ad = some (.lst xs) → Ats X.K L H xs ds → ((txs ds).bind fun ts => if ts.length < 64 then some (D.lst ((sortT ts).map .str)) else none) = some d → wC X (.builtin "sorted") [.ref ad] H Q := by
    intro ad xs ds h z e
    rw [Option.bind_eq_some_iff] at e
    obtain ⟨ts, e1, e⟩ := e
    split at e
    case isFalse => cases e
    rename_i hl
    cases e
    obtain ⟨e2, e3, e4⟩ := z.of_txs e1
    refine of_c cr_sortedS ⟨ad, ts.map toS, rfl, .inl (.inl ?_), by rw [List.length_map]; exact hl, fun ys p hp hs hn => ?_⟩
    · rw [h, e2, List.map_map]
      rfl
    · rw [sorted_eq hp hs, List.map_map]
      exact k.lst r (Ats.strs _ fun t ht => e4 t ((sortT_perm ts).mem_iff.mp ht)) hn
  cases h with
  | lst h n z => exact gen h z (by simpa only [unD] using e)
  | @ref ad l h =>
    simp only [unD] at e
    split at e
    · rename_i ds hm
      obtain ⟨xs, h1, z⟩ := r.ob l ad _ h hm
      exact gen h1 z e
    · cases e
  | _ => simp [unD] at e

/-! ### isinstance -/
def tyN : Ty → String
  | .tuple => "tuple"
  | .str => "str"
  | .int => "int"
  | .bool => "bool"
theorem isi_ty {L : List Addr} {H : Hp} {K : PySem.W.Frag} {x : V} {d : D} {t : Ty} {b : Bool} (h : At K L H x d) (e : isiD t d = some b) : ∃ u, TyX K H x u ∧ PySem.W.kitOne K u (.type (tyN t)) = some b := by
  have key : ∀ {s : String} {u : Value}, TyX K H x u → u = .type s → kitB s (tyN t) = some b → ∃ u, TyX K H x u ∧ PySem.W.kitOne K u (.type (tyN t)) = some b := fun {s u} h1 h2 h3 => ⟨u, h1, by rw [h2]; exact kit_ty h3⟩
  cases h with
  | non => exact key (.base .non) rfl (by cases t <;> simp [isiD] at e <;> subst e <;> decide +kernel)
  | bl y => exact key (.base (.bl y)) rfl (by cases t <;> simp [isiD] at e <;> subst e <;> decide +kernel)
  | int y => exact key (.base (.int y)) rfl (by cases t <;> simp [isiD] at e <;> subst e <;> decide +kernel)
  | str y o => exact key (.base (.str _)) rfl (by cases t <;> simp [isiD] at e <;> subst e <;> decide +kernel)
  | @tup ad xs ds h z =>
    have ty : TyX K H (.ref ad) (.type "tuple") := by
      rcases h with ⟨h, _⟩ | ⟨o, its, n, h1, h2, _⟩
      · exact .base (.tup h)
      · exact .kTuple h1 h2
    exact key ty rfl (by cases t <;> simp [isiD] at e <;> subst e <;> decide +kernel)
  | lst h n z => exact key (.base (.lst h)) rfl (by cases t <;> simp [isiD] at e <;> subst e <;> decide +kernel)
  | scr _ => cases t <;> simp [isiD] at e
  | ref _ => cases t <;> simp [isiD] at e
theorem sim_isi {t : Ty} {y : Str} {pf p2 : Pos} (ha : SimE cl cf X a p) (hg : Gl X "isinstance") (hm : X.mg "isinstance" = none) (hy : y = Str.ofString (tyN t)) (hg2 : Gl X y) (hm2 : X.mg y = none) (hb2 : bootBuiltins y = some (.type (tyN t)))
    (hn2 : y ≠ "__name__" := by decide +kernel) (hd2 : (y == ("__debug__" : Str)) = false := by decide +kernel)
    (he : starEach [a, .Name y p2] X.env = (false, eval a X.env) :: starEach [.Name y p2] X.env := by rfl) (he2 : starEach [.Name y p2] X.env = (false, eval (.Name y p2) X.env) :: starEach [] X.env := by rfl)
    (hpl : (backTo pos (starEach [.Name y p2] X.env)).any (·.1) = false := by rfl) : SimE cl cf X (.Call (.Name "isinstance" pf) [a, .Name y p2] [] pos) (.un (.isi t) p) := by
  intro ρ M d e L σ H Q r en k
  simp only [evalX, Option.bind_eq_some_iff] at e
  obtain ⟨x, ex, e⟩ := e
  simp only [unD, Option.map_eq_some_iff] at e
  obtain ⟨b, e, rfl⟩ := e
  refine of_pe (pe_callB call_isi hg hm boot_isinstance (pa_cons pe_w (pa_cons (pe_bltn (v := .ty (tyN t)) hg2 hm2 hb2 rfl hn2 hd2) pa_nil he2) he) (by decide) (by decide) he hpl) ?_
  refine ha ex r en fun v H1 s1 r1 h1 => ?_
  obtain ⟨u, h2, h3⟩ := isi_ty h1 e
  exact ⟨v, .ty (tyN t), u, _, b, rfl, .ty _, h2, h3, k _ _ s1 r1 (.bl b)⟩

/-! ### max(a, b), list(range(a)), text.startswith(text), list.index(x), 'lr'.find(sign) -/
theorem sim_max {pf : Pos} (ha : SimE cl cf X a p) (hb : SimE cl cf X b q) (hc : X.calm = true) (hg : Gl X "max") (hm : X.mg "max" = none) (he : starEach [a, b] X.env = (false, eval a X.env) :: starEach [b] X.env := by rfl)
    (he2 : starEach [b] X.env = (false, eval b X.env) :: starEach [] X.env := by rfl) (hpl : (backTo pos (starEach [b] X.env)).any (·.1) = false := by rfl) : SimE cl cf X (.Call (.Name "max" pf) [a, b] [] pos) (.bi .max p q) := by
  intro ρ M d e L σ H Q r en k
  simp only [evalX, Option.bind_eq_some_iff] at e
  obtain ⟨x, ex, y, ey, e⟩ := e
  refine of_pe (pe_callB (call_max2 hc) hg hm PyProof.Rows.boot_max (pa_cons pe_w (pa_cons pe_w pa_nil he2) he) (by decide) (by decide) he hpl) ?_
  refine sim2 ha hb ex ey r en fun v u H' s1 r1 h1 h2 => ?_
  cases h1 with
  | int i =>
    cases h2 with
    | int j =>
      cases (show some _ = some d from e)
      exact ⟨i, j, rfl, k _ _ s1 r1 (.int _)⟩
    | _ => simp [biD] at e
  | _ => cases h2 <;> simp [biD] at e
theorem sim_range {pf p2 pos2 : Pos} (ha : SimE cl cf X a p) (hc : X.calm = true) (hg : Gl X "list") (hm : X.mg "list" = none) (hg2 : Gl X "range") (hm2 : X.mg "range" = none)
    (he : starEach [a] X.env = (false, eval a X.env) :: starEach [] X.env := by rfl)
    (na : starEach [.Call (.Name "range" p2) [a] [] pos2] X.env = (false, eval (.Call (.Name "range" p2) [a] [] pos2) X.env) :: starEach [] X.env := by rfl) :
    SimE cl cf X (.Call (.Name "list" pf) [.Call (.Name "range" p2) [a] [] pos2] [] pos) (.un .range p) := by
  intro ρ M d e L σ H Q r en k
  simp only [evalX, Option.bind_eq_some_iff] at e
  obtain ⟨x, ex, e⟩ := e
  refine of_pe (pe_listRg hc hg hm (prg_1 hg2 hm2 pe_w he) na) ?_
  refine ha ex r en fun v H1 s1 r1 h1 => ?_
  cases h1 with
  | int i =>
    simp only [unD] at e
    split at e
    case isFalse => cases e
    rename_i hi
    cases e
    refine ⟨i, rfl, RgOk.of_le (by omega) (by omega) (by omega) (by omega), fun t ht => ?_⟩
    have e2 : rgV 0 i = (List.range i.toNat).map fun (k : Nat) => V.int k := by
      unfold rgV
      simp
    rw [e2]
    have z : Ats X.K L H1 ((List.range i.toNat).map fun (k : Nat) => V.int k) ((List.range i.toNat).map fun (k : Nat) => D.int k) := by
      have := Ats.ints (K := X.K) (L := L) (H := H1) ((List.range i.toNat).map fun (k : Nat) => (k : Int))
      rw [List.map_map, List.map_map] at this
      exact this
    exact Wt.lst (fun v H' s r h => k v H' (s1.trans s) r h) r1 z ht
  | _ => simp [unD] at e
theorem starts_of (s t : Tx) : Txt.startswith (toS s) (toS t) = t.isPrefixOf s := by
  unfold Txt.startswith Builtin.Str.subAt
  rw [Bool.eq_iff_iff, Bool.and_eq_true, List.isPrefixOf_iff_prefix]
  simp only [toS, Str.length, List.size_toArray, decide_eq_true_eq, beq_iff_eq, Nat.zero_add]
  constructor
  · rintro ⟨h1, h2⟩
    have : s.take t.length = t := by
      have := congrArg Array.toList h2
      simpa using this
    rw [← this]
    exact List.take_prefix _ _
  · rintro ⟨u, rfl⟩
    refine ⟨by simp, ?_⟩
    apply Array.ext'
    simp
theorem sim_starts {apos : Pos} (ha : SimE cl cf X a p) (hb : SimE cl cf X b q) (hs : starEach [b] X.env = [(false, eval b X.env)] := by rfl) (hbase : attributeBase a "startswith" X.env (eval a X.env) = eval a X.env := by rfl) (hline : (apos.endLine == pos.line) = true := by rfl) :
    SimE cl cf X (.Call (.Attribute a "startswith" apos) [b] [] pos) (.bi .starts p q) := by
  intro ρ M d e L σ H Q r en k
  simp only [evalX, Option.bind_eq_some_iff] at e
  obtain ⟨x, ex, y, ey, e⟩ := e
  refine of_pe (pe_m1 PySem.F.slot_str_startswith PySem.F.type_str_startswith mt_startswith pe_w pe_w hs hbase hline) ?_
  refine ha ex r en fun v H1 s1 r1 h1 => ?_
  cases h1 with
  | str s os =>
    refine ⟨⟨_, rfl⟩, hb ey r1 (en.st s1) fun u H2 s2 r2 h2 => ?_⟩
    cases h2 with
    | str t ot =>
      cases (show some _ = some d from e)
      refine ⟨_, _, rfl, rfl, ?_⟩
      rw [starts_of]
      exact k _ _ (s1.trans s2) r2 (.bl _)
    | _ => simp [biD] at e
  | _ => cases y <;> simp [biD] at e
theorem first_get {y : D} : ∀ {ds : List D} {j : Nat}, firstD y ds = some j → (∃ z, ds[j]? = some z ∧ z.eqv y = true) ∧ ∀ m z, m < j → ds[m]? = some z → z.eqv y = false
  | [], j, e => by simp [firstD] at e
  | x :: r, j, e => by
    simp only [firstD] at e
    split at e
    · rename_i h
      cases e
      exact ⟨⟨x, rfl, h⟩, fun m z hm => absurd hm (Nat.not_lt_zero m)⟩
    · rename_i h
      rw [Option.map_eq_some_iff] at e
      obtain ⟨j', e, rfl⟩ := e
      obtain ⟨⟨z, h1, h2⟩, h3⟩ := first_get e
      refine ⟨⟨z, by simpa using h1, h2⟩, fun m z' hm hz => ?_⟩
      cases m with
      | zero =>
        simp at hz
        subst hz
        exact Bool.eq_false_iff.mpr h
      | succ m => exact h3 m z' (by omega) (by simpa using hz)
theorem sim_index {apos : Pos} (ha : SimE cl cf X a p) (hb : SimE cl cf X b q) (hbase : attributeBase a "index" X.env (eval a X.env) = eval a X.env := by rfl)
    (hfew : ((backTo pos (starEach [b] X.env)).all (fun x => !x.1) && (backToKw pos (keywordEach [] X.env)).all (fun x => x.1.isSome)
      && decide (([b] : List Expr).length + ([] : List Keyword).length + (if ([] : List Keyword).isEmpty then 0 else 1) < 30)) = true := by rfl)
    (hline : (apos.endLine == pos.line) = true := by rfl) (hs : starEach [b] X.env = (false, eval b X.env) :: starEach [] X.env := by rfl) (hplain : (backTo pos (starEach [] X.env)).any (·.1) = false := by rfl) :
    SimE cl cf X (.Call (.Attribute a "index" apos) [b] [] pos) (.bi .index p q) := by
  intro ρ M d e L σ H Q r en k
  simp only [evalX, Option.bind_eq_some_iff] at e
  obtain ⟨x, ex, y, ey, e⟩ := e
  refine of_pe (pe_bm PySem.F.plainAttrs_list PySem.F.slot_list_index PySem.F.type_list_index mt_index pe_w (pa_cons pe_w pa_nil hs) hbase hfew hline hs hplain) ?_
  refine ha ex r en fun v H1 s1 r1 h1 => ?_
  cases h1 with
  | @lst ad xs ds h n z =>
    have e' : (if y.flat && ds.all D.flat then (firstD y ds).map fun (j : Nat) => D.int (j : Int) else none) = some d := by
      cases y <;> exact e
    split at e'
    case isFalse => cases e'
    rename_i f
    rw [Bool.and_eq_true] at f
    rw [Option.map_eq_some_iff] at e'
    obtain ⟨j, e', rfl⟩ := e'
    obtain ⟨⟨w, h2, h3⟩, h4⟩ := first_get e'
    refine ⟨.inl ⟨rfl, xs, .inl (.inl h)⟩, hb ey r1 (en.st s1) fun u H2 s2 r2 hu => ?_⟩
    have z2 := z.st s2
    obtain ⟨w', h5, h6⟩ := z2.get h2
    have fw := List.all_eq_true.mp f.2 w (List.mem_of_getElem? h2)
    refine ⟨ad, xs, u, j, w', rfl, rfl, .inl (.inl (s2 _ _ h n)), flat_of hu f.1, flats_of z2 f.2, h5, ?_, fun m z' hm hz => ?_, k _ _ (s1.trans s2) r2 (.int _)⟩
    · rw [eqV_of h6 hu fw f.1]; exact h3
    · obtain ⟨d', h7, h8⟩ := z2.getV hz
      rw [eqV_of h8 hu (List.all_eq_true.mp f.2 d' (List.mem_of_getElem? h7)) f.1]
      exact h4 m d' hm h7
  | _ => cases y <;> simp [biD] at e
theorem find_lr (c : Nat) : Txt.find (toS [108, 114]) (toS [c]) = if c = 108 then 0 else if c = 114 then 1 else -1 := by
  by_cases h1 : c = 108
  · subst h1; rw [if_pos rfl]; decide +kernel
  · by_cases h2 : c = 114
    · subst h2; rw [if_neg h1, if_pos rfl]; decide +kernel
    · rw [if_neg h1, if_neg h2]
      simp [Txt.find, Builtin.Str.occurrences, Builtin.Str.subAt, toS, Str.length, Std.Legacy.Range.forIn_eq_forIn_range', List.range', Id.run, h1, h2, Ne.symm h1, Ne.symm h2]
      rfl
theorem sim_findLR {apos : Pos} {x : Str} {j : Nat} {p0 : Pos} (hx : x = toS [108, 114]) (hb : SimE cl cf X b q) (hs : starEach [b] X.env = [(false, eval b X.env)] := by rfl)
    (hbase : attributeBase (.Constant (.str x) j p0) "find" X.env (eval (.Constant (.str x) j p0) X.env) = eval (.Constant (.str x) j p0) X.env := by rfl) (hline : (apos.endLine == pos.line) = true := by rfl) :
    SimE cl cf X (.Call (.Attribute (.Constant (.str x) j p0) "find" apos) [b] [] pos) (.un .findLR q) := by
  intro ρ M d e L σ H Q r en k
  simp only [evalX, Option.bind_eq_some_iff] at e
  obtain ⟨y, ey, e⟩ := e
  refine of_pe (pe_m1 PySem.F.slot_str_find PySem.F.type_str_find mt_find pe_str pe_w hs hbase hline) ?_
  refine ⟨⟨_, rfl⟩, hb ey r en fun u H2 s2 r2 h2 => ?_⟩
  cases h2 with
  | str t ot =>
    match t, e, ot with
    | [c], e, ot =>
      cases (show some _ = some d from e)
      refine ⟨_, _, rfl, rfl, ?_⟩
      rw [hx, find_lr]
      exact k _ _ s2 r2 (.int _)
    | [], e, _ => simp [unD] at e
    | _ :: _ :: _, e, _ => simp [unD] at e
  | _ => simp [unD] at e

/-! ### a tuple turned round -/
theorem applied_rev {prog : Program} {w : World} {A : Around} {E : Value → Shared → Prop} {s : Shared} {sl : Addr} {vl vu vs : Value} {n : Nat} {Q : Int × Int × Nat → Shared → Prop} (hs : s.heap.IsSliceOf sl vl vu vs) (pl : IsPart vl none) (pu : IsPart vu none) (ps : IsPart vs (some (-1)))
    (h : Q ((n : Int) - 1, -1, n) s) : wpAny (model prog w) A (Builtin.Slice.sliceApplied (.ref sl) (pure (n : Int))) Q E s := by
  obtain ⟨os, hos, hcs, hds⟩ := id hs
  unfold Builtin.Slice.sliceApplied Builtin.Slice.sliceFields
  refine wpAny_bind (wpAny_bind (wpAny_field hos hds (x := vl) rfl (wpAny_bind (wpAny_field hos hds (x := vu) rfl (wpAny_bind (wpAny_field hos hds (x := vs) rfl (wpAny_pure ?_)))))))
  refine wpAny_bind (HT.slicePart_ ps ?_)
  show wpAny _ _ (if ((-1 : Int) == 0) = true then _ else _) _ _ s
  rw [if_neg (by decide)]
  refine wpAny_bind (HT.slicePart_ pl (wpAny_bind (HT.slicePart_ pu (wpAny_bind (wpAny_pure ?_)))))
  show wpAny _ _ (pure ((n : Int) - 1, (-1 : Int), Builtin.Slice.slicePlaces ((n : Int) - 1) (-1) (-1))) _ _ s
  have e : Builtin.Slice.slicePlaces ((n : Int) - 1) (-1) (-1) = n := by
    unfold Builtin.Slice.slicePlaces
    by_cases hn : n = 0
    · subst hn; decide
    · have h1 : ((n : Int) - 1 > -1) := by omega
      simp only [h1, if_true, show ¬ ((-1 : Int) > 0) by decide, if_false]
      have : ((n : Int) - 1 - -1 - 1) / (- -1) + 1 = n := by
        have : (- -1 : Int) = 1 := by decide
        rw [this, Int.ediv_one]
        omega
      rw [this]
      rfl
  rw [e]
  exact wpAny_pure h
theorem pick_rev (xs : Array Value) : ((List.range xs.size).filterMap fun (m : Nat) => xs[(((xs.size : Nat) : Int) - 1 + (m : Int) * (-1)).toNat]?).toArray = xs.toList.reverse.toArray := by
  have h := PySem.W.krv_all xs
  have h2 : (List.range xs.size).filterMap (fun (m : Nat) => xs[(((xs.size : Nat) : Int) - 1 + (m : Int) * (-1)).toNat]?) = ((List.range xs.size).map fun k => xs.size - 1 - k).filterMap (xs[·]?) := by
    rw [List.filterMap_map]
    congr 1
    funext m
    have : (((xs.size : Nat) : Int) - 1 + (m : Int) * (-1)).toNat = xs.size - 1 - m := by omega
    rw [this]
    rfl
  rw [h2, PySem.W.krv_range, List.filterMap_reverse, h]
section
variable {prog : Program} {w : World} {A : Around} {E : Value → Shared → Prop} {s : Shared} {t sl : Addr} {its : Array Value} {v1 v2 v3 : Value} {Q : Value → Shared → Prop}
/-- the tuple's own entry, at a slice that takes all from the end to the start -/
theorem entry_rev (isT : IsTup s.heap t its) (isS : s.heap.IsSliceOf sl v1 v2 v3) (w1 : IsPart v1 none) (w2 : IsPart v2 none) (w3 : IsPart v3 (some (-1))) (few : its.size ≤ sizeLine)
    (k : Q (.ref s.heap.objs.size) { s with heap := s.heap.push { cls := .type "tuple", data := .seq its.toList.reverse.toArray } }) :
    wpAny (model prog w) A (Builtin.«tuple.__getitem__» ⟨[.ref t, .ref sl], []⟩) (fun f s' => ∃ v, f = .done (.ret v) ∧ Q v s') E s := by
  obtain ⟨o, g, c, _⟩ := id isS
  have fits : sizeOk (.seq its.toList.reverse.toArray) := show its.toList.reverse.toArray.size ≤ sizeLine by simpa using few
  have never : (((((its.size : Nat) : Int) - 1) == 0 && (-1 : Int) == 1) && its.size == its.size) = false := by simp
  have made : wpAny (model prog w) A (newObj (.type "tuple") (.seq its.toList.reverse.toArray)) Q E s := wpAny_newObj_type k fits
  show wpAny _ _ (Builtin.Tuple.tupleItemsOf (.ref t) >>= _) _ _ s
  refine wpAny_bind (tupleItemsOf_ isT (wpAny_bind (wpAny_typeOf ⟨o, g, c⟩ ?_)))
  rw [if_pos (by decide)]
  refine wpAny_bind (applied_rev isS w1 w2 w3 ?_)
  dsimp only
  rw [never, if_neg Bool.false_ne_true, pick_rev]
  exact wpAny_bind (m := Builtin.Tuple.tupleExact _) (thn made fun v s' q => wpAny_pure ⟨v, rfl, q⟩)
/-- the same by the item's road -/
theorem item_rev (isT : IsTup s.heap t its) (isS : s.heap.IsSliceOf sl v1 v2 v3) (w1 : IsPart v1 none) (w2 : IsPart v2 none) (w3 : IsPart v3 (some (-1))) (few : its.size ≤ sizeLine)
    (k : Q (.ref s.heap.objs.size) { s with heap := s.heap.push { cls := .type "tuple", data := .seq its.toList.reverse.toArray } }) : wpAny (model prog w) A (getItem (.ref t) (.ref sl)) Q E s := by
  have call : wpAny (model prog w) A (call (.builtin "tuple.__getitem__") [.ref t, .ref sl]) (fun v s' => Q v s') E s :=
    wpAny_call_entry PyProof.Rows.slot_tuple_getitem isT.typeIs entry_tuple_getitem (thn (entry_rev (Q := Q) isT isS w1 w2 w3 few k) fun f s' ⟨v, e, q⟩ => ⟨v, e, q⟩) (args_tuple_getitem _ _)
  unfold getItem
  exact wpAny_holding (wpAny_bind (wpAny_sequenceKey isT.typeIs (by decide) (wpAny_bind (wpAny_callSpecial?_slot (name := Str.ofString "__getitem__") isT.typeIs PyProof.Rows.slot_tuple_getitem (thn call fun v s' q => wpAny_pure q)))))
end
def tRevT (K : PySem.W.Frag) (te : TE) : TE := fun σ H Q => te σ H fun x H1 => ∃ a xs, x = .ref a ∧ SqT K H1 a xs ∧ ∀ p, H1 p = none → Q (.ref p) (upd H1 p (.tup xs.reverse))
theorem pe_revT {e : Expr} {te : TE} {k : Nat} {p1 p2 p3 pos : Pos} (he : PE X e te) : PE X (.Subscript e (.Slice none none (some (.UnaryOp .USub (.Constant (.int 1) k p1) p2)) p3) pos) (tRevT X.K te) := by
  have minus : PO X (some (.UnaryOp .USub (.Constant (.int 1) k p1) p2)) (tPart (tUn (rU fun i => .int (-i)) (tC (.int 1)))) := po_some (pe_un un_neg pe_int)
  constructor
  intro pins s0 σ H Q I0 h
  refine Subscript_ (thn (he.run pins s0 σ H _ I0 h) ?_)
  rintro _ sa ⟨_, Ha, Ia, rx, t, xs, e0, isq, q⟩
  subst e0
  cases rx
  refine wpAny_Slice (thn (po_none.run pins sa σ Ha (fun o G => o = none ∧ G = Ha) Ia ⟨rfl, rfl⟩) ?_)
  rintro b1 sb ⟨_, _, Ib, w1, rfl, rfl⟩
  refine thn (po_none.run pins sb σ _ (fun o G => o = none ∧ G = _) Ib ⟨rfl, rfl⟩) ?_
  rintro b2 sc ⟨_, _, Ic, w2, rfl, rfl⟩
  refine thn (minus.run pins sc σ _ (fun o G => o = some (-1) ∧ G = _) Ic ⟨1, rfl, -1, rfl, rfl, rfl⟩) ?_
  rintro b3 sd ⟨_, G, Id, w3, rfl, rfl⟩
  have Ie := Id.kept (h' := sd.heap.push { cls := .type "slice", data := .fields #[b1, b2, b3] }) (t' := sd.toks) fun _ _ g => Heap.get?_push_of_some _ g
  obtain ⟨its, rv, isT, few⟩ := Ie.tuple isq
  have len := rv.length
  show wpAny _ _ (subscriptTail e (.Slice none none (some (.UnaryOp .USub (.Constant (.int 1) k p1) p2)) p3) (.ref t) (.ref sd.heap.objs.size)) _ _ _
  refine tail_any (ops := [.ref t, .ref sd.heap.objs.size]) isT.typeIs PyProof.Rows.slot_tuple_getitem.lookup (item_rev isT (Heap.IsSliceOf.new _ b1 b2 b3) w1 w2 w3 (by rw [List.size_toArray]; omega) ?_) (by with_unfolding_all rfl)
  have new := Ie.hok.fresh (Nat.le_refl _)
  exact ⟨.ref _, upd _ _ (.tup xs.reverse), Ie.laid (t' := sd.toks) (fun _ _ g => Heap.get?_push_of_some _ g) (Nat.le_refl _) ⟨by simpa using few, _, rv.reverse, _, Heap.get?_push_size _ rfl, rfl, _, rfl⟩, rfl, q _ new⟩
theorem sim_rev {k : Nat} {p1 p2 p3 : Pos} (ha : SimE cl cf X a p) : SimE cl cf X (.Subscript a (.Slice none none (some (.UnaryOp .USub (.Constant (.int 1) k p1) p2)) p3) pos) (.rev p) := by
  intro ρ M d e L σ H Q r en kk
  simp only [evalX, Option.bind_eq_some_iff] at e
  obtain ⟨x, ex, e⟩ := e
  refine of_pe (pe_revT pe_w) ?_
  refine ha ex r en fun v H1 s1 r1 h1 => ?_
  cases h1 with
  | tup h z =>
    cases (show some _ = some d from e)
    exact ⟨_, _, rfl, sqT h, fun t ht => Wt.tup (fun v H' s r h => kk v H' (s1.trans s) r h) r1 z.rev ht⟩
  | _ => simp [revD] at e
end
end FpS

set_option linter.all false
set_option maxRecDepth 100000
set_option maxHeartbeats 4000000
/-! Calls of the program's own defs; comprehensions that choose. -/
namespace FpS
open PySem PySem.Spec PyProof.Rows L2 Fp

/-- a def's promise: what the small language says of it -/
def spF (K : PySem.W.Frag) (cl : Nat → Addr) (n : Nat) (F : List D → Ms → Option (D × Ms)) : Sp := fun vs H Q _ => vs.length = n ∧ ∃ (L : List Addr) (M : Ms) (ds : List D) (d : D) (M' : Ms), Rel K cl L M H ∧ Ats K L H vs ds ∧ F ds M = some (d, M') ∧
  ∀ (L' : List Addr) (v : V) (H' : Hp), Grow H L L' → Step L H H' → Rel K cl L' M' H' → At K L' H' v d → Q v H'

/-! ### forgetting what a callee made -/
section
variable {K : PySem.W.Frag} {cl : Nat → Addr} {L N : List Addr} {H H' : Hp}
mutual
theorem At.clean : ∀ {v : V} {d : D}, At K (L ++ N) H v d → d.clean = true → At K L H v d
  | _, _, .non, _ => .non
  | _, _, .bl b, _ => .bl b
  | _, _, .int i, _ => .int i
  | _, _, .str s o, _ => .str s o
  | _, _, .tup h z, c => .tup (h.imp (fun ⟨a, b⟩ => ⟨a, fun q => b (List.mem_append_left _ q)⟩) id) (Ats.clean z (by simpa [D.clean] using c))
  | _, _, .lst h n z, c => .lst h (fun q => n (List.mem_append_left _ q)) (Ats.clean z (by simpa [D.clean] using c))
  | _, _, .scr h, c => by simp [D.clean] at c
  | _, _, .ref h, c => by simp [D.clean] at c
theorem Ats.clean : ∀ {vs : List V} {ds : List D}, Ats K (L ++ N) H vs ds → D.cleanL ds = true → Ats K L H vs ds
  | _, _, .nil, _ => .nil
  | _, _, .cons h t, c => by
    simp only [D.cleanL, Bool.and_eq_true] at c
    exact .cons (At.clean h c.1) (Ats.clean t c.2)
end
mutual
/-- data that stood ahead of the growth stand when it is forgotten -/
theorem At.down {H0 : Hp} : ∀ {v0 v : V} {d : D}, At K L H0 v0 d → At K (L ++ N) H v d → At K L H v d
  | _, _, _, _, .non => .non
  | _, _, _, _, .bl b => .bl b
  | _, _, _, _, .int i => .int i
  | _, _, _, _, .str s o => .str s o
  | _, _, _, .tup _ z0, .tup h z => .tup (h.imp (fun ⟨a, b⟩ => ⟨a, fun q => b (List.mem_append_left _ q)⟩) id) (Ats.down z0 z)
  | _, _, _, .lst _ _ z0, .lst h n z => .lst h (fun q => n (List.mem_append_left _ q)) (Ats.down z0 z)
  | _, _, _, _, .scr h => .scr (h.imp (fun ⟨a, b⟩ => ⟨a, fun q => b (List.mem_append_left _ q)⟩) id)
  | _, _, _, .ref h0, .ref h => .ref (by
      rw [List.getElem?_append_left (List.getElem?_eq_some_iff.mp h0).1] at h
      exact h)
theorem Ats.down {H0 : Hp} : ∀ {vs0 vs : List V} {ds : List D}, Ats K L H0 vs0 ds → Ats K (L ++ N) H vs ds → Ats K L H vs ds
  | _, _, _, .nil, .nil => .nil
  | _, _, _, .cons h0 t0, .cons h t => .cons (At.down h0 h) (Ats.down t0 t)
end
theorem Fs.down {H0 : Hp} : ∀ {vs0 vs : List (Str × V)} {ds : List (Tx × D)}, Fs K L H0 vs0 ds → Fs K (L ++ N) H vs ds → Fs K L H vs ds
  | _, _, _, .nil, .nil => .nil
  | _, _, _, .cons h0 t0, .cons h t => .cons (At.down h0 h) (Fs.down t0 t)
theorem ObAt.down {H0 : Hp} {a : Addr} : ∀ {m : MO}, ObAt K cl L H0 a m → ObAt K cl (L ++ N) H a m → ObAt K cl L H a m
  | .lst _, ⟨_, _, z0⟩, ⟨xs, h, z⟩ => ⟨xs, h, z0.down z⟩
  | .ins _ _, ⟨_, _, _, z0⟩, ⟨dx, vs, h, z⟩ => ⟨dx, vs, h, z0.down z⟩
theorem Rel.down {M M' : Ms} {H0 : Hp} (r0 : Rel K cl L M H0) (r : Rel K cl (L ++ N) M' H) (e : M'.take M.length = M) : Rel K cl L M H := by
  refine ⟨(List.nodup_append.mp r.nd).1, r0.len, fun i a m h1 h2 => (r0.ob i a m h1 h2).down (N := N) ?_⟩
  have hl := (List.getElem?_eq_some_iff.mp h1).1
  have hm : i < M.length := (List.getElem?_eq_some_iff.mp h2).1
  refine r.ob i a m (by rw [List.getElem?_append_left hl]; exact h1) ?_
  rw [← e, List.getElem?_take, if_pos hm] at h2
  exact h2
theorem fin_ok {M : Ms} {F : Option (D × Ms)} {d0 : D} {Q : VK} (e : fin M F = some d0) (r : Rel K cl L M H) (k : Wt K cl L M H d0 Q) :
    ∃ d M', F = some (d, M') ∧ ∀ (L' : List Addr) (v : V) (H' : Hp), Grow H L L' → Step L H H' → Rel K cl L' M' H' → At K L' H' v d → Q v H' := by
  cases F with
  | none => simp [fin] at e
  | some x =>
    obtain ⟨d, M'⟩ := x
    refine ⟨d, M', rfl, fun L' v H' g s r' h => ?_⟩
    obtain ⟨N, rfl, hN⟩ := g
    simp only [fin] at e
    by_cases c : M' = M
    · rw [if_pos c] at e
      cases e
      subst c
      have hl : N.length = 0 := by
        have h1 := r'.len
        have h2 := r.len
        rw [List.length_append] at h1
        omega
      have hN0 := List.length_eq_zero_iff.mp hl
      subst hN0
      rw [List.append_nil] at r' h
      exact k _ _ s r' h
    · rw [if_neg c] at e
      split at e
      case isFalse => cases e
      rename_i ht
      have rd := r.down r' ht
      cases d with
      | ref p =>
        simp only at e
        split at e
        case isFalse => cases e
        rename_i hp
        split at e
        · rename_i ds hm
          split at e
          case isFalse => cases e
          rename_i hc
          cases e
          cases h with
          | @ref a _ h =>
            obtain ⟨xs, h1, h2⟩ := r'.ob p a _ h hm
            refine k _ _ s rd (.lst h1 ?_ (h2.clean hc))
            intro q
            obtain ⟨i, hi⟩ := List.mem_iff_getElem?.mp q
            have hil := (List.getElem?_eq_some_iff.mp hi).1
            have h3 : (L ++ N)[i]? = some a := by rw [List.getElem?_append_left hil]; exact hi
            have h4 := r.len
            have : i = p := nd_ix r'.nd h3 h
            omega
        · cases e
      | _ =>
        simp only at e
        split at e
        case isFalse => cases e
        rename_i hc
        cases e
        exact k _ _ s rd (h.clean hc)
end

section
variable {cl : Nat → Addr} {cf : Cf} {X : Cx} {a b c : Expr} {p q r : PX} {pos : Pos}
/-- what a call of the j-th def wants -/
structure Cal (X : Cx) (cl : Nat → Addr) (cf : Cf) (k : Nat) (j : Nat) (f : Addr) (fd : FuncData) (ps : List Str) : Prop where
  ok : FnOk X.prog X.w X.K X.mg X.base CX0 k f fd ps (spF X.K cl ps.length (cf j))
  bi : Binds X.K fd ps []
  kp : PySem.W.keepIn X.K (.ref f) = true
theorem spF_pure {n : Nat} {F : List D → Ms → Option (D × Ms)} {L : List Addr} {M : Ms} {H : Hp} {vs : List V} {ds : List D} {d : D} {Q : VK} {E : XK} (e : fin M (F ds M) = some d) (r : Rel X.K cl L M H) (z : Ats X.K L H vs ds) (hn : ds.length = n) (k : Wt X.K cl L M H d Q) : spF X.K cl n F (vs ++ []) H Q E := by
  rw [List.append_nil]
  obtain ⟨d', M', h1, h2⟩ := fin_ok e r k
  exact ⟨by rw [z.length]; exact hn, L, M, ds, d', M', r, z, h1, h2⟩
theorem sim_call {kk j : Nat} {f : Addr} {fd : FuncData} {ps : List Str} {x : Str} {pf : Pos} {es : List Expr} {as : PA} (C : Cal X cl cf kk j f fd ps) (hr : Room kk X.A) (hg : Gl X x) (hm : X.mg x = some (.ref f)) (h : SimA cl cf X (a :: es) as) (hl : as.len = ps.length := by rfl)
    (hdb : (x == ("__debug__" : Str)) = false := by decide) (he : starEach (a :: es) X.env = (false, eval a X.env) :: starEach es X.env := by rfl) (hpl : (backTo pos (starEach es X.env)).any (·.1) = false := by rfl) :
    SimE cl cf X (.Call (.Name x pf) (a :: es) [] pos) (.call j as) := by
  intro ρ M d e L σ H Q r en k
  simp only [evalX, Option.bind_eq_some_iff] at e
  obtain ⟨ds, eds, e⟩ := e
  refine of_pe (pe_call C.ok hr hg hm C.kp C.bi .nil pass0 pa_w hdb he hpl) ?_
  refine h eds r en fun vs H1 s1 r1 z => ?_
  exact spF_pure e r1 z ((evalA_len eds).trans hl) fun v H2 s2 r2 h => k v H2 (s1.trans s2) r2 h
theorem recv_of {L : List Addr} {M : Ms} {H : Hp} {cc : Nat} {mt : Tx} {x : D} {v : V} (r : Rel X.K cl L M H) (h : At X.K L H v x) (e : recv M cc mt x = true) : ∃ ad dx fs, v = .ref ad ∧ H ad = some (.ins (cl cc) dx fs) ∧ fs.lookup (toS mt) = none := by
  cases h with
  | @ref ad l h =>
    simp only [recv] at e
    split at e
    · rename_i c' fs hm
      rw [Bool.and_eq_true] at e
      obtain ⟨dx, vs, h1, h2⟩ := r.ob l ad _ h hm
      have := eq_of_beq e.1
      subst this
      refine ⟨ad, dx, vs, rfl, h1, h2.none ?_⟩
      have := e.2
      cases hh : lookA mt fs with
      | none => rfl
      | some y => rw [hh] at this; simp at this
    · cases e
  | _ => simp [recv] at e
/-- o.m(e, ..), nothing changed by it -/
theorem sim_meth {kk cc j : Nat} {f : Addr} {fd : FuncData} {ps : List Str} {m : Str} {apos : Pos} {es : List Expr} {as : PA} {pl : Sem Bool} {mt : Tx} (C : Cal X cl cf kk j f fd ps) (hr : Room kk X.A) (hcl : Cls X.K (cl cc)) (hme : Meth X.K (cl cc) m f) (hmt : m = toS mt)
    (ha : SimE cl cf X a p) (h : SimA cl cf X (b :: es) as) (hl : as.len + 1 = ps.length := by rfl)
    (hst : starEach (b :: es) X.env = (false, eval b X.env) :: starEach es X.env := by rfl) (hpl : (backTo pos (starEach es X.env)).any (·.1) = false := by rfl)
    (ht : eval (.Call (.Attribute a m apos) (b :: es) [] pos) X.env = (do
      let ov ← eval a X.env
      standAt apos.atName
      let (f, first) ← holding [ov] (getMethod ov m pl)
      callWith pos f first (backTo pos (starEach (b :: es) X.env)) (backToKw pos (keywordEach [] X.env))) := by rfl) :
    SimE cl cf X (.Call (.Attribute a m apos) (b :: es) [] pos) (.meth cc mt j p as) := by
  intro ρ M d e L σ H Q r en k
  simp only [evalX, Option.bind_eq_some_iff] at e
  obtain ⟨x, ex, e⟩ := e
  split at e
  case isFalse => cases e
  rename_i hrc
  rw [Option.bind_eq_some_iff] at e
  obtain ⟨ds, eds, e⟩ := e
  refine of_pe (pe_meth pe_w hcl hme C.ok hr C.bi .nil pass0 pa_w hst hpl ht) ?_
  refine ha ex r en fun v H1 s1 r1 h1 => ?_
  obtain ⟨ad, dx, fs, rfl, h2, h3⟩ := recv_of r1 h1 hrc
  refine ⟨ad, dx, fs, rfl, h2, by rw [hmt]; exact h3, ?_⟩
  refine h eds r1 (en.st s1) fun vs H2 s2 r2 z => ?_
  exact spF_pure (vs := .ref ad :: vs) (ds := x :: ds) e r2 (.cons (h1.st s2) z) (by rw [List.length_cons, evalA_len eds]; exact hl) fun v H3 s3 r3 h => k v H3 ((s1.trans s2).trans s3) r3 h

/-! ### what is walked -/
def Walks (K : PySem.W.Frag) (L : List Addr) (H : Hp) (J : It) (ds : List D) : Prop := ∀ (L' : List Addr) (H' : Hp), Grow H L L' → Step L H H' →
  (∀ i, i < ds.length → J.go i H' ∧ ∀ x H'', J.yld i H' x H'' → H'' = H' ∧ ∃ d, ds[i]? = some d ∧ At K L H x d) ∧ ∀ i, ds.length ≤ i → J.stop i H'
def wP (X : Cx) (tg iter : Expr) : TI := fun σ H R => ∀ pins s, Inv X pins σ H s → wpAny (model X.prog X.w) X.A (eval iter X.env) (fun v s1 => wpAny (model X.prog X.w) X.A (pyIter v) (PIE X pins σ tg R) X.xe s1) X.xe s
theorem pi_w {tg iter : Expr} : PI X tg iter (wP X tg iter) := ⟨fun pins s _ _ _ I h => h pins s I⟩
theorem of_pi {tg iter : Expr} {wi : TI} {σ : L2.St} {H : Hp} {R : It → Hp → Prop} (h : PI X tg iter wi) (q : wi σ H R) : wP X tg iter σ H R := fun pins s I => h.run pins s σ H R I q
def SimI (cl : Nat → Addr) (cf : Cf) (X : Cx) (tg iter : Expr) (p : PX) : Prop := ∀ ⦃ρ : Sl⦄ ⦃M : Ms⦄ ⦃dx : D⦄ ⦃ds : List D⦄, evalX cf M p ρ = some dx → walkD M dx = some ds → ∀ {L : List Addr} {σ : L2.St} {H : Hp} {R : It → Hp → Prop}, Rel X.K cl L M H → EnvR X.K L H σ ρ →
  (∀ J H', Step L H H' → Rel X.K cl L M H' → Walks X.K L H' J ds → R J H') → wP X tg iter σ H R
theorem simI_of {tg iter : Expr} (h : SimE cl cf X iter p) : SimI cl cf X tg iter p := by
  intro ρ M dx ds e ew L σ H R r en k
  cases dx with
  | str s =>
    cases (show some _ = some ds from ew)
    refine of_pi (pi_str pe_w) (h e r en fun v H1 s1 r1 h1 => ?_)
    cases h1 with
    | str _ os =>
      refine ⟨_, rfl, k _ _ s1 r1 fun L' H' g st => ⟨fun i hi => ⟨?_, fun x H'' y => ?_⟩, fun i hi => ?_⟩⟩
      · show i < (toS s).cps.size
        simpa [toS] using hi
      · obtain ⟨e1, c, e2, e3⟩ := y
        subst e3
        refine ⟨e1, .str [c], ?_, ?_⟩
        · have e2' : s[i]? = some c := by simpa [toS] using e2
          rw [List.getElem?_map, e2']
          rfl
        · have e2' : s[i]? = some c := by simpa [toS] using e2
          exact .str [c] fun c' hc => by rw [List.mem_singleton.mp hc]; exact os c (List.mem_of_getElem? e2')
      · show (toS s).cps.size ≤ i
        simpa [toS] using hi
  | tup es =>
    cases (show some _ = some ds from ew)
    refine of_pi (pi_tup pe_w) (h e r en fun v H1 s1 r1 h1 => ?_)
    cases h1 with
    | @tup a xs _ hh z =>
      refine ⟨a, rfl, ⟨xs, sqT hh⟩, k _ _ s1 r1 fun L' H' g st => ?_⟩
      have q : SqT X.K H' a xs := sqT (L := L) (hh.imp (fun ⟨a, b⟩ => ⟨st _ _ a b, b⟩) id)
      have z' := z.mono g st
      refine ⟨fun i hi => ⟨?_, fun x H'' y => ?_⟩, fun i hi => ?_⟩
      · have hx : i < xs.length := by rw [z.length]; exact hi
        exact ⟨xs, xs[i], q, List.getElem?_eq_getElem hx⟩
      · obtain ⟨e1, e2⟩ := y
        obtain ⟨d, h2, h3⟩ := z.getV (e2 xs q)
        exact ⟨e1, d, h2, h3⟩
      · exact ⟨xs, q, by rw [z.length]; exact hi⟩
  | lst es =>
    cases (show some _ = some ds from ew)
    refine of_pi (pi_list pe_w) (h e r en fun v H1 s1 r1 h1 => ?_)
    cases h1 with
    | @lst a xs _ hh n z =>
      refine ⟨a, rfl, ⟨xs, .inl (.inl hh)⟩, k _ _ s1 r1 fun L' H' g st => ?_⟩
      have q : SqL X.K H' a xs := .inl (.inl (st _ _ hh n))
      have z' := z.mono g st
      refine ⟨fun i hi => ⟨?_, fun x H'' y => ?_⟩, fun i hi => ?_⟩
      · have hx : i < xs.length := by rw [z.length]; exact hi
        exact ⟨xs, xs[i], q, List.getElem?_eq_getElem hx⟩
      · obtain ⟨e1, e2⟩ := y
        obtain ⟨d, h2, h3⟩ := z.getV (e2 xs q)
        exact ⟨e1, d, h2, h3⟩
      · exact ⟨xs, q, by rw [z.length]; exact hi⟩
  | _ => simp [walkD] at ew
theorem simI_range {tg : Expr} {pf : Pos} (ha : SimE cl cf X a p) (hg : Gl X "range") (hm : X.mg "range" = none) (hs : starEach [a] X.env = [(false, eval a X.env)] := by rfl) : SimI cl cf X tg (.Call (.Name "range" pf) [a] [] pos) (.un .range p) := by
  intro ρ M dx ds e ew L σ H R r en k
  simp only [evalX, Option.bind_eq_some_iff] at e
  obtain ⟨x, ex, e⟩ := e
  refine of_pi (pi_range1 hg hm (pa_cons pe_w pa_nil hs) hs) (ha ex r en fun v H1 s1 r1 h1 => ?_)
  cases h1 with
  | int n =>
    simp only [unD] at e
    split at e
    case isFalse => cases e
    rename_i hn
    cases e
    cases (show some _ = some ds from ew)
    refine ⟨n, rfl, by omega, by omega, k _ _ s1 r1 fun L' H' g st => ⟨fun i hi => ⟨?_, fun x H'' y => ?_⟩, fun i hi => ?_⟩⟩
    · show i < n.toNat
      simpa using hi
    · obtain ⟨e1, e2⟩ := y
      subst e2
      have hi' : i < n.toNat := by simpa using hi
      refine ⟨e1, .int i, ?_, ?_⟩
      · rw [List.getElem?_map, List.getElem?_range hi']
        rfl
      · rw [Int.zero_add]
        exact .int _
    · show n.toNat ≤ i
      simpa using hi
  | _ => simp [unD] at e

/-! ### [x for x in xs if c] -/
theorem filtD_take {f : D → Option Bool} {d : D} {ds es : List D} (e : filtD f (d :: ds) = some es) : ∃ b ys, f d = some b ∧ filtD f ds = some ys ∧ es = if b then d :: ys else ys := by
  simp only [filtD, Option.bind_eq_some_iff, Option.map_eq_some_iff] at e
  obtain ⟨b, h1, ys, h2, rfl⟩ := e
  exact ⟨b, ys, h1, h2, rfl⟩
theorem filt_go {i : Nat} {tg iter cnd : Expr} {scope : Scope} {pc : PX} {ρ : Sl} {M : Ms} {d : D} (hi : SimI cl cf X tg iter p) (hc : ∀ s H0 C clo fp, SimT cl cf (X.blk s H0 scope (compEnvC scope clo C X.env) fp) cnd pc)
    (e : evalX cf M (.filt i p pc) ρ = some d) {L : List Addr} {σ : L2.St} {H : Hp} {Q : VK} (r : Rel X.K cl L M H) (en : EnvR X.K L H σ ρ) (hil : i < ρ.length) (k : Wt X.K cl L M H d Q) :
    tLc (wP X tg iter) (gName i) (fun σ H Q => ∀ s H0 C clo fp, wT (X.blk s H0 scope (compEnvC scope clo C X.env) fp) cnd σ H Q) (tVar i) [i] σ H Q := by
  simp only [evalX, Option.bind_eq_some_iff] at e
  obtain ⟨dx, ex, ds, ew, e⟩ := e
  split at e
  case isFalse => cases e
  rename_i hlim
  obtain ⟨hlim, rfl⟩ := hlim
  have hL : L = [] := List.length_eq_zero_iff.mp r.len
  subst hL
  rw [Option.map_eq_some_iff] at e
  obtain ⟨es, e, rfl⟩ := e
  refine hi ex ew r en fun J H1 s1 r1 wk A hA => ?_
  let f : D → Option Bool := fun d => (evalX cf [] pc (ρ.set i (some d))).bind asB
  refine ⟨fun j m H' => m = ds.length - j ∧ j ≤ ds.length ∧ Step [] H1 H' ∧ Rel X.K cl [] [] H' ∧ ∃ ys done rest, H' A = some (.lst ys) ∧ A ∉ ([] : List Addr) ∧ Ats X.K [] H1 ys done ∧ done.length ≤ j ∧ filtD f (ds.drop j) = some rest ∧ done ++ rest = es,
    ⟨ds.length, by simp, Nat.zero_le _, Step.new hA, r1.new hA, [], [], es, upd_same, r1.fresh hA, .nil, by simp, e, by simp⟩, ?_⟩
  rintro j m H' ⟨rfl, hj, s2, r2, ys, dn, rest, hD, nD, z, hdl, hf, he⟩
  obtain ⟨w1, w2⟩ := wk [] H' (Grow.refl _ _) s2
  by_cases hlt : j < ds.length
  · obtain ⟨g1, g2⟩ := w1 j hlt
    refine .inr ⟨g1, fun H' => ∃ m' , m' < ds.length - j ∧ (m' = ds.length - (j + 1) ∧ j + 1 ≤ ds.length ∧ Step [] H1 H' ∧ Rel X.K cl [] [] H' ∧ ∃ ys done rest, H' A = some (.lst ys) ∧ A ∉ ([] : List Addr) ∧ Ats X.K [] H1 ys done ∧ done.length ≤ j + 1 ∧ filtD f (ds.drop (j + 1)) = some rest ∧ done ++ rest = es), fun H'' q => q, fun x H'' y => ?_⟩
    obtain ⟨rfl, d0, hd0, hx⟩ := g2 x H'' y
    have en2 : EnvR X.K [] H'' ((σ.set i none).set i (some x)) (ρ.set i (some d0)) := (en.st (s1.trans s2)).set2 (hx.st s2)
    refine ⟨by simp [wipe], ?_⟩
    have hdrop : ds.drop j = d0 :: ds.drop (j + 1) := by
      obtain ⟨hl, e⟩ := List.getElem?_eq_some_iff.mp hd0
      rw [← e]
      exact List.drop_eq_getElem_cons hl
    rw [hdrop] at hf
    obtain ⟨b, rest', hb, hr, erest⟩ := filtD_take hf
    have hb' : (evalX cf [] pc (ρ.set i (some d0))).bind asB = some b := hb
    rw [Option.bind_eq_some_iff] at hb'
    obtain ⟨dd, hb1, hb2⟩ := hb'
    intro s H0 C clo fp
    refine hc s H0 C clo fp hb1 hb2 r2 en2 fun H3 s3 r3 => ?_
    cases b with
    | false =>
      rw [if_neg Bool.false_ne_true]
      rw [if_neg Bool.false_ne_true] at erest
      subst erest
      exact ⟨_, by omega, rfl, hlt, s2.trans s3, r3, ys, dn, rest, s3 _ _ hD nD, nD, z, by omega, hr, he⟩
    | true =>
      rw [if_pos rfl]
      rw [if_pos rfl] at erest
      subst erest
      have hil2 : i < (σ.set i none).length := by rw [List.length_set, en.len]; exact hil
      refine ⟨x, List.getElem?_set_self hil2, ys, s3 _ _ hD nD, ?_, ?_⟩
      · rw [z.length]
        have := small hlim
        omega
      · have sA : Step [] H1 (upd H3 A (.lst (ys ++ [x]))) := fun b o h n => by
          rw [upd_ne (ne_of_none h hA)]
          exact s3 _ _ (s2 _ _ h n) n
        have rA : Rel X.K cl [] [] (upd H3 A (.lst (ys ++ [x]))) := Rel.nil _
        exact ⟨_, by omega, rfl, hlt, sA, rA, ys ++ [x], dn ++ [d0], rest', upd_same, nD, z.app (.cons hx .nil), by simp; omega, hr, by simpa using he⟩
  · have ej : j = ds.length := by omega
    subst ej
    rw [List.drop_length] at hf
    cases (show some [] = some rest from hf)
    rw [List.append_nil] at he
    subst he
    exact .inl ⟨w2 _ (Nat.le_refl _), k _ _ (s1.trans s2) r2 (.lst hD nD (z.st s2))⟩
theorem sim_filt {i : Nat} {x : Str} {p1 p2 : Pos} {iter cnd : Expr} {scope : Scope} {pc : PX} (hc : X.calm = true) (hN : X.N.Nodup) (hx : X.N[i]? = some x) (ok : BlkOk X.N X.env.scope scope [(x, i)])
    (hi : SimI cl cf X (.Name x p2) iter p) (hcn : ∀ s H0 C clo fp, SimT cl cf (X.blk s H0 scope (compEnvC scope clo C X.env) fp) cnd pc)
    (hl : ∀ s H0 C clo fp, (X.blk s H0 scope (compEnvC scope clo C X.env) fp).env.scope.names.lookup x = some .local) (hd : (x == ("__debug__" : Str)) = false := by decide) (hcd : (x == ("__classdict__" : Str)) = false := by decide)
    (hs : ∀ x, foldedSetIterable iter X.env x = pure x := by intro _; rfl) :
    SimE cl cf X (.ListComp (.Name x p1) [⟨.Name x p2, iter, [cnd], 0⟩] scope pos) (.filt i p pc) := by
  intro ρ M d e L σ H Q r en k
  have hil : i < ρ.length ∨ ¬ i < ρ.length := Decidable.em _
  refine fun pins s I => ?_
  have hil : i < ρ.length := by
    rw [← en.len, I.len]
    exact (List.getElem?_eq_some_iff.mp hx).1
  refine of_pe (pe_lc (own := [(x, i)]) (g := gName i) hc hN pi_w ok (fun s H0 C clo fp => pg_name (i := i) hN hx (.inl (hl s H0 C clo fp)) (.inr (hl s H0 C clo fp)))
    (fun s H0 C clo fp => pts_one (t := fun σ H Q => ∀ s H0 C clo fp, wT (X.blk s H0 scope (compEnvC scope clo C X.env) fp) cnd σ H Q) ⟨fun pins s' σ H Q I h => h s H0 C clo fp pins s' I⟩)
    (fun s H0 C clo fp => pe_var hx (.inl (hl s H0 C clo fp)) hd hcd) hs) ?_ pins s I
  exact filt_go hi hcn e r en hil k
end
end FpS

set_option linter.all false
set_option maxRecDepth 100000
set_option maxHeartbeats 4000000
/-! Statements, blocks, defs. -/
namespace FpS
open PySem PySem.Spec PyProof.Rows L2 Fp

def Post (K : PySem.W.Frag) (cl : Nat → Addr) (L : List Addr) (H : Hp) (E : Ends) : R → Prop
  | .nx ρ' M' => ∀ (L' : List Addr) (σ' : L2.St) (H' : Hp), Grow H L L' → Step L H H' → Rel K cl L' M' H' → EnvR K L' H' σ' ρ' → E.nx σ' H'
  | .rt d M' => ∀ (L' : List Addr) (v : V) (H' : Hp), Grow H L L' → Step L H H' → Rel K cl L' M' H' → At K L' H' v d → E.rt v H'
theorem Post.shift {K : PySem.W.Frag} {cl : Nat → Addr} {L L1 : List Addr} {H H1 : Hp} {M1 : Ms} {E : Ends} {r : R} (k : Post K cl L H E r) (g : Grow H L L1) (s : Step L H H1) (r1 : Rel K cl L1 M1 H1) : Post K cl L1 H1 E r := by
  cases r with
  | nx ρ M => exact fun L' σ' H' g' s' => k L' σ' H' (g.trans2 s r1 g') (s.trans2 g s')
  | rt d M => exact fun L' v H' g' s' => k L' v H' (g.trans2 s r1 g') (s.trans2 g s')
theorem Post.st {K : PySem.W.Frag} {cl : Nat → Addr} {L : List Addr} {H H1 : Hp} {M1 : Ms} {E : Ends} {r : R} (k : Post K cl L H E r) (s : Step L H H1) (r1 : Rel K cl L M1 H1) : Post K cl L H1 E r := k.shift (Grow.refl _ _) s r1
def SimS (cl : Nat → Addr) (cf : Cf) (X : Cx) (st : Stmt) (p : PS) : Prop := ∀ ⦃ρ : Sl⦄ ⦃M : Ms⦄ ⦃r : R⦄, evalS cf p ρ M = some r → ∀ {L σ H} {E : Ends}, Rel X.K cl L M H → EnvR X.K L H σ ρ → Post X.K cl L H E r → wS X st E σ H
def SimB (cl : Nat → Addr) (cf : Cf) (X : Cx) (st : List Stmt) (p : PB) : Prop := ∀ ⦃ρ : Sl⦄ ⦃M : Ms⦄ ⦃r : R⦄, evalB cf p ρ M = some r → ∀ {L σ H} {E : Ends}, Rel X.K cl L M H → EnvR X.K L H σ ρ → Post X.K cl L H E r → wB X st E σ H
section
variable {cl : Nat → Addr} {cf : Cf} {X : Cx} {a b c : Expr} {p q r : PX} {pos : Pos}
theorem simB_nil : SimB cl cf X [] .nil := by
  intro ρ M r e L σ H E rl en k
  cases (show some _ = some r from e)
  exact of_pss pss_nil (k L σ H (Grow.refl _ _) (Step.refl _ _) rl en)
theorem simB_cons {st : Stmt} {rest : List Stmt} {s : PS} {bl : PB} (h : SimS cl cf X st s) (hr : SimB cl cf X rest bl) : SimB cl cf X (st :: rest) (.cons s bl) := by
  intro ρ M r e L σ H E rl en k
  simp only [evalB, Option.bind_eq_some_iff] at e
  obtain ⟨r1, e1, e⟩ := e
  refine of_pss (pss_cons ps_w pss_w) ?_
  refine h e1 rl en ?_
  cases r1 with
  | nx ρ1 M1 =>
    intro L1 σ1 H1 g s1 rl1 en1
    exact hr e rl1 en1 (k.shift g s1 rl1)
  | rt d M1 =>
    cases e
    exact k
/-- the last statement stands for a block -/
theorem simB_one {st : Stmt} {s : PS} (h : SimS cl cf X st s) : SimB cl cf X [st] (.cons s .nil) := simB_cons h simB_nil

/-! ### x = e -/
theorem sims_asg (i : Nat) {x : Str} {px : Pos} (hN : X.N.Nodup) (h : SimE cl cf X a p) (hi : X.N[i]? = some x := by rfl) (hx : Loc X.env.scope x := by first | exact .inl rfl | exact .inr rfl) (hs : swapsWith a (some (.Name x px)) pos.line X.env = pure false := by rfl)
    (hf : X.fn x = true ∨ X.env.scope.names.lookup x = some .local := by first | exact .inl rfl | exact .inr rfl) : SimS cl cf X (.Assign [.Name x px] a pos) (.asg i p) := by
  intro ρ M r e L σ H E rl en k
  simp only [evalS, Option.map_eq_some_iff] at e
  obtain ⟨d, e, rfl⟩ := e
  refine of_ps (ps_set hN hi hx pe_w hs hf) ?_
  refine h e rl en fun v H1 s1 r1 h1 => ?_
  exact k L _ H1 (Grow.refl _ _) s1 r1 ((en.st s1).set h1)
/-- x = [x for ..] on one line -/
theorem sims_filt (i j : Nat) {x y : Str} {px p1 p2 lpos : Pos} {iter cnd : Expr} {scope : Scope} {pc : PX} (hc : X.calm = true) (hN : X.N.Nodup) (hx : X.N[i]? = some x) (ok : BlkOk X.N X.env.scope scope [(x, i)])
    (hI : SimI cl cf X (.Name x p2) iter p) (hcn : ∀ s H0 C clo fp, SimT cl cf (X.blk s H0 scope (compEnvC scope clo C X.env) fp) cnd pc)
    (hy : X.N[j]? = some y) (hyl : X.env.scope.names.lookup y = some .local)
    (hsw : swapsWith (.ListComp (.Name x p1) [⟨.Name x p2, iter, [cnd], 0⟩] scope lpos) (some (.Name y px)) pos.line X.env = pure true)
    (hl : ∀ s H0 C clo fp, (X.blk s H0 scope (compEnvC scope clo C X.env) fp).env.scope.names.lookup x = some .local) (hd : (x == ("__debug__" : Str)) = false := by decide) (hcd : (x == ("__classdict__" : Str)) = false := by decide)
    (hs : ∀ x, foldedSetIterable iter X.env x = pure x := by intro _; rfl) :
    SimS cl cf X (.Assign [.Name y px] (.ListComp (.Name x p1) [⟨.Name x p2, iter, [cnd], 0⟩] scope lpos) pos) (.asg j (.filt i p pc)) := by
  intro ρ M r e L σ H E rl en k
  simp only [evalS, Option.map_eq_some_iff] at e
  obtain ⟨d, e, rfl⟩ := e
  refine fun pins s I => ?_
  have hil : i < ρ.length := by
    rw [← en.len, I.len]
    exact (List.getElem?_eq_some_iff.mp hx).1
  refine of_ps (ps_setLc (i := j) (own := [(x, i)]) (g := gName i) hc hN hy hyl hsw pi_w ok (fun s H0 C clo fp => pg_name (i := i) hN hx (.inl (hl s H0 C clo fp)) (.inr (hl s H0 C clo fp)))
    (fun s H0 C clo fp => pts_one (t := fun σ H Q => ∀ s H0 C clo fp, wT (X.blk s H0 scope (compEnvC scope clo C X.env) fp) cnd σ H Q) ⟨fun pins s' σ H Q I h => h s H0 C clo fp pins s' I⟩)
    (fun s H0 C clo fp => pe_var hx (.inl (hl s H0 C clo fp)) hd hcd) hs) ?_ pins s I
  exact filt_go hI hcn e rl en hil fun v H1 s1 r1 h1 => k L _ H1 (Grow.refl _ _) s1 r1 ((en.st s1).set h1)

/-! ### a new list -/
/-- an expression that makes a new list -/
def SimN (cl : Nat → Addr) (cf : Cf) (X : Cx) (e : Expr) (p : PX) : Prop := ∀ ⦃ρ : Sl⦄ ⦃M : Ms⦄ ⦃ds : List D⦄, evalX cf M p ρ = some (.lst ds) → ∀ {L σ H} {Q : VK}, Rel X.K cl L M H → EnvR X.K L H σ ρ →
  (∀ xs A H1, Step L H H1 → Rel X.K cl L M H1 → Ats X.K L H1 xs ds → H1 A = none → Q (.ref A) (upd H1 A (.lst xs))) → wE X e σ H Q
theorem simN_lst {es : List Expr} {ps : PA} (h : SimA cl cf X es ps) (hl : ps.len ≤ 1000 := by decide) : SimN cl cf X (.List es pos) (.lst ps) := by
  intro ρ M ds e L σ H Q r en k
  simp only [evalX, Option.map_eq_some_iff] at e
  obtain ⟨ds', e, e2⟩ := e
  cases e2
  refine of_pe (pe_lst pa_w) ?_
  refine h e r en fun vs H1 s1 r1 z => ⟨?_, fun t ht => k vs t H1 s1 r1 z ht⟩
  rw [z.length, evalA_len e]
  exact small (Nat.le_trans hl (by decide))
theorem simN_rep (ha : SimE cl cf X a p) (hb : SimE cl cf X b q) : SimN cl cf X (.BinOp a .Mult b pos) (.bin .mul p q) := by
  intro ρ M ds e L σ H Q r en k
  simp only [evalX, Option.bind_eq_some_iff] at e
  obtain ⟨x, ex, y, ey, e⟩ := e
  refine of_pe (pe_op r_w pe_w pe_w) ?_
  refine sim2 ha hb ex ey r en fun v u H' s1 r1 h1 h2 => ?_
  cases h1 with
  | lst h n z =>
    cases h2 with
    | int j =>
      simp only [binD] at e
      split at e
      · rename_i hl
        cases e
        obtain ⟨h0, h1, h2⟩ := hl
        refine of_r op_rep ⟨_, j, _, rfl, rfl, h, by omega, by omega, ?_, fun p hp => k _ p H' s1 r1 (rep_one z _) hp⟩
        rw [z.length, h2, sizeLine_eq]
        omega
      · cases e
    | _ => simp [binD] at e
  | int i => cases h2 <;> simp [binD] at e
  | _ => cases h2 <;> simp [binD] at e
theorem simN_cat (ha : SimE cl cf X a p) (hb : SimE cl cf X b q) : SimN cl cf X (.BinOp a .Add b pos) (.bin .add p q) := by
  intro ρ M ds e L σ H Q r en k
  simp only [evalX, Option.bind_eq_some_iff] at e
  obtain ⟨x, ex, y, ey, e⟩ := e
  refine of_pe (pe_op r_w pe_w pe_w) ?_
  refine sim2 ha hb ex ey r en fun v u H' s1 r1 h1 h2 => ?_
  cases h1 with
  | lst h n z =>
    cases h2 with
    | lst h2 n2 z2 =>
      simp only [binD] at e
      split at e
      · rename_i hl
        cases e
        refine of_r op_cat ⟨_, _, _, _, rfl, rfl, h, h2, ?_, fun p hp => k _ p H' s1 r1 (z.app z2) hp⟩
        rw [z.length, z2.length]; exact small hl
      · cases e
    | _ => simp [binD] at e
  | _ => cases h2 <;> simp [binD] at e
/-- a new list is a mutable object from now on -/
theorem grow_new {K : PySem.W.Frag} {L : List Addr} {M : Ms} {H1 : Hp} {A : Addr} {o : HO} {m : MO} (r : Rel K cl L M H1) (hA : H1 A = none) (hob : ObAt K cl (L ++ [A]) (upd H1 A o) A m) :
    Grow H1 L (L ++ [A]) ∧ Step L H1 (upd H1 A o) ∧ Rel K cl (L ++ [A]) (M ++ [m]) (upd H1 A o) := by
  have g : Grow H1 L (L ++ [A]) := ⟨[A], rfl, fun b hb => by rw [List.mem_singleton.mp hb]; exact hA⟩
  have s : Step L H1 (upd H1 A o) := Step.new hA
  refine ⟨g, s, ⟨?_, by simp [r.len], fun i a m' h1 h2 => ?_⟩⟩
  · refine List.nodup_append.mpr ⟨r.nd, by simp, fun a ha b hb => ?_⟩
    rw [List.mem_singleton.mp hb]
    intro z
    exact r.fresh hA (z ▸ ha)
  · by_cases hi : i < L.length
    · rw [List.getElem?_append_left hi] at h1
      rw [List.getElem?_append_left (by rw [← r.len]; exact hi)] at h2
      have x := r.ob i a m' h1 h2
      obtain ⟨u, e⟩ := x.there
      exact x.mono g s (upd_ne (ne_of_none e hA))
    · have hi2 : i = L.length := by
        have := (List.getElem?_eq_some_iff.mp h1).1
        simp at this
        omega
      subst hi2
      rw [List.getElem?_append_right (Nat.le_refl _)] at h1
      simp at h1
      rw [r.len, List.getElem?_append_right (Nat.le_refl _)] at h2
      simp at h2
      subst h1
      subst h2
      exact hob
theorem grow_lst {K : PySem.W.Frag} {L : List Addr} {M : Ms} {H1 : Hp} {A : Addr} {xs : List V} {ds : List D} (r : Rel K cl L M H1) (hA : H1 A = none) (z : Ats K L H1 xs ds) :
    Grow H1 L (L ++ [A]) ∧ Step L H1 (upd H1 A (.lst xs)) ∧ Rel K cl (L ++ [A]) (M ++ [.lst ds]) (upd H1 A (.lst xs)) ∧ At K (L ++ [A]) (upd H1 A (.lst xs)) (.ref A) (.ref M.length) := by
  have g : Grow H1 L (L ++ [A]) := ⟨[A], rfl, fun b hb => by rw [List.mem_singleton.mp hb]; exact hA⟩
  obtain ⟨_, s, r2⟩ := grow_new (cl := cl) (o := .lst xs) (m := .lst ds) r hA ⟨xs, upd_same, z.mono g (Step.new hA)⟩
  exact ⟨g, s, r2, .ref (by rw [← r.len]; simp)⟩
theorem sims_new (i : Nat) {x : Str} {px : Pos} (hN : X.N.Nodup) (h : SimN cl cf X a p) (hi : X.N[i]? = some x := by rfl) (hx : Loc X.env.scope x := by first | exact .inl rfl | exact .inr rfl) (hs : swapsWith a (some (.Name x px)) pos.line X.env = pure false := by rfl)
    (hf : X.fn x = true ∨ X.env.scope.names.lookup x = some .local := by first | exact .inl rfl | exact .inr rfl) : SimS cl cf X (.Assign [.Name x px] a pos) (.asgNew i p) := by
  intro ρ M r e L σ H E rl en k
  simp only [evalS, Option.bind_eq_some_iff] at e
  obtain ⟨d, e, e2⟩ := e
  cases d with
  | lst ds =>
    cases e2
    refine of_ps (ps_set hN hi hx pe_w hs hf) ?_
    refine h e rl en fun xs A H1 s1 r1 z hA => ?_
    obtain ⟨g, s2, r2, h2⟩ := grow_lst r1 hA z
    exact k _ _ _ ((Grow.refl H L).trans2 s1 r1 g) (s1.trans s2) r2 ((((en.st s1).mono g s2)).set h2)
  | _ => cases e2

/-! ### a, b = e -/
def gns : List Nat → TGs
  | [] => gNil
  | i :: is => gCons (gName i) (gns is)
theorem unp_go {K : PySem.W.Frag} {L : List Addr} {H : Hp} {Q : L2.St → Hp → Prop} : ∀ {is : List Nat} {ds : List D} {vs : List V} {σ : L2.St} {ρ ρ' : Sl}, unpackD is ds ρ = some ρ' → Ats K L H vs ds → EnvR K L H σ ρ → (∀ σ', EnvR K L H σ' ρ' → Q σ' H) → gns is vs σ H Q
  | [], [], _, σ, ρ, ρ', e, .nil, en, k => by
    cases (show some _ = some ρ' from e)
    exact ⟨rfl, k σ en⟩
  | i :: is, d :: ds, _, σ, ρ, ρ', e, .cons h t, en, k => ⟨_, _, rfl, unp_go (is := is) e t (en.set h) k⟩
  | [], _ :: _, _, _, _, _, e, _, _, _ => by simp [unpackD] at e
  | _ :: _, [], _, _, _, _, e, _, _, _ => by simp [unpackD] at e
theorem unp_len : ∀ {is : List Nat} {ds : List D} {ρ ρ' : Sl}, unpackD is ds ρ = some ρ' → is.length = ds.length
  | [], [], _, _, _ => rfl
  | i :: is, d :: ds, ρ, ρ', e => by rw [List.length_cons, List.length_cons, unp_len (is := is) (ds := ds) e]
  | [], _ :: _, _, _, e => by simp [unpackD] at e
  | _ :: _, [], _, _, e => by simp [unpackD] at e
theorem sims_unpack {ts : List Expr} {tk : Nat} {tpos : Pos} (is : List Nat) (h : SimE cl cf X a p) (hg : PG X (.Tuple ts tk tpos) (gTup X.K is.length (gns is))) (hs : swapsWithSole [.Tuple ts tk tpos] a pos.line X.env = pure false := by rfl)
    (hw : swappedStores [.Tuple ts tk tpos] a X.env = pure none := by rfl) (h1 : (assignEach [.Tuple ts tk tpos] X.env).map (·.2) = [assign (.Tuple ts tk tpos) X.env] := by rfl) :
    SimS cl cf X (.Assign [.Tuple ts tk tpos] a pos) (.unpack is p) := by
  intro ρ M r e L σ H E rl en k
  simp only [evalS, Option.bind_eq_some_iff] at e
  obtain ⟨d, e, e2⟩ := e
  cases d with
  | tup ds =>
    simp only [Option.map_eq_some_iff] at e2
    obtain ⟨ρ', e2, rfl⟩ := e2
    refine of_ps (ps_asg pe_w hg hs hw h1) ?_
    refine h e rl en fun v H1 s1 r1 hv => ?_
    cases hv with
    | tup hh z => exact ⟨_, _, rfl, sqT hh, by rw [z.length, unp_len e2], unp_go e2 z (en.st s1) fun σ' en' => k _ _ _ (Grow.refl _ _) s1 r1 en'⟩
  | _ => cases e2

/-! ### attributes, items -/
/-- the l-th mutable object is another one from now on -/
theorem set_ob {K : PySem.W.Frag} {L : List Addr} {M : Ms} {H : Hp} {ad l : Nat} {o : HO} {m : MO} (r : Rel K cl L M H) (hl : L[l]? = some ad) (hlm : l < M.length) (hob : ObAt K cl L (upd H ad o) ad m) : Step L H (upd H ad o) ∧ Rel K cl L (M.set l m) (upd H ad o) := by
  have hm : ad ∈ L := List.mem_of_getElem? hl
  have s : Step L H (upd H ad o) := fun b u h n => by
    rw [upd_ne (fun z : b = ad => n (by rw [z]; exact hm))]
    exact h
  refine ⟨s, r.nd, by rw [List.length_set]; exact r.len, fun i a m' h1 h2 => ?_⟩
  by_cases c : i = l
  · subst c
    rw [hl] at h1
    cases h1
    rw [List.getElem?_set_self hlm] at h2
    cases h2
    exact hob
  · rw [List.getElem?_set_ne (fun z => c z.symm)] at h2
    refine (r.ob i a m' h1 h2).mono (Grow.refl _ _) s (upd_ne fun z => ?_)
    subst z
    exact c (nd_ix r.nd h1 hl)
theorem sims_setA {n : Tx} {f : Str} {ap : Pos} (ho : SimE cl cf X b q) (hv : SimE cl cf X a p) (hf : f = toS n) (hc : ∀ c, Cls X.K (cl c) ∧ NoAttr X.K (cl c) f) (hs : swapsWith a (some (.Attribute b f ap)) pos.line X.env = pure false := by rfl) :
    SimS cl cf X (.Assign [.Attribute b f ap] a pos) (.setA q n p) := by
  intro ρ M r e L σ H E rl en k
  simp only [evalS, Option.bind_eq_some_iff] at e
  obtain ⟨d, ed, x, ex, e⟩ := e
  refine of_ps (ps_fld pe_w pe_w hs) ?_
  refine hv ed rl en fun v H1 s1 r1 h1 => ?_
  refine ho ex r1 (en.st s1) fun w H2 s2 r2 h2 => ?_
  cases h2 with
  | @ref ad l hl =>
    simp only at e
    split at e
    · rename_i c fs hm
      split at e
      case isFalse => cases e
      rename_i hlen
      cases e
      obtain ⟨dx, vs, h3, z⟩ := r2.ob l ad _ hl hm
      refine ⟨ad, cl c, dx, vs, rfl, h3, (hc c).1, (hc c).2, by rw [z.length]; omega, ?_⟩
      have hs0 : Step L H2 (upd H2 ad (.ins (cl c) dx (putF f v vs))) := fun b u hb nb => by
        rw [upd_ne (fun z : b = ad => nb (by rw [z]; exact List.mem_of_getElem? hl))]
        exact hb
      obtain ⟨s3, r3⟩ := set_ob (o := .ins (cl c) dx (putF f v vs)) (m := .ins c (putA n d fs)) r2 hl (List.getElem?_eq_some_iff.mp hm).1 ⟨dx, _, upd_same, by rw [hf] at hs0 ⊢; exact Fs.put (n := n) ((h1.st s2).st hs0) (z.mono (Grow.refl _ _) hs0)⟩
      exact k _ _ _ (Grow.refl _ _) ((s1.trans s2).trans s3) r3 (((en.st s1).st s2).st s3)
    · cases e
  | _ => cases e
/-- o.n = a new list, o a name -/
theorem sims_setNew (i : Nat) {n : Tx} {f x : Str} {ap px : Pos} (hv : SimN cl cf X a p) (hf : f = toS n) (hc : ∀ c, Cls X.K (cl c) ∧ NoAttr X.K (cl c) f) (hN : X.N[i]? = some x := by rfl) (hvis : Vis X.env.scope x := by first | exact Or.inl rfl | exact Or.inr (Or.inl rfl) | exact Or.inr (Or.inr rfl))
    (hd : (x == ("__debug__" : Str)) = false := by decide) (hcd : (x == ("__classdict__" : Str)) = false := by decide) (hs : swapsWith a (some (.Attribute (.Name x px) f ap)) pos.line X.env = pure false := by rfl) :
    SimS cl cf X (.Assign [.Attribute (.Name x px) f ap] a pos) (.setNew i n p) := by
  intro ρ M r e L σ H E rl en k
  simp only [evalS, Option.bind_eq_some_iff] at e
  obtain ⟨d, ed, e⟩ := e
  split at e
  · rename_i ds l hx
    split at e
    · rename_i c fs hm
      split at e
      case isFalse => cases e
      rename_i hlen
      cases e
      refine of_ps (ps_fld (pe_var hN hvis hd hcd) pe_w hs) ?_
      refine hv ed rl en fun xs A H1 s1 r1 z hA => ?_
      obtain ⟨g, s2, r2, h2⟩ := grow_lst r1 hA z
      obtain ⟨w, hw, hat⟩ := en.at_ i _ hx
      have hat2 := ((hat.st s1).mono g s2)
      refine ⟨w, hw, ?_⟩
      cases hat2 with
      | @ref ad _ hl =>
        have hlm : l < M.length := (List.getElem?_eq_some_iff.mp hm).1
        have hm2 : (M ++ [MO.lst ds])[l]? = some (.ins c fs) := by rw [List.getElem?_append_left hlm]; exact hm
        obtain ⟨dx, vs, h3, zf⟩ := r2.ob l ad _ hl hm2
        refine ⟨ad, cl c, dx, vs, rfl, h3, (hc c).1, (hc c).2, by rw [zf.length]; omega, ?_⟩
        have hs0 : Step (L ++ [A]) (upd H1 A (.lst xs)) (upd (upd H1 A (.lst xs)) ad (.ins (cl c) dx (putF f (.ref A) vs))) := fun b u hb nb => by
          rw [upd_ne (fun z : b = ad => nb (by rw [z]; exact List.mem_of_getElem? hl))]
          exact hb
        obtain ⟨s3, r3⟩ := set_ob (o := .ins (cl c) dx (putF f (.ref A) vs)) (m := .ins c (putA n (.ref M.length) fs)) r2 hl (by rw [List.length_append]; omega) ⟨dx, _, upd_same, by rw [hf] at hs0 ⊢; exact Fs.put (n := n) (h2.st hs0) (zf.mono (Grow.refl _ _) hs0)⟩
        have em : (M ++ [MO.lst ds]).set l (.ins c (putA n (.ref M.length) fs)) = M.set l (.ins c (putA n (.ref M.length) fs)) ++ [MO.lst ds] := by
          rw [List.set_append_left _ _ hlm]
        rw [em] at r3
        have gg := (Grow.refl H L).trans2 s1 r1 g
        exact k _ _ _ gg (Step.trans2 gg (s1.trans s2) s3) r3 (((en.st s1).mono g s2).st s3)
    · cases e
  · cases e
/-- o[i] = e -/
theorem sims_setI {sp : Pos} (ho : SimE cl cf X a p) (hi : SimE cl cf X b q) (hv : SimE cl cf X c r) (ha : ∀ v, assign (.Subscript a b sp) X.env v = (do
      let ov ← holding [v] (eval a X.env)
      let iv ← holding [v, ov] (eval b X.env)
      standAt sp
      holding [v, ov, iv] (setItem ov iv v)
      release [v, ov, iv] []) := by intro _; rfl)
    (hs : swapsWithSole [.Subscript a b sp] c pos.line X.env = pure false := by rfl) (hw : swappedStores [.Subscript a b sp] c X.env = pure none := by rfl)
    (h1 : (assignEach [.Subscript a b sp] X.env).map (·.2) = [assign (.Subscript a b sp) X.env] := by rfl) : SimS cl cf X (.Assign [.Subscript a b sp] c pos) (.setI p q r) := by
  intro ρ M r e L σ H E rl en k
  simp only [evalS, Option.bind_eq_some_iff] at e
  obtain ⟨d, ed, x, ex, y, ey, e⟩ := e
  refine of_ps (ps_asg pe_w (pg_sub pe_w pe_w set_list ha) hs hw h1) ?_
  refine hv ed rl en fun v H1 s1 r1 h1 => ?_
  refine ho ex r1 (en.st s1) fun w H2 s2 r2 h2 => ?_
  refine hi ey r2 ((en.st s1).st s2) fun u H3 s3 r3 h3 => ?_
  have h2 := h2.st s3
  cases h2 with
  | @ref ad l hl =>
    cases h3 with
    | int kk =>
      simp only at e
      split at e
      · rename_i ds hm
        simp only [Option.map_eq_some_iff] at e
        obtain ⟨j, e, rfl⟩ := e
        obtain ⟨xs, h4, z⟩ := r3.ob l ad _ hl hm
        refine ⟨ad, xs, kk, j, rfl, rfl, h4, by rw [z.length]; exact e, ?_⟩
        have hs0 : Step L H3 (upd H3 ad (.lst (xs.set j v))) := fun b u hb nb => by
          rw [upd_ne (fun z : b = ad => nb (by rw [z]; exact List.mem_of_getElem? hl))]
          exact hb
        obtain ⟨s4, r4⟩ := set_ob (o := .lst (xs.set j v)) (m := .lst (ds.set j d)) r3 hl (List.getElem?_eq_some_iff.mp hm).1 ⟨_, upd_same, (z.st hs0).set (((h1.st s2).st s3).st hs0) j⟩
        exact k _ _ _ (Grow.refl _ _) (((s1.trans s2).trans s3).trans s4) r4 ((((en.st s1).st s2).st s3).st s4)
      · cases e
    | _ => cases e
  | _ => cases e
/-- o.append(e) -/
theorem sims_app {apos cpos : Pos} (ho : SimE cl cf X a p) (hv : SimE cl cf X b q) (hbase : attributeBase a "append" X.env (eval a X.env) = eval a X.env := by rfl)
    (hfew : ((backTo cpos (starEach [b] X.env)).all (fun x => !x.1) && (backToKw cpos (keywordEach [] X.env)).all (fun x => x.1.isSome)
      && decide (([b] : List Expr).length + ([] : List Keyword).length + (if ([] : List Keyword).isEmpty then 0 else 1) < 30)) = true := by rfl)
    (hline : (apos.endLine == cpos.line) = true := by rfl) (hs : starEach [b] X.env = (false, eval b X.env) :: starEach [] X.env := by rfl) (hplain : (backTo cpos (starEach [] X.env)).any (·.1) = false := by rfl)
    (hsw : swapsWith (.Call (.Attribute a "append" apos) [b] [] cpos) none pos.line X.env = pure false := by rfl) :
    SimS cl cf X (.Expr (.Call (.Attribute a "append" apos) [b] [] cpos) pos) (.app p q) := by
  intro ρ M r e L σ H E rl en k
  simp only [evalS, Option.bind_eq_some_iff] at e
  obtain ⟨x, ex, d, ed, e⟩ := e
  refine of_ps (ps_expr (pe_bm PySem.F.plainAttrs_list PySem.F.slot_list_append PySem.F.type_list_append mt_append pe_w (pa_cons pe_w pa_nil hs) hbase hfew hline hs hplain) hsw) ?_
  refine ho ex rl en fun w H1 s1 r1 h1 => ?_
  cases h1 with
  | @ref ad l hl =>
    simp only at e
    split at e
    · rename_i ds hm
      split at e
      case isFalse => cases e
      rename_i hlen
      cases e
      obtain ⟨xs, h4, z⟩ := r1.ob l ad _ hl hm
      refine ⟨.inl ⟨rfl, xs, .inl (.inl h4)⟩, hv ed r1 (en.st s1) fun v H2 s2 r2 h2 => ?_⟩
      obtain ⟨xs2, h5, z2⟩ := r2.ob l ad _ hl hm
      refine ⟨ad, xs2, v, rfl, rfl, h5, ?_, ?_⟩
      · rw [z2.length, sizeLine_eq]
        have : lim = 100000 := rfl
        omega
      · have hs0 : Step L H2 (upd H2 ad (.lst (xs2 ++ [v]))) := fun b u hb nb => by
          rw [upd_ne (fun z : b = ad => nb (by rw [z]; exact List.mem_of_getElem? hl))]
          exact hb
        obtain ⟨s4, r4⟩ := set_ob (o := .lst (xs2 ++ [v])) (m := .lst (ds ++ [d])) r2 hl (List.getElem?_eq_some_iff.mp hm).1 ⟨_, upd_same, (z2.st hs0).app (.cons (h2.st hs0) .nil)⟩
        exact k _ _ _ (Grow.refl _ _) ((s1.trans s2).trans s4) r4 (((en.st s1).st s2).st s4)
    · cases e
  | _ => cases e

/-! ### calls that change things -/
theorem sims_eff {kk cc j : Nat} {f : Addr} {fd : FuncData} {ps : List Str} {m : Str} {apos cpos : Pos} {es : List Expr} {as : PA} {pl : Sem Bool} {mt : Tx} (C : Cal X cl cf kk j f fd ps) (hr : Room kk X.A) (hcl : Cls X.K (cl cc)) (hme : Meth X.K (cl cc) m f) (hmt : m = toS mt)
    (ha : SimE cl cf X a p) (h : SimA cl cf X (b :: es) as) (hl : as.len + 1 = ps.length := by rfl)
    (hst : starEach (b :: es) X.env = (false, eval b X.env) :: starEach es X.env := by rfl) (hpl : (backTo cpos (starEach es X.env)).any (·.1) = false := by rfl)
    (ht : eval (.Call (.Attribute a m apos) (b :: es) [] cpos) X.env = (do
      let ov ← eval a X.env
      standAt apos.atName
      let (f, first) ← holding [ov] (getMethod ov m pl)
      callWith cpos f first (backTo cpos (starEach (b :: es) X.env)) (backToKw cpos (keywordEach [] X.env))) := by rfl)
    (hsw : swapsWith (.Call (.Attribute a m apos) (b :: es) [] cpos) none pos.line X.env = pure false := by rfl) :
    SimS cl cf X (.Expr (.Call (.Attribute a m apos) (b :: es) [] cpos) pos) (.eff cc mt j p as) := by
  intro ρ M r e L σ H E rl en k
  simp only [evalS, Option.bind_eq_some_iff] at e
  obtain ⟨x, ex, e⟩ := e
  split at e
  case isFalse => cases e
  rename_i hrc
  simp only [Option.bind_eq_some_iff, Option.map_eq_some_iff] at e
  obtain ⟨ds, eds, ⟨d, M'⟩, e, rfl⟩ := e
  refine of_ps (ps_expr (pe_meth pe_w hcl hme C.ok hr C.bi .nil pass0 pa_w hst hpl ht) hsw) ?_
  refine ha ex rl en fun v H1 s1 r1 h1 => ?_
  obtain ⟨ad, dx, fs, rfl, h2, h3⟩ := recv_of r1 h1 hrc
  refine ⟨ad, dx, fs, rfl, h2, by rw [hmt]; exact h3, ?_⟩
  refine h eds r1 (en.st s1) fun vs H2 s2 r2 z => ?_
  rw [List.append_nil]
  refine ⟨?_, L, M, x :: ds, d, M', r2, .cons (h1.st s2) z, e, fun L' w H3 g s3 r3 _ => ?_⟩
  · rw [List.length_cons, z.length, evalA_len eds]
    exact hl
  · have gg := (Grow.refl H L).trans2 (s1.trans s2) r2 g
    exact k _ _ _ gg (Step.trans2 (Grow.refl _ _) (s1.trans s2) s3) r3 (((en.st s1).st s2).mono g s3)
/-- if not o.m(..): .. -/
theorem sims_ifNot {kk cc j : Nat} {f : Addr} {fd : FuncData} {ps : List Str} {m : Str} {apos cpos npos : Pos} {es : List Expr} {as : PA} {pl : Sem Bool} {mt : Tx} {bd : List Stmt} {bl : PB} (C : Cal X cl cf kk j f fd ps) (hr : Room kk X.A) (hcl : Cls X.K (cl cc)) (hme : Meth X.K (cl cc) m f) (hmt : m = toS mt)
    (ha : SimE cl cf X a p) (h : SimA cl cf X (b :: es) as) (hb : SimB cl cf X bd bl) (hl : as.len + 1 = ps.length := by rfl)
    (hst : starEach (b :: es) X.env = (false, eval b X.env) :: starEach es X.env := by rfl) (hpl : (backTo cpos (starEach es X.env)).any (·.1) = false := by rfl)
    (ht : eval (.Call (.Attribute a m apos) (b :: es) [] cpos) X.env = (do
      let ov ← eval a X.env
      standAt apos.atName
      let (f, first) ← holding [ov] (getMethod ov m pl)
      callWith cpos f first (backTo cpos (starEach (b :: es) X.env)) (backToKw cpos (keywordEach [] X.env))) := by rfl)
    (he : ∀ whole, isTrue (.Call (.Attribute a m apos) (b :: es) [] cpos) X.env whole = (do let v ← whole; standAt (Expr.Call (.Attribute a m apos) (b :: es) [] cpos).pos; holding [v] (truthy v)) := by intro _; rfl) :
    SimS cl cf X (.If (.UnaryOp .Not (.Call (.Attribute a m apos) (b :: es) [] cpos) npos) bd [] pos) (.ifNot cc mt j p as bl) := by
  intro ρ M r e L σ H E rl en k
  simp only [evalS, Option.bind_eq_some_iff] at e
  obtain ⟨x, ex, e⟩ := e
  split at e
  case isFalse => cases e
  rename_i hrc
  simp only [Option.bind_eq_some_iff] at e
  obtain ⟨ds, eds, ⟨d, M'⟩, e1, kb, ek, e⟩ := e
  refine of_ps (ps_if (pt_not (pt_val (pe_meth pe_w hcl hme C.ok hr C.bi .nil pass0 pa_w hst hpl ht) he)) pss_w pss_nil) ?_
  refine ha ex rl en fun v H1 s1 r1 h1 => ?_
  obtain ⟨ad, dx, fs, rfl, h2, h3⟩ := recv_of r1 h1 hrc
  refine ⟨ad, dx, fs, rfl, h2, by rw [hmt]; exact h3, ?_⟩
  refine h eds r1 (en.st s1) fun vs H2 s2 r2 z => ?_
  rw [List.append_nil]
  refine ⟨?_, L, M, x :: ds, d, M', r2, .cons (h1.st s2) z, e1, fun L' w H3 g s3 r3 hw => ?_⟩
  · rw [List.length_cons, z.length, evalA_len eds]
    exact hl
  · have ed : d = .bl kb := asB_bl ek
    subst ed
    cases hw
    have gg := (Grow.refl H L).trans2 (s1.trans s2) r2 g
    have ss := Step.trans2 (Grow.refl _ _) (s1.trans s2) s3
    have ee := ((en.st s1).st s2).mono g s3
    refine ⟨kb, rfl, ?_⟩
    cases kb with
    | true =>
      simp only [if_true] at e
      cases e
      exact k _ _ _ gg ss r3 ee
    | false =>
      simp only [Bool.false_eq_true, if_false] at e
      exact hb e r3 ee (k.shift gg ss r3)

/-! ### if, return -/
theorem sims_if {bd el : List Stmt} {b1 b2 : PB} (h : SimT cl cf X a p) (h1 : SimB cl cf X bd b1) (h2 : SimB cl cf X el b2) : SimS cl cf X (.If a bd el pos) (.ite p b1 b2) := by
  intro ρ M r e L σ H E rl en k
  simp only [evalS, Option.bind_eq_some_iff] at e
  obtain ⟨x, ex, kb, ek, e⟩ := e
  refine of_ps (ps_if pt_w pss_w pss_w) ?_
  refine h ex ek rl en fun H1 s1 r1 => ?_
  cases kb with
  | true =>
    simp only [if_true] at e ⊢
    exact h1 e r1 (en.st s1) (k.st s1 r1)
  | false =>
    simp only [Bool.false_eq_true, if_false] at e ⊢
    exact h2 e r1 (en.st s1) (k.st s1 r1)
theorem sims_ret (h : SimE cl cf X a p) : SimS cl cf X (.Return (some a) pos) (.ret p) := by
  intro ρ M r e L σ H E rl en k
  simp only [evalS, Option.map_eq_some_iff] at e
  obtain ⟨d, e, rfl⟩ := e
  refine of_ps (ps_ret pe_w) ?_
  exact h e rl en fun v H1 s1 r1 h1 => k _ _ _ (Grow.refl _ _) s1 r1 h1

/-! ### loops -/
theorem sims_for (i : Nat) {x : Str} {px : Pos} {iter : Expr} {bd : List Stmt} {bl : PB} (hp : PassesOwn (model X.prog X.w) X.A X.env X.xe) (hc : X.calm = true) (hN : X.N.Nodup) (hI : SimI cl cf X (.Name x px) iter p) (hb : SimB cl cf X bd bl)
    (hi : X.N[i]? = some x := by rfl) (hx : Loc X.env.scope x := by first | exact .inl rfl | exact .inr rfl) (hf : X.fn x = true ∨ X.env.scope.names.lookup x = some .local := by first | exact .inl rfl | exact .inr rfl)
    (hs : ∀ x, foldedSetIterable iter X.env x = pure x := by intro _; rfl) : SimS cl cf X (.For (.Name x px) iter bd [] pos) (.forIn i p bl) := by
  intro ρ M r e L σ H E rl en k
  simp only [evalS, Option.bind_eq_some_iff] at e
  obtain ⟨dx, ex, ds, ew, e⟩ := e
  refine of_ps (ps_for hp hc pi_w (pg_name hN hi hx hf) pss_w hs) ?_
  refine hI ex ew rl en fun J H1 s1 r1 wk => ?_
  refine ⟨fun j m σ' H' => m = ds.length - j ∧ j ≤ ds.length ∧ ∃ ρ' M' L', Grow H1 L L' ∧ Step L H1 H' ∧ Rel X.K cl L' M' H' ∧ EnvR X.K L' H' σ' ρ' ∧ loop (fun ρ M => evalB cf bl ρ M) i (ds.drop j) ρ' M' = some r,
    ⟨ds.length, by simp, Nat.zero_le _, ρ, M, L, Grow.refl _ _, Step.refl _ _, r1, en.st s1, e⟩, ?_⟩
  rintro j m σ' H' ⟨rfl, hj, ρ', M', L', g, s2, r2, en2, el⟩
  obtain ⟨w1, w2⟩ := wk L' H' g s2
  by_cases hlt : j < ds.length
  · obtain ⟨g1, g2⟩ := w1 j hlt
    refine .inr ⟨g1, fun σ'' H'' => ∃ m', m' < ds.length - j ∧ (m' = ds.length - (j + 1) ∧ j + 1 ≤ ds.length ∧ ∃ ρ' M' L', Grow H1 L L' ∧ Step L H1 H'' ∧ Rel X.K cl L' M' H'' ∧ EnvR X.K L' H'' σ'' ρ' ∧ loop (fun ρ M => evalB cf bl ρ M) i (ds.drop (j + 1)) ρ' M' = some r), fun σ'' H'' q => q, fun v H'' y => ?_⟩
    obtain ⟨rfl, d0, hd0, hv⟩ := g2 v H'' y
    have hdrop : ds.drop j = d0 :: ds.drop (j + 1) := by
      obtain ⟨hl, e⟩ := List.getElem?_eq_some_iff.mp hd0
      rw [← e]
      exact List.drop_eq_getElem_cons hl
    rw [hdrop] at el
    simp only [loop, Option.bind_eq_some_iff] at el
    obtain ⟨r1', eb, el⟩ := el
    have hv2 := hv.mono g s2
    refine hb eb r2 (en2.set hv2) ?_
    cases r1' with
    | nx ρ3 M3 =>
      intro L3 σ3 H3 g3 s3 r3 en3
      exact ⟨_, by omega, rfl, hlt, ρ3, M3, L3, g.trans2 s2 r2 g3, Step.trans2 g s2 s3, r3, en3, el⟩
    | rt d M3 =>
      cases el
      intro L3 v3 H3 g3 s3 r3 h3
      exact k _ _ _ ((Grow.refl _ _).trans2 s1 r1 (g.trans2 s2 r2 g3)) (s1.trans (Step.trans2 g s2 s3)) r3 h3
  · have ej : j = ds.length := by omega
    subst ej
    rw [List.drop_length] at el
    cases (show some _ = some r from el)
    exact .inl ⟨w2 _ (Nat.le_refl _), k _ _ _ ((Grow.refl _ _).trans2 s1 r1 g) (s1.trans s2) r2 en2⟩
end
end FpS

set_option linter.all false
set_option maxRecDepth 100000
set_option maxHeartbeats 4000000
/-! Defs: the step of the induction over the depth of calls; new instances; zip. -/
namespace FpS
open PySem PySem.Spec PyProof.Rows L2 Fp
section
variable {P : Program} {w : World} {K : PySem.W.Frag} {mg : Str → Option Value} {base : Heap} {cl : Nat → Addr}
theorem fn_ok {x qual : Str} {st : Stmt} {f : Addr} {fd : FuncData} {N ps : List Str} {n j : Nat} {prog : Pg} {df : Df} (F : Fun K x qual st f fd) (S : FnScope N ps (defScope st)) (hP : prog[j]? = some df) (hnp : df.np = ps.length) (hns : df.ns = N.length)
    (h : ∀ (cdv : Value) (A : Around) (outer : List Env) (s : Shared) (H : Hp) (E : XK), Room (2 * n + 1) (A.deeper (envOfC qual (defScope st) s.heap.objs.size f cdv)) →
      SimB cl (callF prog n) (cxOf CX0 P w K mg base N qual (defScope st) f cdv A outer s H E).nox (defBody st) df.body) :
    FnOk P w K mg base CX0 (2 * (n + 1)) f fd ps (spF K cl ps.length (callF prog (n + 1) j)) := by
  refine F.ok (k := 2 * n + 1) S (fun vs H Q E hh => hh.1) (fun cdv A outer s H vs Q E hr hsp => ?_)
  obtain ⟨hl, L, M, ds, d, M', rl, z, e, kk⟩ := hsp
  refine ⟨_, pss_w, ?_⟩
  simp only [callF, hP, Option.bind_some, runD] at e
  split at e
  case isFalse => cases e
  rename_i hds
  rw [Option.map_eq_some_iff] at e
  obtain ⟨r, e, er⟩ := e
  have en : EnvR K L H (L2.start N vs) (ds.map some ++ List.replicate (df.ns - df.np) none) := by
    have : L2.start N vs = vs.map some ++ List.replicate (df.ns - df.np) none := by
      unfold L2.start
      rw [hns, hnp, hl]
    rw [this]
    exact EnvR.start z
  refine h cdv A outer s H E hr e rl en ?_
  cases r with
  | nx ρ' M2 =>
    cases er
    intro L' σ' H' g s1 r1 _
    exact kk L' .non H' g s1 r1 .non
  | rt d' M2 =>
    cases er
    exact kk
theorem fn_none {f : Addr} {fd : FuncData} {ps : List Str} {m j : Nat} {prog : Pg} : FnOk P w K mg base CX0 m f fd ps (spF K cl ps.length (callF prog 0 j)) := by
  have no : ∀ vs H Q E, ¬ spF K cl ps.length (callF prog 0 j) vs H Q E := fun vs H Q E h => by
    obtain ⟨_, L, M, ds, d, M', _, _, e, _⟩ := h
    simp [callF] at e
  exact ⟨fun vs H Q E h => absurd h (no vs H Q E), fun A outer s H args us vs Q E _ _ _ _ h => absurd h (no vs H Q E)⟩
theorem at_str {L : List Addr} {H : Hp} {x : Str} (s : Tx) (hx : x = toS s) (ok : s.all (fun c => decide (c < 1114112)) = true := by decide) : At K L H (.str x) (.str s) := by
  subst hx
  exact .str s fun c hc => of_decide_eq_true (List.all_eq_true.mp ok c hc)
end
end FpS

set_option linter.all false
set_option maxRecDepth 100000
set_option maxHeartbeats 4000000
/-! New instances; zip; a choice by a display. -/
namespace FpS
open PySem PySem.Spec PyProof.Rows L2 Fp
section
variable {cl : Nat → Addr} {cf : Cf} {X : Cx} {a b c : Expr} {p q r : PX} {pos : Pos}

/-! ### x = C(..) -/
theorem make_go {kk cc j : Nat} {f : Addr} {fd : FuncData} {ps : List Str} {i : Nat} (C : Cal X cl cf kk j f fd ps) {as ds : List D} {M M' : Ms} {ρ : Sl} {L : List Addr} {σ : L2.St} {H H1 : Hp} {E : Ends} {Ex : XK} {vs : List V}
    (rl : Rel X.K cl L M H) (en : EnvR X.K L H σ ρ) (hl : ds.length + 1 = ps.length) (e1 : cf j (.ref M.length :: ds) (M ++ [.ins cc []]) = some (.non, M'))
    (k : Post X.K cl L H E (.nx (ρ.set i (some (.ref M.length))) M')) (s1 : Step L H H1) (r1 : Rel X.K cl L M H1) (z : Ats X.K L H1 vs ds) {x dx : Addr} (hx : H1 x = none) (hdx : H1 dx = none) (hne : dx ≠ x) :
    spF X.K cl ps.length (cf j) (.ref x :: (vs ++ [])) (upd (upd H1 dx (.own x)) x (.ins (cl cc) dx [])) (fun v H2 => v = .non ∧ E.nx (σ.set i (some (.ref x))) H2) Ex := by
  rw [List.append_nil]
  have sd : Step L H1 (upd H1 dx (.own x)) := Step.new hdx
  have rd : Rel X.K cl L M (upd H1 dx (.own x)) := r1.new hdx
  have hx2 : (upd H1 dx (.own x)) x = none := by rw [upd_ne (fun q : x = dx => hne q.symm)]; exact hx
  obtain ⟨g2, s2, r2⟩ := grow_new (cl := cl) (o := .ins (cl cc) dx []) (m := .ins cc []) rd hx2 ⟨dx, [], upd_same, .nil⟩
  have g1 : Grow H1 L (L ++ [x]) := ⟨[x], rfl, fun b hb => by rw [List.mem_singleton.mp hb]; exact hx⟩
  have s12 : Step L H1 (upd (upd H1 dx (.own x)) x (.ins (cl cc) dx [])) := sd.trans s2
  have hxr : At X.K (L ++ [x]) (upd (upd H1 dx (.own x)) x (.ins (cl cc) dx [])) (.ref x) (.ref M.length) := .ref (by rw [← rl.len]; simp)
  refine ⟨by rw [List.length_cons, z.length]; exact hl, L ++ [x], M ++ [.ins cc []], .ref M.length :: ds, .non, M', r2, .cons hxr (z.mono g1 s12), e1, fun L' v H3 g3 s3 r3 hv => ?_⟩
  cases hv
  refine ⟨rfl, ?_⟩
  have gg := ((Grow.refl H L).trans2 s1 r1 g1).trans2 (s1.trans s12) r2 g3
  exact k L' _ H3 gg (Step.trans2 ((Grow.refl H L).trans2 s1 r1 g1) (s1.trans s12) s3) r3 ((((en.st s1).mono g1 s12).mono g3 s3).set (hxr.mono g3 s3))
theorem sims_make {kk cc j : Nat} {f : Addr} {fd : FuncData} {ps : List Str} (i : Nat) {x y : Str} {px pf cpos : Pos} {es : List Expr} {as : PA} (C : Cal X cl cf kk j f fd ps) (hM : Mk X.K (cl cc) f) (hr : Room (kk + 1) X.A) (hg : Gl X y) (hm : X.mg y = some (.ref (cl cc))) (hN : X.N.Nodup)
    (h : SimA cl cf X (b :: es) as) (hl : as.len + 1 = ps.length := by rfl)
    (hi : X.N[i]? = some x := by rfl) (hx : Loc X.env.scope x := by first | exact .inl rfl | exact .inr rfl) (hs : swapsWith (.Call (.Name y pf) (b :: es) [] cpos) (some (.Name x px)) pos.line X.env = pure false := by rfl)
    (hf : X.fn x = true ∨ X.env.scope.names.lookup x = some .local := by first | exact .inl rfl | exact .inr rfl)
    (hdb : (y == ("__debug__" : Str)) = false := by decide) (he : starEach (b :: es) X.env = (false, eval b X.env) :: starEach es X.env := by rfl) (hpl : (backTo cpos (starEach es X.env)).any (·.1) = false := by rfl) :
    SimS cl cf X (.Assign [.Name x px] (.Call (.Name y pf) (b :: es) [] cpos) pos) (.make i cc j as) := by
  intro ρ M r e L σ H E rl en k
  simp only [evalS, Option.bind_eq_some_iff] at e
  obtain ⟨ds, eds, ⟨d, M'⟩, e1, e⟩ := e
  cases d with
  | non =>
    cases e
    refine of_ps (ps_set hN hi hx (pe_make hM C.ok hr hg hm C.bi .nil pass0 pa_w hdb he hpl) hs hf) ?_
    refine h eds rl en fun vs H1 s1 r1 z x dx hx hdx hne => ?_
    exact make_go C (as := ds) rl en (by rw [evalA_len eds]; exact hl) e1 k s1 r1 z hx hdx hne
  | _ => cases e
theorem sims_make0 {kk cc j : Nat} {f : Addr} {fd : FuncData} {ps : List Str} (i : Nat) {x y : Str} {px pf cpos : Pos} (C : Cal X cl cf kk j f fd ps) (hM : Mk X.K (cl cc) f) (hr : Room (kk + 1) X.A) (hg : Gl X y) (hm : X.mg y = some (.ref (cl cc))) (hN : X.N.Nodup)
    (hl : 1 = ps.length := by rfl)
    (hi : X.N[i]? = some x := by rfl) (hx : Loc X.env.scope x := by first | exact .inl rfl | exact .inr rfl) (hs : swapsWith (.Call (.Name y pf) [] [] cpos) (some (.Name x px)) pos.line X.env = pure false := by rfl)
    (hf : X.fn x = true ∨ X.env.scope.names.lookup x = some .local := by first | exact .inl rfl | exact .inr rfl)
    (hdb : (y == ("__debug__" : Str)) = false := by decide) :
    SimS cl cf X (.Assign [.Name x px] (.Call (.Name y pf) [] [] cpos) pos) (.make i cc j .nil) := by
  intro ρ M r e L σ H E rl en k
  simp only [evalS, evalA, Option.bind_eq_some_iff] at e
  obtain ⟨ds, eds, ⟨d, M'⟩, e1, e⟩ := e
  cases eds
  cases d with
  | non =>
    cases e
    refine of_ps (ps_set hN hi hx (pe_make0 hM C.ok hr hg hm C.bi .nil pass0 hdb) hs hf) ?_
    intro x dx hx hdx hne
    exact make_go (vs := []) (ds := []) C (as := []) rl en hl e1 k (Step.refl _ _) rl .nil hx hdx hne
  | _ => cases e

/-! ### for x, y in zip(s, t) -/
theorem sims_zip (i j : Nat) {x y : Str} {px py pz tpos zpos : Pos} {tk : Nat} {bd : List Stmt} {bl : PB} (hp : PassesOwn (model X.prog X.w) X.A X.env X.xe) (hc : X.calm = true) (hN : X.N.Nodup) (hg : Gl X "zip") (hm : X.mg "zip" = none)
    (ha : SimE cl cf X a p) (hb : SimE cl cf X b q) (hB : SimB cl cf X bd bl)
    (hi : X.N[i]? = some x := by rfl) (hj : X.N[j]? = some y := by rfl) (hx : Loc X.env.scope x := by first | exact .inl rfl | exact .inr rfl) (hy : Loc X.env.scope y := by first | exact .inl rfl | exact .inr rfl)
    (hf : X.fn x = true ∨ X.env.scope.names.lookup x = some .local := by first | exact .inl rfl | exact .inr rfl) (hf2 : X.fn y = true ∨ X.env.scope.names.lookup y = some .local := by first | exact .inl rfl | exact .inr rfl)
    (hs : starEach [a, b] X.env = (false, eval a X.env) :: starEach [b] X.env := by rfl) (hsb : starEach [b] X.env = (false, eval b X.env) :: starEach [] X.env := by rfl) (hpl : (backTo zpos (starEach [b] X.env)).any (·.1) = false := by rfl)
    (hn : (assignEach [.Name x px, .Name y py] X.env).length = 2 := by rfl) (hst : (assignEach [.Name x px, .Name y py] X.env).findIdx? (·.1) = none := by rfl)
    (hfs : ∀ x, foldedSetIterable (.Call (.Name "zip" pz) [a, b] [] zpos) X.env x = pure x := by intro _; rfl) :
    SimS cl cf X (.For (.Tuple [.Name x px, .Name y py] tk tpos) (.Call (.Name "zip" pz) [a, b] [] zpos) bd [] pos) (.zip2 i j p q bl) := by
  intro ρ M r e L σ H E rl en k
  simp only [evalS, Option.bind_eq_some_iff] at e
  obtain ⟨xx, ex, yy, ey, e⟩ := e
  split at e
  case h_2 => cases e
  rename_i ds es
  split at e
  case isFalse => cases e
  rename_i hlen
  refine of_ps (ps_for hp hc (RZ.pi_zipA hg hm pa_w hs hpl) (pg_tup (n := 2) hc (pgs_cons (pg_name hN hi hx hf) (pgs_cons (pg_name hN hj hy hf2) pgs_nil)) hn hst) pss_w hfs) ?_
  have eA : evalA cf M (.cons p (.cons q .nil)) ρ = some [.tup ds, .tup es] := by simp [evalA, ex, ey]
  refine (simA_cons ha (simA_cons hb simA_nil (hs := hsb)) (hs := hs)) eA rl en fun vs H1 s1 r1 z => ?_
  cases z with
  | cons z1 zr =>
  cases zr with
  | cons z2 zr =>
  cases zr
  cases z1 with
  | @tup A xs _ h1 z1 =>
  cases z2 with
  | @tup B ys _ h2 z2 =>
  refine ⟨A, B, xs, ys, rfl, .inr ⟨sqT h1, sqT h2, ?_⟩⟩
  have hxy : xs.length = ys.length := by rw [z1.length, z2.length]; exact hlen
  refine RZ.for_zipT hxy (fun n σ' H' => ∃ ρ' M' L', Grow H1 L L' ∧ Step L H1 H' ∧ Rel X.K cl L' M' H' ∧ EnvR X.K L' H' σ' ρ' ∧ loop2 (fun ρ M => evalB cf bl ρ M) i j (ds.drop n) (es.drop n) ρ' M' = some r)
    ⟨ρ, M, L, Grow.refl _ _, Step.refl _ _, r1, en.st s1, e⟩ ?_ ?_ ?_
  · rintro n σ' H' ⟨ρ', M', L', g, s2, r2, en2, el⟩
    exact ⟨sqT (L := L) (h1.imp (fun ⟨a, b⟩ => ⟨s2 _ _ a b, b⟩) id), sqT (L := L) (h2.imp (fun ⟨a, b⟩ => ⟨s2 _ _ a b, b⟩) id)⟩
  · rintro n u v T σ' H' hu hv ⟨ρ', M', L', g, s2, r2, en2, el⟩ hT
    obtain ⟨d, hd, hdu⟩ := z1.getV hu
    obtain ⟨d2, hd2, hdv⟩ := z2.getV hv
    have sT : Step L' H' (upd H' T (.tup [u, v])) := Step.new hT
    have rT : Rel X.K cl L' M' (upd H' T (.tup [u, v])) := r2.new hT
    have hdrop : ds.drop n = d :: ds.drop (n + 1) := by
      obtain ⟨hl, e⟩ := List.getElem?_eq_some_iff.mp hd
      rw [← e]
      exact List.drop_eq_getElem_cons hl
    have hdrop2 : es.drop n = d2 :: es.drop (n + 1) := by
      obtain ⟨hl, e⟩ := List.getElem?_eq_some_iff.mp hd2
      rw [← e]
      exact List.drop_eq_getElem_cons hl
    rw [hdrop, hdrop2] at el
    simp only [loop2, Option.bind_eq_some_iff] at el
    obtain ⟨r1', eb, el⟩ := el
    have s2T : Step L H1 (upd H' T (.tup [u, v])) := Step.trans2 g s2 sT
    refine ⟨T, [u, v], rfl, sqT (L := L') (.inl ⟨upd_same, r2.fresh hT⟩), rfl, u, [v], rfl, v, [], rfl, rfl, ?_⟩
    refine hB eb rT (((en2.st sT).set ((hdu.mono g s2).st sT)).set ((hdv.mono g s2).st sT)) ?_
    cases r1' with
    | nx ρ3 M3 =>
      intro L3 σ3 H3 g3 s3 r3 en3
      exact ⟨ρ3, M3, L3, g.trans2 s2T rT g3, Step.trans2 g s2T s3, r3, en3, el⟩
    | rt d M3 =>
      cases el
      intro L3 v3 H3 g3 s3 r3 h3
      exact k _ _ _ ((Grow.refl _ _).trans2 s1 r1 (g.trans2 s2T rT g3)) (s1.trans (Step.trans2 g s2T s3)) r3 h3
  · rintro σ' H' ⟨ρ', M', L', g, s2, r2, en2, el⟩
    rw [List.drop_eq_nil_of_le (by rw [z1.length]; exact Nat.le_refl _)] at el
    have : r = .nx ρ' M' := by simp [loop2] at el; exact el.symm
    subst this
    exact k _ _ _ ((Grow.refl _ _).trans2 s1 r1 g) (s1.trans s2) r2 en2

/-! ### {..}[e] -/
theorem sim_sel4 {x1 x2 x3 x4 : Str} {j1 j2 j3 j4 k1 k2 k3 k4 : Nat} {p1 p2 p3 p4 q1 q2 q3 q4 dp : Pos} (hu : X.A.units + 1 < cLine) (t1 : Tx) (n1 : Int) (t2 : Tx) (n2 : Int) (t3 : Tx) (n3 : Int) (t4 : Tx) (n4 : Int) (h : SimE cl cf X a p)
    (e1 : x1 = toS t1 := by decide +kernel) (e2 : x2 = toS t2 := by decide +kernel) (e3 : x3 = toS t3 := by decide +kernel) (e4 : x4 = toS t4 := by decide +kernel) (hd : [t1, t2, t3, t4].Nodup := by decide) (hs : NoSl a := by intro _ _; rfl) :
    SimE cl cf X (.Subscript (.Dict [some (.Constant (.str x1) j1 p1), some (.Constant (.str x2) j2 p2), some (.Constant (.str x3) j3 p3), some (.Constant (.str x4) j4 p4)] [.Constant (.int n1) k1 q1, .Constant (.int n2) k2 q2, .Constant (.int n3) k3 q3, .Constant (.int n4) k4 q4] dp) a pos)
      (.sel [(t1, n1), (t2, n2), (t3, n3), (t4, n4)] p) := by
  intro ρ M d e L σ H Q r en k
  simp only [evalX, Option.bind_eq_some_iff] at e
  obtain ⟨x, ex, e⟩ := e
  refine of_pe (pe_dget hu (pe_disp (pps_cons pe_str pe_int (pps_cons pe_str pe_int (pps_cons pe_str pe_int (pps_cons pe_str pe_int pps_nil)))) rfl rfl (by simp) (by simp)) pe_w hs) ?_
  intro P hP
  refine ⟨upd_same, [(.inr x1, .int n1), (.inr x2, .int n2), (.inr x3, .int n3), (.inr x4, .int n4)], rfl, by simp, ?_⟩
  subst e1 e2 e3 e4
  have hn : ∀ {s t : Tx}, s ≠ t → (toS s = toS t) = False := fun h => eq_false fun z => h (toS_inj z)
  simp only [List.nodup_cons, List.mem_cons, List.not_mem_nil, or_false, not_or] at hd
  obtain ⟨⟨h12, h13, h14⟩, ⟨h23, h24⟩, h34, -⟩ := hd
  have em : mergeK [] [(.inr (toS t1), V.int n1), (.inr (toS t2), .int n2), (.inr (toS t3), .int n3), (.inr (toS t4), .int n4)] = [((.inr (toS t1) : Key), V.int n1), (.inr (toS t2), .int n2), (.inr (toS t3), .int n3), (.inr (toS t4), .int n4)] := by
    simp [mergeK, putK, hn h12, hn h13, hn h14, hn h23, hn h24, hn h34]
  rw [em]
  have s0 : Step L H (upd (upd H P (.dK [])) P (.dK [((.inr (toS t1) : Key), V.int n1), (.inr (toS t2), .int n2), (.inr (toS t3), .int n3), (.inr (toS t4), .int n4)])) := fun b o hb nb => by
    have : b ≠ P := ne_of_none hb hP
    rw [upd_ne this, upd_ne this]
    exact hb
  have r0 : Rel X.K cl L M (upd (upd H P (.dK [])) P (.dK [((.inr (toS t1) : Key), V.int n1), (.inr (toS t2), .int n2), (.inr (toS t3), .int n3), (.inr (toS t4), .int n4)])) := ⟨r.nd, r.len, fun i a m h1 h2 => by
    have x := r.ob i a m h1 h2
    obtain ⟨u, e⟩ := x.there
    have : a ≠ P := ne_of_none e hP
    exact x.mono (Grow.refl H L) s0 (by rw [upd_ne this, upd_ne this])⟩
  have nP : P ∉ L := r.fresh hP
  refine h ex r0 (en.st s0) fun v H2 s2 r2 hv => ?_
  have hD : H2 P = some (.dK [((.inr (toS t1) : Key), V.int n1), (.inr (toS t2), .int n2), (.inr (toS t3), .int n3), (.inr (toS t4), .int n4)]) := s2 _ _ upd_same nP
  cases hv with
  | str s os =>
    have hi : ∀ {s t : Tx}, s = t → (toS s = toS t) = True := fun h => eq_true (by rw [h])
    have key : ∀ nn : Int, d = .int nn → valV [((.inr (toS t1) : Key), V.int n1), (.inr (toS t2), .int n2), (.inr (toS t3), .int n3), (.inr (toS t4), .int n4)] (.inr (toS s)) = some (.int nn) → ∃ a v_1, V.ref P = .ref a ∧ DGet H2 a (.str (toS s)) (some v_1) ∧ Q v_1 H2 := by
      intro nn hd hv
      refine ⟨P, .int nn, rfl, ?_, ?_⟩
      · rw [← hv]; exact DGet.k (k := .inr (toS s)) hD
      · exact k (.int nn) H2 (s0.trans s2) r2 (by rw [hd]; exact .int nn)
    simp only [selD, D.str.injEq] at e
    by_cases c1 : s = t1
    · rw [if_pos c1] at e; cases e
      exact key n1 rfl (by simp [valV, List.find?, c1])
    rw [if_neg c1] at e
    by_cases c2 : s = t2
    · rw [if_pos c2] at e; cases e
      exact key n2 rfl (by simp [valV, List.find?, c2, hn h12])
    rw [if_neg c2] at e
    by_cases c3 : s = t3
    · rw [if_pos c3] at e; cases e
      exact key n3 rfl (by simp [valV, List.find?, c3, hn h13, hn h23])
    rw [if_neg c3] at e
    by_cases c4 : s = t4
    · rw [if_pos c4] at e; cases e
      exact key n4 rfl (by simp [valV, List.find?, c4, hn h14, hn h24, hn h34])
    rw [if_neg c4] at e
    cases e
  | _ => simp [selD] at e
end
end FpS

set_option maxRecDepth 100000
/-! The program of fewpans_k10_codes_run in the small language (printed by gen.py). -/
namespace Fp

abbrev f_part_at : Nat := 0
abbrev f_Kitchen_init : Nat := 1
abbrev f_Kitchen_holds : Nat := 2
abbrev f_Kitchen_is_pan : Nat := 3
abbrev f_Kitchen_word_at : Nat := 4
abbrev f_Kitchen_found : Nat := 5
abbrev f_Kitchen_do : Nat := 6
abbrev f_run : Nat := 7
abbrev f_shelved : Nat := 8
abbrev f_Lcell_at : Nat := 9
abbrev f_Lmixed : Nat := 10
abbrev f_Ldrawn : Nat := 11
abbrev f_Ltree : Nat := 12
abbrev f_Ldrawn_tree : Nat := 13
abbrev f_Lpart : Nat := 14
abbrev f_Laddresses : Nat := 15
abbrev f_Lheld : Nat := 16
abbrev f_Lbrings : Nat := 17
abbrev f_Lrun : Nat := 18
abbrev f_Lwork : Nat := 19
abbrev f_Lcode : Nat := 20
abbrev f_Lchanged : Nat := 21
abbrev f_law : Nat := 22
def lb_part_at_0 : PB := .cons (.ite (.or (.cmp .eq (.idx (.var 2) (.cst (.int 0))) (.cst (.str [110, 117, 109, 98, 101, 114]))) (.cmp .nmem (.var 3) (.cst (.str [108, 114])))) (.cons (.ret (.cst .non)) (.nil)) (.nil)) (.cons (.asg 2 (.idx (.var 2) (.bin .add (.cst (.int 1)) (.un .int (.cmp .eq (.var 3) (.cst (.str [114]))))))) (.nil))
/-- part_at(tree, address); slots: tree address here sign -/
def pb_part_at : PB := .cons (.asg 2 (.var 0)) (.cons (.forIn 3 (.var 1) (lb_part_at_0)) (.cons (.ret (.var 2)) (.nil)))
def df_part_at : Df := ⟨2, 4, pb_part_at⟩
/-- Kitchen.__init__(self, tree, pans); slots: self tree pans -/
def pb_Kitchen_init : PB := .cons (.setA (.var 0) [116, 114, 101, 101] (.var 1)) (.cons (.setNew 0 [112, 97, 110, 115] (.bin .mul (.lst (.cons (.cst .non) (.nil))) (.var 2))) (.cons (.setNew 0 [115, 104, 101, 108, 102] (.bin .mul (.lst (.cons (.cst .non) (.nil))) (.cst (.int 41)))) (.nil)))
def df_Kitchen_init : Df := ⟨3, 3, pb_Kitchen_init⟩
/-- Kitchen.holds(self, row, at); slots: self row at -/
def pb_Kitchen_holds : PB := .cons (.ite (.not (.chain .le .lt (.cst (.int 0)) (.var 2) (.un .len (.var 1)))) (.cons (.ret (.cst .non)) (.nil)) (.nil)) (.cons (.ret (.idx (.var 1) (.var 2))) (.nil))
def df_Kitchen_holds : Df := ⟨3, 3, pb_Kitchen_holds⟩
/-- Kitchen.is_pan(self, pan); slots: self pan -/
def pb_Kitchen_is_pan : PB := .cons (.ret (.chain .le .lt (.cst (.int 0)) (.var 1) (.un .len (.attr (.var 0) [112, 97, 110, 115])))) (.nil)
def df_Kitchen_is_pan : Df := ⟨2, 2, pb_Kitchen_is_pan⟩
/-- Kitchen.word_at(self, address); slots: self address part -/
def pb_Kitchen_word_at : PB := .cons (.asg 2 (.call f_part_at (.cons (.attr (.var 0) [116, 114, 101, 101]) (.cons (.var 1) (.nil))))) (.cons (.ite (.cmp .is_ (.var 2) (.cst .non)) (.cons (.ret (.cst (.str []))) (.nil)) (.nil)) (.cons (.ret (.idx (.var 2) (.cst (.int 0)))) (.nil)))
def df_Kitchen_word_at : Df := ⟨2, 3, pb_Kitchen_word_at⟩
/-- Kitchen.found(self, deed); slots: self deed address -/
def pb_Kitchen_found : PB := .cons (.ite (.cmp .eq (.idx (.var 1) (.cst (.int 0))) (.cst (.str [112, 117, 116]))) (.cons (.ite (.cmp .eq (.meth 0 [119, 111, 114, 100, 95, 97, 116] f_Kitchen_word_at (.var 0) (.cons (.idx (.var 1) (.cst (.int 2))) (.nil))) (.cst (.str [110, 117, 109, 98, 101, 114]))) (.cons (.ret (.idx (.var 1) (.cst (.int 2)))) (.nil)) (.nil)) (.cons (.ret (.cst .non)) (.nil))) (.nil)) (.cons (.ite (.cmp .eq (.idx (.var 1) (.cst (.int 0))) (.cst (.str [102, 101, 116, 99, 104]))) (.cons (.ret (.meth 0 [104, 111, 108, 100, 115] f_Kitchen_holds (.var 0) (.cons (.attr (.var 0) [115, 104, 101, 108, 102]) (.cons (.idx (.var 1) (.cst (.int 2))) (.nil))))) (.nil)) (.nil)) (.cons (.asg 2 (.idx (.var 1) (.cst (.int 2)))) (.cons (.ite (.or (.cmp .nmem (.meth 0 [119, 111, 114, 100, 95, 97, 116] f_Kitchen_word_at (.var 0) (.cons (.var 2) (.nil))) (.cst (.tup [.str [112, 108, 117, 115], .str [108, 101, 115, 115], .str [116, 105, 109, 101, 115]]))) (.cmp .ne (.meth 0 [104, 111, 108, 100, 115] f_Kitchen_holds (.var 0) (.cons (.attr (.var 0) [112, 97, 110, 115]) (.cons (.idx (.var 1) (.cst (.int 3))) (.nil)))) (.bin .add (.var 2) (.cst (.str [108]))))) (.cons (.ret (.cst .non)) (.nil)) (.nil)) (.cons (.ite (.cmp .ne (.meth 0 [104, 111, 108, 100, 115] f_Kitchen_holds (.var 0) (.cons (.attr (.var 0) [112, 97, 110, 115]) (.cons (.idx (.var 1) (.cst (.int 4))) (.nil)))) (.bin .add (.var 2) (.cst (.str [114])))) (.cons (.ret (.cst .non)) (.nil)) (.nil)) (.cons (.ret (.var 2)) (.nil))))))
def df_Kitchen_found : Df := ⟨2, 3, pb_Kitchen_found⟩
/-- Kitchen.do(self, deed); slots: self deed held -/
def pb_Kitchen_do : PB := .cons (.ite (.cmp .eq (.idx (.var 1) (.cst (.int 0))) (.cst (.str [115, 104, 101, 108, 118, 101]))) (.cons (.asg 2 (.meth 0 [104, 111, 108, 100, 115] f_Kitchen_holds (.var 0) (.cons (.attr (.var 0) [112, 97, 110, 115]) (.cons (.idx (.var 1) (.cst (.int 2))) (.nil))))) (.cons (.ite (.or (.cmp .is_ (.var 2) (.cst .non)) (.not (.chain .le .lt (.cst (.int 0)) (.idx (.var 1) (.cst (.int 1))) (.cst (.int 41))))) (.cons (.ret (.cst (.bl false))) (.nil)) (.nil)) (.cons (.setI (.attr (.var 0) [115, 104, 101, 108, 102]) (.idx (.var 1) (.cst (.int 1))) (.var 2)) (.cons (.ret (.cst (.bl true))) (.nil))))) (.nil)) (.cons (.asg 2 (.meth 0 [102, 111, 117, 110, 100] f_Kitchen_found (.var 0) (.cons (.var 1) (.nil)))) (.cons (.ite (.or (.cmp .is_ (.var 2) (.cst .non)) (.not (.meth 0 [105, 115, 95, 112, 97, 110] f_Kitchen_is_pan (.var 0) (.cons (.idx (.var 1) (.cst (.int 1))) (.nil))))) (.cons (.ret (.cst (.bl false))) (.nil)) (.nil)) (.cons (.setI (.attr (.var 0) [112, 97, 110, 115]) (.idx (.var 1) (.cst (.int 1))) (.var 2)) (.cons (.ret (.cst (.bl true))) (.nil)))))
def df_Kitchen_do : Df := ⟨2, 3, pb_Kitchen_do⟩
def lb_run_0 : PB := .cons (.ifNot 0 [100, 111] f_Kitchen_do (.var 3) (.cons (.var 4) (.nil)) (.cons (.ret (.cst .non)) (.nil))) (.nil)
/-- run(tree, code, pans); slots: tree code pans kitchen deed -/
def pb_run : PB := .cons (.make 3 0 f_Kitchen_init (.cons (.var 0) (.cons (.var 2) (.nil)))) (.cons (.forIn 4 (.var 1) (lb_run_0)) (.cons (.ret (.un .tup (.attr (.var 3) [112, 97, 110, 115]))) (.nil)))
def df_run : Df := ⟨3, 5, pb_run⟩
/-- shelved(code); slots: code deed -/
def pb_shelved : PB := .cons (.ret (.un .len (.filt 1 (.var 0) (.cmp .eq (.idx (.var 1) (.cst (.int 0))) (.cst (.str [115, 104, 101, 108, 118, 101])))))) (.nil)
def df_shelved : Df := ⟨1, 2, pb_shelved⟩
/-- _law_cell_at(_law_script, _law_k); slots: _law_script _law_k -/
def pb_Lcell_at : PB := .cons (.ite (.cmp .lt (.var 1) (.un .len (.var 0))) (.cons (.ret (.idx (.var 0) (.var 1))) (.nil)) (.nil)) (.cons (.ret (.cst (.int 0))) (.nil))
def df_Lcell_at : Df := ⟨2, 2, pb_Lcell_at⟩
/-- _law_mixed(_law_script, _law_k); slots: _law_script _law_k _law_drawn_here -/
def pb_Lmixed : PB := .cons (.asg 2 (.bin .mod (.bin .mul (.bin .add (.bin .add (.call f_Lcell_at (.cons (.var 0) (.cons (.var 1) (.nil)))) (.bin .mul (.cst (.int 7919)) (.var 1))) (.cst (.int 1))) (.cst (.int 48271))) (.cst (.int 2147483647)))) (.cons (.ret (.bin .mod (.bin .add (.bin .add (.bin .mul (.var 2) (.var 2)) (.bin .mul (.cst (.int 7)) (.var 2))) (.var 1)) (.cst (.int 2147483629)))) (.nil))
def df_Lmixed : Df := ⟨2, 3, pb_Lmixed⟩
/-- _law_drawn(_law_number, _law_k); slots: _law_number _law_k _law_drawn_here -/
def pb_Ldrawn : PB := .cons (.asg 2 (.bin .mod (.bin .mul (.bin .add (.bin .add (.var 0) (.bin .mul (.cst (.int 104729)) (.var 1))) (.cst (.int 17))) (.cst (.int 69621))) (.cst (.int 2147483647)))) (.cons (.ret (.bin .mod (.bin .add (.bin .add (.bin .mul (.var 2) (.var 2)) (.bin .mul (.cst (.int 3)) (.var 2))) (.var 1)) (.cst (.int 2147483629)))) (.nil))
def df_Ldrawn : Df := ⟨2, 3, pb_Ldrawn⟩
/-- _law_tree(_law_number, _law_many, _law_kind); slots: _law_number _law_many _law_kind _law_first _law_one _law_other -/
def pb_Ltree : PB := .cons (.ite (.cmp .eq (.var 1) (.cst (.int 1))) (.cons (.ret (.tup (.cons (.cst (.str [110, 117, 109, 98, 101, 114])) (.cons (.bin .sub (.bin .mod (.bin .fdiv (.call f_Ldrawn (.cons (.var 0) (.cons (.cst (.int 1)) (.nil)))) (.cst (.int 8))) (.idx (.tup (.cons (.cst (.int 21)) (.cons (.cst (.int 2001)) (.nil)))) (.bin .mod (.bin .fdiv (.var 0) (.cst (.int 16))) (.cst (.int 2))))) (.idx (.tup (.cons (.cst (.int 10)) (.cons (.cst (.int 1000)) (.nil)))) (.bin .mod (.bin .fdiv (.var 0) (.cst (.int 16))) (.cst (.int 2))))) (.nil))))) (.nil)) (.nil)) (.cons (.asg 3 (.bin .add (.cst (.int 1)) (.bin .mod (.bin .fdiv (.var 0) (.cst (.int 8))) (.bin .sub (.var 1) (.cst (.int 1)))))) (.cons (.ite (.or (.cmp .eq (.var 2) (.cst (.int 1))) (.and (.cmp .eq (.var 2) (.cst (.int 2))) (.cmp .eq (.bin .mod (.var 0) (.cst (.int 2))) (.cst (.int 1))))) (.cons (.asg 3 (.bin .fdiv (.var 1) (.cst (.int 2)))) (.nil)) (.nil)) (.cons (.ite (.cmp .eq (.var 2) (.cst (.int 3))) (.cons (.asg 3 (.idx (.lst (.cons (.cst (.int 1)) (.cons (.bin .sub (.var 1) (.cst (.int 1))) (.nil)))) (.bin .mod (.bin .fdiv (.var 0) (.cst (.int 8))) (.cst (.int 2))))) (.nil)) (.nil)) (.cons (.asg 4 (.call f_Ltree (.cons (.call f_Ldrawn (.cons (.var 0) (.cons (.cst (.int 2)) (.nil)))) (.cons (.var 3) (.cons (.var 2) (.nil)))))) (.cons (.asg 5 (.call f_Ltree (.cons (.call f_Ldrawn (.cons (.var 0) (.cons (.cst (.int 3)) (.nil)))) (.cons (.bin .sub (.var 1) (.var 3)) (.cons (.var 2) (.nil)))))) (.cons (.ret (.tup (.cons (.idx (.tup (.cons (.cst (.str [112, 108, 117, 115])) (.cons (.cst (.str [108, 101, 115, 115])) (.cons (.cst (.str [116, 105, 109, 101, 115])) (.nil))))) (.bin .mod (.bin .fdiv (.var 0) (.cst (.int 4))) (.cst (.int 3)))) (.cons (.var 4) (.cons (.var 5) (.nil)))))) (.nil)))))))
def df_Ltree : Df := ⟨3, 6, pb_Ltree⟩
/-- _law_drawn_tree(_law_number); slots: _law_number -/
def pb_Ldrawn_tree : PB := .cons (.ret (.call f_Ltree (.cons (.bin .fdiv (.var 0) (.cst (.int 64))) (.cons (.idx (.tup (.cons (.cst (.int 16)) (.cons (.cst (.int 8)) (.cons (.cst (.int 4)) (.cons (.bin .add (.cst (.int 1)) (.bin .mod (.bin .fdiv (.var 0) (.cst (.int 64))) (.cst (.int 16)))) (.nil)))))) (.bin .mod (.bin .fdiv (.var 0) (.cst (.int 4))) (.cst (.int 4)))) (.cons (.bin .mod (.var 0) (.cst (.int 4))) (.nil)))))) (.nil)
def df_Ldrawn_tree : Df := ⟨1, 1, pb_Ldrawn_tree⟩
def lb_Lpart_0 : PB := .cons (.ite (.or (.cmp .eq (.idx (.var 2) (.cst (.int 0))) (.cst (.str [110, 117, 109, 98, 101, 114]))) (.cmp .lt (.un .findLR (.var 3)) (.cst (.int 0)))) (.cons (.ret (.cst .non)) (.nil)) (.nil)) (.cons (.asg 2 (.idx (.var 2) (.bin .add (.un .findLR (.var 3)) (.cst (.int 1))))) (.nil))
/-- _law_part(_law_tree_here, _law_address); slots: _law_tree_here _law_address _law_here _law_sign -/
def pb_Lpart : PB := .cons (.asg 2 (.var 0)) (.cons (.forIn 3 (.var 1) (lb_Lpart_0)) (.cons (.ret (.var 2)) (.nil)))
def df_Lpart : Df := ⟨2, 4, pb_Lpart⟩
/-- _law_addresses(_law_tree_here, _law_address); slots: _law_tree_here _law_address -/
def pb_Laddresses : PB := .cons (.ite (.cmp .eq (.idx (.var 0) (.cst (.int 0))) (.cst (.str [110, 117, 109, 98, 101, 114]))) (.cons (.ret (.lst (.cons (.var 1) (.nil)))) (.nil)) (.nil)) (.cons (.ret (.bin .add (.bin .add (.lst (.cons (.var 1) (.nil))) (.call f_Laddresses (.cons (.idx (.var 0) (.cst (.int 1))) (.cons (.bin .add (.var 1) (.cst (.str [108]))) (.nil))))) (.call f_Laddresses (.cons (.idx (.var 0) (.cst (.int 2))) (.cons (.bin .add (.var 1) (.cst (.str [114]))) (.nil)))))) (.nil))
def df_Laddresses : Df := ⟨2, 2, pb_Laddresses⟩
/-- _law_held(_law_row, _law_at); slots: _law_row _law_at -/
def pb_Lheld : PB := .cons (.ite (.chain .le .lt (.cst (.int 0)) (.var 1) (.un .len (.var 0))) (.cons (.ret (.idx (.var 0) (.var 1))) (.nil)) (.nil)) (.cons (.ret (.cst .non)) (.nil))
def df_Lheld : Df := ⟨2, 2, pb_Lheld⟩
/-- _law_brings(_law_tree_here, _law_row, _law_shelf, _law_deed); slots: _law_tree_here _law_row _law_shelf _law_deed _law_part_here -/
def pb_Lbrings : PB := .cons (.ite (.cmp .eq (.idx (.var 3) (.cst (.int 0))) (.cst (.str [102, 101, 116, 99, 104]))) (.cons (.ret (.call f_Lheld (.cons (.var 2) (.cons (.idx (.var 3) (.cst (.int 2))) (.nil))))) (.nil)) (.nil)) (.cons (.ite (.cmp .eq (.idx (.var 3) (.cst (.int 0))) (.cst (.str [115, 104, 101, 108, 118, 101]))) (.cons (.ret (.call f_Lheld (.cons (.var 1) (.cons (.idx (.var 3) (.cst (.int 2))) (.nil))))) (.nil)) (.nil)) (.cons (.asg 4 (.call f_Lpart (.cons (.var 0) (.cons (.idx (.var 3) (.cst (.int 2))) (.nil))))) (.cons (.ite (.or (.cmp .is_ (.var 4) (.cst .non)) (.cmp .ne (.cmp .eq (.idx (.var 4) (.cst (.int 0))) (.cst (.str [110, 117, 109, 98, 101, 114]))) (.cmp .eq (.idx (.var 3) (.cst (.int 0))) (.cst (.str [112, 117, 116]))))) (.cons (.ret (.cst .non)) (.nil)) (.nil)) (.cons (.ite (.and (.cmp .eq (.idx (.var 3) (.cst (.int 0))) (.cst (.str [106, 111, 105, 110]))) (.cmp .ne (.call f_Lheld (.cons (.var 1) (.cons (.idx (.var 3) (.cst (.int 3))) (.nil)))) (.bin .add (.idx (.var 3) (.cst (.int 2))) (.cst (.str [108]))))) (.cons (.ret (.cst .non)) (.nil)) (.nil)) (.cons (.ite (.and (.cmp .eq (.idx (.var 3) (.cst (.int 0))) (.cst (.str [106, 111, 105, 110]))) (.cmp .ne (.call f_Lheld (.cons (.var 1) (.cons (.idx (.var 3) (.cst (.int 4))) (.nil)))) (.bin .add (.idx (.var 3) (.cst (.int 2))) (.cst (.str [114]))))) (.cons (.ret (.cst .non)) (.nil)) (.nil)) (.cons (.ret (.idx (.var 3) (.cst (.int 2)))) (.nil)))))))
def df_Lbrings : Df := ⟨4, 5, pb_Lbrings⟩
def lb_Lrun_0 : PB := .cons (.asg 6 (.call f_Lbrings (.cons (.var 0) (.cons (.var 3) (.cons (.var 4) (.cons (.var 5) (.nil))))))) (.cons (.asg 7 (.idx (.lst (.cons (.var 3) (.cons (.var 4) (.nil)))) (.un .int (.cmp .eq (.idx (.var 5) (.cst (.int 0))) (.cst (.str [115, 104, 101, 108, 118, 101])))))) (.cons (.ite (.or (.cmp .is_ (.var 6) (.cst .non)) (.not (.chain .le .lt (.cst (.int 0)) (.idx (.var 5) (.cst (.int 1))) (.un .len (.var 7))))) (.cons (.ret (.cst .non)) (.nil)) (.nil)) (.cons (.setI (.var 7) (.idx (.var 5) (.cst (.int 1))) (.var 6)) (.nil))))
/-- _law_run(_law_tree_here, _law_code_here, _law_pans); slots: _law_tree_here _law_code_here _law_pans _law_row _law_shelf _law_deed _law_held_here _law_goal -/
def pb_Lrun : PB := .cons (.asgNew 3 (.bin .mul (.lst (.cons (.cst .non) (.nil))) (.var 2))) (.cons (.asgNew 4 (.bin .mul (.lst (.cons (.cst .non) (.nil))) (.cst (.int 41)))) (.cons (.forIn 5 (.var 1) (lb_Lrun_0)) (.cons (.ret (.un .tup (.var 3))) (.nil))))
def df_Lrun : Df := ⟨3, 8, pb_Lrun⟩
/-- _law_work(_law_tree_here, _law_address, _law_free, _law_number, _law_every); slots: _law_tree_here _law_address _law_free _law_number _law_every _law_part_here _law_drawn_here _law_first _law_second _law_simple _law_code_here _law_pair _law_place -/
def pb_Lwork : PB := .cons (.asg 5 (.call f_Lpart (.cons (.var 0) (.cons (.var 1) (.nil))))) (.cons (.ite (.cmp .eq (.idx (.var 5) (.cst (.int 0))) (.cst (.str [110, 117, 109, 98, 101, 114]))) (.cons (.ret (.lst (.cons (.tup (.cons (.cst (.str [112, 117, 116])) (.cons (.idx (.var 2) (.cst (.int 0))) (.cons (.var 1) (.nil))))) (.nil)))) (.nil)) (.nil)) (.cons (.asg 6 (.call f_Ldrawn (.cons (.var 3) (.cons (.bi .index (.var 4) (.var 1)) (.nil))))) (.cons (.unpack [7, 8] (.idx (.lst (.cons (.tup (.cons (.cst (.str [108])) (.cons (.cst (.str [114])) (.nil)))) (.cons (.tup (.cons (.cst (.str [114])) (.cons (.cst (.str [108])) (.nil)))) (.nil)))) (.bin .mod (.var 6) (.cst (.int 2))))) (.cons (.asg 9 (.cmp .eq (.idx (.call f_Lpart (.cons (.var 0) (.cons (.bin .add (.var 1) (.var 8)) (.nil)))) (.cst (.int 0))) (.cst (.str [110, 117, 109, 98, 101, 114])))) (.cons (.asg 10 (.call f_Lwork (.cons (.var 0) (.cons (.bin .add (.var 1) (.var 7)) (.cons (.var 2) (.cons (.var 3) (.cons (.var 4) (.nil)))))))) (.cons (.ite (.and (.cmp .gt (.un .len (.var 2)) (.bin .sub (.cst (.int 2)) (.un .int (.var 9)))) (.cmp .gt (.bin .mod (.bin .fdiv (.var 6) (.cst (.int 2))) (.cst (.int 4))) (.cst (.int 0)))) (.cons (.asg 10 (.bin .add (.var 10) (.call f_Lwork (.cons (.var 0) (.cons (.bin .add (.var 1) (.var 8)) (.cons (.slF (.var 2) (.cst (.int 1))) (.cons (.var 3) (.cons (.var 4) (.nil))))))))) (.cons (.asg 11 (.tup (.cons (.idx (.var 2) (.cst (.int 0))) (.cons (.idx (.var 2) (.cst (.int 1))) (.nil))))) (.nil))) (.cons (.asg 12 (.bin .mod (.bin .add (.bi .index (.var 4) (.var 1)) (.bin .fdiv (.var 3) (.cst (.int 4096)))) (.cst (.int 41)))) (.cons (.asg 10 (.bin .add (.bin .add (.var 10) (.lst (.cons (.tup (.cons (.cst (.str [115, 104, 101, 108, 118, 101])) (.cons (.var 12) (.cons (.idx (.var 2) (.cst (.int 0))) (.nil))))) (.nil)))) (.call f_Lwork (.cons (.var 0) (.cons (.bin .add (.var 1) (.var 8)) (.cons (.var 2) (.cons (.var 3) (.cons (.var 4) (.nil))))))))) (.cons (.asg 10 (.bin .add (.var 10) (.lst (.cons (.tup (.cons (.cst (.str [102, 101, 116, 99, 104])) (.cons (.idx (.var 2) (.cst (.int 1))) (.cons (.var 12) (.nil))))) (.nil))))) (.cons (.asg 11 (.tup (.cons (.idx (.var 2) (.cst (.int 1))) (.cons (.idx (.var 2) (.cst (.int 0))) (.nil))))) (.nil)))))) (.cons (.ite (.cmp .eq (.var 7) (.cst (.str [114]))) (.cons (.asg 11 (.rev (.var 11))) (.nil)) (.nil)) (.cons (.ret (.bin .add (.var 10) (.lst (.cons (.tup (.cons (.cst (.str [106, 111, 105, 110])) (.cons (.idx (.var 2) (.cst (.int 0))) (.cons (.var 1) (.cons (.idx (.var 11) (.cst (.int 0))) (.cons (.idx (.var 11) (.cst (.int 1))) (.nil))))))) (.nil))))) (.nil)))))))))
def df_Lwork : Df := ⟨5, 13, pb_Lwork⟩
/-- _law_code(_law_tree_here, _law_number, _law_pans); slots: _law_tree_here _law_number _law_pans _law_every _law_code_here _law_some -/
def pb_Lcode : PB := .cons (.asg 3 (.call f_Laddresses (.cons (.var 0) (.cons (.cst (.str [])) (.nil))))) (.cons (.asg 4 (.lst (.nil))) (.cons (.ite (.cmp .eq (.bin .mod (.var 1) (.cst (.int 3))) (.cst (.int 1))) (.cons (.asg 5 (.idx (.var 3) (.bin .mod (.bin .fdiv (.var 1) (.cst (.int 3))) (.un .len (.var 3))))) (.cons (.asg 4 (.call f_Lwork (.cons (.var 0) (.cons (.var 5) (.cons (.un .range (.var 2)) (.cons (.bin .fdiv (.var 1) (.cst (.int 64))) (.cons (.var 3) (.nil)))))))) (.nil))) (.nil)) (.cons (.ret (.bin .add (.var 4) (.call f_Lwork (.cons (.var 0) (.cons (.cst (.str [])) (.cons (.un .range (.var 2)) (.cons (.var 1) (.cons (.var 3) (.nil))))))))) (.nil))))
def df_Lcode : Df := ⟨3, 6, pb_Lcode⟩
/-- _law_changed(_law_code_here, _law_number); slots: _law_code_here _law_number _law_at _law_deed _law_kind _law_turned_two _law_part_here _law_other _law_here _law_new -/
def pb_Lchanged : PB := .cons (.asg 2 (.bin .mod (.bin .fdiv (.var 1) (.cst (.int 8))) (.un .len (.var 0)))) (.cons (.asg 3 (.idx (.var 0) (.var 2))) (.cons (.asg 4 (.bin .mod (.var 1) (.cst (.int 8)))) (.cons (.ite (.cmp .eq (.var 4) (.cst (.int 0))) (.cons (.ret (.bin .add (.slT (.var 0) (.var 2)) (.slF (.var 0) (.bin .add (.var 2) (.cst (.int 1)))))) (.nil)) (.nil)) (.cons (.ite (.cmp .eq (.var 4) (.cst (.int 1))) (.cons (.ret (.bin .add (.slT (.var 0) (.bin .add (.var 2) (.cst (.int 1)))) (.slF (.var 0) (.var 2)))) (.nil)) (.nil)) (.cons (.ite (.cmp .eq (.var 4) (.cst (.int 2))) (.cons (.asg 5 (.bin .add (.slB (.var 0) (.bin .add (.var 2) (.cst (.int 1))) (.bin .add (.var 2) (.cst (.int 2)))) (.lst (.cons (.var 3) (.nil))))) (.cons (.ret (.bin .add (.bin .add (.slT (.var 0) (.var 2)) (.var 5)) (.slF (.var 0) (.bin .add (.var 2) (.cst (.int 2)))))) (.nil))) (.nil)) (.cons (.asg 6 (.bin .add (.cst (.int 1)) (.bin .mod (.bin .fdiv (.var 1) (.cst (.int 800))) (.bin .sub (.un .len (.var 3)) (.cst (.int 1)))))) (.cons (.asg 7 (.idx (.lst (.cons (.cst (.int 0)) (.cons (.cst (.int 1)) (.cons (.cst (.int 7)) (.cons (.cst (.int 8)) (.cons (.cst (.int 40)) (.cons (.cst (.int 41)) (.cons (.un .neg (.cst (.int 1))) (.cons (.cst (.int 2)) (.nil)))))))))) (.bin .mod (.bin .fdiv (.var 1) (.cst (.int 4000))) (.cst (.int 8))))) (.cons (.asg 8 (.idx (.var 3) (.var 6))) (.cons (.ite (.un (.isi .str) (.var 8)) (.cons (.asg 7 (.idx (.lst (.cons (.cst (.str [])) (.cons (.cst (.str [108])) (.cons (.cst (.str [114])) (.cons (.bin .add (.var 8) (.cst (.str [108]))) (.cons (.slT (.var 8) (.un .neg (.cst (.int 1)))) (.cons (.cst (.str [120])) (.nil)))))))) (.bin .mod (.bin .fdiv (.var 1) (.cst (.int 4000))) (.cst (.int 6))))) (.nil)) (.nil)) (.cons (.asg 9 (.bin .add (.bin .add (.slT (.var 3) (.var 6)) (.tup (.cons (.var 7) (.nil)))) (.slF (.var 3) (.bin .add (.var 6) (.cst (.int 1)))))) (.cons (.ret (.bin .add (.bin .add (.slT (.var 0) (.var 2)) (.lst (.cons (.var 9) (.nil)))) (.slF (.var 0) (.bin .add (.var 2) (.cst (.int 1)))))) (.nil))))))))))))
def df_Lchanged : Df := ⟨2, 10, pb_Lchanged⟩
def lb_law_0 : PB := .cons (.ite (.cmp .ne (.var 3) (.lst (.nil))) (.cons (.asg 3 (.call f_Lchanged (.cons (.var 3) (.cons (.call f_Lmixed (.cons (.var 0) (.cons (.bin .add (.cst (.int 4)) (.var 4)) (.nil)))) (.nil))))) (.nil)) (.nil)) (.nil)
def sb_law_0 : PS := .asg 1 (.call f_Ldrawn_tree (.cons (.call f_Lmixed (.cons (.var 0) (.cons (.cst (.int 0)) (.nil)))) (.nil)))
def sb_law_1 : PS := .asg 2 (.bin .add (.cst (.int 2)) (.bin .mod (.call f_Lmixed (.cons (.var 0) (.cons (.cst (.int 1)) (.nil)))) (.cst (.int 7))))
def sb_law_2 : PS := .asg 3 (.call f_Lcode (.cons (.var 1) (.cons (.call f_Lmixed (.cons (.var 0) (.cons (.cst (.int 2)) (.nil)))) (.cons (.var 2) (.nil)))))
def sb_law_3 : PS := .forIn 4 (.un .range (.bin .mod (.call f_Lmixed (.cons (.var 0) (.cons (.cst (.int 3)) (.nil)))) (.cst (.int 4)))) (lb_law_0)
def sb_law_4 : PS := .asg 3 (.un .tup (.var 3))
def sb_law_5 : PS := .asg 5 (.call f_run (.cons (.var 1) (.cons (.var 3) (.cons (.var 2) (.nil)))))
def sb_law_6 : PS := .ite (.or (.cmp .ne (.var 5) (.call f_Lrun (.cons (.var 1) (.cons (.var 3) (.cons (.var 2) (.nil)))))) (.cmp .ne (.call f_shelved (.cons (.var 3) (.nil))) (.un .len (.filt 6 (.var 3) (.cmp .eq (.idx (.var 6) (.cst (.int 0))) (.cst (.str [115, 104, 101, 108, 118, 101]))))))) (.cons (.ret (.cst (.bl false))) (.nil)) (.nil)
def sb_law_7 : PS := .asg 7 (.call f_run (.cons (.var 1) (.cons (.slT (.var 3) (.bin .mod (.call f_Lmixed (.cons (.var 0) (.cons (.cst (.int 8)) (.nil)))) (.bin .add (.un .len (.var 3)) (.cst (.int 1))))) (.cons (.var 2) (.nil)))))
def sb_law_8 : PS := .ret (.or (.cmp .isn (.var 7) (.cst .non)) (.cmp .is_ (.var 5) (.cst .non)))
/-- law(_law_script); slots: _law_script _law_tree_here _law_pans _law_code_here _law_k _law_found _law_deed _law_first -/
def pb_law : PB := .cons sb_law_0 (.cons sb_law_1 (.cons sb_law_2 (.cons sb_law_3 (.cons sb_law_4 (.cons sb_law_5 (.cons sb_law_6 (.cons sb_law_7 (.cons sb_law_8 (.nil)))))))))
def df_law : Df := ⟨1, 8, pb_law⟩
def prog : Pg := [df_part_at, df_Kitchen_init, df_Kitchen_holds, df_Kitchen_is_pan, df_Kitchen_word_at, df_Kitchen_found, df_Kitchen_do, df_run, df_shelved, df_Lcell_at, df_Lmixed, df_Ldrawn, df_Ltree, df_Ldrawn_tree, df_Lpart, df_Laddresses, df_Lheld, df_Lbrings, df_Lrun, df_Lwork, df_Lcode, df_Lchanged, df_law]
theorem at_part_at : prog[f_part_at]? = some df_part_at := rfl
theorem at_Kitchen_init : prog[f_Kitchen_init]? = some df_Kitchen_init := rfl
theorem at_Kitchen_holds : prog[f_Kitchen_holds]? = some df_Kitchen_holds := rfl
theorem at_Kitchen_is_pan : prog[f_Kitchen_is_pan]? = some df_Kitchen_is_pan := rfl
theorem at_Kitchen_word_at : prog[f_Kitchen_word_at]? = some df_Kitchen_word_at := rfl
theorem at_Kitchen_found : prog[f_Kitchen_found]? = some df_Kitchen_found := rfl
theorem at_Kitchen_do : prog[f_Kitchen_do]? = some df_Kitchen_do := rfl
theorem at_run : prog[f_run]? = some df_run := rfl
theorem at_shelved : prog[f_shelved]? = some df_shelved := rfl
theorem at_Lcell_at : prog[f_Lcell_at]? = some df_Lcell_at := rfl
theorem at_Lmixed : prog[f_Lmixed]? = some df_Lmixed := rfl
theorem at_Ldrawn : prog[f_Ldrawn]? = some df_Ldrawn := rfl
theorem at_Ltree : prog[f_Ltree]? = some df_Ltree := rfl
theorem at_Ldrawn_tree : prog[f_Ldrawn_tree]? = some df_Ldrawn_tree := rfl
theorem at_Lpart : prog[f_Lpart]? = some df_Lpart := rfl
theorem at_Laddresses : prog[f_Laddresses]? = some df_Laddresses := rfl
theorem at_Lheld : prog[f_Lheld]? = some df_Lheld := rfl
theorem at_Lbrings : prog[f_Lbrings]? = some df_Lbrings := rfl
theorem at_Lrun : prog[f_Lrun]? = some df_Lrun := rfl
theorem at_Lwork : prog[f_Lwork]? = some df_Lwork := rfl
theorem at_Lcode : prog[f_Lcode]? = some df_Lcode := rfl
theorem at_Lchanged : prog[f_Lchanged]? = some df_Lchanged := rfl
theorem at_law : prog[f_law]? = some df_law := rfl
end Fp

set_option linter.all false
set_option maxRecDepth 100000
set_option maxHeartbeats 8000000
/-! The walk of fewpans_k10_codes_run (printed by gen.py). -/
namespace Wk
open PySem PySem.Spec PyProof.Rows L2 Fp FpS

def topS (i : Nat) : Stmt := PySem.Challenge.pw_fewpans_k10_codes_run.main.body.getD i (.Pass ⟨0, 0, 0, 0⟩)
abbrev st0 : Stmt := topS 2
abbrev psn0 : List Str := ["tree", "address"]
abbrev nam0 : List Str := ["tree", "address", "here", "sign"]
theorem sc0 : FnScope nam0 psn0 (defScope st0) := ⟨rfl, rfl, rfl, by decide +kernel, rfl, by decide +kernel, by decide +kernel⟩
abbrev st1 : Stmt := inClass (topS 5) 0
abbrev psn1 : List Str := ["self", "tree", "pans"]
abbrev nam1 : List Str := ["self", "tree", "pans"]
theorem sc1 : FnScope nam1 psn1 (defScope st1) := ⟨rfl, rfl, rfl, by decide +kernel, rfl, by decide +kernel, by decide +kernel⟩
abbrev st2 : Stmt := inClass (topS 5) 1
abbrev psn2 : List Str := ["self", "row", "at"]
abbrev nam2 : List Str := ["self", "row", "at"]
theorem sc2 : FnScope nam2 psn2 (defScope st2) := ⟨rfl, rfl, rfl, by decide +kernel, rfl, by decide +kernel, by decide +kernel⟩
abbrev st3 : Stmt := inClass (topS 5) 2
abbrev psn3 : List Str := ["self", "pan"]
abbrev nam3 : List Str := ["self", "pan"]
theorem sc3 : FnScope nam3 psn3 (defScope st3) := ⟨rfl, rfl, rfl, by decide +kernel, rfl, by decide +kernel, by decide +kernel⟩
abbrev st4 : Stmt := inClass (topS 5) 3
abbrev psn4 : List Str := ["self", "address"]
abbrev nam4 : List Str := ["self", "address", "part"]
theorem sc4 : FnScope nam4 psn4 (defScope st4) := ⟨rfl, rfl, rfl, by decide +kernel, rfl, by decide +kernel, by decide +kernel⟩
abbrev st5 : Stmt := inClass (topS 5) 4
abbrev psn5 : List Str := ["self", "deed"]
abbrev nam5 : List Str := ["self", "deed", "address"]
theorem sc5 : FnScope nam5 psn5 (defScope st5) := ⟨rfl, rfl, rfl, by decide +kernel, rfl, by decide +kernel, by decide +kernel⟩
abbrev st6 : Stmt := inClass (topS 5) 5
abbrev psn6 : List Str := ["self", "deed"]
abbrev nam6 : List Str := ["self", "deed", "held"]
theorem sc6 : FnScope nam6 psn6 (defScope st6) := ⟨rfl, rfl, rfl, by decide +kernel, rfl, by decide +kernel, by decide +kernel⟩
abbrev st7 : Stmt := topS 6
abbrev psn7 : List Str := ["tree", "code", "pans"]
abbrev nam7 : List Str := ["tree", "code", "pans", "kitchen", "deed"]
theorem sc7 : FnScope nam7 psn7 (defScope st7) := ⟨rfl, rfl, rfl, by decide +kernel, rfl, by decide +kernel, by decide +kernel⟩
abbrev st8 : Stmt := topS 7
abbrev psn8 : List Str := ["code"]
abbrev nam8 : List Str := ["code", "deed"]
theorem sc8 : FnScope nam8 psn8 (defScope st8) := ⟨rfl, rfl, rfl, by decide +kernel, rfl, by decide +kernel, by decide +kernel⟩
abbrev st9 : Stmt := topS 9
abbrev psn9 : List Str := ["_law_script", "_law_k"]
abbrev nam9 : List Str := ["_law_script", "_law_k"]
theorem sc9 : FnScope nam9 psn9 (defScope st9) := ⟨rfl, rfl, rfl, by decide +kernel, rfl, by decide +kernel, by decide +kernel⟩
abbrev st10 : Stmt := topS 10
abbrev psn10 : List Str := ["_law_script", "_law_k"]
abbrev nam10 : List Str := ["_law_script", "_law_k", "_law_drawn_here"]
theorem sc10 : FnScope nam10 psn10 (defScope st10) := ⟨rfl, rfl, rfl, by decide +kernel, rfl, by decide +kernel, by decide +kernel⟩
abbrev st11 : Stmt := topS 11
abbrev psn11 : List Str := ["_law_number", "_law_k"]
abbrev nam11 : List Str := ["_law_number", "_law_k", "_law_drawn_here"]
theorem sc11 : FnScope nam11 psn11 (defScope st11) := ⟨rfl, rfl, rfl, by decide +kernel, rfl, by decide +kernel, by decide +kernel⟩
abbrev st12 : Stmt := topS 12
abbrev psn12 : List Str := ["_law_number", "_law_many", "_law_kind"]
abbrev nam12 : List Str := ["_law_number", "_law_many", "_law_kind", "_law_first", "_law_one", "_law_other"]
theorem sc12 : FnScope nam12 psn12 (defScope st12) := ⟨rfl, rfl, rfl, by decide +kernel, rfl, by decide +kernel, by decide +kernel⟩
abbrev st13 : Stmt := topS 13
abbrev psn13 : List Str := ["_law_number"]
abbrev nam13 : List Str := ["_law_number"]
theorem sc13 : FnScope nam13 psn13 (defScope st13) := ⟨rfl, rfl, rfl, by decide +kernel, rfl, by decide +kernel, by decide +kernel⟩
abbrev st14 : Stmt := topS 14
abbrev psn14 : List Str := ["_law_tree_here", "_law_address"]
abbrev nam14 : List Str := ["_law_tree_here", "_law_address", "_law_here", "_law_sign"]
theorem sc14 : FnScope nam14 psn14 (defScope st14) := ⟨rfl, rfl, rfl, by decide +kernel, rfl, by decide +kernel, by decide +kernel⟩
abbrev st15 : Stmt := topS 15
abbrev psn15 : List Str := ["_law_tree_here", "_law_address"]
abbrev nam15 : List Str := ["_law_tree_here", "_law_address"]
theorem sc15 : FnScope nam15 psn15 (defScope st15) := ⟨rfl, rfl, rfl, by decide +kernel, rfl, by decide +kernel, by decide +kernel⟩
abbrev st16 : Stmt := topS 16
abbrev psn16 : List Str := ["_law_row", "_law_at"]
abbrev nam16 : List Str := ["_law_row", "_law_at"]
theorem sc16 : FnScope nam16 psn16 (defScope st16) := ⟨rfl, rfl, rfl, by decide +kernel, rfl, by decide +kernel, by decide +kernel⟩
abbrev st17 : Stmt := topS 17
abbrev psn17 : List Str := ["_law_tree_here", "_law_row", "_law_shelf", "_law_deed"]
abbrev nam17 : List Str := ["_law_tree_here", "_law_row", "_law_shelf", "_law_deed", "_law_part_here"]
theorem sc17 : FnScope nam17 psn17 (defScope st17) := ⟨rfl, rfl, rfl, by decide +kernel, rfl, by decide +kernel, by decide +kernel⟩
abbrev st18 : Stmt := topS 18
abbrev psn18 : List Str := ["_law_tree_here", "_law_code_here", "_law_pans"]
abbrev nam18 : List Str := ["_law_tree_here", "_law_code_here", "_law_pans", "_law_row", "_law_shelf", "_law_deed", "_law_held_here", "_law_goal"]
theorem sc18 : FnScope nam18 psn18 (defScope st18) := ⟨rfl, rfl, rfl, by decide +kernel, rfl, by decide +kernel, by decide +kernel⟩
abbrev st19 : Stmt := topS 19
abbrev psn19 : List Str := ["_law_tree_here", "_law_address", "_law_free", "_law_number", "_law_every"]
abbrev nam19 : List Str := ["_law_tree_here", "_law_address", "_law_free", "_law_number", "_law_every", "_law_part_here", "_law_drawn_here", "_law_first", "_law_second", "_law_simple", "_law_code_here", "_law_pair", "_law_place"]
theorem sc19 : FnScope nam19 psn19 (defScope st19) := ⟨rfl, rfl, rfl, by decide +kernel, rfl, by decide +kernel, by decide +kernel⟩
abbrev st20 : Stmt := topS 20
abbrev psn20 : List Str := ["_law_tree_here", "_law_number", "_law_pans"]
abbrev nam20 : List Str := ["_law_tree_here", "_law_number", "_law_pans", "_law_every", "_law_code_here", "_law_some"]
theorem sc20 : FnScope nam20 psn20 (defScope st20) := ⟨rfl, rfl, rfl, by decide +kernel, rfl, by decide +kernel, by decide +kernel⟩
abbrev st21 : Stmt := topS 21
abbrev psn21 : List Str := ["_law_code_here", "_law_number"]
abbrev nam21 : List Str := ["_law_code_here", "_law_number", "_law_at", "_law_deed", "_law_kind", "_law_turned_two", "_law_part_here", "_law_other", "_law_here", "_law_new"]
theorem sc21 : FnScope nam21 psn21 (defScope st21) := ⟨rfl, rfl, rfl, by decide +kernel, rfl, by decide +kernel, by decide +kernel⟩
abbrev st22 : Stmt := topS 22
abbrev psn22 : List Str := ["_law_script"]
abbrev nam22 : List Str := ["_law_script", "_law_tree_here", "_law_pans", "_law_code_here", "_law_k", "_law_found", "_law_deed", "_law_first"]
theorem sc22 : FnScope nam22 psn22 (defScope st22) := ⟨rfl, rfl, rfl, by decide +kernel, rfl, by decide +kernel, by decide +kernel⟩
abbrev vs_JOINS : List V := [V.str "plus", V.str "less", V.str "times"]
theorem at_JOINS {K : PySem.W.Frag} (L : List Addr) (H : Hp) : Ats K L H vs_JOINS [.str [112, 108, 117, 115], .str [108, 101, 115, 115], .str [116, 105, 109, 101, 115]] := .cons (at_str [112, 108, 117, 115] (by decide +kernel)) (.cons (at_str [108, 101, 115, 115] (by decide +kernel)) (.cons (at_str [116, 105, 109, 101, 115] (by decide +kernel)) (.nil)))
structure Facts (K : PySem.W.Frag) (mg : Str → Option Value) (fa : Nat → Addr) (fd : Nat → FuncData) (cl : Nat → Addr) : Prop where
  F0 : Fun K "part_at" "part_at" st0 (fa 0) (fd 0)
  b0 : Binds K (fd 0) psn0 []
  m0 : mg "part_at" = some (.ref (fa 0))
  F1 : Fun K "__init__" "Kitchen.__init__" st1 (fa 1) (fd 1)
  b1 : Binds K (fd 1) psn1 []
  F2 : Fun K "holds" "Kitchen.holds" st2 (fa 2) (fd 2)
  b2 : Binds K (fd 2) psn2 []
  me2 : Meth K (cl 0) "holds" (fa 2)
  F3 : Fun K "is_pan" "Kitchen.is_pan" st3 (fa 3) (fd 3)
  b3 : Binds K (fd 3) psn3 []
  me3 : Meth K (cl 0) "is_pan" (fa 3)
  F4 : Fun K "word_at" "Kitchen.word_at" st4 (fa 4) (fd 4)
  b4 : Binds K (fd 4) psn4 []
  me4 : Meth K (cl 0) "word_at" (fa 4)
  F5 : Fun K "found" "Kitchen.found" st5 (fa 5) (fd 5)
  b5 : Binds K (fd 5) psn5 []
  me5 : Meth K (cl 0) "found" (fa 5)
  F6 : Fun K "do" "Kitchen.do" st6 (fa 6) (fd 6)
  b6 : Binds K (fd 6) psn6 []
  me6 : Meth K (cl 0) "do" (fa 6)
  F7 : Fun K "run" "run" st7 (fa 7) (fd 7)
  b7 : Binds K (fd 7) psn7 []
  m7 : mg "run" = some (.ref (fa 7))
  F8 : Fun K "shelved" "shelved" st8 (fa 8) (fd 8)
  b8 : Binds K (fd 8) psn8 []
  m8 : mg "shelved" = some (.ref (fa 8))
  F9 : Fun K "_law_cell_at" "_law_cell_at" st9 (fa 9) (fd 9)
  b9 : Binds K (fd 9) psn9 []
  m9 : mg "_law_cell_at" = some (.ref (fa 9))
  F10 : Fun K "_law_mixed" "_law_mixed" st10 (fa 10) (fd 10)
  b10 : Binds K (fd 10) psn10 []
  m10 : mg "_law_mixed" = some (.ref (fa 10))
  F11 : Fun K "_law_drawn" "_law_drawn" st11 (fa 11) (fd 11)
  b11 : Binds K (fd 11) psn11 []
  m11 : mg "_law_drawn" = some (.ref (fa 11))
  F12 : Fun K "_law_tree" "_law_tree" st12 (fa 12) (fd 12)
  b12 : Binds K (fd 12) psn12 []
  m12 : mg "_law_tree" = some (.ref (fa 12))
  F13 : Fun K "_law_drawn_tree" "_law_drawn_tree" st13 (fa 13) (fd 13)
  b13 : Binds K (fd 13) psn13 []
  m13 : mg "_law_drawn_tree" = some (.ref (fa 13))
  F14 : Fun K "_law_part" "_law_part" st14 (fa 14) (fd 14)
  b14 : Binds K (fd 14) psn14 []
  m14 : mg "_law_part" = some (.ref (fa 14))
  F15 : Fun K "_law_addresses" "_law_addresses" st15 (fa 15) (fd 15)
  b15 : Binds K (fd 15) psn15 []
  m15 : mg "_law_addresses" = some (.ref (fa 15))
  F16 : Fun K "_law_held" "_law_held" st16 (fa 16) (fd 16)
  b16 : Binds K (fd 16) psn16 []
  m16 : mg "_law_held" = some (.ref (fa 16))
  F17 : Fun K "_law_brings" "_law_brings" st17 (fa 17) (fd 17)
  b17 : Binds K (fd 17) psn17 []
  m17 : mg "_law_brings" = some (.ref (fa 17))
  F18 : Fun K "_law_run" "_law_run" st18 (fa 18) (fd 18)
  b18 : Binds K (fd 18) psn18 []
  m18 : mg "_law_run" = some (.ref (fa 18))
  F19 : Fun K "_law_work" "_law_work" st19 (fa 19) (fd 19)
  b19 : Binds K (fd 19) psn19 []
  m19 : mg "_law_work" = some (.ref (fa 19))
  F20 : Fun K "_law_code" "_law_code" st20 (fa 20) (fd 20)
  b20 : Binds K (fd 20) psn20 []
  m20 : mg "_law_code" = some (.ref (fa 20))
  F21 : Fun K "_law_changed" "_law_changed" st21 (fa 21) (fd 21)
  b21 : Binds K (fd 21) psn21 []
  m21 : mg "_law_changed" = some (.ref (fa 21))
  F22 : Fun K "law" "law" st22 (fa 22) (fd 22)
  b22 : Binds K (fd 22) psn22 []
  m22 : mg "law" = some (.ref (fa 22))
  zint : mg "int" = none
  zisinstance : mg "isinstance" = none
  zlen : mg "len" = none
  zlist : mg "list" = none
  zrange : mg "range" = none
  zstr : mg "str" = none
  ztuple : mg "tuple" = none
  gJOINS : ∃ t, mg "JOINS" = some (.ref t) ∧ KTup K t vs_JOINS
  gPLACES : ∃ t, mg "PLACES" = some (.int 41 t)
  mgKitchen : mg "Kitchen" = some (.ref (cl 0))
  cl0 : Cls K (cl 0)
  mk0 : Mk K (cl 0) (fa 1)
  at_pans : ∀ c, Cls K (cl c) ∧ NoAttr K (cl c) "pans"
  at_shelf : ∀ c, Cls K (cl c) ∧ NoAttr K (cl c) "shelf"
  at_tree : ∀ c, Cls K (cl c) ∧ NoAttr K (cl c) "tree"
structure Good (P : Program) (w : World) (K : PySem.W.Frag) (mg : Str → Option Value) (base : Heap) (fa : Nat → Addr) (fd : Nat → FuncData) (cl : Nat → Addr) (n : Nat) : Prop where
  g0 : FnOk P w K mg base CX0 (2 * n) (fa 0) (fd 0) psn0 (spF K cl psn0.length (callF prog n 0))
  g1 : FnOk P w K mg base CX0 (2 * n) (fa 1) (fd 1) psn1 (spF K cl psn1.length (callF prog n 1))
  g2 : FnOk P w K mg base CX0 (2 * n) (fa 2) (fd 2) psn2 (spF K cl psn2.length (callF prog n 2))
  g3 : FnOk P w K mg base CX0 (2 * n) (fa 3) (fd 3) psn3 (spF K cl psn3.length (callF prog n 3))
  g4 : FnOk P w K mg base CX0 (2 * n) (fa 4) (fd 4) psn4 (spF K cl psn4.length (callF prog n 4))
  g5 : FnOk P w K mg base CX0 (2 * n) (fa 5) (fd 5) psn5 (spF K cl psn5.length (callF prog n 5))
  g6 : FnOk P w K mg base CX0 (2 * n) (fa 6) (fd 6) psn6 (spF K cl psn6.length (callF prog n 6))
  g7 : FnOk P w K mg base CX0 (2 * n) (fa 7) (fd 7) psn7 (spF K cl psn7.length (callF prog n 7))
  g8 : FnOk P w K mg base CX0 (2 * n) (fa 8) (fd 8) psn8 (spF K cl psn8.length (callF prog n 8))
  g9 : FnOk P w K mg base CX0 (2 * n) (fa 9) (fd 9) psn9 (spF K cl psn9.length (callF prog n 9))
  g10 : FnOk P w K mg base CX0 (2 * n) (fa 10) (fd 10) psn10 (spF K cl psn10.length (callF prog n 10))
  g11 : FnOk P w K mg base CX0 (2 * n) (fa 11) (fd 11) psn11 (spF K cl psn11.length (callF prog n 11))
  g12 : FnOk P w K mg base CX0 (2 * n) (fa 12) (fd 12) psn12 (spF K cl psn12.length (callF prog n 12))
  g13 : FnOk P w K mg base CX0 (2 * n) (fa 13) (fd 13) psn13 (spF K cl psn13.length (callF prog n 13))
  g14 : FnOk P w K mg base CX0 (2 * n) (fa 14) (fd 14) psn14 (spF K cl psn14.length (callF prog n 14))
  g15 : FnOk P w K mg base CX0 (2 * n) (fa 15) (fd 15) psn15 (spF K cl psn15.length (callF prog n 15))
  g16 : FnOk P w K mg base CX0 (2 * n) (fa 16) (fd 16) psn16 (spF K cl psn16.length (callF prog n 16))
  g17 : FnOk P w K mg base CX0 (2 * n) (fa 17) (fd 17) psn17 (spF K cl psn17.length (callF prog n 17))
  g18 : FnOk P w K mg base CX0 (2 * n) (fa 18) (fd 18) psn18 (spF K cl psn18.length (callF prog n 18))
  g19 : FnOk P w K mg base CX0 (2 * n) (fa 19) (fd 19) psn19 (spF K cl psn19.length (callF prog n 19))
  g20 : FnOk P w K mg base CX0 (2 * n) (fa 20) (fd 20) psn20 (spF K cl psn20.length (callF prog n 20))
  g21 : FnOk P w K mg base CX0 (2 * n) (fa 21) (fd 21) psn21 (spF K cl psn21.length (callF prog n 21))
  g22 : FnOk P w K mg base CX0 (2 * n) (fa 22) (fd 22) psn22 (spF K cl psn22.length (callF prog n 22))
section
variable {P : Program} {w : World} {K : PySem.W.Frag} {mg : Str → Option Value} {base : Heap} {fa : Nat → Addr} {fd : Nat → FuncData} {cl : Nat → Addr} {n : Nat}
theorem ok0 (T : Facts K mg fa fd cl) (g : Good P w K mg base fa fd cl n) : FnOk P w K mg base CX0 (2 * (n + 1)) (fa 0) (fd 0) psn0 (spF K cl psn0.length (callF prog (n + 1) 0)) := by
  refine fn_ok (df := df_part_at) T.F0 sc0 rfl rfl rfl (fun cdv A outer s H E hr => ?_)
  have hu := hr.units
  have hu2 : (A.deeper (envOfC "part_at" (defScope st0) s.heap.objs.size (fa 0) cdv)).units + 65 < cLine := by have := hr.un; omega
  exact simB_cons (sims_asg 2 sc0.nd (sim_var 0))
    (simB_cons (sims_for 3 PassesOwn.never rfl sc0.nd (simI_of (sim_var 1)) (simB_cons (sims_if (simT_W (simW_or (simT_cmp (s_eq hu) (sim_idx (sim_var 2) (sim_int)) (sim_str [110, 117, 109, 98, 101, 114])) (simW_or1 (simT_cmp (s_nmem hu2) (sim_var 3) (sim_str [108, 114]))))) (simB_cons (sims_ret (sim_non))
    (simB_nil)) (simB_nil))
    (simB_cons (sims_asg 2 sc0.nd (sim_idx (sim_var 2) (sim_bin s_add (sim_int) (sim_unT s_int (sim_cmp (s_eq hu) (sim_var 3) (sim_str [114])) rfl T.zint boot_int))))
    (simB_nil))))
    (simB_cons (sims_ret (sim_var 2))
    (simB_nil)))
theorem ok1 (T : Facts K mg fa fd cl) (g : Good P w K mg base fa fd cl n) : FnOk P w K mg base CX0 (2 * (n + 1)) (fa 1) (fd 1) psn1 (spF K cl psn1.length (callF prog (n + 1) 1)) := by
  obtain ⟨tPLACES, hPLACES⟩ := T.gPLACES
  refine fn_ok (df := df_Kitchen_init) T.F1 sc1 rfl rfl rfl (fun cdv A outer s H E hr => ?_)
  have hu := hr.units
  have hu2 : (A.deeper (envOfC "Kitchen.__init__" (defScope st1) s.heap.objs.size (fa 1) cdv)).units + 65 < cLine := by have := hr.un; omega
  exact simB_cons (sims_setA (n := [116, 114, 101, 101]) (sim_var 0) (sim_var 1) (by decide +kernel) T.at_tree)
    (simB_cons (sims_setNew 0 (n := [112, 97, 110, 115]) (simN_rep (sim_lst (simA_cons (sim_non) (simA_nil))) (sim_var 2)) (by decide +kernel) T.at_pans)
    (simB_cons (sims_setNew 0 (n := [115, 104, 101, 108, 102]) (simN_rep (sim_lst (simA_cons (sim_non) (simA_nil))) (sim_gint rfl hPLACES)) (by decide +kernel) T.at_shelf)
    (simB_nil)))
theorem ok2 (T : Facts K mg fa fd cl) (g : Good P w K mg base fa fd cl n) : FnOk P w K mg base CX0 (2 * (n + 1)) (fa 2) (fd 2) psn2 (spF K cl psn2.length (callF prog (n + 1) 2)) := by
  refine fn_ok (df := df_Kitchen_holds) T.F2 sc2 rfl rfl rfl (fun cdv A outer s H E hr => ?_)
  have hu := hr.units
  have hu2 : (A.deeper (envOfC "Kitchen.holds" (defScope st2) s.heap.objs.size (fa 2) cdv)).units + 65 < cLine := by have := hr.un; omega
  exact simB_cons (sims_if (simT_not (simT_chain s_le s_lt (sim_int) (sim_var 2) (sim_unB s_len (sim_var 1) rfl T.zlen boot_len))) (simB_cons (sims_ret (sim_non))
    (simB_nil)) (simB_nil))
    (simB_cons (sims_ret (sim_idx (sim_var 1) (sim_var 2)))
    (simB_nil))
theorem ok3 (T : Facts K mg fa fd cl) (g : Good P w K mg base fa fd cl n) : FnOk P w K mg base CX0 (2 * (n + 1)) (fa 3) (fd 3) psn3 (spF K cl psn3.length (callF prog (n + 1) 3)) := by
  refine fn_ok (df := df_Kitchen_is_pan) T.F3 sc3 rfl rfl rfl (fun cdv A outer s H E hr => ?_)
  have hu := hr.units
  have hu2 : (A.deeper (envOfC "Kitchen.is_pan" (defScope st3) s.heap.objs.size (fa 3) cdv)).units + 65 < cLine := by have := hr.un; omega
  exact simB_cons (sims_ret (sim_chain s_le s_lt (sim_int) (sim_var 1) (sim_unB s_len (sim_attr (n := [112, 97, 110, 115]) (sim_var 0) (by decide +kernel) T.at_pans) rfl T.zlen boot_len)))
    (simB_nil)
theorem ok4 (T : Facts K mg fa fd cl) (g : Good P w K mg base fa fd cl n) : FnOk P w K mg base CX0 (2 * (n + 1)) (fa 4) (fd 4) psn4 (spF K cl psn4.length (callF prog (n + 1) 4)) := by
  refine fn_ok (df := df_Kitchen_word_at) T.F4 sc4 rfl rfl rfl (fun cdv A outer s H E hr => ?_)
  have hu := hr.units
  have hu2 : (A.deeper (envOfC "Kitchen.word_at" (defScope st4) s.heap.objs.size (fa 4) cdv)).units + 65 < cLine := by have := hr.un; omega
  exact simB_cons (sims_asg 2 sc4.nd (sim_call (ps := psn0) ⟨g.g0, T.b0, T.F0.kp⟩ (hr.mono (by omega)) rfl T.m0 (simA_cons (sim_attr (n := [116, 114, 101, 101]) (sim_var 0) (by decide +kernel) T.at_tree) (simA_cons (sim_var 1) (simA_nil)))))
    (simB_cons (sims_if (simT_cmp s_is (sim_var 2) (sim_non)) (simB_cons (sims_ret (sim_str []))
    (simB_nil)) (simB_nil))
    (simB_cons (sims_ret (sim_idx (sim_var 2) (sim_int)))
    (simB_nil)))
theorem ok5 (T : Facts K mg fa fd cl) (g : Good P w K mg base fa fd cl n) : FnOk P w K mg base CX0 (2 * (n + 1)) (fa 5) (fd 5) psn5 (spF K cl psn5.length (callF prog (n + 1) 5)) := by
  obtain ⟨tJOINS, hJOINS, kJOINS⟩ := T.gJOINS
  refine fn_ok (df := df_Kitchen_found) T.F5 sc5 rfl rfl rfl (fun cdv A outer s H E hr => ?_)
  have hu := hr.units
  have hu2 : (A.deeper (envOfC "Kitchen.found" (defScope st5) s.heap.objs.size (fa 5) cdv)).units + 65 < cLine := by have := hr.un; omega
  exact simB_cons (sims_if (simT_cmp (s_eq hu) (sim_idx (sim_var 1) (sim_int)) (sim_str [112, 117, 116])) (simB_cons (sims_if (simT_cmp (s_eq hu) (sim_meth (cc := 0) (mt := [119, 111, 114, 100, 95, 97, 116]) (ps := psn4) ⟨g.g4, T.b4, T.F4.kp⟩ (hr.mono (by omega)) T.cl0 T.me4 (by decide +kernel) (sim_var 0) (simA_cons (sim_idx (sim_var 1) (sim_int)) (simA_nil))) (sim_str [110, 117, 109, 98, 101, 114])) (simB_cons (sims_ret (sim_idx (sim_var 1) (sim_int)))
    (simB_nil)) (simB_nil))
    (simB_cons (sims_ret (sim_non))
    (simB_nil))) (simB_nil))
    (simB_cons (sims_if (simT_cmp (s_eq hu) (sim_idx (sim_var 1) (sim_int)) (sim_str [102, 101, 116, 99, 104])) (simB_cons (sims_ret (sim_meth (cc := 0) (mt := [104, 111, 108, 100, 115]) (ps := psn2) ⟨g.g2, T.b2, T.F2.kp⟩ (hr.mono (by omega)) T.cl0 T.me2 (by decide +kernel) (sim_var 0) (simA_cons (sim_attr (n := [115, 104, 101, 108, 102]) (sim_var 0) (by decide +kernel) T.at_shelf) (simA_cons (sim_idx (sim_var 1) (sim_int)) (simA_nil)))))
    (simB_nil)) (simB_nil))
    (simB_cons (sims_asg 2 sc5.nd (sim_idx (sim_var 1) (sim_int)))
    (simB_cons (sims_if (simT_W (simW_or (simT_cmp (s_nmem hu2) (sim_meth (cc := 0) (mt := [119, 111, 114, 100, 95, 97, 116]) (ps := psn4) ⟨g.g4, T.b4, T.F4.kp⟩ (hr.mono (by omega)) T.cl0 T.me4 (by decide +kernel) (sim_var 0) (simA_cons (sim_var 2) (simA_nil))) (sim_gtup rfl hJOINS kJOINS at_JOINS)) (simW_or1 (simT_cmp (s_ne hu) (sim_meth (cc := 0) (mt := [104, 111, 108, 100, 115]) (ps := psn2) ⟨g.g2, T.b2, T.F2.kp⟩ (hr.mono (by omega)) T.cl0 T.me2 (by decide +kernel) (sim_var 0) (simA_cons (sim_attr (n := [112, 97, 110, 115]) (sim_var 0) (by decide +kernel) T.at_pans) (simA_cons (sim_idx (sim_var 1) (sim_int)) (simA_nil)))) (sim_bin s_add (sim_var 2) (sim_str [108])))))) (simB_cons (sims_ret (sim_non))
    (simB_nil)) (simB_nil))
    (simB_cons (sims_if (simT_cmp (s_ne hu) (sim_meth (cc := 0) (mt := [104, 111, 108, 100, 115]) (ps := psn2) ⟨g.g2, T.b2, T.F2.kp⟩ (hr.mono (by omega)) T.cl0 T.me2 (by decide +kernel) (sim_var 0) (simA_cons (sim_attr (n := [112, 97, 110, 115]) (sim_var 0) (by decide +kernel) T.at_pans) (simA_cons (sim_idx (sim_var 1) (sim_int)) (simA_nil)))) (sim_bin s_add (sim_var 2) (sim_str [114]))) (simB_cons (sims_ret (sim_non))
    (simB_nil)) (simB_nil))
    (simB_cons (sims_ret (sim_var 2))
    (simB_nil))))))
theorem ok6 (T : Facts K mg fa fd cl) (g : Good P w K mg base fa fd cl n) : FnOk P w K mg base CX0 (2 * (n + 1)) (fa 6) (fd 6) psn6 (spF K cl psn6.length (callF prog (n + 1) 6)) := by
  obtain ⟨tPLACES, hPLACES⟩ := T.gPLACES
  refine fn_ok (df := df_Kitchen_do) T.F6 sc6 rfl rfl rfl (fun cdv A outer s H E hr => ?_)
  have hu := hr.units
  have hu2 : (A.deeper (envOfC "Kitchen.do" (defScope st6) s.heap.objs.size (fa 6) cdv)).units + 65 < cLine := by have := hr.un; omega
  exact simB_cons (sims_if (simT_cmp (s_eq hu) (sim_idx (sim_var 1) (sim_int)) (sim_str [115, 104, 101, 108, 118, 101])) (simB_cons (sims_asg 2 sc6.nd (sim_meth (cc := 0) (mt := [104, 111, 108, 100, 115]) (ps := psn2) ⟨g.g2, T.b2, T.F2.kp⟩ (hr.mono (by omega)) T.cl0 T.me2 (by decide +kernel) (sim_var 0) (simA_cons (sim_attr (n := [112, 97, 110, 115]) (sim_var 0) (by decide +kernel) T.at_pans) (simA_cons (sim_idx (sim_var 1) (sim_int)) (simA_nil)))))
    (simB_cons (sims_if (simT_W (simW_or (simT_cmp s_is (sim_var 2) (sim_non)) (simW_or1 (simT_not (simT_chain s_le s_lt (sim_int) (sim_idx (sim_var 1) (sim_int)) (sim_gint rfl hPLACES)))))) (simB_cons (sims_ret (sim_bl))
    (simB_nil)) (simB_nil))
    (simB_cons (sims_setI (sim_attr (n := [115, 104, 101, 108, 102]) (sim_var 0) (by decide +kernel) T.at_shelf) (sim_idx (sim_var 1) (sim_int)) (sim_var 2))
    (simB_cons (sims_ret (sim_bl))
    (simB_nil))))) (simB_nil))
    (simB_cons (sims_asg 2 sc6.nd (sim_meth (cc := 0) (mt := [102, 111, 117, 110, 100]) (ps := psn5) ⟨g.g5, T.b5, T.F5.kp⟩ (hr.mono (by omega)) T.cl0 T.me5 (by decide +kernel) (sim_var 0) (simA_cons (sim_var 1) (simA_nil))))
    (simB_cons (sims_if (simT_W (simW_or (simT_cmp s_is (sim_var 2) (sim_non)) (simW_or1 (simT_not (simT_val (sim_meth (cc := 0) (mt := [105, 115, 95, 112, 97, 110]) (ps := psn3) ⟨g.g3, T.b3, T.F3.kp⟩ (hr.mono (by omega)) T.cl0 T.me3 (by decide +kernel) (sim_var 0) (simA_cons (sim_idx (sim_var 1) (sim_int)) (simA_nil)))))))) (simB_cons (sims_ret (sim_bl))
    (simB_nil)) (simB_nil))
    (simB_cons (sims_setI (sim_attr (n := [112, 97, 110, 115]) (sim_var 0) (by decide +kernel) T.at_pans) (sim_idx (sim_var 1) (sim_int)) (sim_var 2))
    (simB_cons (sims_ret (sim_bl))
    (simB_nil)))))
theorem ok7 (T : Facts K mg fa fd cl) (g : Good P w K mg base fa fd cl n) : FnOk P w K mg base CX0 (2 * (n + 1)) (fa 7) (fd 7) psn7 (spF K cl psn7.length (callF prog (n + 1) 7)) := by
  refine fn_ok (df := df_run) T.F7 sc7 rfl rfl rfl (fun cdv A outer s H E hr => ?_)
  have hu := hr.units
  have hu2 : (A.deeper (envOfC "run" (defScope st7) s.heap.objs.size (fa 7) cdv)).units + 65 < cLine := by have := hr.un; omega
  exact simB_cons (sims_make 3 (cc := 0) (ps := psn1) ⟨g.g1, T.b1, T.F1.kp⟩ T.mk0 (hr.mono (by omega)) rfl T.mgKitchen sc7.nd (simA_cons (sim_var 0) (simA_cons (sim_var 2) (simA_nil))))
    (simB_cons (sims_for 4 PassesOwn.never rfl sc7.nd (simI_of (sim_var 1)) (simB_cons (sims_ifNot (cc := 0) (mt := [100, 111]) (ps := psn6) ⟨g.g6, T.b6, T.F6.kp⟩ (hr.mono (by omega)) T.cl0 T.me6 (by decide +kernel) (sim_var 3) (simA_cons (sim_var 4) (simA_nil)) (simB_cons (sims_ret (sim_non))
    (simB_nil)))
    (simB_nil)))
    (simB_cons (sims_ret (sim_unT s_tup (sim_attr (n := [112, 97, 110, 115]) (sim_var 3) (by decide +kernel) T.at_pans) rfl T.ztuple boot_tuple))
    (simB_nil)))
theorem ok8 (T : Facts K mg fa fd cl) (g : Good P w K mg base fa fd cl n) : FnOk P w K mg base CX0 (2 * (n + 1)) (fa 8) (fd 8) psn8 (spF K cl psn8.length (callF prog (n + 1) 8)) := by
  refine fn_ok (df := df_shelved) T.F8 sc8 rfl rfl rfl (fun cdv A outer s H E hr => ?_)
  have hu := hr.units
  have hu2 : (A.deeper (envOfC "shelved" (defScope st8) s.heap.objs.size (fa 8) cdv)).units + 65 < cLine := by have := hr.un; omega
  exact simB_cons (sims_ret (sim_unB s_len (sim_filt (i := 1) (x := "deed") rfl sc8.nd rfl (blkOk_by (N := nam8) (sc := defScope st8) (by decide +kernel)) (simI_of (sim_var 0)) (fun _ _ _ _ _ => simT_cmp (s_eq hu) (sim_idx (sim_var 1) (sim_int)) (sim_str [115, 104, 101, 108, 118, 101])) (fun _ _ _ _ _ => rfl)) rfl T.zlen boot_len))
    (simB_nil)
theorem ok9 (T : Facts K mg fa fd cl) (g : Good P w K mg base fa fd cl n) : FnOk P w K mg base CX0 (2 * (n + 1)) (fa 9) (fd 9) psn9 (spF K cl psn9.length (callF prog (n + 1) 9)) := by
  refine fn_ok (df := df_Lcell_at) T.F9 sc9 rfl rfl rfl (fun cdv A outer s H E hr => ?_)
  have hu := hr.units
  have hu2 : (A.deeper (envOfC "_law_cell_at" (defScope st9) s.heap.objs.size (fa 9) cdv)).units + 65 < cLine := by have := hr.un; omega
  exact simB_cons (sims_if (simT_cmp s_lt (sim_var 1) (sim_unB s_len (sim_var 0) rfl T.zlen boot_len)) (simB_cons (sims_ret (sim_idx (sim_var 0) (sim_var 1)))
    (simB_nil)) (simB_nil))
    (simB_cons (sims_ret (sim_int))
    (simB_nil))
theorem ok10 (T : Facts K mg fa fd cl) (g : Good P w K mg base fa fd cl n) : FnOk P w K mg base CX0 (2 * (n + 1)) (fa 10) (fd 10) psn10 (spF K cl psn10.length (callF prog (n + 1) 10)) := by
  refine fn_ok (df := df_Lmixed) T.F10 sc10 rfl rfl rfl (fun cdv A outer s H E hr => ?_)
  have hu := hr.units
  have hu2 : (A.deeper (envOfC "_law_mixed" (defScope st10) s.heap.objs.size (fa 10) cdv)).units + 65 < cLine := by have := hr.un; omega
  exact simB_cons (sims_asg 2 sc10.nd (sim_bin s_mod (sim_bin s_mul (sim_bin s_add (sim_bin s_add (sim_call (ps := psn9) ⟨g.g9, T.b9, T.F9.kp⟩ (hr.mono (by omega)) rfl T.m9 (simA_cons (sim_var 0) (simA_cons (sim_var 1) (simA_nil)))) (sim_bin s_mul (sim_int) (sim_var 1))) (sim_int)) (sim_int)) (sim_int)))
    (simB_cons (sims_ret (sim_bin s_mod (sim_bin s_add (sim_bin s_add (sim_bin s_mul (sim_var 2) (sim_var 2)) (sim_bin s_mul (sim_int) (sim_var 2))) (sim_var 1)) (sim_int)))
    (simB_nil))
theorem ok11 (T : Facts K mg fa fd cl) (g : Good P w K mg base fa fd cl n) : FnOk P w K mg base CX0 (2 * (n + 1)) (fa 11) (fd 11) psn11 (spF K cl psn11.length (callF prog (n + 1) 11)) := by
  refine fn_ok (df := df_Ldrawn) T.F11 sc11 rfl rfl rfl (fun cdv A outer s H E hr => ?_)
  have hu := hr.units
  have hu2 : (A.deeper (envOfC "_law_drawn" (defScope st11) s.heap.objs.size (fa 11) cdv)).units + 65 < cLine := by have := hr.un; omega
  exact simB_cons (sims_asg 2 sc11.nd (sim_bin s_mod (sim_bin s_mul (sim_bin s_add (sim_bin s_add (sim_var 0) (sim_bin s_mul (sim_int) (sim_var 1))) (sim_int)) (sim_int)) (sim_int)))
    (simB_cons (sims_ret (sim_bin s_mod (sim_bin s_add (sim_bin s_add (sim_bin s_mul (sim_var 2) (sim_var 2)) (sim_bin s_mul (sim_int) (sim_var 2))) (sim_var 1)) (sim_int)))
    (simB_nil))
theorem ok12 (T : Facts K mg fa fd cl) (g : Good P w K mg base fa fd cl n) : FnOk P w K mg base CX0 (2 * (n + 1)) (fa 12) (fd 12) psn12 (spF K cl psn12.length (callF prog (n + 1) 12)) := by
  refine fn_ok (df := df_Ltree) T.F12 sc12 rfl rfl rfl (fun cdv A outer s H E hr => ?_)
  have hu := hr.units
  have hu2 : (A.deeper (envOfC "_law_tree" (defScope st12) s.heap.objs.size (fa 12) cdv)).units + 65 < cLine := by have := hr.un; omega
  exact simB_cons (sims_if (simT_cmp (s_eq hu) (sim_var 1) (sim_int)) (simB_cons (sims_ret (sim_tup (simA_cons (sim_str [110, 117, 109, 98, 101, 114]) (simA_cons (sim_bin s_sub (sim_bin s_mod (sim_bin s_fdiv (sim_call (ps := psn11) ⟨g.g11, T.b11, T.F11.kp⟩ (hr.mono (by omega)) rfl T.m11 (simA_cons (sim_var 0) (simA_cons (sim_int) (simA_nil)))) (sim_int)) (sim_idx (sim_tup (simA_cons (sim_int) (simA_cons (sim_int) (simA_nil)))) (sim_bin s_mod (sim_bin s_fdiv (sim_var 0) (sim_int)) (sim_int)))) (sim_idx (sim_tup (simA_cons (sim_int) (simA_cons (sim_int) (simA_nil)))) (sim_bin s_mod (sim_bin s_fdiv (sim_var 0) (sim_int)) (sim_int)))) (simA_nil)))))
    (simB_nil)) (simB_nil))
    (simB_cons (sims_asg 3 sc12.nd (sim_bin s_add (sim_int) (sim_bin s_mod (sim_bin s_fdiv (sim_var 0) (sim_int)) (sim_bin s_sub (sim_var 1) (sim_int)))))
    (simB_cons (sims_if (simT_W (simW_or (simT_cmp (s_eq hu) (sim_var 2) (sim_int)) (simW_or1 (simT_W (simW_and (simT_cmp (s_eq hu) (sim_var 2) (sim_int)) (simW_and1 (simT_cmp (s_eq hu) (sim_bin s_mod (sim_var 0) (sim_int)) (sim_int)))))))) (simB_cons (sims_asg 3 sc12.nd (sim_bin s_fdiv (sim_var 1) (sim_int)))
    (simB_nil)) (simB_nil))
    (simB_cons (sims_if (simT_cmp (s_eq hu) (sim_var 2) (sim_int)) (simB_cons (sims_asg 3 sc12.nd (sim_idx (sim_lst (simA_cons (sim_int) (simA_cons (sim_bin s_sub (sim_var 1) (sim_int)) (simA_nil)))) (sim_bin s_mod (sim_bin s_fdiv (sim_var 0) (sim_int)) (sim_int))))
    (simB_nil)) (simB_nil))
    (simB_cons (sims_asg 4 sc12.nd (sim_call (ps := psn12) ⟨g.g12, T.b12, T.F12.kp⟩ (hr.mono (by omega)) rfl T.m12 (simA_cons (sim_call (ps := psn11) ⟨g.g11, T.b11, T.F11.kp⟩ (hr.mono (by omega)) rfl T.m11 (simA_cons (sim_var 0) (simA_cons (sim_int) (simA_nil)))) (simA_cons (sim_var 3) (simA_cons (sim_var 2) (simA_nil))))))
    (simB_cons (sims_asg 5 sc12.nd (sim_call (ps := psn12) ⟨g.g12, T.b12, T.F12.kp⟩ (hr.mono (by omega)) rfl T.m12 (simA_cons (sim_call (ps := psn11) ⟨g.g11, T.b11, T.F11.kp⟩ (hr.mono (by omega)) rfl T.m11 (simA_cons (sim_var 0) (simA_cons (sim_int) (simA_nil)))) (simA_cons (sim_bin s_sub (sim_var 1) (sim_var 3)) (simA_cons (sim_var 2) (simA_nil))))))
    (simB_cons (sims_ret (sim_tup (simA_cons (sim_idx (sim_tup (simA_cons (sim_str [112, 108, 117, 115]) (simA_cons (sim_str [108, 101, 115, 115]) (simA_cons (sim_str [116, 105, 109, 101, 115]) (simA_nil))))) (sim_bin s_mod (sim_bin s_fdiv (sim_var 0) (sim_int)) (sim_int))) (simA_cons (sim_var 4) (simA_cons (sim_var 5) (simA_nil))))))
    (simB_nil)))))))
theorem ok13 (T : Facts K mg fa fd cl) (g : Good P w K mg base fa fd cl n) : FnOk P w K mg base CX0 (2 * (n + 1)) (fa 13) (fd 13) psn13 (spF K cl psn13.length (callF prog (n + 1) 13)) := by
  refine fn_ok (df := df_Ldrawn_tree) T.F13 sc13 rfl rfl rfl (fun cdv A outer s H E hr => ?_)
  have hu := hr.units
  have hu2 : (A.deeper (envOfC "_law_drawn_tree" (defScope st13) s.heap.objs.size (fa 13) cdv)).units + 65 < cLine := by have := hr.un; omega
  exact simB_cons (sims_ret (sim_call (ps := psn12) ⟨g.g12, T.b12, T.F12.kp⟩ (hr.mono (by omega)) rfl T.m12 (simA_cons (sim_bin s_fdiv (sim_var 0) (sim_int)) (simA_cons (sim_idx (sim_tup (simA_cons (sim_int) (simA_cons (sim_int) (simA_cons (sim_int) (simA_cons (sim_bin s_add (sim_int) (sim_bin s_mod (sim_bin s_fdiv (sim_var 0) (sim_int)) (sim_int))) (simA_nil)))))) (sim_bin s_mod (sim_bin s_fdiv (sim_var 0) (sim_int)) (sim_int))) (simA_cons (sim_bin s_mod (sim_var 0) (sim_int)) (simA_nil))))))
    (simB_nil)
theorem ok14 (T : Facts K mg fa fd cl) (g : Good P w K mg base fa fd cl n) : FnOk P w K mg base CX0 (2 * (n + 1)) (fa 14) (fd 14) psn14 (spF K cl psn14.length (callF prog (n + 1) 14)) := by
  refine fn_ok (df := df_Lpart) T.F14 sc14 rfl rfl rfl (fun cdv A outer s H E hr => ?_)
  have hu := hr.units
  have hu2 : (A.deeper (envOfC "_law_part" (defScope st14) s.heap.objs.size (fa 14) cdv)).units + 65 < cLine := by have := hr.un; omega
  exact simB_cons (sims_asg 2 sc14.nd (sim_var 0))
    (simB_cons (sims_for 3 PassesOwn.never rfl sc14.nd (simI_of (sim_var 1)) (simB_cons (sims_if (simT_W (simW_or (simT_cmp (s_eq hu) (sim_idx (sim_var 2) (sim_int)) (sim_str [110, 117, 109, 98, 101, 114])) (simW_or1 (simT_cmp s_lt (sim_findLR (by decide +kernel) (sim_var 3)) (sim_int))))) (simB_cons (sims_ret (sim_non))
    (simB_nil)) (simB_nil))
    (simB_cons (sims_asg 2 sc14.nd (sim_idx (sim_var 2) (sim_bin s_add (sim_findLR (by decide +kernel) (sim_var 3)) (sim_int))))
    (simB_nil))))
    (simB_cons (sims_ret (sim_var 2))
    (simB_nil)))
theorem ok15 (T : Facts K mg fa fd cl) (g : Good P w K mg base fa fd cl n) : FnOk P w K mg base CX0 (2 * (n + 1)) (fa 15) (fd 15) psn15 (spF K cl psn15.length (callF prog (n + 1) 15)) := by
  refine fn_ok (df := df_Laddresses) T.F15 sc15 rfl rfl rfl (fun cdv A outer s H E hr => ?_)
  have hu := hr.units
  have hu2 : (A.deeper (envOfC "_law_addresses" (defScope st15) s.heap.objs.size (fa 15) cdv)).units + 65 < cLine := by have := hr.un; omega
  exact simB_cons (sims_if (simT_cmp (s_eq hu) (sim_idx (sim_var 0) (sim_int)) (sim_str [110, 117, 109, 98, 101, 114])) (simB_cons (sims_ret (sim_lst (simA_cons (sim_var 1) (simA_nil))))
    (simB_nil)) (simB_nil))
    (simB_cons (sims_ret (sim_bin s_add (sim_bin s_add (sim_lst (simA_cons (sim_var 1) (simA_nil))) (sim_call (ps := psn15) ⟨g.g15, T.b15, T.F15.kp⟩ (hr.mono (by omega)) rfl T.m15 (simA_cons (sim_idx (sim_var 0) (sim_int)) (simA_cons (sim_bin s_add (sim_var 1) (sim_str [108])) (simA_nil))))) (sim_call (ps := psn15) ⟨g.g15, T.b15, T.F15.kp⟩ (hr.mono (by omega)) rfl T.m15 (simA_cons (sim_idx (sim_var 0) (sim_int)) (simA_cons (sim_bin s_add (sim_var 1) (sim_str [114])) (simA_nil))))))
    (simB_nil))
theorem ok16 (T : Facts K mg fa fd cl) (g : Good P w K mg base fa fd cl n) : FnOk P w K mg base CX0 (2 * (n + 1)) (fa 16) (fd 16) psn16 (spF K cl psn16.length (callF prog (n + 1) 16)) := by
  refine fn_ok (df := df_Lheld) T.F16 sc16 rfl rfl rfl (fun cdv A outer s H E hr => ?_)
  have hu := hr.units
  have hu2 : (A.deeper (envOfC "_law_held" (defScope st16) s.heap.objs.size (fa 16) cdv)).units + 65 < cLine := by have := hr.un; omega
  exact simB_cons (sims_if (simT_chain s_le s_lt (sim_int) (sim_var 1) (sim_unB s_len (sim_var 0) rfl T.zlen boot_len)) (simB_cons (sims_ret (sim_idx (sim_var 0) (sim_var 1)))
    (simB_nil)) (simB_nil))
    (simB_cons (sims_ret (sim_non))
    (simB_nil))
theorem ok17 (T : Facts K mg fa fd cl) (g : Good P w K mg base fa fd cl n) : FnOk P w K mg base CX0 (2 * (n + 1)) (fa 17) (fd 17) psn17 (spF K cl psn17.length (callF prog (n + 1) 17)) := by
  refine fn_ok (df := df_Lbrings) T.F17 sc17 rfl rfl rfl (fun cdv A outer s H E hr => ?_)
  have hu := hr.units
  have hu2 : (A.deeper (envOfC "_law_brings" (defScope st17) s.heap.objs.size (fa 17) cdv)).units + 65 < cLine := by have := hr.un; omega
  exact simB_cons (sims_if (simT_cmp (s_eq hu) (sim_idx (sim_var 3) (sim_int)) (sim_str [102, 101, 116, 99, 104])) (simB_cons (sims_ret (sim_call (ps := psn16) ⟨g.g16, T.b16, T.F16.kp⟩ (hr.mono (by omega)) rfl T.m16 (simA_cons (sim_var 2) (simA_cons (sim_idx (sim_var 3) (sim_int)) (simA_nil)))))
    (simB_nil)) (simB_nil))
    (simB_cons (sims_if (simT_cmp (s_eq hu) (sim_idx (sim_var 3) (sim_int)) (sim_str [115, 104, 101, 108, 118, 101])) (simB_cons (sims_ret (sim_call (ps := psn16) ⟨g.g16, T.b16, T.F16.kp⟩ (hr.mono (by omega)) rfl T.m16 (simA_cons (sim_var 1) (simA_cons (sim_idx (sim_var 3) (sim_int)) (simA_nil)))))
    (simB_nil)) (simB_nil))
    (simB_cons (sims_asg 4 sc17.nd (sim_call (ps := psn14) ⟨g.g14, T.b14, T.F14.kp⟩ (hr.mono (by omega)) rfl T.m14 (simA_cons (sim_var 0) (simA_cons (sim_idx (sim_var 3) (sim_int)) (simA_nil)))))
    (simB_cons (sims_if (simT_W (simW_or (simT_cmp s_is (sim_var 4) (sim_non)) (simW_or1 (simT_cmp (s_ne hu) (sim_cmp (s_eq hu) (sim_idx (sim_var 4) (sim_int)) (sim_str [110, 117, 109, 98, 101, 114])) (sim_cmp (s_eq hu) (sim_idx (sim_var 3) (sim_int)) (sim_str [112, 117, 116])))))) (simB_cons (sims_ret (sim_non))
    (simB_nil)) (simB_nil))
    (simB_cons (sims_if (simT_W (simW_and (simT_cmp (s_eq hu) (sim_idx (sim_var 3) (sim_int)) (sim_str [106, 111, 105, 110])) (simW_and1 (simT_cmp (s_ne hu) (sim_call (ps := psn16) ⟨g.g16, T.b16, T.F16.kp⟩ (hr.mono (by omega)) rfl T.m16 (simA_cons (sim_var 1) (simA_cons (sim_idx (sim_var 3) (sim_int)) (simA_nil)))) (sim_bin s_add (sim_idx (sim_var 3) (sim_int)) (sim_str [108])))))) (simB_cons (sims_ret (sim_non))
    (simB_nil)) (simB_nil))
    (simB_cons (sims_if (simT_W (simW_and (simT_cmp (s_eq hu) (sim_idx (sim_var 3) (sim_int)) (sim_str [106, 111, 105, 110])) (simW_and1 (simT_cmp (s_ne hu) (sim_call (ps := psn16) ⟨g.g16, T.b16, T.F16.kp⟩ (hr.mono (by omega)) rfl T.m16 (simA_cons (sim_var 1) (simA_cons (sim_idx (sim_var 3) (sim_int)) (simA_nil)))) (sim_bin s_add (sim_idx (sim_var 3) (sim_int)) (sim_str [114])))))) (simB_cons (sims_ret (sim_non))
    (simB_nil)) (simB_nil))
    (simB_cons (sims_ret (sim_idx (sim_var 3) (sim_int)))
    (simB_nil)))))))
theorem ok18 (T : Facts K mg fa fd cl) (g : Good P w K mg base fa fd cl n) : FnOk P w K mg base CX0 (2 * (n + 1)) (fa 18) (fd 18) psn18 (spF K cl psn18.length (callF prog (n + 1) 18)) := by
  refine fn_ok (df := df_Lrun) T.F18 sc18 rfl rfl rfl (fun cdv A outer s H E hr => ?_)
  have hu := hr.units
  have hu2 : (A.deeper (envOfC "_law_run" (defScope st18) s.heap.objs.size (fa 18) cdv)).units + 65 < cLine := by have := hr.un; omega
  exact simB_cons (sims_new 3 sc18.nd (simN_rep (sim_lst (simA_cons (sim_non) (simA_nil))) (sim_var 2)))
    (simB_cons (sims_new 4 sc18.nd (simN_rep (sim_lst (simA_cons (sim_non) (simA_nil))) (sim_int)))
    (simB_cons (sims_for 5 PassesOwn.never rfl sc18.nd (simI_of (sim_var 1)) (simB_cons (sims_asg 6 sc18.nd (sim_call (ps := psn17) ⟨g.g17, T.b17, T.F17.kp⟩ (hr.mono (by omega)) rfl T.m17 (simA_cons (sim_var 0) (simA_cons (sim_var 3) (simA_cons (sim_var 4) (simA_cons (sim_var 5) (simA_nil)))))))
    (simB_cons (sims_asg 7 sc18.nd (sim_idx (sim_lst (simA_cons (sim_var 3) (simA_cons (sim_var 4) (simA_nil)))) (sim_unT s_int (sim_cmp (s_eq hu) (sim_idx (sim_var 5) (sim_int)) (sim_str [115, 104, 101, 108, 118, 101])) rfl T.zint boot_int)))
    (simB_cons (sims_if (simT_W (simW_or (simT_cmp s_is (sim_var 6) (sim_non)) (simW_or1 (simT_not (simT_chain s_le s_lt (sim_int) (sim_idx (sim_var 5) (sim_int)) (sim_unB s_len (sim_var 7) rfl T.zlen boot_len)))))) (simB_cons (sims_ret (sim_non))
    (simB_nil)) (simB_nil))
    (simB_cons (sims_setI (sim_var 7) (sim_idx (sim_var 5) (sim_int)) (sim_var 6))
    (simB_nil))))))
    (simB_cons (sims_ret (sim_unT s_tup (sim_var 3) rfl T.ztuple boot_tuple))
    (simB_nil))))
theorem ok19 (T : Facts K mg fa fd cl) (g : Good P w K mg base fa fd cl n) : FnOk P w K mg base CX0 (2 * (n + 1)) (fa 19) (fd 19) psn19 (spF K cl psn19.length (callF prog (n + 1) 19)) := by
  refine fn_ok (df := df_Lwork) T.F19 sc19 rfl rfl rfl (fun cdv A outer s H E hr => ?_)
  have hu := hr.units
  have hu2 : (A.deeper (envOfC "_law_work" (defScope st19) s.heap.objs.size (fa 19) cdv)).units + 65 < cLine := by have := hr.un; omega
  exact simB_cons (sims_asg 5 sc19.nd (sim_call (ps := psn14) ⟨g.g14, T.b14, T.F14.kp⟩ (hr.mono (by omega)) rfl T.m14 (simA_cons (sim_var 0) (simA_cons (sim_var 1) (simA_nil)))))
    (simB_cons (sims_if (simT_cmp (s_eq hu) (sim_idx (sim_var 5) (sim_int)) (sim_str [110, 117, 109, 98, 101, 114])) (simB_cons (sims_ret (sim_lst (simA_cons (sim_tup (simA_cons (sim_str [112, 117, 116]) (simA_cons (sim_idx (sim_var 2) (sim_int)) (simA_cons (sim_var 1) (simA_nil))))) (simA_nil))))
    (simB_nil)) (simB_nil))
    (simB_cons (sims_asg 6 sc19.nd (sim_call (ps := psn11) ⟨g.g11, T.b11, T.F11.kp⟩ (hr.mono (by omega)) rfl T.m11 (simA_cons (sim_var 3) (simA_cons (sim_index (sim_var 4) (sim_var 1)) (simA_nil)))))
    (simB_cons (sims_unpack [7, 8] (sim_idx (sim_lst (simA_cons (sim_tup (simA_cons (sim_str [108]) (simA_cons (sim_str [114]) (simA_nil)))) (simA_cons (sim_tup (simA_cons (sim_str [114]) (simA_cons (sim_str [108]) (simA_nil)))) (simA_nil)))) (sim_bin s_mod (sim_var 6) (sim_int))) (pg_tup rfl (pgs_cons (pg_name (i := 7) sc19.nd rfl (Or.inl rfl)) (pgs_cons (pg_name (i := 8) sc19.nd rfl (Or.inl rfl)) (pgs_nil)))))
    (simB_cons (sims_asg 9 sc19.nd (sim_cmp (s_eq hu) (sim_idx (sim_call (ps := psn14) ⟨g.g14, T.b14, T.F14.kp⟩ (hr.mono (by omega)) rfl T.m14 (simA_cons (sim_var 0) (simA_cons (sim_bin s_add (sim_var 1) (sim_var 8)) (simA_nil)))) (sim_int)) (sim_str [110, 117, 109, 98, 101, 114])))
    (simB_cons (sims_asg 10 sc19.nd (sim_call (ps := psn19) ⟨g.g19, T.b19, T.F19.kp⟩ (hr.mono (by omega)) rfl T.m19 (simA_cons (sim_var 0) (simA_cons (sim_bin s_add (sim_var 1) (sim_var 7)) (simA_cons (sim_var 2) (simA_cons (sim_var 3) (simA_cons (sim_var 4) (simA_nil))))))))
    (simB_cons (sims_if (simT_W (simW_and (simT_cmp s_gt (sim_unB s_len (sim_var 2) rfl T.zlen boot_len) (sim_bin s_sub (sim_int) (sim_unT s_int (sim_var 9) rfl T.zint boot_int))) (simW_and1 (simT_cmp s_gt (sim_bin s_mod (sim_bin s_fdiv (sim_var 6) (sim_int)) (sim_int)) (sim_int))))) (simB_cons (sims_asg 10 sc19.nd (sim_bin s_add (sim_var 10) (sim_call (ps := psn19) ⟨g.g19, T.b19, T.F19.kp⟩ (hr.mono (by omega)) rfl T.m19 (simA_cons (sim_var 0) (simA_cons (sim_bin s_add (sim_var 1) (sim_var 8)) (simA_cons (sim_slF (sim_var 2) (sim_int)) (simA_cons (sim_var 3) (simA_cons (sim_var 4) (simA_nil)))))))))
    (simB_cons (sims_asg 11 sc19.nd (sim_tup (simA_cons (sim_idx (sim_var 2) (sim_int)) (simA_cons (sim_idx (sim_var 2) (sim_int)) (simA_nil)))))
    (simB_nil))) (simB_cons (sims_asg 12 sc19.nd (sim_bin s_mod (sim_bin s_add (sim_index (sim_var 4) (sim_var 1)) (sim_bin s_fdiv (sim_var 3) (sim_int))) (sim_int)))
    (simB_cons (sims_asg 10 sc19.nd (sim_bin s_add (sim_bin s_add (sim_var 10) (sim_lst (simA_cons (sim_tup (simA_cons (sim_str [115, 104, 101, 108, 118, 101]) (simA_cons (sim_var 12) (simA_cons (sim_idx (sim_var 2) (sim_int)) (simA_nil))))) (simA_nil)))) (sim_call (ps := psn19) ⟨g.g19, T.b19, T.F19.kp⟩ (hr.mono (by omega)) rfl T.m19 (simA_cons (sim_var 0) (simA_cons (sim_bin s_add (sim_var 1) (sim_var 8)) (simA_cons (sim_var 2) (simA_cons (sim_var 3) (simA_cons (sim_var 4) (simA_nil)))))))))
    (simB_cons (sims_asg 10 sc19.nd (sim_bin s_add (sim_var 10) (sim_lst (simA_cons (sim_tup (simA_cons (sim_str [102, 101, 116, 99, 104]) (simA_cons (sim_idx (sim_var 2) (sim_int)) (simA_cons (sim_var 12) (simA_nil))))) (simA_nil)))))
    (simB_cons (sims_asg 11 sc19.nd (sim_tup (simA_cons (sim_idx (sim_var 2) (sim_int)) (simA_cons (sim_idx (sim_var 2) (sim_int)) (simA_nil)))))
    (simB_nil))))))
    (simB_cons (sims_if (simT_cmp (s_eq hu) (sim_var 7) (sim_str [114])) (simB_cons (sims_asg 11 sc19.nd (sim_rev (sim_var 11)))
    (simB_nil)) (simB_nil))
    (simB_cons (sims_ret (sim_bin s_add (sim_var 10) (sim_lst (simA_cons (sim_tup (simA_cons (sim_str [106, 111, 105, 110]) (simA_cons (sim_idx (sim_var 2) (sim_int)) (simA_cons (sim_var 1) (simA_cons (sim_idx (sim_var 11) (sim_int)) (simA_cons (sim_idx (sim_var 11) (sim_int)) (simA_nil))))))) (simA_nil)))))
    (simB_nil)))))))))
theorem ok20 (T : Facts K mg fa fd cl) (g : Good P w K mg base fa fd cl n) : FnOk P w K mg base CX0 (2 * (n + 1)) (fa 20) (fd 20) psn20 (spF K cl psn20.length (callF prog (n + 1) 20)) := by
  refine fn_ok (df := df_Lcode) T.F20 sc20 rfl rfl rfl (fun cdv A outer s H E hr => ?_)
  have hu := hr.units
  have hu2 : (A.deeper (envOfC "_law_code" (defScope st20) s.heap.objs.size (fa 20) cdv)).units + 65 < cLine := by have := hr.un; omega
  exact simB_cons (sims_asg 3 sc20.nd (sim_call (ps := psn15) ⟨g.g15, T.b15, T.F15.kp⟩ (hr.mono (by omega)) rfl T.m15 (simA_cons (sim_var 0) (simA_cons (sim_str []) (simA_nil)))))
    (simB_cons (sims_asg 4 sc20.nd (sim_lst (simA_nil)))
    (simB_cons (sims_if (simT_cmp (s_eq hu) (sim_bin s_mod (sim_var 1) (sim_int)) (sim_int)) (simB_cons (sims_asg 5 sc20.nd (sim_idx (sim_var 3) (sim_bin s_mod (sim_bin s_fdiv (sim_var 1) (sim_int)) (sim_unB s_len (sim_var 3) rfl T.zlen boot_len))))
    (simB_cons (sims_asg 4 sc20.nd (sim_call (ps := psn19) ⟨g.g19, T.b19, T.F19.kp⟩ (hr.mono (by omega)) rfl T.m19 (simA_cons (sim_var 0) (simA_cons (sim_var 5) (simA_cons (sim_range (sim_var 2) rfl rfl T.zlist rfl T.zrange) (simA_cons (sim_bin s_fdiv (sim_var 1) (sim_int)) (simA_cons (sim_var 3) (simA_nil))))))))
    (simB_nil))) (simB_nil))
    (simB_cons (sims_ret (sim_bin s_add (sim_var 4) (sim_call (ps := psn19) ⟨g.g19, T.b19, T.F19.kp⟩ (hr.mono (by omega)) rfl T.m19 (simA_cons (sim_var 0) (simA_cons (sim_str []) (simA_cons (sim_range (sim_var 2) rfl rfl T.zlist rfl T.zrange) (simA_cons (sim_var 1) (simA_cons (sim_var 3) (simA_nil)))))))))
    (simB_nil))))
theorem ok21 (T : Facts K mg fa fd cl) (g : Good P w K mg base fa fd cl n) : FnOk P w K mg base CX0 (2 * (n + 1)) (fa 21) (fd 21) psn21 (spF K cl psn21.length (callF prog (n + 1) 21)) := by
  refine fn_ok (df := df_Lchanged) T.F21 sc21 rfl rfl rfl (fun cdv A outer s H E hr => ?_)
  have hu := hr.units
  have hu2 : (A.deeper (envOfC "_law_changed" (defScope st21) s.heap.objs.size (fa 21) cdv)).units + 65 < cLine := by have := hr.un; omega
  exact simB_cons (sims_asg 2 sc21.nd (sim_bin s_mod (sim_bin s_fdiv (sim_var 1) (sim_int)) (sim_unB s_len (sim_var 0) rfl T.zlen boot_len)))
    (simB_cons (sims_asg 3 sc21.nd (sim_idx (sim_var 0) (sim_var 2)))
    (simB_cons (sims_asg 4 sc21.nd (sim_bin s_mod (sim_var 1) (sim_int)))
    (simB_cons (sims_if (simT_cmp (s_eq hu) (sim_var 4) (sim_int)) (simB_cons (sims_ret (sim_bin s_add (sim_slT (sim_var 0) (sim_var 2)) (sim_slF (sim_var 0) (sim_bin s_add (sim_var 2) (sim_int)))))
    (simB_nil)) (simB_nil))
    (simB_cons (sims_if (simT_cmp (s_eq hu) (sim_var 4) (sim_int)) (simB_cons (sims_ret (sim_bin s_add (sim_slT (sim_var 0) (sim_bin s_add (sim_var 2) (sim_int))) (sim_slF (sim_var 0) (sim_var 2))))
    (simB_nil)) (simB_nil))
    (simB_cons (sims_if (simT_cmp (s_eq hu) (sim_var 4) (sim_int)) (simB_cons (sims_asg 5 sc21.nd (sim_bin s_add (sim_slB (sim_var 0) (sim_bin s_add (sim_var 2) (sim_int)) (sim_bin s_add (sim_var 2) (sim_int))) (sim_lst (simA_cons (sim_var 3) (simA_nil)))))
    (simB_cons (sims_ret (sim_bin s_add (sim_bin s_add (sim_slT (sim_var 0) (sim_var 2)) (sim_var 5)) (sim_slF (sim_var 0) (sim_bin s_add (sim_var 2) (sim_int)))))
    (simB_nil))) (simB_nil))
    (simB_cons (sims_asg 6 sc21.nd (sim_bin s_add (sim_int) (sim_bin s_mod (sim_bin s_fdiv (sim_var 1) (sim_int)) (sim_bin s_sub (sim_unB s_len (sim_var 3) rfl T.zlen boot_len) (sim_int)))))
    (simB_cons (sims_asg 7 sc21.nd (sim_idx (sim_lst (simA_cons (sim_int) (simA_cons (sim_int) (simA_cons (sim_int) (simA_cons (sim_int) (simA_cons (sim_int) (simA_cons (sim_int) (simA_cons (sim_neg (sim_int)) (simA_cons (sim_int) (simA_nil)))))))))) (sim_bin s_mod (sim_bin s_fdiv (sim_var 1) (sim_int)) (sim_int))))
    (simB_cons (sims_asg 8 sc21.nd (sim_idx (sim_var 3) (sim_var 6)))
    (simB_cons (sims_if (simT_val (sim_isi (t := .str) (sim_var 8) rfl T.zisinstance (by decide +kernel) rfl T.zstr boot_str)) (simB_cons (sims_asg 7 sc21.nd (sim_idx (sim_lst (simA_cons (sim_str []) (simA_cons (sim_str [108]) (simA_cons (sim_str [114]) (simA_cons (sim_bin s_add (sim_var 8) (sim_str [108])) (simA_cons (sim_slT (sim_var 8) (sim_neg (sim_int))) (simA_cons (sim_str [120]) (simA_nil)))))))) (sim_bin s_mod (sim_bin s_fdiv (sim_var 1) (sim_int)) (sim_int))))
    (simB_nil)) (simB_nil))
    (simB_cons (sims_asg 9 sc21.nd (sim_bin s_add (sim_bin s_add (sim_slT (sim_var 3) (sim_var 6)) (sim_tup (simA_cons (sim_var 7) (simA_nil)))) (sim_slF (sim_var 3) (sim_bin s_add (sim_var 6) (sim_int)))))
    (simB_cons (sims_ret (sim_bin s_add (sim_bin s_add (sim_slT (sim_var 0) (sim_var 2)) (sim_lst (simA_cons (sim_var 9) (simA_nil)))) (sim_slF (sim_var 0) (sim_bin s_add (sim_var 2) (sim_int)))))
    (simB_nil))))))))))))
theorem ok22 (T : Facts K mg fa fd cl) (g : Good P w K mg base fa fd cl n) : FnOk P w K mg base CX0 (2 * (n + 1)) (fa 22) (fd 22) psn22 (spF K cl psn22.length (callF prog (n + 1) 22)) := by
  refine fn_ok (df := df_law) T.F22 sc22 rfl rfl rfl (fun cdv A outer s H E hr => ?_)
  have hu := hr.units
  have hu2 : (A.deeper (envOfC "law" (defScope st22) s.heap.objs.size (fa 22) cdv)).units + 65 < cLine := by have := hr.un; omega
  exact simB_cons (sims_asg 1 sc22.nd (sim_call (ps := psn13) ⟨g.g13, T.b13, T.F13.kp⟩ (hr.mono (by omega)) rfl T.m13 (simA_cons (sim_call (ps := psn10) ⟨g.g10, T.b10, T.F10.kp⟩ (hr.mono (by omega)) rfl T.m10 (simA_cons (sim_var 0) (simA_cons (sim_int) (simA_nil)))) (simA_nil))))
    (simB_cons (sims_asg 2 sc22.nd (sim_bin s_add (sim_int) (sim_bin s_mod (sim_call (ps := psn10) ⟨g.g10, T.b10, T.F10.kp⟩ (hr.mono (by omega)) rfl T.m10 (simA_cons (sim_var 0) (simA_cons (sim_int) (simA_nil)))) (sim_int))))
    (simB_cons (sims_asg 3 sc22.nd (sim_call (ps := psn20) ⟨g.g20, T.b20, T.F20.kp⟩ (hr.mono (by omega)) rfl T.m20 (simA_cons (sim_var 1) (simA_cons (sim_call (ps := psn10) ⟨g.g10, T.b10, T.F10.kp⟩ (hr.mono (by omega)) rfl T.m10 (simA_cons (sim_var 0) (simA_cons (sim_int) (simA_nil)))) (simA_cons (sim_var 2) (simA_nil))))))
    (simB_cons (sims_for 4 PassesOwn.never rfl sc22.nd (simI_range (sim_bin s_mod (sim_call (ps := psn10) ⟨g.g10, T.b10, T.F10.kp⟩ (hr.mono (by omega)) rfl T.m10 (simA_cons (sim_var 0) (simA_cons (sim_int) (simA_nil)))) (sim_int)) rfl T.zrange) (simB_cons (sims_if (simT_cmp (s_ne hu) (sim_var 3) (sim_lst (simA_nil))) (simB_cons (sims_asg 3 sc22.nd (sim_call (ps := psn21) ⟨g.g21, T.b21, T.F21.kp⟩ (hr.mono (by omega)) rfl T.m21 (simA_cons (sim_var 3) (simA_cons (sim_call (ps := psn10) ⟨g.g10, T.b10, T.F10.kp⟩ (hr.mono (by omega)) rfl T.m10 (simA_cons (sim_var 0) (simA_cons (sim_bin s_add (sim_int) (sim_var 4)) (simA_nil)))) (simA_nil)))))
    (simB_nil)) (simB_nil))
    (simB_nil)))
    (simB_cons (sims_asg 3 sc22.nd (sim_unT s_tup (sim_var 3) rfl T.ztuple boot_tuple))
    (simB_cons (sims_asg 5 sc22.nd (sim_call (ps := psn7) ⟨g.g7, T.b7, T.F7.kp⟩ (hr.mono (by omega)) rfl T.m7 (simA_cons (sim_var 1) (simA_cons (sim_var 3) (simA_cons (sim_var 2) (simA_nil))))))
    (simB_cons (sims_if (simT_W (simW_or (simT_cmp (s_ne hu) (sim_var 5) (sim_call (ps := psn18) ⟨g.g18, T.b18, T.F18.kp⟩ (hr.mono (by omega)) rfl T.m18 (simA_cons (sim_var 1) (simA_cons (sim_var 3) (simA_cons (sim_var 2) (simA_nil)))))) (simW_or1 (simT_cmp (s_ne hu) (sim_call (ps := psn8) ⟨g.g8, T.b8, T.F8.kp⟩ (hr.mono (by omega)) rfl T.m8 (simA_cons (sim_var 3) (simA_nil))) (sim_unB s_len (sim_filt (i := 6) (x := "_law_deed") rfl sc22.nd rfl (blkOk_by (N := nam22) (sc := defScope st22) (by decide +kernel)) (simI_of (sim_var 3)) (fun _ _ _ _ _ => simT_cmp (s_eq hu) (sim_idx (sim_var 6) (sim_int)) (sim_str [115, 104, 101, 108, 118, 101])) (fun _ _ _ _ _ => rfl)) rfl T.zlen boot_len))))) (simB_cons (sims_ret (sim_bl))
    (simB_nil)) (simB_nil))
    (simB_cons (sims_asg 7 sc22.nd (sim_call (ps := psn7) ⟨g.g7, T.b7, T.F7.kp⟩ (hr.mono (by omega)) rfl T.m7 (simA_cons (sim_var 1) (simA_cons (sim_slT (sim_var 3) (sim_bin s_mod (sim_call (ps := psn10) ⟨g.g10, T.b10, T.F10.kp⟩ (hr.mono (by omega)) rfl T.m10 (simA_cons (sim_var 0) (simA_cons (sim_int) (simA_nil)))) (sim_bin s_add (sim_unB s_len (sim_var 3) rfl T.zlen boot_len) (sim_int)))) (simA_cons (sim_var 2) (simA_nil))))))
    (simB_cons (sims_ret (sim_or (sim_cmp s_isn (sim_var 7) (sim_non)) (sim_one (sim_cmp s_is (sim_var 5) (sim_non)))))
    (simB_nil)))))))))
theorem good_step (T : Facts K mg fa fd cl) (g : Good P w K mg base fa fd cl n) : Good P w K mg base fa fd cl (n + 1) := ⟨ok0 T g, ok1 T g, ok2 T g, ok3 T g, ok4 T g, ok5 T g, ok6 T g, ok7 T g, ok8 T g, ok9 T g, ok10 T g, ok11 T g, ok12 T g, ok13 T g, ok14 T g, ok15 T g, ok16 T g, ok17 T g, ok18 T g, ok19 T g, ok20 T g, ok21 T g, ok22 T g⟩
theorem good_all (T : Facts K mg fa fd cl) : ∀ n, Good P w K mg base fa fd cl n
  | 0 => ⟨fn_none, fn_none, fn_none, fn_none, fn_none, fn_none, fn_none, fn_none, fn_none, fn_none, fn_none, fn_none, fn_none, fn_none, fn_none, fn_none, fn_none, fn_none, fn_none, fn_none, fn_none, fn_none, fn_none⟩
  | n + 1 => good_step T (good_all T n)
end
end Wk

set_option maxRecDepth 100000
set_option maxHeartbeats 4000000
set_option linter.all false
namespace Fp

/-! ### evaluation -/
theorem call1 {P : Pg} {n f : Nat} {d : Df} (h : P[f]? = some d) (ds : List D) (M : Ms) : callF P (n + 1) f ds M = runD (callF P n) d ds M := by
  simp only [callF, h, Option.bind_some]
theorem fin_same (M : Ms) (d : D) : fin M (some (d, M)) = some d := by simp [fin]
theorem succ_of {n k : Nat} (h : k + 1 ≤ n) : ∃ m, n = m + 1 ∧ k ≤ m := ⟨n - 1, by omega, by omega⟩
theorem mulOk_l {i j : Int} (h : i.natAbs < 9223372036854775808) : mulOk i j = true := by
  have e : (2 : Nat) ^ 63 = 9223372036854775808 := by decide
  simp only [mulOk, e, h, decide_true, Bool.true_or]
theorem mulOk_r {i j : Int} (h : j.natAbs < 9223372036854775808) : mulOk i j = true := by
  have e : (2 : Nat) ^ 63 = 9223372036854775808 := by decide
  simp only [mulOk, e, h, decide_true, Bool.true_or, Bool.or_true]
theorem lim_eq : lim = 100000 := rfl
theorem atD_mem {α : Type} (xs : List α) {i : Int} (h0 : 0 ≤ i) (h1 : i < xs.length) : ∃ x, atD xs i = some x ∧ x ∈ xs := by
  have h2 : i.toNat < xs.length := by omega
  exact ⟨xs[i.toNat], by simp [atD, ixD, h0, h1, h2], List.getElem_mem h2⟩
theorem evB_nx {cf : Cf} {s : PS} {b : PB} {ρ ρ' : Sl} {M M' : Ms} (h : evalS cf s ρ M = some (.nx ρ' M')) : evalB cf (.cons s b) ρ M = evalB cf b ρ' M' := by
  rw [evalB, h]
  rfl
theorem evB_rt {cf : Cf} {s : PS} {b : PB} {ρ : Sl} {M M' : Ms} {d : D} (h : evalS cf s ρ M = some (.rt d M')) : evalB cf (.cons s b) ρ M = some (.rt d M') := by
  rw [evalB, h]
  rfl
theorem filtD_strs {f : D → Option Bool} {g : Tx → Bool} : ∀ {bs : List Tx}, (∀ b ∈ bs, f (.str b) = some (g b)) → filtD f (bs.map .str) = some ((bs.filter g).map .str)
  | [], _ => rfl
  | b :: bs, h => by
    have ih := filtD_strs (f := f) (g := g) (bs := bs) fun x hx => h x (List.mem_cons_of_mem _ hx)
    simp only [List.map_cons, filtD, h b (List.mem_cons_self ..), ih, Option.bind_some, Option.map_some, List.filter_cons]
    cases g b <;> simp

/-! ### the operations at what they are given (printed by mkops.py) -/
section
variable {i j : Int} {b c : Bool} {s u : Tx} {ds es : List D} {ns : List Int} {l : Nat} {M : Ms} {x y : D}
theorem o_add_i : binD .add (.int i) (.int j) = some (.int (i + j)) := rfl
theorem o_add_s : binD .add (.str s) (.str u) = if s.length + u.length ≤ lim then some (.str (s ++ u)) else none := rfl
theorem o_add_l : binD .add (.lst ds) (.lst es) = if ds.length + es.length ≤ lim then some (.lst (ds ++ es)) else none := rfl
theorem o_add_t : binD .add (.tup ds) (.tup es) = if ds.length + es.length ≤ lim then some (.tup (ds ++ es)) else none := rfl
theorem o_sub : binD .sub (.int i) (.int j) = some (.int (i - j)) := rfl
theorem o_mul : binD .mul (.int i) (.int j) = if mulOk i j then some (.int (i * j)) else none := rfl
theorem o_rep : binD .mul (.lst ds) (.int j) = if 0 ≤ j ∧ j ≤ 1000 ∧ ds.length = 1 then some (.lst (List.replicate j.toNat ds).flatten) else none := rfl
theorem o_div : binD .fdiv (.int i) (.int j) = if 0 < j ∧ j < 1073741824 then some (.int (i / j)) else none := rfl
theorem o_mod : binD .mod (.int i) (.int j) = if 0 < j then some (.int (i % j)) else none := rfl
theorem c_lt : cmpD .lt (.int i) (.int j) = some (decide (i < j)) := rfl
theorem c_le : cmpD .le (.int i) (.int j) = some (decide (i ≤ j)) := rfl
theorem c_gt : cmpD .gt (.int i) (.int j) = some (decide (j < i)) := rfl
theorem c_ge : cmpD .ge (.int i) (.int j) = some (decide (j ≤ i)) := rfl
theorem c_eq : cmpD .eq x y = if x.ok 50 && y.ok 50 then some (x.eqv y) else none := rfl
theorem c_ne : cmpD .ne x y = if x.ok 50 && y.ok 50 then some (!(x.eqv y)) else none := rfl
theorem c_is_non : cmpD .is_ (.non) .non = some true := rfl
theorem c_isn_non : cmpD .isn (.non) .non = some false := rfl
theorem c_is_bl : cmpD .is_ (.bl b) .non = some false := rfl
theorem c_isn_bl : cmpD .isn (.bl b) .non = some true := rfl
theorem c_is_int : cmpD .is_ (.int i) .non = some false := rfl
theorem c_isn_int : cmpD .isn (.int i) .non = some true := rfl
theorem c_is_str : cmpD .is_ (.str s) .non = some false := rfl
theorem c_isn_str : cmpD .isn (.str s) .non = some true := rfl
theorem c_is_tup : cmpD .is_ (.tup ds) .non = some false := rfl
theorem c_isn_tup : cmpD .isn (.tup ds) .non = some true := rfl
theorem c_is_lst : cmpD .is_ (.lst ds) .non = some false := rfl
theorem c_isn_lst : cmpD .isn (.lst ds) .non = some true := rfl
theorem c_mem_s : ∀ {q : Nat}, cmpD .mem (.str [q]) (.str s) = some (decide (q ∈ s)) := fun {_} => rfl
theorem c_nmem_s : ∀ {q : Nat}, cmpD .nmem (.str [q]) (.str s) = some (!decide (q ∈ s)) := fun {_} => rfl
theorem c_mem_t : cmpD .mem x (.tup ds) = if x.flat && ds.all D.flat then some (ds.any fun z => z.eqv x) else none := by cases x <;> first | rfl | (rename_i z; match z with | [] => rfl | [_] => rfl | _ :: _ :: _ => rfl)
theorem c_nmem_t : cmpD .nmem x (.tup ds) = if x.flat && ds.all D.flat then some (!(ds.any fun z => z.eqv x)) else none := by cases x <;> first | rfl | (rename_i z; match z with | [] => rfl | [_] => rfl | _ :: _ :: _ => rfl)
theorem c_mem_l : cmpD .mem x (.lst ds) = if x.ok 50 && ds.all (D.ok 49) then some (ds.any fun z => z.eqv x) else none := by cases x <;> first | rfl | (rename_i z; match z with | [] => rfl | [_] => rfl | _ :: _ :: _ => rfl)
theorem c_nmem_l : cmpD .nmem x (.lst ds) = if x.ok 50 && ds.all (D.ok 49) then some (!(ds.any fun z => z.eqv x)) else none := by cases x <;> first | rfl | (rename_i z; match z with | [] => rfl | [_] => rfl | _ :: _ :: _ => rfl)
theorem fl_non : D.flat (.non) = true := rfl
theorem isi_tuple_non : isiD .tuple (.non) = some false := rfl
theorem isi_str_non : isiD .str (.non) = some false := rfl
theorem isi_int_non : isiD .int (.non) = some false := rfl
theorem isi_bool_non : isiD .bool (.non) = some false := rfl
theorem fl_bl : D.flat (.bl b) = true := rfl
theorem isi_tuple_bl : isiD .tuple (.bl b) = some false := rfl
theorem isi_str_bl : isiD .str (.bl b) = some false := rfl
theorem isi_int_bl : isiD .int (.bl b) = some true := rfl
theorem isi_bool_bl : isiD .bool (.bl b) = some true := rfl
theorem fl_int : D.flat (.int i) = true := rfl
theorem isi_tuple_int : isiD .tuple (.int i) = some false := rfl
theorem isi_str_int : isiD .str (.int i) = some false := rfl
theorem isi_int_int : isiD .int (.int i) = some true := rfl
theorem isi_bool_int : isiD .bool (.int i) = some false := rfl
theorem fl_str : D.flat (.str s) = true := rfl
theorem isi_tuple_str : isiD .tuple (.str s) = some false := rfl
theorem isi_str_str : isiD .str (.str s) = some true := rfl
theorem isi_int_str : isiD .int (.str s) = some false := rfl
theorem isi_bool_str : isiD .bool (.str s) = some false := rfl
theorem fl_tup : D.flat (.tup ds) = false := rfl
theorem isi_tuple_tup : isiD .tuple (.tup ds) = some true := rfl
theorem isi_str_tup : isiD .str (.tup ds) = some false := rfl
theorem isi_int_tup : isiD .int (.tup ds) = some false := rfl
theorem isi_bool_tup : isiD .bool (.tup ds) = some false := rfl
theorem fl_lst : D.flat (.lst ds) = false := rfl
theorem isi_tuple_lst : isiD .tuple (.lst ds) = some false := rfl
theorem isi_str_lst : isiD .str (.lst ds) = some false := rfl
theorem isi_int_lst : isiD .int (.lst ds) = some false := rfl
theorem isi_bool_lst : isiD .bool (.lst ds) = some false := rfl
theorem eqv_non_non : D.eqv (.non) (.non) = true := by simp [D.eqv]
theorem eqv_non_bl : D.eqv (.non) (.bl c) = false := by simp [D.eqv]
theorem eqv_non_int : D.eqv (.non) (.int j) = false := by simp [D.eqv]
theorem eqv_non_str : D.eqv (.non) (.str u) = false := by simp [D.eqv]
theorem eqv_non_tup : D.eqv (.non) (.tup es) = false := by simp [D.eqv]
theorem eqv_non_lst : D.eqv (.non) (.lst es) = false := by simp [D.eqv]
theorem eqv_bl_non : D.eqv (.bl b) (.non) = false := by simp [D.eqv]
theorem eqv_bl_bl : D.eqv (.bl b) (.bl c) = (b == c) := by simp [D.eqv]
theorem eqv_bl_int : D.eqv (.bl b) (.int j) = ((if b then 1 else 0) == j) := by simp [D.eqv]
theorem eqv_bl_str : D.eqv (.bl b) (.str u) = false := by simp [D.eqv]
theorem eqv_bl_tup : D.eqv (.bl b) (.tup es) = false := by simp [D.eqv]
theorem eqv_bl_lst : D.eqv (.bl b) (.lst es) = false := by simp [D.eqv]
theorem eqv_int_non : D.eqv (.int i) (.non) = false := by simp [D.eqv]
theorem eqv_int_bl : D.eqv (.int i) (.bl c) = (i == (if c then 1 else 0)) := by simp [D.eqv]
theorem eqv_int_int : D.eqv (.int i) (.int j) = (i == j) := by simp [D.eqv]
theorem eqv_int_str : D.eqv (.int i) (.str u) = false := by simp [D.eqv]
theorem eqv_int_tup : D.eqv (.int i) (.tup es) = false := by simp [D.eqv]
theorem eqv_int_lst : D.eqv (.int i) (.lst es) = false := by simp [D.eqv]
theorem eqv_str_non : D.eqv (.str s) (.non) = false := by simp [D.eqv]
theorem eqv_str_bl : D.eqv (.str s) (.bl c) = false := by simp [D.eqv]
theorem eqv_str_int : D.eqv (.str s) (.int j) = false := by simp [D.eqv]
theorem eqv_str_str : D.eqv (.str s) (.str u) = (s == u) := by simp [D.eqv]
theorem eqv_str_tup : D.eqv (.str s) (.tup es) = false := by simp [D.eqv]
theorem eqv_str_lst : D.eqv (.str s) (.lst es) = false := by simp [D.eqv]
theorem eqv_tup_non : D.eqv (.tup ds) (.non) = false := by simp [D.eqv]
theorem eqv_tup_bl : D.eqv (.tup ds) (.bl c) = false := by simp [D.eqv]
theorem eqv_tup_int : D.eqv (.tup ds) (.int j) = false := by simp [D.eqv]
theorem eqv_tup_str : D.eqv (.tup ds) (.str u) = false := by simp [D.eqv]
theorem eqv_tup_tup : D.eqv (.tup ds) (.tup es) = D.eqvL ds es := by simp [D.eqv]
theorem eqv_tup_lst : D.eqv (.tup ds) (.lst es) = false := by simp [D.eqv]
theorem eqv_lst_non : D.eqv (.lst ds) (.non) = false := by simp [D.eqv]
theorem eqv_lst_bl : D.eqv (.lst ds) (.bl c) = false := by simp [D.eqv]
theorem eqv_lst_int : D.eqv (.lst ds) (.int j) = false := by simp [D.eqv]
theorem eqv_lst_str : D.eqv (.lst ds) (.str u) = false := by simp [D.eqv]
theorem eqv_lst_tup : D.eqv (.lst ds) (.tup es) = false := by simp [D.eqv]
theorem eqv_lst_lst : D.eqv (.lst ds) (.lst es) = D.eqvL ds es := by simp [D.eqv]
theorem eqvL_nn : D.eqvL [] [] = true := by simp [D.eqvL]
theorem eqvL_cc : D.eqvL (x :: ds) (y :: es) = (x.eqv y && D.eqvL ds es) := by simp [D.eqvL]
theorem eqvL_nc : D.eqvL [] (y :: es) = false := by simp [D.eqvL]
theorem eqvL_cn : D.eqvL (x :: ds) [] = false := by simp [D.eqvL]
theorem ok_tup : ∀ {n : Nat}, D.ok (n + 1) (.tup ds) = ds.all (D.ok n) := fun {_} => rfl
theorem ok_lst : ∀ {n : Nat}, D.ok (n + 1) (.lst ds) = ds.all (D.ok n) := fun {_} => rfl
theorem ok_tup50 : D.ok 50 (.tup ds) = ds.all (D.ok 49) := rfl
theorem ok_lst50 : D.ok 50 (.lst ds) = ds.all (D.ok 49) := rfl
theorem ok_tup49 : D.ok 49 (.tup ds) = ds.all (D.ok 48) := rfl
theorem ok_non : ∀ {n : Nat}, D.ok n (.non) = true := fun {n} => by cases n <;> rfl
theorem ok_bl : ∀ {n : Nat}, D.ok n (.bl b) = true := fun {n} => by cases n <;> rfl
theorem ok_int : ∀ {n : Nat}, D.ok n (.int i) = true := fun {n} => by cases n <;> rfl
theorem ok_str : ∀ {n : Nat}, D.ok n (.str s) = true := fun {n} => by cases n <;> rfl
theorem it_tup : itemsD M (.tup ds) = some ds := rfl
theorem it_lst : itemsD M (.lst ds) = some ds := rfl
theorem it_ref : itemsD M (.ref l) = match M[l]? with | some (.lst ds) => some ds | _ => none := rfl
theorem ix_str : idxD M (.str s) (.int i) = if s.length ≤ lim then (atD s i).map fun c => .str [c] else none := rfl
theorem ix_scr : idxD M (.scr ns) (.int i) = (atD ns i).map .int := rfl
theorem ix_tup : idxD M (.tup ds) (.int i) = atD ds i := rfl
theorem ix_lst : idxD M (.lst ds) (.int i) = atD ds i := rfl
theorem ix_ref : idxD M (.ref l) (.int i) = (itemsD M (.ref l)).bind fun ds => atD ds i := rfl
theorem sl_str : ∀ {lo hi : Option Int}, slD lo hi (.str s) = if s.length ≤ lim then some (.str (cutL s lo hi)) else none := fun {_ _} => rfl
theorem sl_tup : ∀ {lo hi : Option Int}, slD lo hi (.tup ds) = some (.tup (cutL ds lo hi)) := fun {_ _} => rfl
theorem sl_lst : ∀ {lo hi : Option Int}, slD lo hi (.lst ds) = some (.lst (cutL ds lo hi)) := fun {_ _} => rfl
theorem ln_str : lenD M (.str s) = if s.length ≤ lim then some (.int s.length) else none := rfl
theorem ln_scr : lenD M (.scr ns) = some (.int ns.length) := rfl
theorem ln_tup : lenD M (.tup ds) = some (.int ds.length) := rfl
theorem ln_lst : lenD M (.lst ds) = some (.int ds.length) := rfl
theorem ln_ref : lenD M (.ref l) = (itemsD M (.ref l)).map fun ds => .int ds.length := rfl
theorem in_int : intD (.int i) = some (.int i) := rfl
theorem in_bl : intD (.bl b) = some (.int (if b then 1 else 0)) := rfl
theorem u_neg : unD M .neg (.int i) = some (.int (-i)) := rfl
theorem u_len : unD M .len x = lenD M x := by cases x <;> rfl
theorem u_isi : ∀ {t : Ty}, unD M (.isi t) x = (isiD t x).map .bl := fun {t} => by cases x <;> rfl
theorem u_int : unD M .int x = intD x := by cases x <;> rfl
theorem u_abs : unD M .abs (.int i) = some (.int (if i < 0 then -i else i)) := rfl
theorem u_tup : unD M .tup x = (itemsD M x).map .tup := by cases x <;> rfl
theorem u_lst_t : unD M .lst (.tup ds) = some (.lst ds) := rfl
theorem u_lst_l : unD M .lst (.lst ds) = some (.lst ds) := rfl
theorem u_range : unD M .range (.int i) = if 0 ≤ i ∧ i ≤ 1000 then some (.lst ((List.range i.toNat).map fun (k : Nat) => D.int k)) else none := rfl
theorem u_str : unD M .str (.int i) = if i.natAbs < 2 ^ 63 then some (.str (digits i)) else none := rfl
theorem u_sorted : unD M .sorted (.lst ds) = (txs ds).bind fun ts => if ts.length < 64 then some (.lst ((sortT ts).map .str)) else none := rfl
theorem u_sortedr : unD M .sorted (.ref l) = match M[l]? with | some (.lst ds) => (txs ds).bind fun ts => if ts.length < 64 then some (.lst ((sortT ts).map .str)) else none | _ => none := rfl
theorem u_sset : unD M .sortedSet (.tup ds) = (txs ds).bind fun ts => if ts.length < 64 ∧ ts.Nodup then some (.lst ((sortT ts).map .str)) else none := rfl
theorem u_find : ∀ {q : Nat}, unD M .findLR (.str [q]) = some (.int (if q = 108 then 0 else if q = 114 then 1 else -1)) := fun {_} => rfl
theorem b_max : biD .max (.int i) (.int j) = some (.int (if j > i then j else i)) := rfl
theorem b_starts : biD .starts (.str s) (.str u) = some (.bl (u.isPrefixOf s)) := rfl
theorem b_index : biD .index (.lst ds) y = if y.flat && ds.all D.flat then (firstD y ds).map fun (j : Nat) => D.int (j : Int) else none := by cases y <;> rfl
theorem w_str : walkD M (.str s) = some (s.map fun c => .str [c]) := rfl
theorem w_tup : walkD M (.tup ds) = some ds := rfl
theorem w_lst : walkD M (.lst ds) = some ds := rfl
theorem a_bl : asB (.bl b) = some b := rfl
theorem a_int : asI (.int i) = some i := rfl
theorem r_tup : revD (.tup ds) = some (.tup ds.reverse) := rfl
theorem at_ref : ∀ {n : Tx}, attrD M n (.ref l) = match M[l]? with | some (.ins _ fs) => lookA n fs | _ => none := fun {_} => rfl
theorem at_0 : ∀ {α : Type} {x0 : α} {r : List α}, atD (x0 :: r) 0 = some x0 := by
  intro α x0 r
  have h : (0 : Int) < ((x0 :: r).length : Int) := by simp only [List.length_cons]; omega
  simp only [atD, ixD, h, if_true, show (0 : Int) ≤ 0 by decide]
  rfl
theorem at_1 : ∀ {α : Type} {x0 x1 : α} {r : List α}, atD (x0 :: x1 :: r) 1 = some x1 := by
  intro α x0 x1 r
  have h : (1 : Int) < ((x0 :: x1 :: r).length : Int) := by simp only [List.length_cons]; omega
  simp only [atD, ixD, h, if_true, show (0 : Int) ≤ 1 by decide]
  rfl
theorem at_2 : ∀ {α : Type} {x0 x1 x2 : α} {r : List α}, atD (x0 :: x1 :: x2 :: r) 2 = some x2 := by
  intro α x0 x1 x2 r
  have h : (2 : Int) < ((x0 :: x1 :: x2 :: r).length : Int) := by simp only [List.length_cons]; omega
  simp only [atD, ixD, h, if_true, show (0 : Int) ≤ 2 by decide]
  rfl
theorem at_3 : ∀ {α : Type} {x0 x1 x2 x3 : α} {r : List α}, atD (x0 :: x1 :: x2 :: x3 :: r) 3 = some x3 := by
  intro α x0 x1 x2 x3 r
  have h : (3 : Int) < ((x0 :: x1 :: x2 :: x3 :: r).length : Int) := by simp only [List.length_cons]; omega
  simp only [atD, ixD, h, if_true, show (0 : Int) ≤ 3 by decide]
  rfl
theorem at_4 : ∀ {α : Type} {x0 x1 x2 x3 x4 : α} {r : List α}, atD (x0 :: x1 :: x2 :: x3 :: x4 :: r) 4 = some x4 := by
  intro α x0 x1 x2 x3 x4 r
  have h : (4 : Int) < ((x0 :: x1 :: x2 :: x3 :: x4 :: r).length : Int) := by simp only [List.length_cons]; omega
  simp only [atD, ixD, h, if_true, show (0 : Int) ≤ 4 by decide]
  rfl
end

/-! ### the script's numbers -/
def cell (ns : List Int) (k : Int) : Int := ns.getD k.toNat 0
theorem Lcell_eq {n : Nat} (hn : 1 ≤ n) (ns : List Int) {k : Int} (hk : 0 ≤ k) (M : Ms) : callF prog n f_Lcell_at [.scr ns, .int k] M = some (.int (cell ns k), M) := by
  obtain ⟨m, rfl, hm⟩ := succ_of hn
  rw [call1 at_Lcell_at]
  by_cases h : k < ns.length
  · have h2 : k.toNat < ns.length := by omega
    simp [evalX, evalA, evalS, evalB, runD, fin_same, o_add_i, o_add_s, o_add_l, o_add_t, o_sub, o_mul, o_rep, o_div, o_mod, c_lt, c_le, c_gt, c_ge, c_eq, c_ne, c_is_non, c_isn_non, c_is_bl, c_isn_bl, c_is_int, c_isn_int, c_is_str, c_isn_str, c_is_tup, c_isn_tup, c_is_lst, c_isn_lst, c_mem_s, c_nmem_s, c_mem_t, c_nmem_t, c_mem_l, c_nmem_l, fl_non, isi_tuple_non, isi_str_non, isi_int_non, isi_bool_non, fl_bl, isi_tuple_bl, isi_str_bl, isi_int_bl, isi_bool_bl, fl_int, isi_tuple_int, isi_str_int, isi_int_int, isi_bool_int, fl_str, isi_tuple_str, isi_str_str, isi_int_str, isi_bool_str, fl_tup, isi_tuple_tup, isi_str_tup, isi_int_tup, isi_bool_tup, fl_lst, isi_tuple_lst, isi_str_lst, isi_int_lst, isi_bool_lst, eqv_non_non, eqv_non_bl, eqv_non_int, eqv_non_str, eqv_non_tup, eqv_non_lst, eqv_bl_non, eqv_bl_bl, eqv_bl_int, eqv_bl_str, eqv_bl_tup, eqv_bl_lst, eqv_int_non, eqv_int_bl, eqv_int_int, eqv_int_str, eqv_int_tup, eqv_int_lst, eqv_str_non, eqv_str_bl, eqv_str_int, eqv_str_str, eqv_str_tup, eqv_str_lst, eqv_tup_non, eqv_tup_bl, eqv_tup_int, eqv_tup_str, eqv_tup_tup, eqv_tup_lst, eqv_lst_non, eqv_lst_bl, eqv_lst_int, eqv_lst_str, eqv_lst_tup, eqv_lst_lst, eqvL_nn, eqvL_cc, eqvL_nc, eqvL_cn, ok_tup, ok_lst, ok_tup50, ok_lst50, ok_tup49, ok_non, ok_bl, ok_int, ok_str, it_tup, it_lst, it_ref, ix_str, ix_scr, ix_tup, ix_lst, ix_ref, sl_str, sl_tup, sl_lst, ln_str, ln_scr, ln_tup, ln_lst, ln_ref, in_int, in_bl, u_neg, u_len, u_isi, u_int, u_abs, u_tup, u_lst_t, u_lst_l, u_range, u_str, u_sorted, u_sortedr, u_sset, u_find, b_max, b_starts, b_index, w_str, w_tup, w_lst, a_bl, a_int, r_tup, at_ref, at_0, at_1, at_2, at_3, at_4, df_Lcell_at, pb_Lcell_at, h, cell, atD, ixD, h2, hk]
  · have h2 : ¬ k.toNat < ns.length := by omega
    simp [evalX, evalA, evalS, evalB, runD, fin_same, o_add_i, o_add_s, o_add_l, o_add_t, o_sub, o_mul, o_rep, o_div, o_mod, c_lt, c_le, c_gt, c_ge, c_eq, c_ne, c_is_non, c_isn_non, c_is_bl, c_isn_bl, c_is_int, c_isn_int, c_is_str, c_isn_str, c_is_tup, c_isn_tup, c_is_lst, c_isn_lst, c_mem_s, c_nmem_s, c_mem_t, c_nmem_t, c_mem_l, c_nmem_l, fl_non, isi_tuple_non, isi_str_non, isi_int_non, isi_bool_non, fl_bl, isi_tuple_bl, isi_str_bl, isi_int_bl, isi_bool_bl, fl_int, isi_tuple_int, isi_str_int, isi_int_int, isi_bool_int, fl_str, isi_tuple_str, isi_str_str, isi_int_str, isi_bool_str, fl_tup, isi_tuple_tup, isi_str_tup, isi_int_tup, isi_bool_tup, fl_lst, isi_tuple_lst, isi_str_lst, isi_int_lst, isi_bool_lst, eqv_non_non, eqv_non_bl, eqv_non_int, eqv_non_str, eqv_non_tup, eqv_non_lst, eqv_bl_non, eqv_bl_bl, eqv_bl_int, eqv_bl_str, eqv_bl_tup, eqv_bl_lst, eqv_int_non, eqv_int_bl, eqv_int_int, eqv_int_str, eqv_int_tup, eqv_int_lst, eqv_str_non, eqv_str_bl, eqv_str_int, eqv_str_str, eqv_str_tup, eqv_str_lst, eqv_tup_non, eqv_tup_bl, eqv_tup_int, eqv_tup_str, eqv_tup_tup, eqv_tup_lst, eqv_lst_non, eqv_lst_bl, eqv_lst_int, eqv_lst_str, eqv_lst_tup, eqv_lst_lst, eqvL_nn, eqvL_cc, eqvL_nc, eqvL_cn, ok_tup, ok_lst, ok_tup50, ok_lst50, ok_tup49, ok_non, ok_bl, ok_int, ok_str, it_tup, it_lst, it_ref, ix_str, ix_scr, ix_tup, ix_lst, ix_ref, sl_str, sl_tup, sl_lst, ln_str, ln_scr, ln_tup, ln_lst, ln_ref, in_int, in_bl, u_neg, u_len, u_isi, u_int, u_abs, u_tup, u_lst_t, u_lst_l, u_range, u_str, u_sorted, u_sortedr, u_sset, u_find, b_max, b_starts, b_index, w_str, w_tup, w_lst, a_bl, a_int, r_tup, at_ref, at_0, at_1, at_2, at_3, at_4, df_Lcell_at, pb_Lcell_at, h, cell, List.getElem?_eq_none (Nat.le_of_not_lt h2)]
def mixh (ns : List Int) (k : Int) : Int := (cell ns k + 7919 * k + 1) * 48271 % 2147483647
def mixed (ns : List Int) (k : Int) : Int := (mixh ns k * mixh ns k + 7 * mixh ns k + k) % 2147483629
theorem mixh_b (ns : List Int) (k : Int) : 0 ≤ mixh ns k ∧ mixh ns k < 2147483647 := ⟨Int.emod_nonneg _ (by decide), Int.emod_lt_of_pos _ (by decide)⟩
theorem mixed_b (ns : List Int) (k : Int) : 0 ≤ mixed ns k ∧ mixed ns k < 2147483629 := ⟨Int.emod_nonneg _ (by decide), Int.emod_lt_of_pos _ (by decide)⟩
theorem Lmixed_eq {n : Nat} (hn : 2 ≤ n) (ns : List Int) {k : Int} (hk : 0 ≤ k) (hk2 : k ≤ 1000) (M : Ms) : callF prog n f_Lmixed [.scr ns, .int k] M = some (.int (mixed ns k), M) := by
  obtain ⟨m, rfl, hm⟩ := succ_of hn
  rw [call1 at_Lmixed]
  have hb := mixh_b ns k
  have h1 : mulOk 7919 k = true := mulOk_l (by decide)
  have h2 : mulOk (cell ns k + 7919 * k + 1) 48271 = true := mulOk_r (by decide)
  have h3 : mulOk (mixh ns k) (mixh ns k) = true := mulOk_l (by omega)
  have h4 : mulOk 7 (mixh ns k) = true := mulOk_l (by decide)
  simp [evalX, evalA, evalS, evalB, runD, fin_same, o_add_i, o_add_s, o_add_l, o_add_t, o_sub, o_mul, o_rep, o_div, o_mod, c_lt, c_le, c_gt, c_ge, c_eq, c_ne, c_is_non, c_isn_non, c_is_bl, c_isn_bl, c_is_int, c_isn_int, c_is_str, c_isn_str, c_is_tup, c_isn_tup, c_is_lst, c_isn_lst, c_mem_s, c_nmem_s, c_mem_t, c_nmem_t, c_mem_l, c_nmem_l, fl_non, isi_tuple_non, isi_str_non, isi_int_non, isi_bool_non, fl_bl, isi_tuple_bl, isi_str_bl, isi_int_bl, isi_bool_bl, fl_int, isi_tuple_int, isi_str_int, isi_int_int, isi_bool_int, fl_str, isi_tuple_str, isi_str_str, isi_int_str, isi_bool_str, fl_tup, isi_tuple_tup, isi_str_tup, isi_int_tup, isi_bool_tup, fl_lst, isi_tuple_lst, isi_str_lst, isi_int_lst, isi_bool_lst, eqv_non_non, eqv_non_bl, eqv_non_int, eqv_non_str, eqv_non_tup, eqv_non_lst, eqv_bl_non, eqv_bl_bl, eqv_bl_int, eqv_bl_str, eqv_bl_tup, eqv_bl_lst, eqv_int_non, eqv_int_bl, eqv_int_int, eqv_int_str, eqv_int_tup, eqv_int_lst, eqv_str_non, eqv_str_bl, eqv_str_int, eqv_str_str, eqv_str_tup, eqv_str_lst, eqv_tup_non, eqv_tup_bl, eqv_tup_int, eqv_tup_str, eqv_tup_tup, eqv_tup_lst, eqv_lst_non, eqv_lst_bl, eqv_lst_int, eqv_lst_str, eqv_lst_tup, eqv_lst_lst, eqvL_nn, eqvL_cc, eqvL_nc, eqvL_cn, ok_tup, ok_lst, ok_tup50, ok_lst50, ok_tup49, ok_non, ok_bl, ok_int, ok_str, it_tup, it_lst, it_ref, ix_str, ix_scr, ix_tup, ix_lst, ix_ref, sl_str, sl_tup, sl_lst, ln_str, ln_scr, ln_tup, ln_lst, ln_ref, in_int, in_bl, u_neg, u_len, u_isi, u_int, u_abs, u_tup, u_lst_t, u_lst_l, u_range, u_str, u_sorted, u_sortedr, u_sset, u_find, b_max, b_starts, b_index, w_str, w_tup, w_lst, a_bl, a_int, r_tup, at_ref, at_0, at_1, at_2, at_3, at_4, df_Lmixed, pb_Lmixed, Lcell_eq hm ns hk, h1, h2]
  rw [show (cell ns k + 7919 * k + 1) * 48271 % 2147483647 = mixh ns k from rfl]
  simp [evalX, evalA, evalS, evalB, runD, fin_same, o_add_i, o_add_s, o_add_l, o_add_t, o_sub, o_mul, o_rep, o_div, o_mod, c_lt, c_le, c_gt, c_ge, c_eq, c_ne, c_is_non, c_isn_non, c_is_bl, c_isn_bl, c_is_int, c_isn_int, c_is_str, c_isn_str, c_is_tup, c_isn_tup, c_is_lst, c_isn_lst, c_mem_s, c_nmem_s, c_mem_t, c_nmem_t, c_mem_l, c_nmem_l, fl_non, isi_tuple_non, isi_str_non, isi_int_non, isi_bool_non, fl_bl, isi_tuple_bl, isi_str_bl, isi_int_bl, isi_bool_bl, fl_int, isi_tuple_int, isi_str_int, isi_int_int, isi_bool_int, fl_str, isi_tuple_str, isi_str_str, isi_int_str, isi_bool_str, fl_tup, isi_tuple_tup, isi_str_tup, isi_int_tup, isi_bool_tup, fl_lst, isi_tuple_lst, isi_str_lst, isi_int_lst, isi_bool_lst, eqv_non_non, eqv_non_bl, eqv_non_int, eqv_non_str, eqv_non_tup, eqv_non_lst, eqv_bl_non, eqv_bl_bl, eqv_bl_int, eqv_bl_str, eqv_bl_tup, eqv_bl_lst, eqv_int_non, eqv_int_bl, eqv_int_int, eqv_int_str, eqv_int_tup, eqv_int_lst, eqv_str_non, eqv_str_bl, eqv_str_int, eqv_str_str, eqv_str_tup, eqv_str_lst, eqv_tup_non, eqv_tup_bl, eqv_tup_int, eqv_tup_str, eqv_tup_tup, eqv_tup_lst, eqv_lst_non, eqv_lst_bl, eqv_lst_int, eqv_lst_str, eqv_lst_tup, eqv_lst_lst, eqvL_nn, eqvL_cc, eqvL_nc, eqvL_cn, ok_tup, ok_lst, ok_tup50, ok_lst50, ok_tup49, ok_non, ok_bl, ok_int, ok_str, it_tup, it_lst, it_ref, ix_str, ix_scr, ix_tup, ix_lst, ix_ref, sl_str, sl_tup, sl_lst, ln_str, ln_scr, ln_tup, ln_lst, ln_ref, in_int, in_bl, u_neg, u_len, u_isi, u_int, u_abs, u_tup, u_lst_t, u_lst_l, u_range, u_str, u_sorted, u_sortedr, u_sset, u_find, b_max, b_starts, b_index, w_str, w_tup, w_lst, a_bl, a_int, r_tup, at_ref, at_0, at_1, at_2, at_3, at_4, h3, h4, mixed]
def drawh (x k : Int) : Int := (x + 104729 * k + 17) * 69621 % 2147483647
def drawn (x k : Int) : Int := (drawh x k * drawh x k + 3 * drawh x k + k) % 2147483629
theorem drawh_b (x k : Int) : 0 ≤ drawh x k ∧ drawh x k < 2147483647 := ⟨Int.emod_nonneg _ (by decide), Int.emod_lt_of_pos _ (by decide)⟩
theorem drawn_b (x k : Int) : 0 ≤ drawn x k ∧ drawn x k < 2147483629 := ⟨Int.emod_nonneg _ (by decide), Int.emod_lt_of_pos _ (by decide)⟩
theorem Ldrawn_eq {n : Nat} (hn : 1 ≤ n) (x k : Int) (M : Ms) : callF prog n f_Ldrawn [.int x, .int k] M = some (.int (drawn x k), M) := by
  obtain ⟨m, rfl, hm⟩ := succ_of hn
  rw [call1 at_Ldrawn]
  have hb := drawh_b x k
  have h1 : mulOk 104729 k = true := mulOk_l (by decide)
  have h2 : mulOk (x + 104729 * k + 17) 69621 = true := mulOk_r (by decide)
  have h3 : mulOk (drawh x k) (drawh x k) = true := mulOk_l (by omega)
  have h4 : mulOk 3 (drawh x k) = true := mulOk_l (by decide)
  simp [evalX, evalA, evalS, evalB, runD, fin_same, o_add_i, o_add_s, o_add_l, o_add_t, o_sub, o_mul, o_rep, o_div, o_mod, c_lt, c_le, c_gt, c_ge, c_eq, c_ne, c_is_non, c_isn_non, c_is_bl, c_isn_bl, c_is_int, c_isn_int, c_is_str, c_isn_str, c_is_tup, c_isn_tup, c_is_lst, c_isn_lst, c_mem_s, c_nmem_s, c_mem_t, c_nmem_t, c_mem_l, c_nmem_l, fl_non, isi_tuple_non, isi_str_non, isi_int_non, isi_bool_non, fl_bl, isi_tuple_bl, isi_str_bl, isi_int_bl, isi_bool_bl, fl_int, isi_tuple_int, isi_str_int, isi_int_int, isi_bool_int, fl_str, isi_tuple_str, isi_str_str, isi_int_str, isi_bool_str, fl_tup, isi_tuple_tup, isi_str_tup, isi_int_tup, isi_bool_tup, fl_lst, isi_tuple_lst, isi_str_lst, isi_int_lst, isi_bool_lst, eqv_non_non, eqv_non_bl, eqv_non_int, eqv_non_str, eqv_non_tup, eqv_non_lst, eqv_bl_non, eqv_bl_bl, eqv_bl_int, eqv_bl_str, eqv_bl_tup, eqv_bl_lst, eqv_int_non, eqv_int_bl, eqv_int_int, eqv_int_str, eqv_int_tup, eqv_int_lst, eqv_str_non, eqv_str_bl, eqv_str_int, eqv_str_str, eqv_str_tup, eqv_str_lst, eqv_tup_non, eqv_tup_bl, eqv_tup_int, eqv_tup_str, eqv_tup_tup, eqv_tup_lst, eqv_lst_non, eqv_lst_bl, eqv_lst_int, eqv_lst_str, eqv_lst_tup, eqv_lst_lst, eqvL_nn, eqvL_cc, eqvL_nc, eqvL_cn, ok_tup, ok_lst, ok_tup50, ok_lst50, ok_tup49, ok_non, ok_bl, ok_int, ok_str, it_tup, it_lst, it_ref, ix_str, ix_scr, ix_tup, ix_lst, ix_ref, sl_str, sl_tup, sl_lst, ln_str, ln_scr, ln_tup, ln_lst, ln_ref, in_int, in_bl, u_neg, u_len, u_isi, u_int, u_abs, u_tup, u_lst_t, u_lst_l, u_range, u_str, u_sorted, u_sortedr, u_sset, u_find, b_max, b_starts, b_index, w_str, w_tup, w_lst, a_bl, a_int, r_tup, at_ref, at_0, at_1, at_2, at_3, at_4, df_Ldrawn, pb_Ldrawn, h1, h2]
  rw [show (x + 104729 * k + 17) * 69621 % 2147483647 = drawh x k from rfl]
  simp [evalX, evalA, evalS, evalB, runD, fin_same, o_add_i, o_add_s, o_add_l, o_add_t, o_sub, o_mul, o_rep, o_div, o_mod, c_lt, c_le, c_gt, c_ge, c_eq, c_ne, c_is_non, c_isn_non, c_is_bl, c_isn_bl, c_is_int, c_isn_int, c_is_str, c_isn_str, c_is_tup, c_isn_tup, c_is_lst, c_isn_lst, c_mem_s, c_nmem_s, c_mem_t, c_nmem_t, c_mem_l, c_nmem_l, fl_non, isi_tuple_non, isi_str_non, isi_int_non, isi_bool_non, fl_bl, isi_tuple_bl, isi_str_bl, isi_int_bl, isi_bool_bl, fl_int, isi_tuple_int, isi_str_int, isi_int_int, isi_bool_int, fl_str, isi_tuple_str, isi_str_str, isi_int_str, isi_bool_str, fl_tup, isi_tuple_tup, isi_str_tup, isi_int_tup, isi_bool_tup, fl_lst, isi_tuple_lst, isi_str_lst, isi_int_lst, isi_bool_lst, eqv_non_non, eqv_non_bl, eqv_non_int, eqv_non_str, eqv_non_tup, eqv_non_lst, eqv_bl_non, eqv_bl_bl, eqv_bl_int, eqv_bl_str, eqv_bl_tup, eqv_bl_lst, eqv_int_non, eqv_int_bl, eqv_int_int, eqv_int_str, eqv_int_tup, eqv_int_lst, eqv_str_non, eqv_str_bl, eqv_str_int, eqv_str_str, eqv_str_tup, eqv_str_lst, eqv_tup_non, eqv_tup_bl, eqv_tup_int, eqv_tup_str, eqv_tup_tup, eqv_tup_lst, eqv_lst_non, eqv_lst_bl, eqv_lst_int, eqv_lst_str, eqv_lst_tup, eqv_lst_lst, eqvL_nn, eqvL_cc, eqvL_nc, eqvL_cn, ok_tup, ok_lst, ok_tup50, ok_lst50, ok_tup49, ok_non, ok_bl, ok_int, ok_str, it_tup, it_lst, it_ref, ix_str, ix_scr, ix_tup, ix_lst, ix_ref, sl_str, sl_tup, sl_lst, ln_str, ln_scr, ln_tup, ln_lst, ln_ref, in_int, in_bl, u_neg, u_len, u_isi, u_int, u_abs, u_tup, u_lst_t, u_lst_l, u_range, u_str, u_sorted, u_sortedr, u_sset, u_find, b_max, b_starts, b_index, w_str, w_tup, w_lst, a_bl, a_int, r_tup, at_ref, at_0, at_1, at_2, at_3, at_4, h3, h4, drawn]

/-! ### trees -/
inductive Wd | plus | less | times
def Wd.tx : Wd → Tx
  | .plus => [112, 108, 117, 115]
  | .less => [108, 101, 115, 115]
  | .times => [116, 105, 109, 101, 115]
abbrev cNum : Tx := [110, 117, 109, 98, 101, 114]
inductive T | num (n : Int) | join (w : Wd) (l r : T)
def enc : T → D
  | .num n => .tup [.str cNum, .int n]
  | .join w l r => .tup [.str w.tx, enc l, enc r]
def T.cnt : T → Nat
  | .num _ => 1
  | .join _ l r => l.cnt + r.cnt
def T.dep : T → Nat
  | .num _ => 0
  | .join _ l r => max l.dep r.dep + 1
def T.good : T → Prop
  | .num n => -1000 ≤ n ∧ n ≤ 1000
  | .join _ l r => l.good ∧ r.good
theorem T.cnt_pos : ∀ t : T, 1 ≤ t.cnt
  | .num _ => Nat.le_refl _
  | .join _ l r => Nat.le_trans l.cnt_pos (Nat.le_add_right _ _)
theorem T.dep_lt : ∀ t : T, t.dep < t.cnt
  | .num _ => by simp [T.dep, T.cnt]
  | .join _ l r => by
    have h1 := l.dep_lt
    have h2 := r.dep_lt
    have h3 := l.cnt_pos
    have h4 := r.cnt_pos
    simp only [T.dep, T.cnt]
    omega
theorem enc_ok : ∀ (t : T) (n : Nat), t.dep + 1 ≤ n → (enc t).ok n = true
  | .num m, n, h => by
    obtain ⟨k, rfl, hk⟩ := succ_of h
    simp [enc, D.ok]
  | .join w l r, n, h => by
    obtain ⟨k, rfl, hk⟩ := succ_of h
    simp only [T.dep] at hk
    simp [enc, D.ok, enc_ok l k (by omega), enc_ok r k (by omega)]
theorem enc_ok50 {t : T} (h : t.cnt ≤ 40) : (enc t).ok 50 = true := enc_ok t 50 (by have := t.dep_lt; omega)
mutual
theorem eqv_refl : ∀ (n : Nat) (d : D), d.ok n = true → d.eqv d = true
  | _, .non, _ => rfl
  | _, .bl b, _ => by simp [D.eqv]
  | _, .int b, _ => by simp [D.eqv]
  | _, .str b, _ => by simp [D.eqv]
  | n, .tup ds, h => by
    cases n with
    | zero => simp [D.ok] at h
    | succ n => simp only [D.ok] at h; simp only [D.eqv]; exact eqvL_refl n ds h
  | n, .lst ds, h => by
    cases n with
    | zero => simp [D.ok] at h
    | succ n => simp only [D.ok] at h; simp only [D.eqv]; exact eqvL_refl n ds h
  | _, .scr _, h => by simp [D.ok] at h
  | _, .ref _, h => by simp [D.ok] at h
theorem eqvL_refl : ∀ (n : Nat) (ds : List D), ds.all (D.ok n) = true → D.eqvL ds ds = true
  | _, [], _ => rfl
  | n, d :: ds, h => by
    rw [List.all_cons, Bool.and_eq_true] at h
    simp [D.eqvL, eqv_refl n d h.1, eqvL_refl n ds h.2]
end
theorem Wd.ne (w : Wd) : (w.tx == cNum) = false := by cases w <;> decide
theorem wd_at (i : Int) (h0 : 0 ≤ i) (h3 : i < 3) : ∃ w : Wd, atD [D.str [112, 108, 117, 115], D.str [108, 101, 115, 115], D.str [116, 105, 109, 101, 115]] i = some (.str w.tx) := by
  have : i = 0 ∨ i = 1 ∨ i = 2 := by omega
  rcases this with rfl | rfl | rfl
  · exact ⟨.plus, rfl⟩
  · exact ⟨.less, rfl⟩
  · exact ⟨.times, rfl⟩
theorem at2 {α : Type} (a b : α) (i : Int) (h0 : 0 ≤ i) (h3 : i < 2) : atD [a, b] i = some (if i = 0 then a else b) := by
  have : i = 0 ∨ i = 1 := by omega
  rcases this with rfl | rfl <;> rfl
/-- the drawn tree has so many numbers as it should -/
theorem Ltree_ex : ∀ (many : Nat) {n : Nat} (hn : many + 1 ≤ n) (hm : 1 ≤ many) (number kind : Int) (M : Ms), ∃ t : T, t.cnt = many ∧ t.good ∧ callF prog n f_Ltree [.int number, .int many, .int kind] M = some (enc t, M) := by
  intro many
  induction many using Nat.strongRecOn with
  | _ many ih =>
    intro n hn hm number kind M
    obtain ⟨m, rfl, hmm⟩ := succ_of hn
    rw [call1 at_Ltree]
    by_cases h1 : many = 1
    · subst h1
      have hz0 : 0 ≤ number / 16 % 2 := Int.emod_nonneg _ (by decide)
      have hz1 : number / 16 % 2 < 2 := Int.emod_lt_of_pos _ (by decide)
      have hz : number / 16 % 2 = 0 ∨ number / 16 % 2 = 1 := by omega
      rcases hz with hz | hz
      · refine ⟨.num (drawn number 1 / 8 % 21 - 10), rfl, ?_, ?_⟩
        · have a := Int.emod_nonneg (drawn number 1 / 8) (show (21 : Int) ≠ 0 by decide)
          have b := Int.emod_lt_of_pos (drawn number 1 / 8) (show (0 : Int) < 21 by decide)
          exact ⟨by omega, by omega⟩
        · simp [evalX, evalA, evalS, evalB, runD, fin_same, o_add_i, o_add_s, o_add_l, o_add_t, o_sub, o_mul, o_rep, o_div, o_mod, c_lt, c_le, c_gt, c_ge, c_eq, c_ne, c_is_non, c_isn_non, c_is_bl, c_isn_bl, c_is_int, c_isn_int, c_is_str, c_isn_str, c_is_tup, c_isn_tup, c_is_lst, c_isn_lst, c_mem_s, c_nmem_s, c_mem_t, c_nmem_t, c_mem_l, c_nmem_l, fl_non, isi_tuple_non, isi_str_non, isi_int_non, isi_bool_non, fl_bl, isi_tuple_bl, isi_str_bl, isi_int_bl, isi_bool_bl, fl_int, isi_tuple_int, isi_str_int, isi_int_int, isi_bool_int, fl_str, isi_tuple_str, isi_str_str, isi_int_str, isi_bool_str, fl_tup, isi_tuple_tup, isi_str_tup, isi_int_tup, isi_bool_tup, fl_lst, isi_tuple_lst, isi_str_lst, isi_int_lst, isi_bool_lst, eqv_non_non, eqv_non_bl, eqv_non_int, eqv_non_str, eqv_non_tup, eqv_non_lst, eqv_bl_non, eqv_bl_bl, eqv_bl_int, eqv_bl_str, eqv_bl_tup, eqv_bl_lst, eqv_int_non, eqv_int_bl, eqv_int_int, eqv_int_str, eqv_int_tup, eqv_int_lst, eqv_str_non, eqv_str_bl, eqv_str_int, eqv_str_str, eqv_str_tup, eqv_str_lst, eqv_tup_non, eqv_tup_bl, eqv_tup_int, eqv_tup_str, eqv_tup_tup, eqv_tup_lst, eqv_lst_non, eqv_lst_bl, eqv_lst_int, eqv_lst_str, eqv_lst_tup, eqv_lst_lst, eqvL_nn, eqvL_cc, eqvL_nc, eqvL_cn, ok_tup, ok_lst, ok_tup50, ok_lst50, ok_tup49, ok_non, ok_bl, ok_int, ok_str, it_tup, it_lst, it_ref, ix_str, ix_scr, ix_tup, ix_lst, ix_ref, sl_str, sl_tup, sl_lst, ln_str, ln_scr, ln_tup, ln_lst, ln_ref, in_int, in_bl, u_neg, u_len, u_isi, u_int, u_abs, u_tup, u_lst_t, u_lst_l, u_range, u_str, u_sorted, u_sortedr, u_sset, u_find, b_max, b_starts, b_index, w_str, w_tup, w_lst, a_bl, a_int, r_tup, at_ref, at_0, at_1, at_2, at_3, at_4, df_Ltree, pb_Ltree, Ldrawn_eq hmm, hz, at2, enc]
      · refine ⟨.num (drawn number 1 / 8 % 2001 - 1000), rfl, ?_, ?_⟩
        · have a := Int.emod_nonneg (drawn number 1 / 8) (show (2001 : Int) ≠ 0 by decide)
          have b := Int.emod_lt_of_pos (drawn number 1 / 8) (show (0 : Int) < 2001 by decide)
          exact ⟨by omega, by omega⟩
        · simp [evalX, evalA, evalS, evalB, runD, fin_same, o_add_i, o_add_s, o_add_l, o_add_t, o_sub, o_mul, o_rep, o_div, o_mod, c_lt, c_le, c_gt, c_ge, c_eq, c_ne, c_is_non, c_isn_non, c_is_bl, c_isn_bl, c_is_int, c_isn_int, c_is_str, c_isn_str, c_is_tup, c_isn_tup, c_is_lst, c_isn_lst, c_mem_s, c_nmem_s, c_mem_t, c_nmem_t, c_mem_l, c_nmem_l, fl_non, isi_tuple_non, isi_str_non, isi_int_non, isi_bool_non, fl_bl, isi_tuple_bl, isi_str_bl, isi_int_bl, isi_bool_bl, fl_int, isi_tuple_int, isi_str_int, isi_int_int, isi_bool_int, fl_str, isi_tuple_str, isi_str_str, isi_int_str, isi_bool_str, fl_tup, isi_tuple_tup, isi_str_tup, isi_int_tup, isi_bool_tup, fl_lst, isi_tuple_lst, isi_str_lst, isi_int_lst, isi_bool_lst, eqv_non_non, eqv_non_bl, eqv_non_int, eqv_non_str, eqv_non_tup, eqv_non_lst, eqv_bl_non, eqv_bl_bl, eqv_bl_int, eqv_bl_str, eqv_bl_tup, eqv_bl_lst, eqv_int_non, eqv_int_bl, eqv_int_int, eqv_int_str, eqv_int_tup, eqv_int_lst, eqv_str_non, eqv_str_bl, eqv_str_int, eqv_str_str, eqv_str_tup, eqv_str_lst, eqv_tup_non, eqv_tup_bl, eqv_tup_int, eqv_tup_str, eqv_tup_tup, eqv_tup_lst, eqv_lst_non, eqv_lst_bl, eqv_lst_int, eqv_lst_str, eqv_lst_tup, eqv_lst_lst, eqvL_nn, eqvL_cc, eqvL_nc, eqvL_cn, ok_tup, ok_lst, ok_tup50, ok_lst50, ok_tup49, ok_non, ok_bl, ok_int, ok_str, it_tup, it_lst, it_ref, ix_str, ix_scr, ix_tup, ix_lst, ix_ref, sl_str, sl_tup, sl_lst, ln_str, ln_scr, ln_tup, ln_lst, ln_ref, in_int, in_bl, u_neg, u_len, u_isi, u_int, u_abs, u_tup, u_lst_t, u_lst_l, u_range, u_str, u_sorted, u_sortedr, u_sset, u_find, b_max, b_starts, b_index, w_str, w_tup, w_lst, a_bl, a_int, r_tup, at_ref, at_0, at_1, at_2, at_3, at_4, df_Ltree, pb_Ltree, Ldrawn_eq hmm, hz, at2, enc]
    · have key : ∀ f : Nat, 1 ≤ f → f < many → ∃ t1 t2 : T, t1.cnt + t2.cnt = many ∧ t1.good ∧ t2.good ∧ callF prog m f_Ltree [.int (drawn number 2), .int f, .int kind] M = some (enc t1, M) ∧ callF prog m f_Ltree [.int (drawn number 3), .int ((many : Int) - f), .int kind] M = some (enc t2, M) := by
        intro f hf1 hf2
        obtain ⟨t1, a1, a2, a3⟩ := ih f hf2 (n := m) (by omega) hf1 (drawn number 2) kind M
        obtain ⟨t2, b1, b2, b3⟩ := ih (many - f) (by omega) (n := m) (by omega) (by omega) (drawn number 3) kind M
        refine ⟨t1, t2, by omega, a2, b2, a3, ?_⟩
        rw [show ((many - f : Nat) : Int) = (many : Int) - f by omega] at b3
        exact b3
      obtain ⟨w, hw⟩ := wd_at (number / 4 % 3) (Int.emod_nonneg _ (by decide)) (Int.emod_lt_of_pos _ (by decide))
      have h1' : ¬ (many : Int) = 1 := by omega
      have hmod : (0 : Int) < (many : Int) - 1 := by omega
      have hmod2 : (1 : Int) < many := by omega
      have g0 := Int.emod_nonneg (number / 8) (show (many : Int) - 1 ≠ 0 by omega)
      have g1 := Int.emod_lt_of_pos (number / 8) hmod
      have q0 : 0 ≤ number / 8 % 2 := Int.emod_nonneg _ (by decide)
      have q1 : number / 8 % 2 < 2 := Int.emod_lt_of_pos _ (by decide)
      by_cases k3 : kind = 3
      · subst k3
        rcases (show number / 8 % 2 = 0 ∨ number / 8 % 2 = 1 by omega) with q | q
        · obtain ⟨t1, t2, c, c1, c2, e1, e2⟩ := key 1 (Nat.le_refl _) (by omega)
          simp only [Int.natCast_one] at e1 e2
          refine ⟨.join w t1 t2, c, ⟨c1, c2⟩, ?_⟩
          simp [evalX, evalA, evalS, evalB, runD, fin_same, o_add_i, o_add_s, o_add_l, o_add_t, o_sub, o_mul, o_rep, o_div, o_mod, c_lt, c_le, c_gt, c_ge, c_eq, c_ne, c_is_non, c_isn_non, c_is_bl, c_isn_bl, c_is_int, c_isn_int, c_is_str, c_isn_str, c_is_tup, c_isn_tup, c_is_lst, c_isn_lst, c_mem_s, c_nmem_s, c_mem_t, c_nmem_t, c_mem_l, c_nmem_l, fl_non, isi_tuple_non, isi_str_non, isi_int_non, isi_bool_non, fl_bl, isi_tuple_bl, isi_str_bl, isi_int_bl, isi_bool_bl, fl_int, isi_tuple_int, isi_str_int, isi_int_int, isi_bool_int, fl_str, isi_tuple_str, isi_str_str, isi_int_str, isi_bool_str, fl_tup, isi_tuple_tup, isi_str_tup, isi_int_tup, isi_bool_tup, fl_lst, isi_tuple_lst, isi_str_lst, isi_int_lst, isi_bool_lst, eqv_non_non, eqv_non_bl, eqv_non_int, eqv_non_str, eqv_non_tup, eqv_non_lst, eqv_bl_non, eqv_bl_bl, eqv_bl_int, eqv_bl_str, eqv_bl_tup, eqv_bl_lst, eqv_int_non, eqv_int_bl, eqv_int_int, eqv_int_str, eqv_int_tup, eqv_int_lst, eqv_str_non, eqv_str_bl, eqv_str_int, eqv_str_str, eqv_str_tup, eqv_str_lst, eqv_tup_non, eqv_tup_bl, eqv_tup_int, eqv_tup_str, eqv_tup_tup, eqv_tup_lst, eqv_lst_non, eqv_lst_bl, eqv_lst_int, eqv_lst_str, eqv_lst_tup, eqv_lst_lst, eqvL_nn, eqvL_cc, eqvL_nc, eqvL_cn, ok_tup, ok_lst, ok_tup50, ok_lst50, ok_tup49, ok_non, ok_bl, ok_int, ok_str, it_tup, it_lst, it_ref, ix_str, ix_scr, ix_tup, ix_lst, ix_ref, sl_str, sl_tup, sl_lst, ln_str, ln_scr, ln_tup, ln_lst, ln_ref, in_int, in_bl, u_neg, u_len, u_isi, u_int, u_abs, u_tup, u_lst_t, u_lst_l, u_range, u_str, u_sorted, u_sortedr, u_sset, u_find, b_max, b_starts, b_index, w_str, w_tup, w_lst, a_bl, a_int, r_tup, at_ref, at_0, at_1, at_2, at_3, at_4, df_Ltree, pb_Ltree, Ldrawn_eq (show 1 ≤ m by omega), h1', q, at2, hw, enc, hmod, hmod2, e1, e2]
        · obtain ⟨t1, t2, c, c1, c2, e1, e2⟩ := key (many - 1) (by omega) (by omega)
          rw [show ((many - 1 : Nat) : Int) = (many : Int) - 1 by omega] at e1 e2
          refine ⟨.join w t1 t2, c, ⟨c1, c2⟩, ?_⟩
          simp [evalX, evalA, evalS, evalB, runD, fin_same, o_add_i, o_add_s, o_add_l, o_add_t, o_sub, o_mul, o_rep, o_div, o_mod, c_lt, c_le, c_gt, c_ge, c_eq, c_ne, c_is_non, c_isn_non, c_is_bl, c_isn_bl, c_is_int, c_isn_int, c_is_str, c_isn_str, c_is_tup, c_isn_tup, c_is_lst, c_isn_lst, c_mem_s, c_nmem_s, c_mem_t, c_nmem_t, c_mem_l, c_nmem_l, fl_non, isi_tuple_non, isi_str_non, isi_int_non, isi_bool_non, fl_bl, isi_tuple_bl, isi_str_bl, isi_int_bl, isi_bool_bl, fl_int, isi_tuple_int, isi_str_int, isi_int_int, isi_bool_int, fl_str, isi_tuple_str, isi_str_str, isi_int_str, isi_bool_str, fl_tup, isi_tuple_tup, isi_str_tup, isi_int_tup, isi_bool_tup, fl_lst, isi_tuple_lst, isi_str_lst, isi_int_lst, isi_bool_lst, eqv_non_non, eqv_non_bl, eqv_non_int, eqv_non_str, eqv_non_tup, eqv_non_lst, eqv_bl_non, eqv_bl_bl, eqv_bl_int, eqv_bl_str, eqv_bl_tup, eqv_bl_lst, eqv_int_non, eqv_int_bl, eqv_int_int, eqv_int_str, eqv_int_tup, eqv_int_lst, eqv_str_non, eqv_str_bl, eqv_str_int, eqv_str_str, eqv_str_tup, eqv_str_lst, eqv_tup_non, eqv_tup_bl, eqv_tup_int, eqv_tup_str, eqv_tup_tup, eqv_tup_lst, eqv_lst_non, eqv_lst_bl, eqv_lst_int, eqv_lst_str, eqv_lst_tup, eqv_lst_lst, eqvL_nn, eqvL_cc, eqvL_nc, eqvL_cn, ok_tup, ok_lst, ok_tup50, ok_lst50, ok_tup49, ok_non, ok_bl, ok_int, ok_str, it_tup, it_lst, it_ref, ix_str, ix_scr, ix_tup, ix_lst, ix_ref, sl_str, sl_tup, sl_lst, ln_str, ln_scr, ln_tup, ln_lst, ln_ref, in_int, in_bl, u_neg, u_len, u_isi, u_int, u_abs, u_tup, u_lst_t, u_lst_l, u_range, u_str, u_sorted, u_sortedr, u_sset, u_find, b_max, b_starts, b_index, w_str, w_tup, w_lst, a_bl, a_int, r_tup, at_ref, at_0, at_1, at_2, at_3, at_4, df_Ltree, pb_Ltree, Ldrawn_eq (show 1 ≤ m by omega), h1', q, at2, hw, enc, hmod, hmod2, e1, e2]
      · by_cases kk : kind = 1 ∨ (kind = 2 ∧ number % 2 = 1)
        · obtain ⟨t1, t2, c, c1, c2, e1, e2⟩ := key (many / 2) (by omega) (by omega)
          rw [show ((many / 2 : Nat) : Int) = (many : Int) / 2 by omega] at e1 e2
          refine ⟨.join w t1 t2, c, ⟨c1, c2⟩, ?_⟩
          rcases kk with rfl | ⟨rfl, ko⟩
          · simp [evalX, evalA, evalS, evalB, runD, fin_same, o_add_i, o_add_s, o_add_l, o_add_t, o_sub, o_mul, o_rep, o_div, o_mod, c_lt, c_le, c_gt, c_ge, c_eq, c_ne, c_is_non, c_isn_non, c_is_bl, c_isn_bl, c_is_int, c_isn_int, c_is_str, c_isn_str, c_is_tup, c_isn_tup, c_is_lst, c_isn_lst, c_mem_s, c_nmem_s, c_mem_t, c_nmem_t, c_mem_l, c_nmem_l, fl_non, isi_tuple_non, isi_str_non, isi_int_non, isi_bool_non, fl_bl, isi_tuple_bl, isi_str_bl, isi_int_bl, isi_bool_bl, fl_int, isi_tuple_int, isi_str_int, isi_int_int, isi_bool_int, fl_str, isi_tuple_str, isi_str_str, isi_int_str, isi_bool_str, fl_tup, isi_tuple_tup, isi_str_tup, isi_int_tup, isi_bool_tup, fl_lst, isi_tuple_lst, isi_str_lst, isi_int_lst, isi_bool_lst, eqv_non_non, eqv_non_bl, eqv_non_int, eqv_non_str, eqv_non_tup, eqv_non_lst, eqv_bl_non, eqv_bl_bl, eqv_bl_int, eqv_bl_str, eqv_bl_tup, eqv_bl_lst, eqv_int_non, eqv_int_bl, eqv_int_int, eqv_int_str, eqv_int_tup, eqv_int_lst, eqv_str_non, eqv_str_bl, eqv_str_int, eqv_str_str, eqv_str_tup, eqv_str_lst, eqv_tup_non, eqv_tup_bl, eqv_tup_int, eqv_tup_str, eqv_tup_tup, eqv_tup_lst, eqv_lst_non, eqv_lst_bl, eqv_lst_int, eqv_lst_str, eqv_lst_tup, eqv_lst_lst, eqvL_nn, eqvL_cc, eqvL_nc, eqvL_cn, ok_tup, ok_lst, ok_tup50, ok_lst50, ok_tup49, ok_non, ok_bl, ok_int, ok_str, it_tup, it_lst, it_ref, ix_str, ix_scr, ix_tup, ix_lst, ix_ref, sl_str, sl_tup, sl_lst, ln_str, ln_scr, ln_tup, ln_lst, ln_ref, in_int, in_bl, u_neg, u_len, u_isi, u_int, u_abs, u_tup, u_lst_t, u_lst_l, u_range, u_str, u_sorted, u_sortedr, u_sset, u_find, b_max, b_starts, b_index, w_str, w_tup, w_lst, a_bl, a_int, r_tup, at_ref, at_0, at_1, at_2, at_3, at_4, df_Ltree, pb_Ltree, Ldrawn_eq (show 1 ≤ m by omega), h1', hw, enc, hmod, hmod2, e1, e2]
          · simp [evalX, evalA, evalS, evalB, runD, fin_same, o_add_i, o_add_s, o_add_l, o_add_t, o_sub, o_mul, o_rep, o_div, o_mod, c_lt, c_le, c_gt, c_ge, c_eq, c_ne, c_is_non, c_isn_non, c_is_bl, c_isn_bl, c_is_int, c_isn_int, c_is_str, c_isn_str, c_is_tup, c_isn_tup, c_is_lst, c_isn_lst, c_mem_s, c_nmem_s, c_mem_t, c_nmem_t, c_mem_l, c_nmem_l, fl_non, isi_tuple_non, isi_str_non, isi_int_non, isi_bool_non, fl_bl, isi_tuple_bl, isi_str_bl, isi_int_bl, isi_bool_bl, fl_int, isi_tuple_int, isi_str_int, isi_int_int, isi_bool_int, fl_str, isi_tuple_str, isi_str_str, isi_int_str, isi_bool_str, fl_tup, isi_tuple_tup, isi_str_tup, isi_int_tup, isi_bool_tup, fl_lst, isi_tuple_lst, isi_str_lst, isi_int_lst, isi_bool_lst, eqv_non_non, eqv_non_bl, eqv_non_int, eqv_non_str, eqv_non_tup, eqv_non_lst, eqv_bl_non, eqv_bl_bl, eqv_bl_int, eqv_bl_str, eqv_bl_tup, eqv_bl_lst, eqv_int_non, eqv_int_bl, eqv_int_int, eqv_int_str, eqv_int_tup, eqv_int_lst, eqv_str_non, eqv_str_bl, eqv_str_int, eqv_str_str, eqv_str_tup, eqv_str_lst, eqv_tup_non, eqv_tup_bl, eqv_tup_int, eqv_tup_str, eqv_tup_tup, eqv_tup_lst, eqv_lst_non, eqv_lst_bl, eqv_lst_int, eqv_lst_str, eqv_lst_tup, eqv_lst_lst, eqvL_nn, eqvL_cc, eqvL_nc, eqvL_cn, ok_tup, ok_lst, ok_tup50, ok_lst50, ok_tup49, ok_non, ok_bl, ok_int, ok_str, it_tup, it_lst, it_ref, ix_str, ix_scr, ix_tup, ix_lst, ix_ref, sl_str, sl_tup, sl_lst, ln_str, ln_scr, ln_tup, ln_lst, ln_ref, in_int, in_bl, u_neg, u_len, u_isi, u_int, u_abs, u_tup, u_lst_t, u_lst_l, u_range, u_str, u_sorted, u_sortedr, u_sset, u_find, b_max, b_starts, b_index, w_str, w_tup, w_lst, a_bl, a_int, r_tup, at_ref, at_0, at_1, at_2, at_3, at_4, df_Ltree, pb_Ltree, Ldrawn_eq (show 1 ≤ m by omega), h1', hw, enc, hmod, hmod2, e1, e2, ko]
        · obtain ⟨t1, t2, c, c1, c2, e1, e2⟩ := key (1 + number / 8 % ((many : Int) - 1)).toNat (by omega) (by omega)
          rw [show (((1 + number / 8 % ((many : Int) - 1)).toNat : Nat) : Int) = 1 + number / 8 % ((many : Int) - 1) by omega] at e1 e2
          refine ⟨.join w t1 t2, c, ⟨c1, c2⟩, ?_⟩
          have n1 : ¬ kind = 1 := fun z => kk (.inl z)
          by_cases k2 : kind = 2
          · have ko : ¬ number % 2 = 1 := fun z => kk (.inr ⟨k2, z⟩)
            subst k2
            simp [evalX, evalA, evalS, evalB, runD, fin_same, o_add_i, o_add_s, o_add_l, o_add_t, o_sub, o_mul, o_rep, o_div, o_mod, c_lt, c_le, c_gt, c_ge, c_eq, c_ne, c_is_non, c_isn_non, c_is_bl, c_isn_bl, c_is_int, c_isn_int, c_is_str, c_isn_str, c_is_tup, c_isn_tup, c_is_lst, c_isn_lst, c_mem_s, c_nmem_s, c_mem_t, c_nmem_t, c_mem_l, c_nmem_l, fl_non, isi_tuple_non, isi_str_non, isi_int_non, isi_bool_non, fl_bl, isi_tuple_bl, isi_str_bl, isi_int_bl, isi_bool_bl, fl_int, isi_tuple_int, isi_str_int, isi_int_int, isi_bool_int, fl_str, isi_tuple_str, isi_str_str, isi_int_str, isi_bool_str, fl_tup, isi_tuple_tup, isi_str_tup, isi_int_tup, isi_bool_tup, fl_lst, isi_tuple_lst, isi_str_lst, isi_int_lst, isi_bool_lst, eqv_non_non, eqv_non_bl, eqv_non_int, eqv_non_str, eqv_non_tup, eqv_non_lst, eqv_bl_non, eqv_bl_bl, eqv_bl_int, eqv_bl_str, eqv_bl_tup, eqv_bl_lst, eqv_int_non, eqv_int_bl, eqv_int_int, eqv_int_str, eqv_int_tup, eqv_int_lst, eqv_str_non, eqv_str_bl, eqv_str_int, eqv_str_str, eqv_str_tup, eqv_str_lst, eqv_tup_non, eqv_tup_bl, eqv_tup_int, eqv_tup_str, eqv_tup_tup, eqv_tup_lst, eqv_lst_non, eqv_lst_bl, eqv_lst_int, eqv_lst_str, eqv_lst_tup, eqv_lst_lst, eqvL_nn, eqvL_cc, eqvL_nc, eqvL_cn, ok_tup, ok_lst, ok_tup50, ok_lst50, ok_tup49, ok_non, ok_bl, ok_int, ok_str, it_tup, it_lst, it_ref, ix_str, ix_scr, ix_tup, ix_lst, ix_ref, sl_str, sl_tup, sl_lst, ln_str, ln_scr, ln_tup, ln_lst, ln_ref, in_int, in_bl, u_neg, u_len, u_isi, u_int, u_abs, u_tup, u_lst_t, u_lst_l, u_range, u_str, u_sorted, u_sortedr, u_sset, u_find, b_max, b_starts, b_index, w_str, w_tup, w_lst, a_bl, a_int, r_tup, at_ref, at_0, at_1, at_2, at_3, at_4, df_Ltree, pb_Ltree, Ldrawn_eq (show 1 ≤ m by omega), h1', hw, enc, hmod, hmod2, e1, e2, ko]
          · simp [evalX, evalA, evalS, evalB, runD, fin_same, o_add_i, o_add_s, o_add_l, o_add_t, o_sub, o_mul, o_rep, o_div, o_mod, c_lt, c_le, c_gt, c_ge, c_eq, c_ne, c_is_non, c_isn_non, c_is_bl, c_isn_bl, c_is_int, c_isn_int, c_is_str, c_isn_str, c_is_tup, c_isn_tup, c_is_lst, c_isn_lst, c_mem_s, c_nmem_s, c_mem_t, c_nmem_t, c_mem_l, c_nmem_l, fl_non, isi_tuple_non, isi_str_non, isi_int_non, isi_bool_non, fl_bl, isi_tuple_bl, isi_str_bl, isi_int_bl, isi_bool_bl, fl_int, isi_tuple_int, isi_str_int, isi_int_int, isi_bool_int, fl_str, isi_tuple_str, isi_str_str, isi_int_str, isi_bool_str, fl_tup, isi_tuple_tup, isi_str_tup, isi_int_tup, isi_bool_tup, fl_lst, isi_tuple_lst, isi_str_lst, isi_int_lst, isi_bool_lst, eqv_non_non, eqv_non_bl, eqv_non_int, eqv_non_str, eqv_non_tup, eqv_non_lst, eqv_bl_non, eqv_bl_bl, eqv_bl_int, eqv_bl_str, eqv_bl_tup, eqv_bl_lst, eqv_int_non, eqv_int_bl, eqv_int_int, eqv_int_str, eqv_int_tup, eqv_int_lst, eqv_str_non, eqv_str_bl, eqv_str_int, eqv_str_str, eqv_str_tup, eqv_str_lst, eqv_tup_non, eqv_tup_bl, eqv_tup_int, eqv_tup_str, eqv_tup_tup, eqv_tup_lst, eqv_lst_non, eqv_lst_bl, eqv_lst_int, eqv_lst_str, eqv_lst_tup, eqv_lst_lst, eqvL_nn, eqvL_cc, eqvL_nc, eqvL_cn, ok_tup, ok_lst, ok_tup50, ok_lst50, ok_tup49, ok_non, ok_bl, ok_int, ok_str, it_tup, it_lst, it_ref, ix_str, ix_scr, ix_tup, ix_lst, ix_ref, sl_str, sl_tup, sl_lst, ln_str, ln_scr, ln_tup, ln_lst, ln_ref, in_int, in_bl, u_neg, u_len, u_isi, u_int, u_abs, u_tup, u_lst_t, u_lst_l, u_range, u_str, u_sorted, u_sortedr, u_sset, u_find, b_max, b_starts, b_index, w_str, w_tup, w_lst, a_bl, a_int, r_tup, at_ref, at_0, at_1, at_2, at_3, at_4, df_Ltree, pb_Ltree, Ldrawn_eq (show 1 ≤ m by omega), h1', hw, enc, hmod, hmod2, e1, e2, k2, n1, k3]

theorem Ldrawn_tree_ex {n : Nat} (hn : 18 ≤ n) (number : Int) (M : Ms) : ∃ t : T, t.cnt ≤ 16 ∧ t.good ∧ callF prog n f_Ldrawn_tree [.int number] M = some (enc t, M) := by
  obtain ⟨m, rfl, hm⟩ := succ_of hn
  rw [call1 at_Ldrawn_tree]
  have q0 : 0 ≤ number / 4 % 4 := Int.emod_nonneg _ (by decide)
  have q1 : number / 4 % 4 < 4 := Int.emod_lt_of_pos _ (by decide)
  have p0 : 0 ≤ number / 64 % 16 := Int.emod_nonneg _ (by decide)
  have p1 : number / 64 % 16 < 16 := Int.emod_lt_of_pos _ (by decide)
  have key : ∀ k : Int, atD [D.int 16, D.int 8, D.int 4, D.int (1 + number / 64 % 16)] (number / 4 % 4) = some (.int k) → 1 ≤ k → k ≤ 16 → ∃ t : T, t.cnt ≤ 16 ∧ t.good ∧ runD (callF prog m) df_Ldrawn_tree [.int number] M = some (enc t, M) := by
    intro k hk h1 h2
    obtain ⟨t, c, g, e⟩ := Ltree_ex k.toNat (n := m) (by omega) (by omega) (number / 64) (number % 4) M
    rw [show ((k.toNat : Nat) : Int) = k by omega] at e
    refine ⟨t, by omega, g, ?_⟩
    simp [evalX, evalA, evalS, evalB, runD, fin_same, o_add_i, o_add_s, o_add_l, o_add_t, o_sub, o_mul, o_rep, o_div, o_mod, c_lt, c_le, c_gt, c_ge, c_eq, c_ne, c_is_non, c_isn_non, c_is_bl, c_isn_bl, c_is_int, c_isn_int, c_is_str, c_isn_str, c_is_tup, c_isn_tup, c_is_lst, c_isn_lst, c_mem_s, c_nmem_s, c_mem_t, c_nmem_t, c_mem_l, c_nmem_l, fl_non, isi_tuple_non, isi_str_non, isi_int_non, isi_bool_non, fl_bl, isi_tuple_bl, isi_str_bl, isi_int_bl, isi_bool_bl, fl_int, isi_tuple_int, isi_str_int, isi_int_int, isi_bool_int, fl_str, isi_tuple_str, isi_str_str, isi_int_str, isi_bool_str, fl_tup, isi_tuple_tup, isi_str_tup, isi_int_tup, isi_bool_tup, fl_lst, isi_tuple_lst, isi_str_lst, isi_int_lst, isi_bool_lst, eqv_non_non, eqv_non_bl, eqv_non_int, eqv_non_str, eqv_non_tup, eqv_non_lst, eqv_bl_non, eqv_bl_bl, eqv_bl_int, eqv_bl_str, eqv_bl_tup, eqv_bl_lst, eqv_int_non, eqv_int_bl, eqv_int_int, eqv_int_str, eqv_int_tup, eqv_int_lst, eqv_str_non, eqv_str_bl, eqv_str_int, eqv_str_str, eqv_str_tup, eqv_str_lst, eqv_tup_non, eqv_tup_bl, eqv_tup_int, eqv_tup_str, eqv_tup_tup, eqv_tup_lst, eqv_lst_non, eqv_lst_bl, eqv_lst_int, eqv_lst_str, eqv_lst_tup, eqv_lst_lst, eqvL_nn, eqvL_cc, eqvL_nc, eqvL_cn, ok_tup, ok_lst, ok_tup50, ok_lst50, ok_tup49, ok_non, ok_bl, ok_int, ok_str, it_tup, it_lst, it_ref, ix_str, ix_scr, ix_tup, ix_lst, ix_ref, sl_str, sl_tup, sl_lst, ln_str, ln_scr, ln_tup, ln_lst, ln_ref, in_int, in_bl, u_neg, u_len, u_isi, u_int, u_abs, u_tup, u_lst_t, u_lst_l, u_range, u_str, u_sorted, u_sortedr, u_sset, u_find, b_max, b_starts, b_index, w_str, w_tup, w_lst, a_bl, a_int, r_tup, at_ref, at_0, at_1, at_2, at_3, at_4, df_Ldrawn_tree, pb_Ldrawn_tree, hk, e]
  rcases (show number / 4 % 4 = 0 ∨ number / 4 % 4 = 1 ∨ number / 4 % 4 = 2 ∨ number / 4 % 4 = 3 by omega) with q | q | q | q
  · exact key 16 (by rw [q]; rfl) (by decide) (by decide)
  · exact key 8 (by rw [q]; rfl) (by decide) (by decide)
  · exact key 4 (by rw [q]; rfl) (by decide) (by decide)
  · exact key (1 + number / 64 % 16) (by rw [q]; rfl) (by omega) (by omega)

/-! ### parts -/
theorem loop_nil (b : Sl → Ms → Option R) (i : Nat) (ρ : Sl) (M : Ms) : loop b i [] ρ M = some (.nx ρ M) := rfl
theorem loop_nx {b : Sl → Ms → Option R} {i : Nat} {d : D} {ds : List D} {ρ ρ' : Sl} {M M' : Ms} (h : b (ρ.set i (some d)) M = some (.nx ρ' M')) : loop b i (d :: ds) ρ M = loop b i ds ρ' M' := by
  rw [loop, h]
  rfl
theorem loop_rt {b : Sl → Ms → Option R} {i : Nat} {d v : D} {ds : List D} {ρ : Sl} {M M' : Ms} (h : b (ρ.set i (some d)) M = some (.rt v M')) : loop b i (d :: ds) ρ M = some (.rt v M') := by
  rw [loop, h]
  rfl
def part : T → Tx → Option T
  | t, [] => some t
  | .num _, _ :: _ => none
  | .join _ l r, c :: a => if c = 108 then part l a else if c = 114 then part r a else none
theorem part_nil (t : T) : part t [] = some t := by cases t <;> rfl
def encO : Option T → D
  | none => .non
  | some t => enc t
theorem Lpart_loop (cf : Cf) (M : Ms) : ∀ (a : Tx) (t : T) (x y : D) (z : Option D), ∃ ρ, loop (evalB cf lb_Lpart_0) 3 (a.map fun c => D.str [c]) [some x, some y, some (enc t), z] M =
    some (match part t a with | some t' => .nx ρ M | none => .rt .non M) ∧ (∀ t', part t a = some t' → ρ[2]? = some (some (enc t')))
  | [], t, x, y, z => ⟨_, by rw [part_nil]; rfl, fun t' h => by rw [part_nil] at h; cases h; rfl⟩
  | c :: a, .num n, x, y, z => ⟨[], loop_rt (by simp [evalX, evalA, evalS, evalB, runD, fin_same, o_add_i, o_add_s, o_add_l, o_add_t, o_sub, o_mul, o_rep, o_div, o_mod, c_lt, c_le, c_gt, c_ge, c_eq, c_ne, c_is_non, c_isn_non, c_is_bl, c_isn_bl, c_is_int, c_isn_int, c_is_str, c_isn_str, c_is_tup, c_isn_tup, c_is_lst, c_isn_lst, c_mem_s, c_nmem_s, c_mem_t, c_nmem_t, c_mem_l, c_nmem_l, fl_non, isi_tuple_non, isi_str_non, isi_int_non, isi_bool_non, fl_bl, isi_tuple_bl, isi_str_bl, isi_int_bl, isi_bool_bl, fl_int, isi_tuple_int, isi_str_int, isi_int_int, isi_bool_int, fl_str, isi_tuple_str, isi_str_str, isi_int_str, isi_bool_str, fl_tup, isi_tuple_tup, isi_str_tup, isi_int_tup, isi_bool_tup, fl_lst, isi_tuple_lst, isi_str_lst, isi_int_lst, isi_bool_lst, eqv_non_non, eqv_non_bl, eqv_non_int, eqv_non_str, eqv_non_tup, eqv_non_lst, eqv_bl_non, eqv_bl_bl, eqv_bl_int, eqv_bl_str, eqv_bl_tup, eqv_bl_lst, eqv_int_non, eqv_int_bl, eqv_int_int, eqv_int_str, eqv_int_tup, eqv_int_lst, eqv_str_non, eqv_str_bl, eqv_str_int, eqv_str_str, eqv_str_tup, eqv_str_lst, eqv_tup_non, eqv_tup_bl, eqv_tup_int, eqv_tup_str, eqv_tup_tup, eqv_tup_lst, eqv_lst_non, eqv_lst_bl, eqv_lst_int, eqv_lst_str, eqv_lst_tup, eqv_lst_lst, eqvL_nn, eqvL_cc, eqvL_nc, eqvL_cn, ok_tup, ok_lst, ok_tup50, ok_lst50, ok_tup49, ok_non, ok_bl, ok_int, ok_str, it_tup, it_lst, it_ref, ix_str, ix_scr, ix_tup, ix_lst, ix_ref, sl_str, sl_tup, sl_lst, ln_str, ln_scr, ln_tup, ln_lst, ln_ref, in_int, in_bl, u_neg, u_len, u_isi, u_int, u_abs, u_tup, u_lst_t, u_lst_l, u_range, u_str, u_sorted, u_sortedr, u_sset, u_find, b_max, b_starts, b_index, w_str, w_tup, w_lst, a_bl, a_int, r_tup, at_ref, at_0, at_1, at_2, at_3, at_4, lb_Lpart_0, enc]), fun t' h => by simp [part] at h⟩
  | c :: a, .join w l r, x, y, z => by
    by_cases h1 : c = 108
    · subst h1
      obtain ⟨ρ, h, h2⟩ := Lpart_loop cf M a l x y (some (.str [108]))
      refine ⟨ρ, ?_, fun t' h => h2 t' (by simpa [part] using h)⟩
      rw [List.map_cons, loop_nx (ρ' := [some x, some y, some (enc l), some (.str [108])]) (M' := M) (by simp [evalX, evalA, evalS, evalB, runD, fin_same, o_add_i, o_add_s, o_add_l, o_add_t, o_sub, o_mul, o_rep, o_div, o_mod, c_lt, c_le, c_gt, c_ge, c_eq, c_ne, c_is_non, c_isn_non, c_is_bl, c_isn_bl, c_is_int, c_isn_int, c_is_str, c_isn_str, c_is_tup, c_isn_tup, c_is_lst, c_isn_lst, c_mem_s, c_nmem_s, c_mem_t, c_nmem_t, c_mem_l, c_nmem_l, fl_non, isi_tuple_non, isi_str_non, isi_int_non, isi_bool_non, fl_bl, isi_tuple_bl, isi_str_bl, isi_int_bl, isi_bool_bl, fl_int, isi_tuple_int, isi_str_int, isi_int_int, isi_bool_int, fl_str, isi_tuple_str, isi_str_str, isi_int_str, isi_bool_str, fl_tup, isi_tuple_tup, isi_str_tup, isi_int_tup, isi_bool_tup, fl_lst, isi_tuple_lst, isi_str_lst, isi_int_lst, isi_bool_lst, eqv_non_non, eqv_non_bl, eqv_non_int, eqv_non_str, eqv_non_tup, eqv_non_lst, eqv_bl_non, eqv_bl_bl, eqv_bl_int, eqv_bl_str, eqv_bl_tup, eqv_bl_lst, eqv_int_non, eqv_int_bl, eqv_int_int, eqv_int_str, eqv_int_tup, eqv_int_lst, eqv_str_non, eqv_str_bl, eqv_str_int, eqv_str_str, eqv_str_tup, eqv_str_lst, eqv_tup_non, eqv_tup_bl, eqv_tup_int, eqv_tup_str, eqv_tup_tup, eqv_tup_lst, eqv_lst_non, eqv_lst_bl, eqv_lst_int, eqv_lst_str, eqv_lst_tup, eqv_lst_lst, eqvL_nn, eqvL_cc, eqvL_nc, eqvL_cn, ok_tup, ok_lst, ok_tup50, ok_lst50, ok_tup49, ok_non, ok_bl, ok_int, ok_str, it_tup, it_lst, it_ref, ix_str, ix_scr, ix_tup, ix_lst, ix_ref, sl_str, sl_tup, sl_lst, ln_str, ln_scr, ln_tup, ln_lst, ln_ref, in_int, in_bl, u_neg, u_len, u_isi, u_int, u_abs, u_tup, u_lst_t, u_lst_l, u_range, u_str, u_sorted, u_sortedr, u_sset, u_find, b_max, b_starts, b_index, w_str, w_tup, w_lst, a_bl, a_int, r_tup, at_ref, at_0, at_1, at_2, at_3, at_4, lb_Lpart_0, enc, w.ne]), h]
      simp [part]
    · by_cases h2 : c = 114
      · subst h2
        obtain ⟨ρ, h, h2⟩ := Lpart_loop cf M a r x y (some (.str [114]))
        refine ⟨ρ, ?_, fun t' h => h2 t' (by simpa [part] using h)⟩
        rw [List.map_cons, loop_nx (ρ' := [some x, some y, some (enc r), some (.str [114])]) (M' := M) (by simp [evalX, evalA, evalS, evalB, runD, fin_same, o_add_i, o_add_s, o_add_l, o_add_t, o_sub, o_mul, o_rep, o_div, o_mod, c_lt, c_le, c_gt, c_ge, c_eq, c_ne, c_is_non, c_isn_non, c_is_bl, c_isn_bl, c_is_int, c_isn_int, c_is_str, c_isn_str, c_is_tup, c_isn_tup, c_is_lst, c_isn_lst, c_mem_s, c_nmem_s, c_mem_t, c_nmem_t, c_mem_l, c_nmem_l, fl_non, isi_tuple_non, isi_str_non, isi_int_non, isi_bool_non, fl_bl, isi_tuple_bl, isi_str_bl, isi_int_bl, isi_bool_bl, fl_int, isi_tuple_int, isi_str_int, isi_int_int, isi_bool_int, fl_str, isi_tuple_str, isi_str_str, isi_int_str, isi_bool_str, fl_tup, isi_tuple_tup, isi_str_tup, isi_int_tup, isi_bool_tup, fl_lst, isi_tuple_lst, isi_str_lst, isi_int_lst, isi_bool_lst, eqv_non_non, eqv_non_bl, eqv_non_int, eqv_non_str, eqv_non_tup, eqv_non_lst, eqv_bl_non, eqv_bl_bl, eqv_bl_int, eqv_bl_str, eqv_bl_tup, eqv_bl_lst, eqv_int_non, eqv_int_bl, eqv_int_int, eqv_int_str, eqv_int_tup, eqv_int_lst, eqv_str_non, eqv_str_bl, eqv_str_int, eqv_str_str, eqv_str_tup, eqv_str_lst, eqv_tup_non, eqv_tup_bl, eqv_tup_int, eqv_tup_str, eqv_tup_tup, eqv_tup_lst, eqv_lst_non, eqv_lst_bl, eqv_lst_int, eqv_lst_str, eqv_lst_tup, eqv_lst_lst, eqvL_nn, eqvL_cc, eqvL_nc, eqvL_cn, ok_tup, ok_lst, ok_tup50, ok_lst50, ok_tup49, ok_non, ok_bl, ok_int, ok_str, it_tup, it_lst, it_ref, ix_str, ix_scr, ix_tup, ix_lst, ix_ref, sl_str, sl_tup, sl_lst, ln_str, ln_scr, ln_tup, ln_lst, ln_ref, in_int, in_bl, u_neg, u_len, u_isi, u_int, u_abs, u_tup, u_lst_t, u_lst_l, u_range, u_str, u_sorted, u_sortedr, u_sset, u_find, b_max, b_starts, b_index, w_str, w_tup, w_lst, a_bl, a_int, r_tup, at_ref, at_0, at_1, at_2, at_3, at_4, lb_Lpart_0, enc, w.ne]), h]
        simp [part]
      · refine ⟨[], ?_, fun t' h => by simp [part, h1, h2] at h⟩
        rw [List.map_cons, loop_rt (v := .non) (M' := M) (by simp [evalX, evalA, evalS, evalB, runD, fin_same, o_add_i, o_add_s, o_add_l, o_add_t, o_sub, o_mul, o_rep, o_div, o_mod, c_lt, c_le, c_gt, c_ge, c_eq, c_ne, c_is_non, c_isn_non, c_is_bl, c_isn_bl, c_is_int, c_isn_int, c_is_str, c_isn_str, c_is_tup, c_isn_tup, c_is_lst, c_isn_lst, c_mem_s, c_nmem_s, c_mem_t, c_nmem_t, c_mem_l, c_nmem_l, fl_non, isi_tuple_non, isi_str_non, isi_int_non, isi_bool_non, fl_bl, isi_tuple_bl, isi_str_bl, isi_int_bl, isi_bool_bl, fl_int, isi_tuple_int, isi_str_int, isi_int_int, isi_bool_int, fl_str, isi_tuple_str, isi_str_str, isi_int_str, isi_bool_str, fl_tup, isi_tuple_tup, isi_str_tup, isi_int_tup, isi_bool_tup, fl_lst, isi_tuple_lst, isi_str_lst, isi_int_lst, isi_bool_lst, eqv_non_non, eqv_non_bl, eqv_non_int, eqv_non_str, eqv_non_tup, eqv_non_lst, eqv_bl_non, eqv_bl_bl, eqv_bl_int, eqv_bl_str, eqv_bl_tup, eqv_bl_lst, eqv_int_non, eqv_int_bl, eqv_int_int, eqv_int_str, eqv_int_tup, eqv_int_lst, eqv_str_non, eqv_str_bl, eqv_str_int, eqv_str_str, eqv_str_tup, eqv_str_lst, eqv_tup_non, eqv_tup_bl, eqv_tup_int, eqv_tup_str, eqv_tup_tup, eqv_tup_lst, eqv_lst_non, eqv_lst_bl, eqv_lst_int, eqv_lst_str, eqv_lst_tup, eqv_lst_lst, eqvL_nn, eqvL_cc, eqvL_nc, eqvL_cn, ok_tup, ok_lst, ok_tup50, ok_lst50, ok_tup49, ok_non, ok_bl, ok_int, ok_str, it_tup, it_lst, it_ref, ix_str, ix_scr, ix_tup, ix_lst, ix_ref, sl_str, sl_tup, sl_lst, ln_str, ln_scr, ln_tup, ln_lst, ln_ref, in_int, in_bl, u_neg, u_len, u_isi, u_int, u_abs, u_tup, u_lst_t, u_lst_l, u_range, u_str, u_sorted, u_sortedr, u_sset, u_find, b_max, b_starts, b_index, w_str, w_tup, w_lst, a_bl, a_int, r_tup, at_ref, at_0, at_1, at_2, at_3, at_4, lb_Lpart_0, enc, w.ne, h1, h2])]
        simp [part, h1, h2]
theorem Lpart_eq {n : Nat} (hn : 1 ≤ n) (t : T) (a : Tx) (M : Ms) : callF prog n f_Lpart [enc t, .str a] M = some (encO (part t a), M) := by
  obtain ⟨m, rfl, hm⟩ := succ_of hn
  rw [call1 at_Lpart]
  obtain ⟨ρ, h, h2⟩ := Lpart_loop (callF prog m) M a t (enc t) (.str a) none
  simp [evalX, evalA, evalS, evalB, runD, fin_same, o_add_i, o_add_s, o_add_l, o_add_t, o_sub, o_mul, o_rep, o_div, o_mod, c_lt, c_le, c_gt, c_ge, c_eq, c_ne, c_is_non, c_isn_non, c_is_bl, c_isn_bl, c_is_int, c_isn_int, c_is_str, c_isn_str, c_is_tup, c_isn_tup, c_is_lst, c_isn_lst, c_mem_s, c_nmem_s, c_mem_t, c_nmem_t, c_mem_l, c_nmem_l, fl_non, isi_tuple_non, isi_str_non, isi_int_non, isi_bool_non, fl_bl, isi_tuple_bl, isi_str_bl, isi_int_bl, isi_bool_bl, fl_int, isi_tuple_int, isi_str_int, isi_int_int, isi_bool_int, fl_str, isi_tuple_str, isi_str_str, isi_int_str, isi_bool_str, fl_tup, isi_tuple_tup, isi_str_tup, isi_int_tup, isi_bool_tup, fl_lst, isi_tuple_lst, isi_str_lst, isi_int_lst, isi_bool_lst, eqv_non_non, eqv_non_bl, eqv_non_int, eqv_non_str, eqv_non_tup, eqv_non_lst, eqv_bl_non, eqv_bl_bl, eqv_bl_int, eqv_bl_str, eqv_bl_tup, eqv_bl_lst, eqv_int_non, eqv_int_bl, eqv_int_int, eqv_int_str, eqv_int_tup, eqv_int_lst, eqv_str_non, eqv_str_bl, eqv_str_int, eqv_str_str, eqv_str_tup, eqv_str_lst, eqv_tup_non, eqv_tup_bl, eqv_tup_int, eqv_tup_str, eqv_tup_tup, eqv_tup_lst, eqv_lst_non, eqv_lst_bl, eqv_lst_int, eqv_lst_str, eqv_lst_tup, eqv_lst_lst, eqvL_nn, eqvL_cc, eqvL_nc, eqvL_cn, ok_tup, ok_lst, ok_tup50, ok_lst50, ok_tup49, ok_non, ok_bl, ok_int, ok_str, it_tup, it_lst, it_ref, ix_str, ix_scr, ix_tup, ix_lst, ix_ref, sl_str, sl_tup, sl_lst, ln_str, ln_scr, ln_tup, ln_lst, ln_ref, in_int, in_bl, u_neg, u_len, u_isi, u_int, u_abs, u_tup, u_lst_t, u_lst_l, u_range, u_str, u_sorted, u_sortedr, u_sset, u_find, b_max, b_starts, b_index, w_str, w_tup, w_lst, a_bl, a_int, r_tup, at_ref, at_0, at_1, at_2, at_3, at_4, df_Lpart, pb_Lpart, h]
  cases e : part t a with
  | none => simp [encO]
  | some t' => simp [encO, h2 t' e]

/-! ### addresses -/
def addrs : T → Tx → List Tx
  | .num _, p => [p]
  | .join _ l r, p => p :: (addrs l (p ++ [108]) ++ addrs r (p ++ [114]))
theorem addrs_len : ∀ (t : T) (p : Tx), (addrs t p).length = 2 * t.cnt - 1
  | .num _, p => rfl
  | .join w l r, p => by
    have h1 := l.cnt_pos
    have h2 := r.cnt_pos
    simp only [addrs, List.length_cons, List.length_append, addrs_len l, addrs_len r, T.cnt]
    omega
theorem Laddresses_eq : ∀ (t : T) {n : Nat} (hn : t.dep + 1 ≤ n) (p : Tx) (M : Ms) (hc : t.cnt ≤ 100) (hp : p.length + t.dep ≤ 1000), callF prog n f_Laddresses [enc t, .str p] M = some (.lst ((addrs t p).map .str), M)
  | .num k, n, hn, p, M, hc, hp => by
    obtain ⟨m, rfl, hm⟩ := succ_of hn
    rw [call1 at_Laddresses]
    simp [evalX, evalA, evalS, evalB, runD, fin_same, o_add_i, o_add_s, o_add_l, o_add_t, o_sub, o_mul, o_rep, o_div, o_mod, c_lt, c_le, c_gt, c_ge, c_eq, c_ne, c_is_non, c_isn_non, c_is_bl, c_isn_bl, c_is_int, c_isn_int, c_is_str, c_isn_str, c_is_tup, c_isn_tup, c_is_lst, c_isn_lst, c_mem_s, c_nmem_s, c_mem_t, c_nmem_t, c_mem_l, c_nmem_l, fl_non, isi_tuple_non, isi_str_non, isi_int_non, isi_bool_non, fl_bl, isi_tuple_bl, isi_str_bl, isi_int_bl, isi_bool_bl, fl_int, isi_tuple_int, isi_str_int, isi_int_int, isi_bool_int, fl_str, isi_tuple_str, isi_str_str, isi_int_str, isi_bool_str, fl_tup, isi_tuple_tup, isi_str_tup, isi_int_tup, isi_bool_tup, fl_lst, isi_tuple_lst, isi_str_lst, isi_int_lst, isi_bool_lst, eqv_non_non, eqv_non_bl, eqv_non_int, eqv_non_str, eqv_non_tup, eqv_non_lst, eqv_bl_non, eqv_bl_bl, eqv_bl_int, eqv_bl_str, eqv_bl_tup, eqv_bl_lst, eqv_int_non, eqv_int_bl, eqv_int_int, eqv_int_str, eqv_int_tup, eqv_int_lst, eqv_str_non, eqv_str_bl, eqv_str_int, eqv_str_str, eqv_str_tup, eqv_str_lst, eqv_tup_non, eqv_tup_bl, eqv_tup_int, eqv_tup_str, eqv_tup_tup, eqv_tup_lst, eqv_lst_non, eqv_lst_bl, eqv_lst_int, eqv_lst_str, eqv_lst_tup, eqv_lst_lst, eqvL_nn, eqvL_cc, eqvL_nc, eqvL_cn, ok_tup, ok_lst, ok_tup50, ok_lst50, ok_tup49, ok_non, ok_bl, ok_int, ok_str, it_tup, it_lst, it_ref, ix_str, ix_scr, ix_tup, ix_lst, ix_ref, sl_str, sl_tup, sl_lst, ln_str, ln_scr, ln_tup, ln_lst, ln_ref, in_int, in_bl, u_neg, u_len, u_isi, u_int, u_abs, u_tup, u_lst_t, u_lst_l, u_range, u_str, u_sorted, u_sortedr, u_sset, u_find, b_max, b_starts, b_index, w_str, w_tup, w_lst, a_bl, a_int, r_tup, at_ref, at_0, at_1, at_2, at_3, at_4, df_Laddresses, pb_Laddresses, enc, addrs]
  | .join w l r, n, hn, p, M, hc, hp => by
    simp only [T.dep] at hn hp
    obtain ⟨m, rfl, hm⟩ := succ_of hn
    rw [call1 at_Laddresses]
    have c1 := l.cnt_pos
    have c2 := r.cnt_pos
    simp only [T.cnt] at hc
    have e1 := Laddresses_eq l (n := m) (by omega) (p ++ [108]) M (by omega) (by rw [List.length_append]; simp; omega)
    have e2 := Laddresses_eq r (n := m) (by omega) (p ++ [114]) M (by omega) (by rw [List.length_append]; simp; omega)
    have l1 := addrs_len l (p ++ [108])
    have l2 := addrs_len r (p ++ [114])
    have hp1 : p.length + 1 ≤ lim := by rw [lim_eq]; omega
    have h1 : 1 + (2 * l.cnt - 1) ≤ lim := by rw [lim_eq]; omega
    have h2 : 1 + (2 * l.cnt - 1) + (2 * r.cnt - 1) ≤ lim := by rw [lim_eq]; omega
    have h1' : 2 * l.cnt - 1 + 1 ≤ lim := by omega
    have h2' : 2 * l.cnt - 1 + 1 + (2 * r.cnt - 1) ≤ lim := by omega
    have h3' : 2 * l.cnt - 1 + (2 * r.cnt - 1) + 1 ≤ lim := by omega
    simp [evalX, evalA, evalS, evalB, runD, fin_same, o_add_i, o_add_s, o_add_l, o_add_t, o_sub, o_mul, o_rep, o_div, o_mod, c_lt, c_le, c_gt, c_ge, c_eq, c_ne, c_is_non, c_isn_non, c_is_bl, c_isn_bl, c_is_int, c_isn_int, c_is_str, c_isn_str, c_is_tup, c_isn_tup, c_is_lst, c_isn_lst, c_mem_s, c_nmem_s, c_mem_t, c_nmem_t, c_mem_l, c_nmem_l, fl_non, isi_tuple_non, isi_str_non, isi_int_non, isi_bool_non, fl_bl, isi_tuple_bl, isi_str_bl, isi_int_bl, isi_bool_bl, fl_int, isi_tuple_int, isi_str_int, isi_int_int, isi_bool_int, fl_str, isi_tuple_str, isi_str_str, isi_int_str, isi_bool_str, fl_tup, isi_tuple_tup, isi_str_tup, isi_int_tup, isi_bool_tup, fl_lst, isi_tuple_lst, isi_str_lst, isi_int_lst, isi_bool_lst, eqv_non_non, eqv_non_bl, eqv_non_int, eqv_non_str, eqv_non_tup, eqv_non_lst, eqv_bl_non, eqv_bl_bl, eqv_bl_int, eqv_bl_str, eqv_bl_tup, eqv_bl_lst, eqv_int_non, eqv_int_bl, eqv_int_int, eqv_int_str, eqv_int_tup, eqv_int_lst, eqv_str_non, eqv_str_bl, eqv_str_int, eqv_str_str, eqv_str_tup, eqv_str_lst, eqv_tup_non, eqv_tup_bl, eqv_tup_int, eqv_tup_str, eqv_tup_tup, eqv_tup_lst, eqv_lst_non, eqv_lst_bl, eqv_lst_int, eqv_lst_str, eqv_lst_tup, eqv_lst_lst, eqvL_nn, eqvL_cc, eqvL_nc, eqvL_cn, ok_tup, ok_lst, ok_tup50, ok_lst50, ok_tup49, ok_non, ok_bl, ok_int, ok_str, it_tup, it_lst, it_ref, ix_str, ix_scr, ix_tup, ix_lst, ix_ref, sl_str, sl_tup, sl_lst, ln_str, ln_scr, ln_tup, ln_lst, ln_ref, in_int, in_bl, u_neg, u_len, u_isi, u_int, u_abs, u_tup, u_lst_t, u_lst_l, u_range, u_str, u_sorted, u_sortedr, u_sset, u_find, b_max, b_starts, b_index, w_str, w_tup, w_lst, a_bl, a_int, r_tup, at_ref, at_0, at_1, at_2, at_3, at_4, df_Laddresses, pb_Laddresses, enc, addrs, w.ne, hp1, e1, e2, l1, l2, h1, h2, h1', h2', h3']

theorem part_at_loop (cf : Cf) (M : Ms) : ∀ (a : Tx) (t : T) (x y : D) (z : Option D), ∃ ρ, loop (evalB cf lb_part_at_0) 3 (a.map fun c => D.str [c]) [some x, some y, some (enc t), z] M =
    some (match part t a with | some t' => .nx ρ M | none => .rt .non M) ∧ (∀ t', part t a = some t' → ρ[2]? = some (some (enc t')))
  | [], t, x, y, z => ⟨_, by rw [part_nil]; rfl, fun t' h => by rw [part_nil] at h; cases h; rfl⟩
  | c :: a, .num n, x, y, z => ⟨[], loop_rt (by simp [evalX, evalA, evalS, evalB, runD, fin_same, o_add_i, o_add_s, o_add_l, o_add_t, o_sub, o_mul, o_rep, o_div, o_mod, c_lt, c_le, c_gt, c_ge, c_eq, c_ne, c_is_non, c_isn_non, c_is_bl, c_isn_bl, c_is_int, c_isn_int, c_is_str, c_isn_str, c_is_tup, c_isn_tup, c_is_lst, c_isn_lst, c_mem_s, c_nmem_s, c_mem_t, c_nmem_t, c_mem_l, c_nmem_l, fl_non, isi_tuple_non, isi_str_non, isi_int_non, isi_bool_non, fl_bl, isi_tuple_bl, isi_str_bl, isi_int_bl, isi_bool_bl, fl_int, isi_tuple_int, isi_str_int, isi_int_int, isi_bool_int, fl_str, isi_tuple_str, isi_str_str, isi_int_str, isi_bool_str, fl_tup, isi_tuple_tup, isi_str_tup, isi_int_tup, isi_bool_tup, fl_lst, isi_tuple_lst, isi_str_lst, isi_int_lst, isi_bool_lst, eqv_non_non, eqv_non_bl, eqv_non_int, eqv_non_str, eqv_non_tup, eqv_non_lst, eqv_bl_non, eqv_bl_bl, eqv_bl_int, eqv_bl_str, eqv_bl_tup, eqv_bl_lst, eqv_int_non, eqv_int_bl, eqv_int_int, eqv_int_str, eqv_int_tup, eqv_int_lst, eqv_str_non, eqv_str_bl, eqv_str_int, eqv_str_str, eqv_str_tup, eqv_str_lst, eqv_tup_non, eqv_tup_bl, eqv_tup_int, eqv_tup_str, eqv_tup_tup, eqv_tup_lst, eqv_lst_non, eqv_lst_bl, eqv_lst_int, eqv_lst_str, eqv_lst_tup, eqv_lst_lst, eqvL_nn, eqvL_cc, eqvL_nc, eqvL_cn, ok_tup, ok_lst, ok_tup50, ok_lst50, ok_tup49, ok_non, ok_bl, ok_int, ok_str, it_tup, it_lst, it_ref, ix_str, ix_scr, ix_tup, ix_lst, ix_ref, sl_str, sl_tup, sl_lst, ln_str, ln_scr, ln_tup, ln_lst, ln_ref, in_int, in_bl, u_neg, u_len, u_isi, u_int, u_abs, u_tup, u_lst_t, u_lst_l, u_range, u_str, u_sorted, u_sortedr, u_sset, u_find, b_max, b_starts, b_index, w_str, w_tup, w_lst, a_bl, a_int, r_tup, at_ref, at_0, at_1, at_2, at_3, at_4, lb_part_at_0, enc]), fun t' h => by simp [part] at h⟩
  | c :: a, .join w l r, x, y, z => by
    by_cases h1 : c = 108
    · subst h1
      obtain ⟨ρ, h, h2⟩ := part_at_loop cf M a l x y (some (.str [108]))
      refine ⟨ρ, ?_, fun t' h => h2 t' (by simpa [part] using h)⟩
      rw [List.map_cons, loop_nx (ρ' := [some x, some y, some (enc l), some (.str [108])]) (M' := M) (by simp [evalX, evalA, evalS, evalB, runD, fin_same, o_add_i, o_add_s, o_add_l, o_add_t, o_sub, o_mul, o_rep, o_div, o_mod, c_lt, c_le, c_gt, c_ge, c_eq, c_ne, c_is_non, c_isn_non, c_is_bl, c_isn_bl, c_is_int, c_isn_int, c_is_str, c_isn_str, c_is_tup, c_isn_tup, c_is_lst, c_isn_lst, c_mem_s, c_nmem_s, c_mem_t, c_nmem_t, c_mem_l, c_nmem_l, fl_non, isi_tuple_non, isi_str_non, isi_int_non, isi_bool_non, fl_bl, isi_tuple_bl, isi_str_bl, isi_int_bl, isi_bool_bl, fl_int, isi_tuple_int, isi_str_int, isi_int_int, isi_bool_int, fl_str, isi_tuple_str, isi_str_str, isi_int_str, isi_bool_str, fl_tup, isi_tuple_tup, isi_str_tup, isi_int_tup, isi_bool_tup, fl_lst, isi_tuple_lst, isi_str_lst, isi_int_lst, isi_bool_lst, eqv_non_non, eqv_non_bl, eqv_non_int, eqv_non_str, eqv_non_tup, eqv_non_lst, eqv_bl_non, eqv_bl_bl, eqv_bl_int, eqv_bl_str, eqv_bl_tup, eqv_bl_lst, eqv_int_non, eqv_int_bl, eqv_int_int, eqv_int_str, eqv_int_tup, eqv_int_lst, eqv_str_non, eqv_str_bl, eqv_str_int, eqv_str_str, eqv_str_tup, eqv_str_lst, eqv_tup_non, eqv_tup_bl, eqv_tup_int, eqv_tup_str, eqv_tup_tup, eqv_tup_lst, eqv_lst_non, eqv_lst_bl, eqv_lst_int, eqv_lst_str, eqv_lst_tup, eqv_lst_lst, eqvL_nn, eqvL_cc, eqvL_nc, eqvL_cn, ok_tup, ok_lst, ok_tup50, ok_lst50, ok_tup49, ok_non, ok_bl, ok_int, ok_str, it_tup, it_lst, it_ref, ix_str, ix_scr, ix_tup, ix_lst, ix_ref, sl_str, sl_tup, sl_lst, ln_str, ln_scr, ln_tup, ln_lst, ln_ref, in_int, in_bl, u_neg, u_len, u_isi, u_int, u_abs, u_tup, u_lst_t, u_lst_l, u_range, u_str, u_sorted, u_sortedr, u_sset, u_find, b_max, b_starts, b_index, w_str, w_tup, w_lst, a_bl, a_int, r_tup, at_ref, at_0, at_1, at_2, at_3, at_4, lb_part_at_0, enc, w.ne]), h]
      simp [part]
    · by_cases h2 : c = 114
      · subst h2
        obtain ⟨ρ, h, h2⟩ := part_at_loop cf M a r x y (some (.str [114]))
        refine ⟨ρ, ?_, fun t' h => h2 t' (by simpa [part] using h)⟩
        rw [List.map_cons, loop_nx (ρ' := [some x, some y, some (enc r), some (.str [114])]) (M' := M) (by simp [evalX, evalA, evalS, evalB, runD, fin_same, o_add_i, o_add_s, o_add_l, o_add_t, o_sub, o_mul, o_rep, o_div, o_mod, c_lt, c_le, c_gt, c_ge, c_eq, c_ne, c_is_non, c_isn_non, c_is_bl, c_isn_bl, c_is_int, c_isn_int, c_is_str, c_isn_str, c_is_tup, c_isn_tup, c_is_lst, c_isn_lst, c_mem_s, c_nmem_s, c_mem_t, c_nmem_t, c_mem_l, c_nmem_l, fl_non, isi_tuple_non, isi_str_non, isi_int_non, isi_bool_non, fl_bl, isi_tuple_bl, isi_str_bl, isi_int_bl, isi_bool_bl, fl_int, isi_tuple_int, isi_str_int, isi_int_int, isi_bool_int, fl_str, isi_tuple_str, isi_str_str, isi_int_str, isi_bool_str, fl_tup, isi_tuple_tup, isi_str_tup, isi_int_tup, isi_bool_tup, fl_lst, isi_tuple_lst, isi_str_lst, isi_int_lst, isi_bool_lst, eqv_non_non, eqv_non_bl, eqv_non_int, eqv_non_str, eqv_non_tup, eqv_non_lst, eqv_bl_non, eqv_bl_bl, eqv_bl_int, eqv_bl_str, eqv_bl_tup, eqv_bl_lst, eqv_int_non, eqv_int_bl, eqv_int_int, eqv_int_str, eqv_int_tup, eqv_int_lst, eqv_str_non, eqv_str_bl, eqv_str_int, eqv_str_str, eqv_str_tup, eqv_str_lst, eqv_tup_non, eqv_tup_bl, eqv_tup_int, eqv_tup_str, eqv_tup_tup, eqv_tup_lst, eqv_lst_non, eqv_lst_bl, eqv_lst_int, eqv_lst_str, eqv_lst_tup, eqv_lst_lst, eqvL_nn, eqvL_cc, eqvL_nc, eqvL_cn, ok_tup, ok_lst, ok_tup50, ok_lst50, ok_tup49, ok_non, ok_bl, ok_int, ok_str, it_tup, it_lst, it_ref, ix_str, ix_scr, ix_tup, ix_lst, ix_ref, sl_str, sl_tup, sl_lst, ln_str, ln_scr, ln_tup, ln_lst, ln_ref, in_int, in_bl, u_neg, u_len, u_isi, u_int, u_abs, u_tup, u_lst_t, u_lst_l, u_range, u_str, u_sorted, u_sortedr, u_sset, u_find, b_max, b_starts, b_index, w_str, w_tup, w_lst, a_bl, a_int, r_tup, at_ref, at_0, at_1, at_2, at_3, at_4, lb_part_at_0, enc, w.ne]), h]
        simp [part]
      · refine ⟨[], ?_, fun t' h => by simp [part, h1, h2] at h⟩
        rw [List.map_cons, loop_rt (v := .non) (M' := M) (by simp [evalX, evalA, evalS, evalB, runD, fin_same, o_add_i, o_add_s, o_add_l, o_add_t, o_sub, o_mul, o_rep, o_div, o_mod, c_lt, c_le, c_gt, c_ge, c_eq, c_ne, c_is_non, c_isn_non, c_is_bl, c_isn_bl, c_is_int, c_isn_int, c_is_str, c_isn_str, c_is_tup, c_isn_tup, c_is_lst, c_isn_lst, c_mem_s, c_nmem_s, c_mem_t, c_nmem_t, c_mem_l, c_nmem_l, fl_non, isi_tuple_non, isi_str_non, isi_int_non, isi_bool_non, fl_bl, isi_tuple_bl, isi_str_bl, isi_int_bl, isi_bool_bl, fl_int, isi_tuple_int, isi_str_int, isi_int_int, isi_bool_int, fl_str, isi_tuple_str, isi_str_str, isi_int_str, isi_bool_str, fl_tup, isi_tuple_tup, isi_str_tup, isi_int_tup, isi_bool_tup, fl_lst, isi_tuple_lst, isi_str_lst, isi_int_lst, isi_bool_lst, eqv_non_non, eqv_non_bl, eqv_non_int, eqv_non_str, eqv_non_tup, eqv_non_lst, eqv_bl_non, eqv_bl_bl, eqv_bl_int, eqv_bl_str, eqv_bl_tup, eqv_bl_lst, eqv_int_non, eqv_int_bl, eqv_int_int, eqv_int_str, eqv_int_tup, eqv_int_lst, eqv_str_non, eqv_str_bl, eqv_str_int, eqv_str_str, eqv_str_tup, eqv_str_lst, eqv_tup_non, eqv_tup_bl, eqv_tup_int, eqv_tup_str, eqv_tup_tup, eqv_tup_lst, eqv_lst_non, eqv_lst_bl, eqv_lst_int, eqv_lst_str, eqv_lst_tup, eqv_lst_lst, eqvL_nn, eqvL_cc, eqvL_nc, eqvL_cn, ok_tup, ok_lst, ok_tup50, ok_lst50, ok_tup49, ok_non, ok_bl, ok_int, ok_str, it_tup, it_lst, it_ref, ix_str, ix_scr, ix_tup, ix_lst, ix_ref, sl_str, sl_tup, sl_lst, ln_str, ln_scr, ln_tup, ln_lst, ln_ref, in_int, in_bl, u_neg, u_len, u_isi, u_int, u_abs, u_tup, u_lst_t, u_lst_l, u_range, u_str, u_sorted, u_sortedr, u_sset, u_find, b_max, b_starts, b_index, w_str, w_tup, w_lst, a_bl, a_int, r_tup, at_ref, at_0, at_1, at_2, at_3, at_4, lb_part_at_0, enc, w.ne, h1, h2])]
        simp [part, h1, h2]
theorem part_at_eq {n : Nat} (hn : 1 ≤ n) (t : T) (a : Tx) (M : Ms) : callF prog n f_part_at [enc t, .str a] M = some (encO (part t a), M) := by
  obtain ⟨m, rfl, hm⟩ := succ_of hn
  rw [call1 at_part_at]
  obtain ⟨ρ, h, h2⟩ := part_at_loop (callF prog m) M a t (enc t) (.str a) none
  simp [evalX, evalA, evalS, evalB, runD, fin_same, o_add_i, o_add_s, o_add_l, o_add_t, o_sub, o_mul, o_rep, o_div, o_mod, c_lt, c_le, c_gt, c_ge, c_eq, c_ne, c_is_non, c_isn_non, c_is_bl, c_isn_bl, c_is_int, c_isn_int, c_is_str, c_isn_str, c_is_tup, c_isn_tup, c_is_lst, c_isn_lst, c_mem_s, c_nmem_s, c_mem_t, c_nmem_t, c_mem_l, c_nmem_l, fl_non, isi_tuple_non, isi_str_non, isi_int_non, isi_bool_non, fl_bl, isi_tuple_bl, isi_str_bl, isi_int_bl, isi_bool_bl, fl_int, isi_tuple_int, isi_str_int, isi_int_int, isi_bool_int, fl_str, isi_tuple_str, isi_str_str, isi_int_str, isi_bool_str, fl_tup, isi_tuple_tup, isi_str_tup, isi_int_tup, isi_bool_tup, fl_lst, isi_tuple_lst, isi_str_lst, isi_int_lst, isi_bool_lst, eqv_non_non, eqv_non_bl, eqv_non_int, eqv_non_str, eqv_non_tup, eqv_non_lst, eqv_bl_non, eqv_bl_bl, eqv_bl_int, eqv_bl_str, eqv_bl_tup, eqv_bl_lst, eqv_int_non, eqv_int_bl, eqv_int_int, eqv_int_str, eqv_int_tup, eqv_int_lst, eqv_str_non, eqv_str_bl, eqv_str_int, eqv_str_str, eqv_str_tup, eqv_str_lst, eqv_tup_non, eqv_tup_bl, eqv_tup_int, eqv_tup_str, eqv_tup_tup, eqv_tup_lst, eqv_lst_non, eqv_lst_bl, eqv_lst_int, eqv_lst_str, eqv_lst_tup, eqv_lst_lst, eqvL_nn, eqvL_cc, eqvL_nc, eqvL_cn, ok_tup, ok_lst, ok_tup50, ok_lst50, ok_tup49, ok_non, ok_bl, ok_int, ok_str, it_tup, it_lst, it_ref, ix_str, ix_scr, ix_tup, ix_lst, ix_ref, sl_str, sl_tup, sl_lst, ln_str, ln_scr, ln_tup, ln_lst, ln_ref, in_int, in_bl, u_neg, u_len, u_isi, u_int, u_abs, u_tup, u_lst_t, u_lst_l, u_range, u_str, u_sorted, u_sortedr, u_sset, u_find, b_max, b_starts, b_index, w_str, w_tup, w_lst, a_bl, a_int, r_tup, at_ref, at_0, at_1, at_2, at_3, at_4, df_part_at, pb_part_at, h]
  cases e : part t a with
  | none => simp [encO]
  | some t' => simp [encO, h2 t' e]

/-! ### parts of parts -/
theorem part_app : ∀ (a b : Tx) (t t' : T), part t a = some t' → part t (a ++ b) = part t' b
  | [], b, t, t', h => by
    rw [part_nil] at h
    cases h
    rfl
  | c :: a, b, .num _, t', h => by simp [part] at h
  | c :: a, b, .join w l r, t', h => by
    simp only [part, List.cons_append] at h ⊢
    split at h
    · rename_i c1
      rw [if_pos c1]
      exact part_app a b l t' h
    · rename_i c1
      rw [if_neg c1]
      split at h
      · rename_i c2
        rw [if_pos c2]
        exact part_app a b r t' h
      · cases h
theorem part_l {a : Tx} {t l r : T} {w : Wd} (h : part t a = some (.join w l r)) : part t (a ++ [108]) = some l := by
  rw [part_app a [108] t _ h]
  simp [part, part_nil]
theorem part_r {a : Tx} {t l r : T} {w : Wd} (h : part t a = some (.join w l r)) : part t (a ++ [114]) = some r := by
  rw [part_app a [114] t _ h]
  simp [part, part_nil]

/-! ### deeds -/
abbrev cPut : Tx := [112, 117, 116]
abbrev cJoin : Tx := [106, 111, 105, 110]
abbrev cShelve : Tx := [115, 104, 101, 108, 118, 101]
abbrev cFetch : Tx := [102, 101, 116, 99, 104]
inductive Deed | put (p : Int) (a : Tx) | join (p : Int) (a : Tx) (q r : Int) | shelve (s p : Int) | fetch (p s : Int)
def encD : Deed → D
  | .put p a => .tup [.str cPut, .int p, .str a]
  | .join p a q r => .tup [.str cJoin, .int p, .str a, .int q, .int r]
  | .shelve s p => .tup [.str cShelve, .int s, .int p]
  | .fetch p s => .tup [.str cFetch, .int p, .int s]
abbrev Row := List (Option Tx)
def encH : Option Tx → D
  | none => .non
  | some a => .str a
def held (r : Row) (i : Int) : Option Tx := if 0 ≤ i ∧ i < r.length then (r[i.toNat]?).join else none
def isNum : T → Bool
  | .num _ => true
  | .join _ _ _ => false
def brings (t : T) (rw sh : Row) : Deed → Option Tx
  | .put _ a => match part t a with | some (.num _) => some a | _ => none
  | .join _ a q r => match part t a with | some (.join _ _ _) => if held rw q = some (a ++ [108]) then (if held rw r = some (a ++ [114]) then some a else none) else none | _ => none
  | .shelve _ p => held rw p
  | .fetch _ s => held sh s
def Deed.goal : Deed → Int
  | .put p _ => p
  | .join p _ _ _ => p
  | .shelve s _ => s
  | .fetch p _ => p
def Deed.isSh : Deed → Bool
  | .shelve _ _ => true
  | _ => false
/-- no address too long -/
def Deed.fit : Deed → Prop
  | .put _ a => a.length ≤ 1000
  | .join _ a _ _ => a.length ≤ 1000
  | _ => True
def step (t : T) (d : Deed) (s : Row × Row) : Option (Row × Row) :=
  match brings t s.1 s.2 d with
  | none => none
  | some a => if d.isSh then (if 0 ≤ d.goal ∧ d.goal < s.2.length then some (s.1, s.2.set d.goal.toNat (some a)) else none)
    else (if 0 ≤ d.goal ∧ d.goal < s.1.length then some (s.1.set d.goal.toNat (some a), s.2) else none)
def runP (t : T) : List Deed → Row × Row → Option (Row × Row)
  | [], s => some s
  | d :: ds, s => (step t d s).bind (runP t ds)
theorem runP_app (t : T) : ∀ (c1 c2 : List Deed) (s : Row × Row), runP t (c1 ++ c2) s = (runP t c1 s).bind (runP t c2)
  | [], c2, s => rfl
  | d :: c1, c2, s => by
    simp only [List.cons_append, runP]
    cases step t d s with
    | none => rfl
    | some s' => simp only [Option.bind_some]; exact runP_app t c1 c2 s'
theorem runP_len (t : T) : ∀ (c : List Deed) (s s' : Row × Row), runP t c s = some s' → s'.1.length = s.1.length ∧ s'.2.length = s.2.length
  | [], s, s', h => by cases (show some s = some s' from h); exact ⟨rfl, rfl⟩
  | d :: c, s, s', h => by
    simp only [runP, Option.bind_eq_some_iff] at h
    obtain ⟨s1, h1, h⟩ := h
    have := runP_len t c s1 s' h
    simp only [step] at h1
    split at h1
    · cases h1
    · split at h1
      · split at h1
        · cases h1; simpa using this
        · cases h1
      · split at h1
        · cases h1; simpa using this
        · cases h1
theorem atD_row (r : Row) {i : Int} (h0 : 0 ≤ i) (h1 : i < r.length) : atD (r.map encH) i = some (encH (held r i)) := by
  have h2 : i.toNat < r.length := by omega
  simp [atD, ixD, h0, h1, held, h2]
theorem held_out (r : Row) {i : Int} (h : ¬ (0 ≤ i ∧ i < r.length)) : held r i = none := by simp [held, h]
theorem encH_clean (o : Option Tx) : (encH o).clean = true := by cases o <;> rfl
theorem encH_ok (o : Option Tx) (n : Nat) : (encH o).ok n = true := by cases o <;> cases n <;> rfl
theorem encH_eqv (o : Option Tx) (a : Tx) : (encH o).eqv (.str a) = decide (o = some a) := by
  cases o with
  | none => simp [encH, D.eqv]
  | some b =>
    simp only [encH, D.eqv, Option.some.injEq]
    rw [Bool.eq_iff_iff]
    simp
theorem encH_n : encH none = .non := rfl
theorem encH_s (a : Tx) : encH (some a) = .str a := rfl

/-! ### rows -/
def empty (k : Nat) : Row := List.replicate k none
def runR (t : T) (code : List Deed) (k : Nat) : Option (Row × Row) := runP t code (empty k, empty 41)
def encR : Option (Row × Row) → D
  | none => .non
  | some s => .tup (s.1.map encH)
theorem emp41 : (empty 41).map encH = [D.non, D.non, D.non, D.non, D.non, D.non, D.non, D.non, D.non, D.non, D.non, D.non, D.non, D.non, D.non, D.non, D.non, D.non, D.non, D.non, D.non, D.non, D.non, D.non, D.non, D.non, D.non, D.non, D.non, D.non, D.non, D.non, D.non, D.non, D.non, D.non, D.non, D.non, D.non, D.non, D.non] := rfl
theorem rep_flat (k : Nat) : (List.replicate k [D.non]).flatten = (empty k).map encH := by
  induction k with
  | zero => rfl
  | succ k ih => rw [List.replicate_succ, List.flatten_cons, ih]; rfl
theorem clean_row : ∀ r : Row, D.cleanL (r.map encH) = true
  | [] => rfl
  | o :: r => by simp [D.cleanL, encH_clean, clean_row r]
theorem encR_clean (o : Option (Row × Row)) : (encR o).clean = true := by
  cases o with
  | none => rfl
  | some s => simp [encR, D.clean, clean_row]
theorem fin_nil (d : D) (M' : Ms) (h : d.clean = true) (hr : ∀ p, d ≠ .ref p) : fin [] (some (d, M')) = some d := by
  simp only [fin, List.length_nil, List.take_zero]
  by_cases c : M' = []
  · rw [if_pos c]
  · rw [if_neg c, if_pos trivial]
    cases d with
    | ref p => exact absurd rfl (hr p)
    | _ => simp [h]
theorem encR_ref (o : Option (Row × Row)) (p : Nat) : encR o ≠ .ref p := by cases o <;> simp [encR]

/-! ### the law's own run -/
theorem Lheld_eq {n : Nat} (hn : 1 ≤ n) (M : Ms) (l : Nat) (r : Row) (h : M[l]? = some (.lst (r.map encH))) (i : Int) : callF prog n f_Lheld [.ref l, .int i] M = some (encH (held r i), M) := by
  obtain ⟨m, rfl, hm⟩ := succ_of hn
  rw [call1 at_Lheld]
  by_cases h0 : 0 ≤ i
  · by_cases h1 : i < r.length
    · simp [evalX, evalA, evalS, evalB, runD, fin_same, o_add_i, o_add_s, o_add_l, o_add_t, o_sub, o_mul, o_rep, o_div, o_mod, c_lt, c_le, c_gt, c_ge, c_eq, c_ne, c_is_non, c_isn_non, c_is_bl, c_isn_bl, c_is_int, c_isn_int, c_is_str, c_isn_str, c_is_tup, c_isn_tup, c_is_lst, c_isn_lst, c_mem_s, c_nmem_s, c_mem_t, c_nmem_t, c_mem_l, c_nmem_l, fl_non, isi_tuple_non, isi_str_non, isi_int_non, isi_bool_non, fl_bl, isi_tuple_bl, isi_str_bl, isi_int_bl, isi_bool_bl, fl_int, isi_tuple_int, isi_str_int, isi_int_int, isi_bool_int, fl_str, isi_tuple_str, isi_str_str, isi_int_str, isi_bool_str, fl_tup, isi_tuple_tup, isi_str_tup, isi_int_tup, isi_bool_tup, fl_lst, isi_tuple_lst, isi_str_lst, isi_int_lst, isi_bool_lst, eqv_non_non, eqv_non_bl, eqv_non_int, eqv_non_str, eqv_non_tup, eqv_non_lst, eqv_bl_non, eqv_bl_bl, eqv_bl_int, eqv_bl_str, eqv_bl_tup, eqv_bl_lst, eqv_int_non, eqv_int_bl, eqv_int_int, eqv_int_str, eqv_int_tup, eqv_int_lst, eqv_str_non, eqv_str_bl, eqv_str_int, eqv_str_str, eqv_str_tup, eqv_str_lst, eqv_tup_non, eqv_tup_bl, eqv_tup_int, eqv_tup_str, eqv_tup_tup, eqv_tup_lst, eqv_lst_non, eqv_lst_bl, eqv_lst_int, eqv_lst_str, eqv_lst_tup, eqv_lst_lst, eqvL_nn, eqvL_cc, eqvL_nc, eqvL_cn, ok_tup, ok_lst, ok_tup50, ok_lst50, ok_tup49, ok_non, ok_bl, ok_int, ok_str, it_tup, it_lst, it_ref, ix_str, ix_scr, ix_tup, ix_lst, ix_ref, sl_str, sl_tup, sl_lst, ln_str, ln_scr, ln_tup, ln_lst, ln_ref, in_int, in_bl, u_neg, u_len, u_isi, u_int, u_abs, u_tup, u_lst_t, u_lst_l, u_range, u_str, u_sorted, u_sortedr, u_sset, u_find, b_max, b_starts, b_index, w_str, w_tup, w_lst, a_bl, a_int, r_tup, at_ref, at_0, at_1, at_2, at_3, at_4, df_Lheld, pb_Lheld, h, h0, h1, atD_row]
    · simp [evalX, evalA, evalS, evalB, runD, fin_same, o_add_i, o_add_s, o_add_l, o_add_t, o_sub, o_mul, o_rep, o_div, o_mod, c_lt, c_le, c_gt, c_ge, c_eq, c_ne, c_is_non, c_isn_non, c_is_bl, c_isn_bl, c_is_int, c_isn_int, c_is_str, c_isn_str, c_is_tup, c_isn_tup, c_is_lst, c_isn_lst, c_mem_s, c_nmem_s, c_mem_t, c_nmem_t, c_mem_l, c_nmem_l, fl_non, isi_tuple_non, isi_str_non, isi_int_non, isi_bool_non, fl_bl, isi_tuple_bl, isi_str_bl, isi_int_bl, isi_bool_bl, fl_int, isi_tuple_int, isi_str_int, isi_int_int, isi_bool_int, fl_str, isi_tuple_str, isi_str_str, isi_int_str, isi_bool_str, fl_tup, isi_tuple_tup, isi_str_tup, isi_int_tup, isi_bool_tup, fl_lst, isi_tuple_lst, isi_str_lst, isi_int_lst, isi_bool_lst, eqv_non_non, eqv_non_bl, eqv_non_int, eqv_non_str, eqv_non_tup, eqv_non_lst, eqv_bl_non, eqv_bl_bl, eqv_bl_int, eqv_bl_str, eqv_bl_tup, eqv_bl_lst, eqv_int_non, eqv_int_bl, eqv_int_int, eqv_int_str, eqv_int_tup, eqv_int_lst, eqv_str_non, eqv_str_bl, eqv_str_int, eqv_str_str, eqv_str_tup, eqv_str_lst, eqv_tup_non, eqv_tup_bl, eqv_tup_int, eqv_tup_str, eqv_tup_tup, eqv_tup_lst, eqv_lst_non, eqv_lst_bl, eqv_lst_int, eqv_lst_str, eqv_lst_tup, eqv_lst_lst, eqvL_nn, eqvL_cc, eqvL_nc, eqvL_cn, ok_tup, ok_lst, ok_tup50, ok_lst50, ok_tup49, ok_non, ok_bl, ok_int, ok_str, it_tup, it_lst, it_ref, ix_str, ix_scr, ix_tup, ix_lst, ix_ref, sl_str, sl_tup, sl_lst, ln_str, ln_scr, ln_tup, ln_lst, ln_ref, in_int, in_bl, u_neg, u_len, u_isi, u_int, u_abs, u_tup, u_lst_t, u_lst_l, u_range, u_str, u_sorted, u_sortedr, u_sset, u_find, b_max, b_starts, b_index, w_str, w_tup, w_lst, a_bl, a_int, r_tup, at_ref, at_0, at_1, at_2, at_3, at_4, df_Lheld, pb_Lheld, h, h0, h1, held_out r (fun z => h1 z.2), encH_n, encH_s]
  · simp [evalX, evalA, evalS, evalB, runD, fin_same, o_add_i, o_add_s, o_add_l, o_add_t, o_sub, o_mul, o_rep, o_div, o_mod, c_lt, c_le, c_gt, c_ge, c_eq, c_ne, c_is_non, c_isn_non, c_is_bl, c_isn_bl, c_is_int, c_isn_int, c_is_str, c_isn_str, c_is_tup, c_isn_tup, c_is_lst, c_isn_lst, c_mem_s, c_nmem_s, c_mem_t, c_nmem_t, c_mem_l, c_nmem_l, fl_non, isi_tuple_non, isi_str_non, isi_int_non, isi_bool_non, fl_bl, isi_tuple_bl, isi_str_bl, isi_int_bl, isi_bool_bl, fl_int, isi_tuple_int, isi_str_int, isi_int_int, isi_bool_int, fl_str, isi_tuple_str, isi_str_str, isi_int_str, isi_bool_str, fl_tup, isi_tuple_tup, isi_str_tup, isi_int_tup, isi_bool_tup, fl_lst, isi_tuple_lst, isi_str_lst, isi_int_lst, isi_bool_lst, eqv_non_non, eqv_non_bl, eqv_non_int, eqv_non_str, eqv_non_tup, eqv_non_lst, eqv_bl_non, eqv_bl_bl, eqv_bl_int, eqv_bl_str, eqv_bl_tup, eqv_bl_lst, eqv_int_non, eqv_int_bl, eqv_int_int, eqv_int_str, eqv_int_tup, eqv_int_lst, eqv_str_non, eqv_str_bl, eqv_str_int, eqv_str_str, eqv_str_tup, eqv_str_lst, eqv_tup_non, eqv_tup_bl, eqv_tup_int, eqv_tup_str, eqv_tup_tup, eqv_tup_lst, eqv_lst_non, eqv_lst_bl, eqv_lst_int, eqv_lst_str, eqv_lst_tup, eqv_lst_lst, eqvL_nn, eqvL_cc, eqvL_nc, eqvL_cn, ok_tup, ok_lst, ok_tup50, ok_lst50, ok_tup49, ok_non, ok_bl, ok_int, ok_str, it_tup, it_lst, it_ref, ix_str, ix_scr, ix_tup, ix_lst, ix_ref, sl_str, sl_tup, sl_lst, ln_str, ln_scr, ln_tup, ln_lst, ln_ref, in_int, in_bl, u_neg, u_len, u_isi, u_int, u_abs, u_tup, u_lst_t, u_lst_l, u_range, u_str, u_sorted, u_sortedr, u_sset, u_find, b_max, b_starts, b_index, w_str, w_tup, w_lst, a_bl, a_int, r_tup, at_ref, at_0, at_1, at_2, at_3, at_4, df_Lheld, pb_Lheld, h, h0, held_out r (fun z => h0 z.1), encH_n, encH_s]
theorem Lbrings_eq {n : Nat} (hn : 2 ≤ n) (t : T) (rw_ sh : Row) (d : Deed) (hf : d.fit) : callF prog n f_Lbrings [enc t, .ref 0, .ref 1, encD d] [.lst (rw_.map encH), .lst (sh.map encH)] = some (encH (brings t rw_ sh d), [.lst (rw_.map encH), .lst (sh.map encH)]) := by
  obtain ⟨m, rfl, hm⟩ := succ_of hn
  rw [call1 at_Lbrings]
  have e1 := fun i => Lheld_eq (n := m) hm [.lst (rw_.map encH), .lst (sh.map encH)] 0 rw_ rfl i
  have e2 := fun i => Lheld_eq (n := m) hm [.lst (rw_.map encH), .lst (sh.map encH)] 1 sh rfl i
  cases d with
  | fetch p s => simp [evalX, evalA, evalS, evalB, runD, fin_same, o_add_i, o_add_s, o_add_l, o_add_t, o_sub, o_mul, o_rep, o_div, o_mod, c_lt, c_le, c_gt, c_ge, c_eq, c_ne, c_is_non, c_isn_non, c_is_bl, c_isn_bl, c_is_int, c_isn_int, c_is_str, c_isn_str, c_is_tup, c_isn_tup, c_is_lst, c_isn_lst, c_mem_s, c_nmem_s, c_mem_t, c_nmem_t, c_mem_l, c_nmem_l, fl_non, isi_tuple_non, isi_str_non, isi_int_non, isi_bool_non, fl_bl, isi_tuple_bl, isi_str_bl, isi_int_bl, isi_bool_bl, fl_int, isi_tuple_int, isi_str_int, isi_int_int, isi_bool_int, fl_str, isi_tuple_str, isi_str_str, isi_int_str, isi_bool_str, fl_tup, isi_tuple_tup, isi_str_tup, isi_int_tup, isi_bool_tup, fl_lst, isi_tuple_lst, isi_str_lst, isi_int_lst, isi_bool_lst, eqv_non_non, eqv_non_bl, eqv_non_int, eqv_non_str, eqv_non_tup, eqv_non_lst, eqv_bl_non, eqv_bl_bl, eqv_bl_int, eqv_bl_str, eqv_bl_tup, eqv_bl_lst, eqv_int_non, eqv_int_bl, eqv_int_int, eqv_int_str, eqv_int_tup, eqv_int_lst, eqv_str_non, eqv_str_bl, eqv_str_int, eqv_str_str, eqv_str_tup, eqv_str_lst, eqv_tup_non, eqv_tup_bl, eqv_tup_int, eqv_tup_str, eqv_tup_tup, eqv_tup_lst, eqv_lst_non, eqv_lst_bl, eqv_lst_int, eqv_lst_str, eqv_lst_tup, eqv_lst_lst, eqvL_nn, eqvL_cc, eqvL_nc, eqvL_cn, ok_tup, ok_lst, ok_tup50, ok_lst50, ok_tup49, ok_non, ok_bl, ok_int, ok_str, it_tup, it_lst, it_ref, ix_str, ix_scr, ix_tup, ix_lst, ix_ref, sl_str, sl_tup, sl_lst, ln_str, ln_scr, ln_tup, ln_lst, ln_ref, in_int, in_bl, u_neg, u_len, u_isi, u_int, u_abs, u_tup, u_lst_t, u_lst_l, u_range, u_str, u_sorted, u_sortedr, u_sset, u_find, b_max, b_starts, b_index, w_str, w_tup, w_lst, a_bl, a_int, r_tup, at_ref, at_0, at_1, at_2, at_3, at_4, df_Lbrings, pb_Lbrings, encD, e2, brings]
  | shelve s p => simp [evalX, evalA, evalS, evalB, runD, fin_same, o_add_i, o_add_s, o_add_l, o_add_t, o_sub, o_mul, o_rep, o_div, o_mod, c_lt, c_le, c_gt, c_ge, c_eq, c_ne, c_is_non, c_isn_non, c_is_bl, c_isn_bl, c_is_int, c_isn_int, c_is_str, c_isn_str, c_is_tup, c_isn_tup, c_is_lst, c_isn_lst, c_mem_s, c_nmem_s, c_mem_t, c_nmem_t, c_mem_l, c_nmem_l, fl_non, isi_tuple_non, isi_str_non, isi_int_non, isi_bool_non, fl_bl, isi_tuple_bl, isi_str_bl, isi_int_bl, isi_bool_bl, fl_int, isi_tuple_int, isi_str_int, isi_int_int, isi_bool_int, fl_str, isi_tuple_str, isi_str_str, isi_int_str, isi_bool_str, fl_tup, isi_tuple_tup, isi_str_tup, isi_int_tup, isi_bool_tup, fl_lst, isi_tuple_lst, isi_str_lst, isi_int_lst, isi_bool_lst, eqv_non_non, eqv_non_bl, eqv_non_int, eqv_non_str, eqv_non_tup, eqv_non_lst, eqv_bl_non, eqv_bl_bl, eqv_bl_int, eqv_bl_str, eqv_bl_tup, eqv_bl_lst, eqv_int_non, eqv_int_bl, eqv_int_int, eqv_int_str, eqv_int_tup, eqv_int_lst, eqv_str_non, eqv_str_bl, eqv_str_int, eqv_str_str, eqv_str_tup, eqv_str_lst, eqv_tup_non, eqv_tup_bl, eqv_tup_int, eqv_tup_str, eqv_tup_tup, eqv_tup_lst, eqv_lst_non, eqv_lst_bl, eqv_lst_int, eqv_lst_str, eqv_lst_tup, eqv_lst_lst, eqvL_nn, eqvL_cc, eqvL_nc, eqvL_cn, ok_tup, ok_lst, ok_tup50, ok_lst50, ok_tup49, ok_non, ok_bl, ok_int, ok_str, it_tup, it_lst, it_ref, ix_str, ix_scr, ix_tup, ix_lst, ix_ref, sl_str, sl_tup, sl_lst, ln_str, ln_scr, ln_tup, ln_lst, ln_ref, in_int, in_bl, u_neg, u_len, u_isi, u_int, u_abs, u_tup, u_lst_t, u_lst_l, u_range, u_str, u_sorted, u_sortedr, u_sset, u_find, b_max, b_starts, b_index, w_str, w_tup, w_lst, a_bl, a_int, r_tup, at_ref, at_0, at_1, at_2, at_3, at_4, df_Lbrings, pb_Lbrings, encD, e1, brings]
  | put p a =>
    have e3 := Lpart_eq (n := m) hm t a [.lst (rw_.map encH), .lst (sh.map encH)]
    cases e : part t a with
    | none => simp [evalX, evalA, evalS, evalB, runD, fin_same, o_add_i, o_add_s, o_add_l, o_add_t, o_sub, o_mul, o_rep, o_div, o_mod, c_lt, c_le, c_gt, c_ge, c_eq, c_ne, c_is_non, c_isn_non, c_is_bl, c_isn_bl, c_is_int, c_isn_int, c_is_str, c_isn_str, c_is_tup, c_isn_tup, c_is_lst, c_isn_lst, c_mem_s, c_nmem_s, c_mem_t, c_nmem_t, c_mem_l, c_nmem_l, fl_non, isi_tuple_non, isi_str_non, isi_int_non, isi_bool_non, fl_bl, isi_tuple_bl, isi_str_bl, isi_int_bl, isi_bool_bl, fl_int, isi_tuple_int, isi_str_int, isi_int_int, isi_bool_int, fl_str, isi_tuple_str, isi_str_str, isi_int_str, isi_bool_str, fl_tup, isi_tuple_tup, isi_str_tup, isi_int_tup, isi_bool_tup, fl_lst, isi_tuple_lst, isi_str_lst, isi_int_lst, isi_bool_lst, eqv_non_non, eqv_non_bl, eqv_non_int, eqv_non_str, eqv_non_tup, eqv_non_lst, eqv_bl_non, eqv_bl_bl, eqv_bl_int, eqv_bl_str, eqv_bl_tup, eqv_bl_lst, eqv_int_non, eqv_int_bl, eqv_int_int, eqv_int_str, eqv_int_tup, eqv_int_lst, eqv_str_non, eqv_str_bl, eqv_str_int, eqv_str_str, eqv_str_tup, eqv_str_lst, eqv_tup_non, eqv_tup_bl, eqv_tup_int, eqv_tup_str, eqv_tup_tup, eqv_tup_lst, eqv_lst_non, eqv_lst_bl, eqv_lst_int, eqv_lst_str, eqv_lst_tup, eqv_lst_lst, eqvL_nn, eqvL_cc, eqvL_nc, eqvL_cn, ok_tup, ok_lst, ok_tup50, ok_lst50, ok_tup49, ok_non, ok_bl, ok_int, ok_str, it_tup, it_lst, it_ref, ix_str, ix_scr, ix_tup, ix_lst, ix_ref, sl_str, sl_tup, sl_lst, ln_str, ln_scr, ln_tup, ln_lst, ln_ref, in_int, in_bl, u_neg, u_len, u_isi, u_int, u_abs, u_tup, u_lst_t, u_lst_l, u_range, u_str, u_sorted, u_sortedr, u_sset, u_find, b_max, b_starts, b_index, w_str, w_tup, w_lst, a_bl, a_int, r_tup, at_ref, at_0, at_1, at_2, at_3, at_4, df_Lbrings, pb_Lbrings, encD, e3, brings, e, encO, encH_n, encH_s]
    | some u =>
      cases u with
      | num k => simp [evalX, evalA, evalS, evalB, runD, fin_same, o_add_i, o_add_s, o_add_l, o_add_t, o_sub, o_mul, o_rep, o_div, o_mod, c_lt, c_le, c_gt, c_ge, c_eq, c_ne, c_is_non, c_isn_non, c_is_bl, c_isn_bl, c_is_int, c_isn_int, c_is_str, c_isn_str, c_is_tup, c_isn_tup, c_is_lst, c_isn_lst, c_mem_s, c_nmem_s, c_mem_t, c_nmem_t, c_mem_l, c_nmem_l, fl_non, isi_tuple_non, isi_str_non, isi_int_non, isi_bool_non, fl_bl, isi_tuple_bl, isi_str_bl, isi_int_bl, isi_bool_bl, fl_int, isi_tuple_int, isi_str_int, isi_int_int, isi_bool_int, fl_str, isi_tuple_str, isi_str_str, isi_int_str, isi_bool_str, fl_tup, isi_tuple_tup, isi_str_tup, isi_int_tup, isi_bool_tup, fl_lst, isi_tuple_lst, isi_str_lst, isi_int_lst, isi_bool_lst, eqv_non_non, eqv_non_bl, eqv_non_int, eqv_non_str, eqv_non_tup, eqv_non_lst, eqv_bl_non, eqv_bl_bl, eqv_bl_int, eqv_bl_str, eqv_bl_tup, eqv_bl_lst, eqv_int_non, eqv_int_bl, eqv_int_int, eqv_int_str, eqv_int_tup, eqv_int_lst, eqv_str_non, eqv_str_bl, eqv_str_int, eqv_str_str, eqv_str_tup, eqv_str_lst, eqv_tup_non, eqv_tup_bl, eqv_tup_int, eqv_tup_str, eqv_tup_tup, eqv_tup_lst, eqv_lst_non, eqv_lst_bl, eqv_lst_int, eqv_lst_str, eqv_lst_tup, eqv_lst_lst, eqvL_nn, eqvL_cc, eqvL_nc, eqvL_cn, ok_tup, ok_lst, ok_tup50, ok_lst50, ok_tup49, ok_non, ok_bl, ok_int, ok_str, it_tup, it_lst, it_ref, ix_str, ix_scr, ix_tup, ix_lst, ix_ref, sl_str, sl_tup, sl_lst, ln_str, ln_scr, ln_tup, ln_lst, ln_ref, in_int, in_bl, u_neg, u_len, u_isi, u_int, u_abs, u_tup, u_lst_t, u_lst_l, u_range, u_str, u_sorted, u_sortedr, u_sset, u_find, b_max, b_starts, b_index, w_str, w_tup, w_lst, a_bl, a_int, r_tup, at_ref, at_0, at_1, at_2, at_3, at_4, df_Lbrings, pb_Lbrings, encD, e3, brings, e, encO, enc, encH_n, encH_s]
      | join w l r => simp [evalX, evalA, evalS, evalB, runD, fin_same, o_add_i, o_add_s, o_add_l, o_add_t, o_sub, o_mul, o_rep, o_div, o_mod, c_lt, c_le, c_gt, c_ge, c_eq, c_ne, c_is_non, c_isn_non, c_is_bl, c_isn_bl, c_is_int, c_isn_int, c_is_str, c_isn_str, c_is_tup, c_isn_tup, c_is_lst, c_isn_lst, c_mem_s, c_nmem_s, c_mem_t, c_nmem_t, c_mem_l, c_nmem_l, fl_non, isi_tuple_non, isi_str_non, isi_int_non, isi_bool_non, fl_bl, isi_tuple_bl, isi_str_bl, isi_int_bl, isi_bool_bl, fl_int, isi_tuple_int, isi_str_int, isi_int_int, isi_bool_int, fl_str, isi_tuple_str, isi_str_str, isi_int_str, isi_bool_str, fl_tup, isi_tuple_tup, isi_str_tup, isi_int_tup, isi_bool_tup, fl_lst, isi_tuple_lst, isi_str_lst, isi_int_lst, isi_bool_lst, eqv_non_non, eqv_non_bl, eqv_non_int, eqv_non_str, eqv_non_tup, eqv_non_lst, eqv_bl_non, eqv_bl_bl, eqv_bl_int, eqv_bl_str, eqv_bl_tup, eqv_bl_lst, eqv_int_non, eqv_int_bl, eqv_int_int, eqv_int_str, eqv_int_tup, eqv_int_lst, eqv_str_non, eqv_str_bl, eqv_str_int, eqv_str_str, eqv_str_tup, eqv_str_lst, eqv_tup_non, eqv_tup_bl, eqv_tup_int, eqv_tup_str, eqv_tup_tup, eqv_tup_lst, eqv_lst_non, eqv_lst_bl, eqv_lst_int, eqv_lst_str, eqv_lst_tup, eqv_lst_lst, eqvL_nn, eqvL_cc, eqvL_nc, eqvL_cn, ok_tup, ok_lst, ok_tup50, ok_lst50, ok_tup49, ok_non, ok_bl, ok_int, ok_str, it_tup, it_lst, it_ref, ix_str, ix_scr, ix_tup, ix_lst, ix_ref, sl_str, sl_tup, sl_lst, ln_str, ln_scr, ln_tup, ln_lst, ln_ref, in_int, in_bl, u_neg, u_len, u_isi, u_int, u_abs, u_tup, u_lst_t, u_lst_l, u_range, u_str, u_sorted, u_sortedr, u_sset, u_find, b_max, b_starts, b_index, w_str, w_tup, w_lst, a_bl, a_int, r_tup, at_ref, at_0, at_1, at_2, at_3, at_4, df_Lbrings, pb_Lbrings, encD, e3, brings, e, encO, enc, encH_n, encH_s, w.ne]
  | join p a q r =>
    have e3 := Lpart_eq (n := m) hm t a [.lst (rw_.map encH), .lst (sh.map encH)]
    simp only [Deed.fit] at hf
    have l1 : a.length + 1 ≤ lim := by rw [lim_eq]; omega
    cases e : part t a with
    | none => simp [evalX, evalA, evalS, evalB, runD, fin_same, o_add_i, o_add_s, o_add_l, o_add_t, o_sub, o_mul, o_rep, o_div, o_mod, c_lt, c_le, c_gt, c_ge, c_eq, c_ne, c_is_non, c_isn_non, c_is_bl, c_isn_bl, c_is_int, c_isn_int, c_is_str, c_isn_str, c_is_tup, c_isn_tup, c_is_lst, c_isn_lst, c_mem_s, c_nmem_s, c_mem_t, c_nmem_t, c_mem_l, c_nmem_l, fl_non, isi_tuple_non, isi_str_non, isi_int_non, isi_bool_non, fl_bl, isi_tuple_bl, isi_str_bl, isi_int_bl, isi_bool_bl, fl_int, isi_tuple_int, isi_str_int, isi_int_int, isi_bool_int, fl_str, isi_tuple_str, isi_str_str, isi_int_str, isi_bool_str, fl_tup, isi_tuple_tup, isi_str_tup, isi_int_tup, isi_bool_tup, fl_lst, isi_tuple_lst, isi_str_lst, isi_int_lst, isi_bool_lst, eqv_non_non, eqv_non_bl, eqv_non_int, eqv_non_str, eqv_non_tup, eqv_non_lst, eqv_bl_non, eqv_bl_bl, eqv_bl_int, eqv_bl_str, eqv_bl_tup, eqv_bl_lst, eqv_int_non, eqv_int_bl, eqv_int_int, eqv_int_str, eqv_int_tup, eqv_int_lst, eqv_str_non, eqv_str_bl, eqv_str_int, eqv_str_str, eqv_str_tup, eqv_str_lst, eqv_tup_non, eqv_tup_bl, eqv_tup_int, eqv_tup_str, eqv_tup_tup, eqv_tup_lst, eqv_lst_non, eqv_lst_bl, eqv_lst_int, eqv_lst_str, eqv_lst_tup, eqv_lst_lst, eqvL_nn, eqvL_cc, eqvL_nc, eqvL_cn, ok_tup, ok_lst, ok_tup50, ok_lst50, ok_tup49, ok_non, ok_bl, ok_int, ok_str, it_tup, it_lst, it_ref, ix_str, ix_scr, ix_tup, ix_lst, ix_ref, sl_str, sl_tup, sl_lst, ln_str, ln_scr, ln_tup, ln_lst, ln_ref, in_int, in_bl, u_neg, u_len, u_isi, u_int, u_abs, u_tup, u_lst_t, u_lst_l, u_range, u_str, u_sorted, u_sortedr, u_sset, u_find, b_max, b_starts, b_index, w_str, w_tup, w_lst, a_bl, a_int, r_tup, at_ref, at_0, at_1, at_2, at_3, at_4, df_Lbrings, pb_Lbrings, encD, e3, brings, e, encO, encH_n, encH_s]
    | some u =>
      cases u with
      | num k => simp [evalX, evalA, evalS, evalB, runD, fin_same, o_add_i, o_add_s, o_add_l, o_add_t, o_sub, o_mul, o_rep, o_div, o_mod, c_lt, c_le, c_gt, c_ge, c_eq, c_ne, c_is_non, c_isn_non, c_is_bl, c_isn_bl, c_is_int, c_isn_int, c_is_str, c_isn_str, c_is_tup, c_isn_tup, c_is_lst, c_isn_lst, c_mem_s, c_nmem_s, c_mem_t, c_nmem_t, c_mem_l, c_nmem_l, fl_non, isi_tuple_non, isi_str_non, isi_int_non, isi_bool_non, fl_bl, isi_tuple_bl, isi_str_bl, isi_int_bl, isi_bool_bl, fl_int, isi_tuple_int, isi_str_int, isi_int_int, isi_bool_int, fl_str, isi_tuple_str, isi_str_str, isi_int_str, isi_bool_str, fl_tup, isi_tuple_tup, isi_str_tup, isi_int_tup, isi_bool_tup, fl_lst, isi_tuple_lst, isi_str_lst, isi_int_lst, isi_bool_lst, eqv_non_non, eqv_non_bl, eqv_non_int, eqv_non_str, eqv_non_tup, eqv_non_lst, eqv_bl_non, eqv_bl_bl, eqv_bl_int, eqv_bl_str, eqv_bl_tup, eqv_bl_lst, eqv_int_non, eqv_int_bl, eqv_int_int, eqv_int_str, eqv_int_tup, eqv_int_lst, eqv_str_non, eqv_str_bl, eqv_str_int, eqv_str_str, eqv_str_tup, eqv_str_lst, eqv_tup_non, eqv_tup_bl, eqv_tup_int, eqv_tup_str, eqv_tup_tup, eqv_tup_lst, eqv_lst_non, eqv_lst_bl, eqv_lst_int, eqv_lst_str, eqv_lst_tup, eqv_lst_lst, eqvL_nn, eqvL_cc, eqvL_nc, eqvL_cn, ok_tup, ok_lst, ok_tup50, ok_lst50, ok_tup49, ok_non, ok_bl, ok_int, ok_str, it_tup, it_lst, it_ref, ix_str, ix_scr, ix_tup, ix_lst, ix_ref, sl_str, sl_tup, sl_lst, ln_str, ln_scr, ln_tup, ln_lst, ln_ref, in_int, in_bl, u_neg, u_len, u_isi, u_int, u_abs, u_tup, u_lst_t, u_lst_l, u_range, u_str, u_sorted, u_sortedr, u_sset, u_find, b_max, b_starts, b_index, w_str, w_tup, w_lst, a_bl, a_int, r_tup, at_ref, at_0, at_1, at_2, at_3, at_4, df_Lbrings, pb_Lbrings, encD, e3, brings, e, encO, enc, encH_n, encH_s]
      | join w l r2 =>
        by_cases c1 : held rw_ q = some (a ++ [108])
        · by_cases c2 : held rw_ r = some (a ++ [114])
          · simp [evalX, evalA, evalS, evalB, runD, fin_same, o_add_i, o_add_s, o_add_l, o_add_t, o_sub, o_mul, o_rep, o_div, o_mod, c_lt, c_le, c_gt, c_ge, c_eq, c_ne, c_is_non, c_isn_non, c_is_bl, c_isn_bl, c_is_int, c_isn_int, c_is_str, c_isn_str, c_is_tup, c_isn_tup, c_is_lst, c_isn_lst, c_mem_s, c_nmem_s, c_mem_t, c_nmem_t, c_mem_l, c_nmem_l, fl_non, isi_tuple_non, isi_str_non, isi_int_non, isi_bool_non, fl_bl, isi_tuple_bl, isi_str_bl, isi_int_bl, isi_bool_bl, fl_int, isi_tuple_int, isi_str_int, isi_int_int, isi_bool_int, fl_str, isi_tuple_str, isi_str_str, isi_int_str, isi_bool_str, fl_tup, isi_tuple_tup, isi_str_tup, isi_int_tup, isi_bool_tup, fl_lst, isi_tuple_lst, isi_str_lst, isi_int_lst, isi_bool_lst, eqv_non_non, eqv_non_bl, eqv_non_int, eqv_non_str, eqv_non_tup, eqv_non_lst, eqv_bl_non, eqv_bl_bl, eqv_bl_int, eqv_bl_str, eqv_bl_tup, eqv_bl_lst, eqv_int_non, eqv_int_bl, eqv_int_int, eqv_int_str, eqv_int_tup, eqv_int_lst, eqv_str_non, eqv_str_bl, eqv_str_int, eqv_str_str, eqv_str_tup, eqv_str_lst, eqv_tup_non, eqv_tup_bl, eqv_tup_int, eqv_tup_str, eqv_tup_tup, eqv_tup_lst, eqv_lst_non, eqv_lst_bl, eqv_lst_int, eqv_lst_str, eqv_lst_tup, eqv_lst_lst, eqvL_nn, eqvL_cc, eqvL_nc, eqvL_cn, ok_tup, ok_lst, ok_tup50, ok_lst50, ok_tup49, ok_non, ok_bl, ok_int, ok_str, it_tup, it_lst, it_ref, ix_str, ix_scr, ix_tup, ix_lst, ix_ref, sl_str, sl_tup, sl_lst, ln_str, ln_scr, ln_tup, ln_lst, ln_ref, in_int, in_bl, u_neg, u_len, u_isi, u_int, u_abs, u_tup, u_lst_t, u_lst_l, u_range, u_str, u_sorted, u_sortedr, u_sset, u_find, b_max, b_starts, b_index, w_str, w_tup, w_lst, a_bl, a_int, r_tup, at_ref, at_0, at_1, at_2, at_3, at_4, df_Lbrings, pb_Lbrings, encD, e3, brings, e, encO, enc, encH_n, encH_s, w.ne, e1, l1, c1, c2]
          · simp [evalX, evalA, evalS, evalB, runD, fin_same, o_add_i, o_add_s, o_add_l, o_add_t, o_sub, o_mul, o_rep, o_div, o_mod, c_lt, c_le, c_gt, c_ge, c_eq, c_ne, c_is_non, c_isn_non, c_is_bl, c_isn_bl, c_is_int, c_isn_int, c_is_str, c_isn_str, c_is_tup, c_isn_tup, c_is_lst, c_isn_lst, c_mem_s, c_nmem_s, c_mem_t, c_nmem_t, c_mem_l, c_nmem_l, fl_non, isi_tuple_non, isi_str_non, isi_int_non, isi_bool_non, fl_bl, isi_tuple_bl, isi_str_bl, isi_int_bl, isi_bool_bl, fl_int, isi_tuple_int, isi_str_int, isi_int_int, isi_bool_int, fl_str, isi_tuple_str, isi_str_str, isi_int_str, isi_bool_str, fl_tup, isi_tuple_tup, isi_str_tup, isi_int_tup, isi_bool_tup, fl_lst, isi_tuple_lst, isi_str_lst, isi_int_lst, isi_bool_lst, eqv_non_non, eqv_non_bl, eqv_non_int, eqv_non_str, eqv_non_tup, eqv_non_lst, eqv_bl_non, eqv_bl_bl, eqv_bl_int, eqv_bl_str, eqv_bl_tup, eqv_bl_lst, eqv_int_non, eqv_int_bl, eqv_int_int, eqv_int_str, eqv_int_tup, eqv_int_lst, eqv_str_non, eqv_str_bl, eqv_str_int, eqv_str_str, eqv_str_tup, eqv_str_lst, eqv_tup_non, eqv_tup_bl, eqv_tup_int, eqv_tup_str, eqv_tup_tup, eqv_tup_lst, eqv_lst_non, eqv_lst_bl, eqv_lst_int, eqv_lst_str, eqv_lst_tup, eqv_lst_lst, eqvL_nn, eqvL_cc, eqvL_nc, eqvL_cn, ok_tup, ok_lst, ok_tup50, ok_lst50, ok_tup49, ok_non, ok_bl, ok_int, ok_str, it_tup, it_lst, it_ref, ix_str, ix_scr, ix_tup, ix_lst, ix_ref, sl_str, sl_tup, sl_lst, ln_str, ln_scr, ln_tup, ln_lst, ln_ref, in_int, in_bl, u_neg, u_len, u_isi, u_int, u_abs, u_tup, u_lst_t, u_lst_l, u_range, u_str, u_sorted, u_sortedr, u_sset, u_find, b_max, b_starts, b_index, w_str, w_tup, w_lst, a_bl, a_int, r_tup, at_ref, at_0, at_1, at_2, at_3, at_4, df_Lbrings, pb_Lbrings, encD, e3, brings, e, encO, enc, encH_n, encH_s, w.ne, e1, l1, c1, c2, encH_ok, encH_eqv]
        · simp [evalX, evalA, evalS, evalB, runD, fin_same, o_add_i, o_add_s, o_add_l, o_add_t, o_sub, o_mul, o_rep, o_div, o_mod, c_lt, c_le, c_gt, c_ge, c_eq, c_ne, c_is_non, c_isn_non, c_is_bl, c_isn_bl, c_is_int, c_isn_int, c_is_str, c_isn_str, c_is_tup, c_isn_tup, c_is_lst, c_isn_lst, c_mem_s, c_nmem_s, c_mem_t, c_nmem_t, c_mem_l, c_nmem_l, fl_non, isi_tuple_non, isi_str_non, isi_int_non, isi_bool_non, fl_bl, isi_tuple_bl, isi_str_bl, isi_int_bl, isi_bool_bl, fl_int, isi_tuple_int, isi_str_int, isi_int_int, isi_bool_int, fl_str, isi_tuple_str, isi_str_str, isi_int_str, isi_bool_str, fl_tup, isi_tuple_tup, isi_str_tup, isi_int_tup, isi_bool_tup, fl_lst, isi_tuple_lst, isi_str_lst, isi_int_lst, isi_bool_lst, eqv_non_non, eqv_non_bl, eqv_non_int, eqv_non_str, eqv_non_tup, eqv_non_lst, eqv_bl_non, eqv_bl_bl, eqv_bl_int, eqv_bl_str, eqv_bl_tup, eqv_bl_lst, eqv_int_non, eqv_int_bl, eqv_int_int, eqv_int_str, eqv_int_tup, eqv_int_lst, eqv_str_non, eqv_str_bl, eqv_str_int, eqv_str_str, eqv_str_tup, eqv_str_lst, eqv_tup_non, eqv_tup_bl, eqv_tup_int, eqv_tup_str, eqv_tup_tup, eqv_tup_lst, eqv_lst_non, eqv_lst_bl, eqv_lst_int, eqv_lst_str, eqv_lst_tup, eqv_lst_lst, eqvL_nn, eqvL_cc, eqvL_nc, eqvL_cn, ok_tup, ok_lst, ok_tup50, ok_lst50, ok_tup49, ok_non, ok_bl, ok_int, ok_str, it_tup, it_lst, it_ref, ix_str, ix_scr, ix_tup, ix_lst, ix_ref, sl_str, sl_tup, sl_lst, ln_str, ln_scr, ln_tup, ln_lst, ln_ref, in_int, in_bl, u_neg, u_len, u_isi, u_int, u_abs, u_tup, u_lst_t, u_lst_l, u_range, u_str, u_sorted, u_sortedr, u_sset, u_find, b_max, b_starts, b_index, w_str, w_tup, w_lst, a_bl, a_int, r_tup, at_ref, at_0, at_1, at_2, at_3, at_4, df_Lbrings, pb_Lbrings, encD, e3, brings, e, encO, enc, encH_n, encH_s, w.ne, e1, l1, c1, encH_ok, encH_eqv]
theorem mapset (r : Row) (i : Nat) (a : Tx) : (r.map encH).set i (.str a) = (r.set i (some a)).map encH := by
  rw [List.map_set]; rfl
theorem Lrun_loop {m : Nat} (hm : 2 ≤ m) (t : T) : ∀ (code : List Deed) (hf : ∀ d ∈ code, d.fit) (rw_ sh : Row) (y z : D) (x5 x6 x7 : Option D), ∃ ρ M', loop (evalB (callF prog m) lb_Lrun_0) 5 (code.map encD) [some (enc t), some y, some z, some (.ref 0), some (.ref 1), x5, x6, x7] [.lst (rw_.map encH), .lst (sh.map encH)] =
    some (match runP t code (rw_, sh) with | some s => .nx ρ [.lst (s.1.map encH), .lst (s.2.map encH)] | none => .rt .non M') ∧ ρ[3]? = some (some (.ref 0))
  | [], hf, rw_, sh, y, z, x5, x6, x7 => ⟨_, [], rfl, rfl⟩
  | d :: code, hf, rw_, sh, y, z, x5, x6, x7 => by
    have eb := Lbrings_eq (n := m) hm t rw_ sh d (hf d (by simp))
    have key : ∀ (ed : D), encD d = ed → ∃ s0 gl rest, ed = .tup (.str s0 :: .int d.goal :: rest) ∧ (if s0 = cShelve then (1 : Nat) else 0) = gl ∧ (d.isSh = decide (s0 = cShelve)) ∧ s0.length ≤ 6 := by
      rintro _ rfl
      cases d <;> exact ⟨_, _, _, rfl, rfl, rfl, by decide⟩
    obtain ⟨s0, gl, rest, e1, -, e3, -⟩ := key _ rfl
    cases e : brings t rw_ sh d with
    | none =>
      rw [e] at eb
      refine ⟨[none, none, none, some (.ref 0)], [.lst (rw_.map encH), .lst (sh.map encH)], ?_, rfl⟩
      rw [List.map_cons]
      rw [loop_rt (v := .non) (M' := [.lst (rw_.map encH), .lst (sh.map encH)])]
      · simp [runP, step, e]
      · by_cases c : s0 = cShelve
        · subst c
          rw [e1] at eb ⊢
          simp [evalX, evalA, evalS, evalB, runD, fin_same, o_add_i, o_add_s, o_add_l, o_add_t, o_sub, o_mul, o_rep, o_div, o_mod, c_lt, c_le, c_gt, c_ge, c_eq, c_ne, c_is_non, c_isn_non, c_is_bl, c_isn_bl, c_is_int, c_isn_int, c_is_str, c_isn_str, c_is_tup, c_isn_tup, c_is_lst, c_isn_lst, c_mem_s, c_nmem_s, c_mem_t, c_nmem_t, c_mem_l, c_nmem_l, fl_non, isi_tuple_non, isi_str_non, isi_int_non, isi_bool_non, fl_bl, isi_tuple_bl, isi_str_bl, isi_int_bl, isi_bool_bl, fl_int, isi_tuple_int, isi_str_int, isi_int_int, isi_bool_int, fl_str, isi_tuple_str, isi_str_str, isi_int_str, isi_bool_str, fl_tup, isi_tuple_tup, isi_str_tup, isi_int_tup, isi_bool_tup, fl_lst, isi_tuple_lst, isi_str_lst, isi_int_lst, isi_bool_lst, eqv_non_non, eqv_non_bl, eqv_non_int, eqv_non_str, eqv_non_tup, eqv_non_lst, eqv_bl_non, eqv_bl_bl, eqv_bl_int, eqv_bl_str, eqv_bl_tup, eqv_bl_lst, eqv_int_non, eqv_int_bl, eqv_int_int, eqv_int_str, eqv_int_tup, eqv_int_lst, eqv_str_non, eqv_str_bl, eqv_str_int, eqv_str_str, eqv_str_tup, eqv_str_lst, eqv_tup_non, eqv_tup_bl, eqv_tup_int, eqv_tup_str, eqv_tup_tup, eqv_tup_lst, eqv_lst_non, eqv_lst_bl, eqv_lst_int, eqv_lst_str, eqv_lst_tup, eqv_lst_lst, eqvL_nn, eqvL_cc, eqvL_nc, eqvL_cn, ok_tup, ok_lst, ok_tup50, ok_lst50, ok_tup49, ok_non, ok_bl, ok_int, ok_str, it_tup, it_lst, it_ref, ix_str, ix_scr, ix_tup, ix_lst, ix_ref, sl_str, sl_tup, sl_lst, ln_str, ln_scr, ln_tup, ln_lst, ln_ref, in_int, in_bl, u_neg, u_len, u_isi, u_int, u_abs, u_tup, u_lst_t, u_lst_l, u_range, u_str, u_sorted, u_sortedr, u_sset, u_find, b_max, b_starts, b_index, w_str, w_tup, w_lst, a_bl, a_int, r_tup, at_ref, at_0, at_1, at_2, at_3, at_4, lb_Lrun_0, eb, encH_n, encH_s, at2]
        · rw [e1] at eb ⊢
          simp [evalX, evalA, evalS, evalB, runD, fin_same, o_add_i, o_add_s, o_add_l, o_add_t, o_sub, o_mul, o_rep, o_div, o_mod, c_lt, c_le, c_gt, c_ge, c_eq, c_ne, c_is_non, c_isn_non, c_is_bl, c_isn_bl, c_is_int, c_isn_int, c_is_str, c_isn_str, c_is_tup, c_isn_tup, c_is_lst, c_isn_lst, c_mem_s, c_nmem_s, c_mem_t, c_nmem_t, c_mem_l, c_nmem_l, fl_non, isi_tuple_non, isi_str_non, isi_int_non, isi_bool_non, fl_bl, isi_tuple_bl, isi_str_bl, isi_int_bl, isi_bool_bl, fl_int, isi_tuple_int, isi_str_int, isi_int_int, isi_bool_int, fl_str, isi_tuple_str, isi_str_str, isi_int_str, isi_bool_str, fl_tup, isi_tuple_tup, isi_str_tup, isi_int_tup, isi_bool_tup, fl_lst, isi_tuple_lst, isi_str_lst, isi_int_lst, isi_bool_lst, eqv_non_non, eqv_non_bl, eqv_non_int, eqv_non_str, eqv_non_tup, eqv_non_lst, eqv_bl_non, eqv_bl_bl, eqv_bl_int, eqv_bl_str, eqv_bl_tup, eqv_bl_lst, eqv_int_non, eqv_int_bl, eqv_int_int, eqv_int_str, eqv_int_tup, eqv_int_lst, eqv_str_non, eqv_str_bl, eqv_str_int, eqv_str_str, eqv_str_tup, eqv_str_lst, eqv_tup_non, eqv_tup_bl, eqv_tup_int, eqv_tup_str, eqv_tup_tup, eqv_tup_lst, eqv_lst_non, eqv_lst_bl, eqv_lst_int, eqv_lst_str, eqv_lst_tup, eqv_lst_lst, eqvL_nn, eqvL_cc, eqvL_nc, eqvL_cn, ok_tup, ok_lst, ok_tup50, ok_lst50, ok_tup49, ok_non, ok_bl, ok_int, ok_str, it_tup, it_lst, it_ref, ix_str, ix_scr, ix_tup, ix_lst, ix_ref, sl_str, sl_tup, sl_lst, ln_str, ln_scr, ln_tup, ln_lst, ln_ref, in_int, in_bl, u_neg, u_len, u_isi, u_int, u_abs, u_tup, u_lst_t, u_lst_l, u_range, u_str, u_sorted, u_sortedr, u_sset, u_find, b_max, b_starts, b_index, w_str, w_tup, w_lst, a_bl, a_int, r_tup, at_ref, at_0, at_1, at_2, at_3, at_4, lb_Lrun_0, eb, encH_n, encH_s, at2, c]
    | some a =>
      rw [e] at eb
      by_cases c : s0 = cShelve
      · subst c
        simp only [decide_true] at e3
        by_cases g0 : 0 ≤ d.goal
        · by_cases g1 : d.goal < sh.length
          · have g2 : d.goal.toNat < sh.length := by omega
            obtain ⟨ρ, M', h, h3⟩ := Lrun_loop hm t code (fun d h => hf d (List.mem_cons_of_mem _ h)) rw_ (sh.set d.goal.toNat (some a)) y z (some (encD d)) (some (.str a)) (some (.ref 1))
            refine ⟨ρ, M', ?_, h3⟩
            rw [List.map_cons, loop_nx (ρ' := [some (enc t), some y, some z, some (.ref 0), some (.ref 1), some (encD d), some (.str a), some (.ref 1)]) (M' := [.lst (rw_.map encH), .lst ((sh.set d.goal.toNat (some a)).map encH)]), h]
            · simp [runP, step, e, e3, g0, g1]
            · rw [e1] at eb ⊢
              simp [evalX, evalA, evalS, evalB, runD, fin_same, o_add_i, o_add_s, o_add_l, o_add_t, o_sub, o_mul, o_rep, o_div, o_mod, c_lt, c_le, c_gt, c_ge, c_eq, c_ne, c_is_non, c_isn_non, c_is_bl, c_isn_bl, c_is_int, c_isn_int, c_is_str, c_isn_str, c_is_tup, c_isn_tup, c_is_lst, c_isn_lst, c_mem_s, c_nmem_s, c_mem_t, c_nmem_t, c_mem_l, c_nmem_l, fl_non, isi_tuple_non, isi_str_non, isi_int_non, isi_bool_non, fl_bl, isi_tuple_bl, isi_str_bl, isi_int_bl, isi_bool_bl, fl_int, isi_tuple_int, isi_str_int, isi_int_int, isi_bool_int, fl_str, isi_tuple_str, isi_str_str, isi_int_str, isi_bool_str, fl_tup, isi_tuple_tup, isi_str_tup, isi_int_tup, isi_bool_tup, fl_lst, isi_tuple_lst, isi_str_lst, isi_int_lst, isi_bool_lst, eqv_non_non, eqv_non_bl, eqv_non_int, eqv_non_str, eqv_non_tup, eqv_non_lst, eqv_bl_non, eqv_bl_bl, eqv_bl_int, eqv_bl_str, eqv_bl_tup, eqv_bl_lst, eqv_int_non, eqv_int_bl, eqv_int_int, eqv_int_str, eqv_int_tup, eqv_int_lst, eqv_str_non, eqv_str_bl, eqv_str_int, eqv_str_str, eqv_str_tup, eqv_str_lst, eqv_tup_non, eqv_tup_bl, eqv_tup_int, eqv_tup_str, eqv_tup_tup, eqv_tup_lst, eqv_lst_non, eqv_lst_bl, eqv_lst_int, eqv_lst_str, eqv_lst_tup, eqv_lst_lst, eqvL_nn, eqvL_cc, eqvL_nc, eqvL_cn, ok_tup, ok_lst, ok_tup50, ok_lst50, ok_tup49, ok_non, ok_bl, ok_int, ok_str, it_tup, it_lst, it_ref, ix_str, ix_scr, ix_tup, ix_lst, ix_ref, sl_str, sl_tup, sl_lst, ln_str, ln_scr, ln_tup, ln_lst, ln_ref, in_int, in_bl, u_neg, u_len, u_isi, u_int, u_abs, u_tup, u_lst_t, u_lst_l, u_range, u_str, u_sorted, u_sortedr, u_sset, u_find, b_max, b_starts, b_index, w_str, w_tup, w_lst, a_bl, a_int, r_tup, at_ref, at_0, at_1, at_2, at_3, at_4, lb_Lrun_0, eb, encH_n, encH_s, at2, g0, g1, ixD, List.map_set]
          · refine ⟨[none, none, none, some (.ref 0)], [.lst (rw_.map encH), .lst (sh.map encH)], ?_, rfl⟩
            rw [List.map_cons, loop_rt (v := .non) (M' := [.lst (rw_.map encH), .lst (sh.map encH)])]
            · simp [runP, step, e, e3, g0, g1]
            · rw [e1] at eb ⊢
              simp [evalX, evalA, evalS, evalB, runD, fin_same, o_add_i, o_add_s, o_add_l, o_add_t, o_sub, o_mul, o_rep, o_div, o_mod, c_lt, c_le, c_gt, c_ge, c_eq, c_ne, c_is_non, c_isn_non, c_is_bl, c_isn_bl, c_is_int, c_isn_int, c_is_str, c_isn_str, c_is_tup, c_isn_tup, c_is_lst, c_isn_lst, c_mem_s, c_nmem_s, c_mem_t, c_nmem_t, c_mem_l, c_nmem_l, fl_non, isi_tuple_non, isi_str_non, isi_int_non, isi_bool_non, fl_bl, isi_tuple_bl, isi_str_bl, isi_int_bl, isi_bool_bl, fl_int, isi_tuple_int, isi_str_int, isi_int_int, isi_bool_int, fl_str, isi_tuple_str, isi_str_str, isi_int_str, isi_bool_str, fl_tup, isi_tuple_tup, isi_str_tup, isi_int_tup, isi_bool_tup, fl_lst, isi_tuple_lst, isi_str_lst, isi_int_lst, isi_bool_lst, eqv_non_non, eqv_non_bl, eqv_non_int, eqv_non_str, eqv_non_tup, eqv_non_lst, eqv_bl_non, eqv_bl_bl, eqv_bl_int, eqv_bl_str, eqv_bl_tup, eqv_bl_lst, eqv_int_non, eqv_int_bl, eqv_int_int, eqv_int_str, eqv_int_tup, eqv_int_lst, eqv_str_non, eqv_str_bl, eqv_str_int, eqv_str_str, eqv_str_tup, eqv_str_lst, eqv_tup_non, eqv_tup_bl, eqv_tup_int, eqv_tup_str, eqv_tup_tup, eqv_tup_lst, eqv_lst_non, eqv_lst_bl, eqv_lst_int, eqv_lst_str, eqv_lst_tup, eqv_lst_lst, eqvL_nn, eqvL_cc, eqvL_nc, eqvL_cn, ok_tup, ok_lst, ok_tup50, ok_lst50, ok_tup49, ok_non, ok_bl, ok_int, ok_str, it_tup, it_lst, it_ref, ix_str, ix_scr, ix_tup, ix_lst, ix_ref, sl_str, sl_tup, sl_lst, ln_str, ln_scr, ln_tup, ln_lst, ln_ref, in_int, in_bl, u_neg, u_len, u_isi, u_int, u_abs, u_tup, u_lst_t, u_lst_l, u_range, u_str, u_sorted, u_sortedr, u_sset, u_find, b_max, b_starts, b_index, w_str, w_tup, w_lst, a_bl, a_int, r_tup, at_ref, at_0, at_1, at_2, at_3, at_4, lb_Lrun_0, eb, encH_n, encH_s, at2, g0, g1]
        · refine ⟨[none, none, none, some (.ref 0)], [.lst (rw_.map encH), .lst (sh.map encH)], ?_, rfl⟩
          rw [List.map_cons, loop_rt (v := .non) (M' := [.lst (rw_.map encH), .lst (sh.map encH)])]
          · simp [runP, step, e, e3, g0]
          · rw [e1] at eb ⊢
            simp [evalX, evalA, evalS, evalB, runD, fin_same, o_add_i, o_add_s, o_add_l, o_add_t, o_sub, o_mul, o_rep, o_div, o_mod, c_lt, c_le, c_gt, c_ge, c_eq, c_ne, c_is_non, c_isn_non, c_is_bl, c_isn_bl, c_is_int, c_isn_int, c_is_str, c_isn_str, c_is_tup, c_isn_tup, c_is_lst, c_isn_lst, c_mem_s, c_nmem_s, c_mem_t, c_nmem_t, c_mem_l, c_nmem_l, fl_non, isi_tuple_non, isi_str_non, isi_int_non, isi_bool_non, fl_bl, isi_tuple_bl, isi_str_bl, isi_int_bl, isi_bool_bl, fl_int, isi_tuple_int, isi_str_int, isi_int_int, isi_bool_int, fl_str, isi_tuple_str, isi_str_str, isi_int_str, isi_bool_str, fl_tup, isi_tuple_tup, isi_str_tup, isi_int_tup, isi_bool_tup, fl_lst, isi_tuple_lst, isi_str_lst, isi_int_lst, isi_bool_lst, eqv_non_non, eqv_non_bl, eqv_non_int, eqv_non_str, eqv_non_tup, eqv_non_lst, eqv_bl_non, eqv_bl_bl, eqv_bl_int, eqv_bl_str, eqv_bl_tup, eqv_bl_lst, eqv_int_non, eqv_int_bl, eqv_int_int, eqv_int_str, eqv_int_tup, eqv_int_lst, eqv_str_non, eqv_str_bl, eqv_str_int, eqv_str_str, eqv_str_tup, eqv_str_lst, eqv_tup_non, eqv_tup_bl, eqv_tup_int, eqv_tup_str, eqv_tup_tup, eqv_tup_lst, eqv_lst_non, eqv_lst_bl, eqv_lst_int, eqv_lst_str, eqv_lst_tup, eqv_lst_lst, eqvL_nn, eqvL_cc, eqvL_nc, eqvL_cn, ok_tup, ok_lst, ok_tup50, ok_lst50, ok_tup49, ok_non, ok_bl, ok_int, ok_str, it_tup, it_lst, it_ref, ix_str, ix_scr, ix_tup, ix_lst, ix_ref, sl_str, sl_tup, sl_lst, ln_str, ln_scr, ln_tup, ln_lst, ln_ref, in_int, in_bl, u_neg, u_len, u_isi, u_int, u_abs, u_tup, u_lst_t, u_lst_l, u_range, u_str, u_sorted, u_sortedr, u_sset, u_find, b_max, b_starts, b_index, w_str, w_tup, w_lst, a_bl, a_int, r_tup, at_ref, at_0, at_1, at_2, at_3, at_4, lb_Lrun_0, eb, encH_n, encH_s, at2, g0]
      · simp only [c, decide_false] at e3
        by_cases g0 : 0 ≤ d.goal
        · by_cases g1 : d.goal < rw_.length
          · have g2 : d.goal.toNat < rw_.length := by omega
            obtain ⟨ρ, M', h, h3⟩ := Lrun_loop hm t code (fun d h => hf d (List.mem_cons_of_mem _ h)) (rw_.set d.goal.toNat (some a)) sh y z (some (encD d)) (some (.str a)) (some (.ref 0))
            refine ⟨ρ, M', ?_, h3⟩
            rw [List.map_cons, loop_nx (ρ' := [some (enc t), some y, some z, some (.ref 0), some (.ref 1), some (encD d), some (.str a), some (.ref 0)]) (M' := [.lst ((rw_.set d.goal.toNat (some a)).map encH), .lst (sh.map encH)]), h]
            · simp [runP, step, e, e3, g0, g1]
            · rw [e1] at eb ⊢
              simp [evalX, evalA, evalS, evalB, runD, fin_same, o_add_i, o_add_s, o_add_l, o_add_t, o_sub, o_mul, o_rep, o_div, o_mod, c_lt, c_le, c_gt, c_ge, c_eq, c_ne, c_is_non, c_isn_non, c_is_bl, c_isn_bl, c_is_int, c_isn_int, c_is_str, c_isn_str, c_is_tup, c_isn_tup, c_is_lst, c_isn_lst, c_mem_s, c_nmem_s, c_mem_t, c_nmem_t, c_mem_l, c_nmem_l, fl_non, isi_tuple_non, isi_str_non, isi_int_non, isi_bool_non, fl_bl, isi_tuple_bl, isi_str_bl, isi_int_bl, isi_bool_bl, fl_int, isi_tuple_int, isi_str_int, isi_int_int, isi_bool_int, fl_str, isi_tuple_str, isi_str_str, isi_int_str, isi_bool_str, fl_tup, isi_tuple_tup, isi_str_tup, isi_int_tup, isi_bool_tup, fl_lst, isi_tuple_lst, isi_str_lst, isi_int_lst, isi_bool_lst, eqv_non_non, eqv_non_bl, eqv_non_int, eqv_non_str, eqv_non_tup, eqv_non_lst, eqv_bl_non, eqv_bl_bl, eqv_bl_int, eqv_bl_str, eqv_bl_tup, eqv_bl_lst, eqv_int_non, eqv_int_bl, eqv_int_int, eqv_int_str, eqv_int_tup, eqv_int_lst, eqv_str_non, eqv_str_bl, eqv_str_int, eqv_str_str, eqv_str_tup, eqv_str_lst, eqv_tup_non, eqv_tup_bl, eqv_tup_int, eqv_tup_str, eqv_tup_tup, eqv_tup_lst, eqv_lst_non, eqv_lst_bl, eqv_lst_int, eqv_lst_str, eqv_lst_tup, eqv_lst_lst, eqvL_nn, eqvL_cc, eqvL_nc, eqvL_cn, ok_tup, ok_lst, ok_tup50, ok_lst50, ok_tup49, ok_non, ok_bl, ok_int, ok_str, it_tup, it_lst, it_ref, ix_str, ix_scr, ix_tup, ix_lst, ix_ref, sl_str, sl_tup, sl_lst, ln_str, ln_scr, ln_tup, ln_lst, ln_ref, in_int, in_bl, u_neg, u_len, u_isi, u_int, u_abs, u_tup, u_lst_t, u_lst_l, u_range, u_str, u_sorted, u_sortedr, u_sset, u_find, b_max, b_starts, b_index, w_str, w_tup, w_lst, a_bl, a_int, r_tup, at_ref, at_0, at_1, at_2, at_3, at_4, lb_Lrun_0, eb, encH_n, encH_s, at2, c, g0, g1, ixD, List.map_set]
          · refine ⟨[none, none, none, some (.ref 0)], [.lst (rw_.map encH), .lst (sh.map encH)], ?_, rfl⟩
            rw [List.map_cons, loop_rt (v := .non) (M' := [.lst (rw_.map encH), .lst (sh.map encH)])]
            · simp [runP, step, e, e3, g0, g1]
            · rw [e1] at eb ⊢
              simp [evalX, evalA, evalS, evalB, runD, fin_same, o_add_i, o_add_s, o_add_l, o_add_t, o_sub, o_mul, o_rep, o_div, o_mod, c_lt, c_le, c_gt, c_ge, c_eq, c_ne, c_is_non, c_isn_non, c_is_bl, c_isn_bl, c_is_int, c_isn_int, c_is_str, c_isn_str, c_is_tup, c_isn_tup, c_is_lst, c_isn_lst, c_mem_s, c_nmem_s, c_mem_t, c_nmem_t, c_mem_l, c_nmem_l, fl_non, isi_tuple_non, isi_str_non, isi_int_non, isi_bool_non, fl_bl, isi_tuple_bl, isi_str_bl, isi_int_bl, isi_bool_bl, fl_int, isi_tuple_int, isi_str_int, isi_int_int, isi_bool_int, fl_str, isi_tuple_str, isi_str_str, isi_int_str, isi_bool_str, fl_tup, isi_tuple_tup, isi_str_tup, isi_int_tup, isi_bool_tup, fl_lst, isi_tuple_lst, isi_str_lst, isi_int_lst, isi_bool_lst, eqv_non_non, eqv_non_bl, eqv_non_int, eqv_non_str, eqv_non_tup, eqv_non_lst, eqv_bl_non, eqv_bl_bl, eqv_bl_int, eqv_bl_str, eqv_bl_tup, eqv_bl_lst, eqv_int_non, eqv_int_bl, eqv_int_int, eqv_int_str, eqv_int_tup, eqv_int_lst, eqv_str_non, eqv_str_bl, eqv_str_int, eqv_str_str, eqv_str_tup, eqv_str_lst, eqv_tup_non, eqv_tup_bl, eqv_tup_int, eqv_tup_str, eqv_tup_tup, eqv_tup_lst, eqv_lst_non, eqv_lst_bl, eqv_lst_int, eqv_lst_str, eqv_lst_tup, eqv_lst_lst, eqvL_nn, eqvL_cc, eqvL_nc, eqvL_cn, ok_tup, ok_lst, ok_tup50, ok_lst50, ok_tup49, ok_non, ok_bl, ok_int, ok_str, it_tup, it_lst, it_ref, ix_str, ix_scr, ix_tup, ix_lst, ix_ref, sl_str, sl_tup, sl_lst, ln_str, ln_scr, ln_tup, ln_lst, ln_ref, in_int, in_bl, u_neg, u_len, u_isi, u_int, u_abs, u_tup, u_lst_t, u_lst_l, u_range, u_str, u_sorted, u_sortedr, u_sset, u_find, b_max, b_starts, b_index, w_str, w_tup, w_lst, a_bl, a_int, r_tup, at_ref, at_0, at_1, at_2, at_3, at_4, lb_Lrun_0, eb, encH_n, encH_s, at2, c, g0, g1]
        · refine ⟨[none, none, none, some (.ref 0)], [.lst (rw_.map encH), .lst (sh.map encH)], ?_, rfl⟩
          rw [List.map_cons, loop_rt (v := .non) (M' := [.lst (rw_.map encH), .lst (sh.map encH)])]
          · simp [runP, step, e, e3, g0]
          · rw [e1] at eb ⊢
            simp [evalX, evalA, evalS, evalB, runD, fin_same, o_add_i, o_add_s, o_add_l, o_add_t, o_sub, o_mul, o_rep, o_div, o_mod, c_lt, c_le, c_gt, c_ge, c_eq, c_ne, c_is_non, c_isn_non, c_is_bl, c_isn_bl, c_is_int, c_isn_int, c_is_str, c_isn_str, c_is_tup, c_isn_tup, c_is_lst, c_isn_lst, c_mem_s, c_nmem_s, c_mem_t, c_nmem_t, c_mem_l, c_nmem_l, fl_non, isi_tuple_non, isi_str_non, isi_int_non, isi_bool_non, fl_bl, isi_tuple_bl, isi_str_bl, isi_int_bl, isi_bool_bl, fl_int, isi_tuple_int, isi_str_int, isi_int_int, isi_bool_int, fl_str, isi_tuple_str, isi_str_str, isi_int_str, isi_bool_str, fl_tup, isi_tuple_tup, isi_str_tup, isi_int_tup, isi_bool_tup, fl_lst, isi_tuple_lst, isi_str_lst, isi_int_lst, isi_bool_lst, eqv_non_non, eqv_non_bl, eqv_non_int, eqv_non_str, eqv_non_tup, eqv_non_lst, eqv_bl_non, eqv_bl_bl, eqv_bl_int, eqv_bl_str, eqv_bl_tup, eqv_bl_lst, eqv_int_non, eqv_int_bl, eqv_int_int, eqv_int_str, eqv_int_tup, eqv_int_lst, eqv_str_non, eqv_str_bl, eqv_str_int, eqv_str_str, eqv_str_tup, eqv_str_lst, eqv_tup_non, eqv_tup_bl, eqv_tup_int, eqv_tup_str, eqv_tup_tup, eqv_tup_lst, eqv_lst_non, eqv_lst_bl, eqv_lst_int, eqv_lst_str, eqv_lst_tup, eqv_lst_lst, eqvL_nn, eqvL_cc, eqvL_nc, eqvL_cn, ok_tup, ok_lst, ok_tup50, ok_lst50, ok_tup49, ok_non, ok_bl, ok_int, ok_str, it_tup, it_lst, it_ref, ix_str, ix_scr, ix_tup, ix_lst, ix_ref, sl_str, sl_tup, sl_lst, ln_str, ln_scr, ln_tup, ln_lst, ln_ref, in_int, in_bl, u_neg, u_len, u_isi, u_int, u_abs, u_tup, u_lst_t, u_lst_l, u_range, u_str, u_sorted, u_sortedr, u_sset, u_find, b_max, b_starts, b_index, w_str, w_tup, w_lst, a_bl, a_int, r_tup, at_ref, at_0, at_1, at_2, at_3, at_4, lb_Lrun_0, eb, encH_n, encH_s, at2, c, g0]
theorem Lrun_eq {n : Nat} (hn : 3 ≤ n) (t : T) (code : List Deed) (hf : ∀ d ∈ code, d.fit) (k : Nat) (hk : k ≤ 1000) : fin [] (callF prog n f_Lrun [enc t, .tup (code.map encD), .int k] []) = some (encR (runR t code k)) := by
  obtain ⟨m, rfl, hm⟩ := succ_of hn
  rw [call1 at_Lrun]
  obtain ⟨ρ, M', h, h3⟩ := Lrun_loop hm t code hf (empty k) (empty 41) (.tup (code.map encD)) (.int k) none none none
  have : ∃ M2, runD (callF prog m) df_Lrun [enc t, .tup (code.map encD), .int k] [] = some (encR (runR t code k), M2) := by
    have r1 := rep_flat k
    rw [emp41] at h
    have hk2 : (k : Int) ≤ 1000 := by omega
    cases e : runP t code (empty k, empty 41) with
    | none =>
      rw [e] at h
      refine ⟨M', ?_⟩
      simp [evalX, evalA, evalS, evalB, runD, fin_same, o_add_i, o_add_s, o_add_l, o_add_t, o_sub, o_mul, o_rep, o_div, o_mod, c_lt, c_le, c_gt, c_ge, c_eq, c_ne, c_is_non, c_isn_non, c_is_bl, c_isn_bl, c_is_int, c_isn_int, c_is_str, c_isn_str, c_is_tup, c_isn_tup, c_is_lst, c_isn_lst, c_mem_s, c_nmem_s, c_mem_t, c_nmem_t, c_mem_l, c_nmem_l, fl_non, isi_tuple_non, isi_str_non, isi_int_non, isi_bool_non, fl_bl, isi_tuple_bl, isi_str_bl, isi_int_bl, isi_bool_bl, fl_int, isi_tuple_int, isi_str_int, isi_int_int, isi_bool_int, fl_str, isi_tuple_str, isi_str_str, isi_int_str, isi_bool_str, fl_tup, isi_tuple_tup, isi_str_tup, isi_int_tup, isi_bool_tup, fl_lst, isi_tuple_lst, isi_str_lst, isi_int_lst, isi_bool_lst, eqv_non_non, eqv_non_bl, eqv_non_int, eqv_non_str, eqv_non_tup, eqv_non_lst, eqv_bl_non, eqv_bl_bl, eqv_bl_int, eqv_bl_str, eqv_bl_tup, eqv_bl_lst, eqv_int_non, eqv_int_bl, eqv_int_int, eqv_int_str, eqv_int_tup, eqv_int_lst, eqv_str_non, eqv_str_bl, eqv_str_int, eqv_str_str, eqv_str_tup, eqv_str_lst, eqv_tup_non, eqv_tup_bl, eqv_tup_int, eqv_tup_str, eqv_tup_tup, eqv_tup_lst, eqv_lst_non, eqv_lst_bl, eqv_lst_int, eqv_lst_str, eqv_lst_tup, eqv_lst_lst, eqvL_nn, eqvL_cc, eqvL_nc, eqvL_cn, ok_tup, ok_lst, ok_tup50, ok_lst50, ok_tup49, ok_non, ok_bl, ok_int, ok_str, it_tup, it_lst, it_ref, ix_str, ix_scr, ix_tup, ix_lst, ix_ref, sl_str, sl_tup, sl_lst, ln_str, ln_scr, ln_tup, ln_lst, ln_ref, in_int, in_bl, u_neg, u_len, u_isi, u_int, u_abs, u_tup, u_lst_t, u_lst_l, u_range, u_str, u_sorted, u_sortedr, u_sset, u_find, b_max, b_starts, b_index, w_str, w_tup, w_lst, a_bl, a_int, r_tup, at_ref, at_0, at_1, at_2, at_3, at_4, df_Lrun, pb_Lrun, hk2, r1, h, runR, e, encR]
    | some s =>
      rw [e] at h
      refine ⟨[.lst (s.1.map encH), .lst (s.2.map encH)], ?_⟩
      simp [evalX, evalA, evalS, evalB, runD, fin_same, o_add_i, o_add_s, o_add_l, o_add_t, o_sub, o_mul, o_rep, o_div, o_mod, c_lt, c_le, c_gt, c_ge, c_eq, c_ne, c_is_non, c_isn_non, c_is_bl, c_isn_bl, c_is_int, c_isn_int, c_is_str, c_isn_str, c_is_tup, c_isn_tup, c_is_lst, c_isn_lst, c_mem_s, c_nmem_s, c_mem_t, c_nmem_t, c_mem_l, c_nmem_l, fl_non, isi_tuple_non, isi_str_non, isi_int_non, isi_bool_non, fl_bl, isi_tuple_bl, isi_str_bl, isi_int_bl, isi_bool_bl, fl_int, isi_tuple_int, isi_str_int, isi_int_int, isi_bool_int, fl_str, isi_tuple_str, isi_str_str, isi_int_str, isi_bool_str, fl_tup, isi_tuple_tup, isi_str_tup, isi_int_tup, isi_bool_tup, fl_lst, isi_tuple_lst, isi_str_lst, isi_int_lst, isi_bool_lst, eqv_non_non, eqv_non_bl, eqv_non_int, eqv_non_str, eqv_non_tup, eqv_non_lst, eqv_bl_non, eqv_bl_bl, eqv_bl_int, eqv_bl_str, eqv_bl_tup, eqv_bl_lst, eqv_int_non, eqv_int_bl, eqv_int_int, eqv_int_str, eqv_int_tup, eqv_int_lst, eqv_str_non, eqv_str_bl, eqv_str_int, eqv_str_str, eqv_str_tup, eqv_str_lst, eqv_tup_non, eqv_tup_bl, eqv_tup_int, eqv_tup_str, eqv_tup_tup, eqv_tup_lst, eqv_lst_non, eqv_lst_bl, eqv_lst_int, eqv_lst_str, eqv_lst_tup, eqv_lst_lst, eqvL_nn, eqvL_cc, eqvL_nc, eqvL_cn, ok_tup, ok_lst, ok_tup50, ok_lst50, ok_tup49, ok_non, ok_bl, ok_int, ok_str, it_tup, it_lst, it_ref, ix_str, ix_scr, ix_tup, ix_lst, ix_ref, sl_str, sl_tup, sl_lst, ln_str, ln_scr, ln_tup, ln_lst, ln_ref, in_int, in_bl, u_neg, u_len, u_isi, u_int, u_abs, u_tup, u_lst_t, u_lst_l, u_range, u_str, u_sorted, u_sortedr, u_sset, u_find, b_max, b_starts, b_index, w_str, w_tup, w_lst, a_bl, a_int, r_tup, at_ref, at_0, at_1, at_2, at_3, at_4, df_Lrun, pb_Lrun, hk2, r1, h, h3, runR, e, encR]
  obtain ⟨M2, this⟩ := this
  rw [this, fin_nil _ _ (encR_clean _) (encR_ref _)]

/-! ### addresses and parts -/
theorem addrs_part : ∀ (t root : T) (p a : Tx), part root p = some t → a ∈ addrs t p → ∃ u, part root a = some u
  | .num _, root, p, a, hp, h => by
    simp [addrs] at h
    subst h
    exact ⟨_, hp⟩
  | .join w l r, root, p, a, hp, h => by
    simp only [addrs, List.mem_cons, List.mem_append] at h
    rcases h with rfl | h | h
    · exact ⟨_, hp⟩
    · exact addrs_part l root _ a (part_l hp) h
    · exact addrs_part r root _ a (part_r hp) h
theorem part_gc : ∀ (a : Tx) (t u : T), part t a = some u → t.good → u.good ∧ u.cnt ≤ t.cnt ∧ u.dep ≤ t.dep
  | [], t, u, h, g => by
    rw [part_nil] at h
    cases h
    exact ⟨g, Nat.le_refl _, Nat.le_refl _⟩
  | c :: a, .num k, u, h, g => by simp [part] at h
  | c :: a, .join w l r, u, h, g => by
    simp only [part] at h
    simp only [T.cnt, T.dep]
    split at h
    · have := part_gc a l u h g.1
      exact ⟨this.1, by omega, by omega⟩
    · split at h
      · have := part_gc a r u h g.2
        exact ⟨this.1, by omega, by omega⟩
      · cases h
theorem part_dep : ∀ (a : Tx) (t u : T), part t a = some u → u.dep ≤ t.dep
  | [], t, u, h => by
    rw [part_nil] at h
    cases h
    exact Nat.le_refl _
  | c :: a, .num k, u, h => by simp [part] at h
  | c :: a, .join w l r, u, h => by
    simp only [part] at h
    simp only [T.dep]
    split at h
    · have := part_dep a l u h; omega
    · split at h
      · have := part_dep a r u h; omega
      · cases h
theorem part_cnt2 : ∀ (a : Tx) (t u : T), part t a = some u → u.cnt ≤ t.cnt
  | [], t, u, h => by
    rw [part_nil] at h
    cases h
    exact Nat.le_refl _
  | c :: a, .num k, u, h => by simp [part] at h
  | c :: a, .join w l r, u, h => by
    simp only [part] at h
    simp only [T.cnt]
    split at h
    · have := part_cnt2 a l u h; omega
    · split at h
      · have := part_cnt2 a r u h; omega
      · cases h
theorem part_len2 : ∀ (a : Tx) (t u : T), part t a = some u → a.length ≤ t.dep
  | [], t, u, h => Nat.zero_le _
  | c :: a, .num k, u, h => by simp [part] at h
  | c :: a, .join w l r, u, h => by
    simp only [part] at h
    simp only [List.length_cons, T.dep]
    split at h
    · have := part_len2 a l u h; omega
    · split at h
      · have := part_len2 a r u h; omega
      · cases h

theorem filtD_map {α : Type} (e : α → D) {f : D → Option Bool} {g : α → Bool} : ∀ {xs : List α}, (∀ x ∈ xs, f (e x) = some (g x)) → filtD f (xs.map e) = some ((xs.filter g).map e)
  | [], _ => rfl
  | x :: xs, h => by
    have h1 := h x (by simp)
    have h2 := filtD_map e (f := f) (g := g) (xs := xs) (fun y hy => h y (List.mem_cons_of_mem _ hy))
    rw [List.map_cons, filtD, h1, h2, List.filter_cons]
    cases g x <;> rfl

/-! ### the kitchen -/
abbrev kTree : Tx := [116, 114, 101, 101]
abbrev kPans : Tx := [112, 97, 110, 115]
abbrev kShelf : Tx := [115, 104, 101, 108, 102]
abbrev KM (t : T) (rw_ sh : Row) : Ms := [.ins 0 [(kTree, enc t), (kPans, .ref 1), (kShelf, .ref 2)], .lst (rw_.map encH), .lst (sh.map encH)]
theorem holds_eq {n : Nat} (hn : 1 ≤ n) (M : Ms) (x : D) (l : Nat) (r : Row) (h : M[l]? = some (.lst (r.map encH))) (i : Int) : callF prog n f_Kitchen_holds [x, .ref l, .int i] M = some (encH (held r i), M) := by
  obtain ⟨m, rfl, hm⟩ := succ_of hn
  rw [call1 at_Kitchen_holds]
  by_cases h0 : 0 ≤ i
  · by_cases h1 : i < r.length
    · simp [evalX, evalA, evalS, evalB, runD, fin_same, o_add_i, o_add_s, o_add_l, o_add_t, o_sub, o_mul, o_rep, o_div, o_mod, c_lt, c_le, c_gt, c_ge, c_eq, c_ne, c_is_non, c_isn_non, c_is_bl, c_isn_bl, c_is_int, c_isn_int, c_is_str, c_isn_str, c_is_tup, c_isn_tup, c_is_lst, c_isn_lst, c_mem_s, c_nmem_s, c_mem_t, c_nmem_t, c_mem_l, c_nmem_l, fl_non, isi_tuple_non, isi_str_non, isi_int_non, isi_bool_non, fl_bl, isi_tuple_bl, isi_str_bl, isi_int_bl, isi_bool_bl, fl_int, isi_tuple_int, isi_str_int, isi_int_int, isi_bool_int, fl_str, isi_tuple_str, isi_str_str, isi_int_str, isi_bool_str, fl_tup, isi_tuple_tup, isi_str_tup, isi_int_tup, isi_bool_tup, fl_lst, isi_tuple_lst, isi_str_lst, isi_int_lst, isi_bool_lst, eqv_non_non, eqv_non_bl, eqv_non_int, eqv_non_str, eqv_non_tup, eqv_non_lst, eqv_bl_non, eqv_bl_bl, eqv_bl_int, eqv_bl_str, eqv_bl_tup, eqv_bl_lst, eqv_int_non, eqv_int_bl, eqv_int_int, eqv_int_str, eqv_int_tup, eqv_int_lst, eqv_str_non, eqv_str_bl, eqv_str_int, eqv_str_str, eqv_str_tup, eqv_str_lst, eqv_tup_non, eqv_tup_bl, eqv_tup_int, eqv_tup_str, eqv_tup_tup, eqv_tup_lst, eqv_lst_non, eqv_lst_bl, eqv_lst_int, eqv_lst_str, eqv_lst_tup, eqv_lst_lst, eqvL_nn, eqvL_cc, eqvL_nc, eqvL_cn, ok_tup, ok_lst, ok_tup50, ok_lst50, ok_tup49, ok_non, ok_bl, ok_int, ok_str, it_tup, it_lst, it_ref, ix_str, ix_scr, ix_tup, ix_lst, ix_ref, sl_str, sl_tup, sl_lst, ln_str, ln_scr, ln_tup, ln_lst, ln_ref, in_int, in_bl, u_neg, u_len, u_isi, u_int, u_abs, u_tup, u_lst_t, u_lst_l, u_range, u_str, u_sorted, u_sortedr, u_sset, u_find, b_max, b_starts, b_index, w_str, w_tup, w_lst, a_bl, a_int, r_tup, at_ref, at_0, at_1, at_2, at_3, at_4, df_Kitchen_holds, pb_Kitchen_holds, h, h0, h1, atD_row]
    · simp [evalX, evalA, evalS, evalB, runD, fin_same, o_add_i, o_add_s, o_add_l, o_add_t, o_sub, o_mul, o_rep, o_div, o_mod, c_lt, c_le, c_gt, c_ge, c_eq, c_ne, c_is_non, c_isn_non, c_is_bl, c_isn_bl, c_is_int, c_isn_int, c_is_str, c_isn_str, c_is_tup, c_isn_tup, c_is_lst, c_isn_lst, c_mem_s, c_nmem_s, c_mem_t, c_nmem_t, c_mem_l, c_nmem_l, fl_non, isi_tuple_non, isi_str_non, isi_int_non, isi_bool_non, fl_bl, isi_tuple_bl, isi_str_bl, isi_int_bl, isi_bool_bl, fl_int, isi_tuple_int, isi_str_int, isi_int_int, isi_bool_int, fl_str, isi_tuple_str, isi_str_str, isi_int_str, isi_bool_str, fl_tup, isi_tuple_tup, isi_str_tup, isi_int_tup, isi_bool_tup, fl_lst, isi_tuple_lst, isi_str_lst, isi_int_lst, isi_bool_lst, eqv_non_non, eqv_non_bl, eqv_non_int, eqv_non_str, eqv_non_tup, eqv_non_lst, eqv_bl_non, eqv_bl_bl, eqv_bl_int, eqv_bl_str, eqv_bl_tup, eqv_bl_lst, eqv_int_non, eqv_int_bl, eqv_int_int, eqv_int_str, eqv_int_tup, eqv_int_lst, eqv_str_non, eqv_str_bl, eqv_str_int, eqv_str_str, eqv_str_tup, eqv_str_lst, eqv_tup_non, eqv_tup_bl, eqv_tup_int, eqv_tup_str, eqv_tup_tup, eqv_tup_lst, eqv_lst_non, eqv_lst_bl, eqv_lst_int, eqv_lst_str, eqv_lst_tup, eqv_lst_lst, eqvL_nn, eqvL_cc, eqvL_nc, eqvL_cn, ok_tup, ok_lst, ok_tup50, ok_lst50, ok_tup49, ok_non, ok_bl, ok_int, ok_str, it_tup, it_lst, it_ref, ix_str, ix_scr, ix_tup, ix_lst, ix_ref, sl_str, sl_tup, sl_lst, ln_str, ln_scr, ln_tup, ln_lst, ln_ref, in_int, in_bl, u_neg, u_len, u_isi, u_int, u_abs, u_tup, u_lst_t, u_lst_l, u_range, u_str, u_sorted, u_sortedr, u_sset, u_find, b_max, b_starts, b_index, w_str, w_tup, w_lst, a_bl, a_int, r_tup, at_ref, at_0, at_1, at_2, at_3, at_4, df_Kitchen_holds, pb_Kitchen_holds, h, h0, h1, held_out r (fun z => h1 z.2), encH_n]
  · simp [evalX, evalA, evalS, evalB, runD, fin_same, o_add_i, o_add_s, o_add_l, o_add_t, o_sub, o_mul, o_rep, o_div, o_mod, c_lt, c_le, c_gt, c_ge, c_eq, c_ne, c_is_non, c_isn_non, c_is_bl, c_isn_bl, c_is_int, c_isn_int, c_is_str, c_isn_str, c_is_tup, c_isn_tup, c_is_lst, c_isn_lst, c_mem_s, c_nmem_s, c_mem_t, c_nmem_t, c_mem_l, c_nmem_l, fl_non, isi_tuple_non, isi_str_non, isi_int_non, isi_bool_non, fl_bl, isi_tuple_bl, isi_str_bl, isi_int_bl, isi_bool_bl, fl_int, isi_tuple_int, isi_str_int, isi_int_int, isi_bool_int, fl_str, isi_tuple_str, isi_str_str, isi_int_str, isi_bool_str, fl_tup, isi_tuple_tup, isi_str_tup, isi_int_tup, isi_bool_tup, fl_lst, isi_tuple_lst, isi_str_lst, isi_int_lst, isi_bool_lst, eqv_non_non, eqv_non_bl, eqv_non_int, eqv_non_str, eqv_non_tup, eqv_non_lst, eqv_bl_non, eqv_bl_bl, eqv_bl_int, eqv_bl_str, eqv_bl_tup, eqv_bl_lst, eqv_int_non, eqv_int_bl, eqv_int_int, eqv_int_str, eqv_int_tup, eqv_int_lst, eqv_str_non, eqv_str_bl, eqv_str_int, eqv_str_str, eqv_str_tup, eqv_str_lst, eqv_tup_non, eqv_tup_bl, eqv_tup_int, eqv_tup_str, eqv_tup_tup, eqv_tup_lst, eqv_lst_non, eqv_lst_bl, eqv_lst_int, eqv_lst_str, eqv_lst_tup, eqv_lst_lst, eqvL_nn, eqvL_cc, eqvL_nc, eqvL_cn, ok_tup, ok_lst, ok_tup50, ok_lst50, ok_tup49, ok_non, ok_bl, ok_int, ok_str, it_tup, it_lst, it_ref, ix_str, ix_scr, ix_tup, ix_lst, ix_ref, sl_str, sl_tup, sl_lst, ln_str, ln_scr, ln_tup, ln_lst, ln_ref, in_int, in_bl, u_neg, u_len, u_isi, u_int, u_abs, u_tup, u_lst_t, u_lst_l, u_range, u_str, u_sorted, u_sortedr, u_sset, u_find, b_max, b_starts, b_index, w_str, w_tup, w_lst, a_bl, a_int, r_tup, at_ref, at_0, at_1, at_2, at_3, at_4, df_Kitchen_holds, pb_Kitchen_holds, h, h0, held_out r (fun z => h0 z.1), encH_n]
def wordOf (t : T) (a : Tx) : Tx := match part t a with | none => [] | some (.num _) => cNum | some (.join w _ _) => w.tx
theorem word_eq {n : Nat} (hn : 2 ≤ n) (t : T) (rw_ sh : Row) (a : Tx) : callF prog n f_Kitchen_word_at [.ref 0, .str a] (KM t rw_ sh) = some (.str (wordOf t a), KM t rw_ sh) := by
  obtain ⟨m, rfl, hm⟩ := succ_of hn
  rw [call1 at_Kitchen_word_at]
  have pe := part_at_eq (n := m) hm t a (KM t rw_ sh)
  cases e : part t a with
  | none => rw [e] at pe; simp [evalX, evalA, evalS, evalB, runD, fin_same, o_add_i, o_add_s, o_add_l, o_add_t, o_sub, o_mul, o_rep, o_div, o_mod, c_lt, c_le, c_gt, c_ge, c_eq, c_ne, c_is_non, c_isn_non, c_is_bl, c_isn_bl, c_is_int, c_isn_int, c_is_str, c_isn_str, c_is_tup, c_isn_tup, c_is_lst, c_isn_lst, c_mem_s, c_nmem_s, c_mem_t, c_nmem_t, c_mem_l, c_nmem_l, fl_non, isi_tuple_non, isi_str_non, isi_int_non, isi_bool_non, fl_bl, isi_tuple_bl, isi_str_bl, isi_int_bl, isi_bool_bl, fl_int, isi_tuple_int, isi_str_int, isi_int_int, isi_bool_int, fl_str, isi_tuple_str, isi_str_str, isi_int_str, isi_bool_str, fl_tup, isi_tuple_tup, isi_str_tup, isi_int_tup, isi_bool_tup, fl_lst, isi_tuple_lst, isi_str_lst, isi_int_lst, isi_bool_lst, eqv_non_non, eqv_non_bl, eqv_non_int, eqv_non_str, eqv_non_tup, eqv_non_lst, eqv_bl_non, eqv_bl_bl, eqv_bl_int, eqv_bl_str, eqv_bl_tup, eqv_bl_lst, eqv_int_non, eqv_int_bl, eqv_int_int, eqv_int_str, eqv_int_tup, eqv_int_lst, eqv_str_non, eqv_str_bl, eqv_str_int, eqv_str_str, eqv_str_tup, eqv_str_lst, eqv_tup_non, eqv_tup_bl, eqv_tup_int, eqv_tup_str, eqv_tup_tup, eqv_tup_lst, eqv_lst_non, eqv_lst_bl, eqv_lst_int, eqv_lst_str, eqv_lst_tup, eqv_lst_lst, eqvL_nn, eqvL_cc, eqvL_nc, eqvL_cn, ok_tup, ok_lst, ok_tup50, ok_lst50, ok_tup49, ok_non, ok_bl, ok_int, ok_str, it_tup, it_lst, it_ref, ix_str, ix_scr, ix_tup, ix_lst, ix_ref, sl_str, sl_tup, sl_lst, ln_str, ln_scr, ln_tup, ln_lst, ln_ref, in_int, in_bl, u_neg, u_len, u_isi, u_int, u_abs, u_tup, u_lst_t, u_lst_l, u_range, u_str, u_sorted, u_sortedr, u_sset, u_find, b_max, b_starts, b_index, w_str, w_tup, w_lst, a_bl, a_int, r_tup, at_ref, at_0, at_1, at_2, at_3, at_4, lookA, df_Kitchen_word_at, pb_Kitchen_word_at, pe, encO, wordOf, e]
  | some u =>
    rw [e] at pe
    cases u <;> simp [evalX, evalA, evalS, evalB, runD, fin_same, o_add_i, o_add_s, o_add_l, o_add_t, o_sub, o_mul, o_rep, o_div, o_mod, c_lt, c_le, c_gt, c_ge, c_eq, c_ne, c_is_non, c_isn_non, c_is_bl, c_isn_bl, c_is_int, c_isn_int, c_is_str, c_isn_str, c_is_tup, c_isn_tup, c_is_lst, c_isn_lst, c_mem_s, c_nmem_s, c_mem_t, c_nmem_t, c_mem_l, c_nmem_l, fl_non, isi_tuple_non, isi_str_non, isi_int_non, isi_bool_non, fl_bl, isi_tuple_bl, isi_str_bl, isi_int_bl, isi_bool_bl, fl_int, isi_tuple_int, isi_str_int, isi_int_int, isi_bool_int, fl_str, isi_tuple_str, isi_str_str, isi_int_str, isi_bool_str, fl_tup, isi_tuple_tup, isi_str_tup, isi_int_tup, isi_bool_tup, fl_lst, isi_tuple_lst, isi_str_lst, isi_int_lst, isi_bool_lst, eqv_non_non, eqv_non_bl, eqv_non_int, eqv_non_str, eqv_non_tup, eqv_non_lst, eqv_bl_non, eqv_bl_bl, eqv_bl_int, eqv_bl_str, eqv_bl_tup, eqv_bl_lst, eqv_int_non, eqv_int_bl, eqv_int_int, eqv_int_str, eqv_int_tup, eqv_int_lst, eqv_str_non, eqv_str_bl, eqv_str_int, eqv_str_str, eqv_str_tup, eqv_str_lst, eqv_tup_non, eqv_tup_bl, eqv_tup_int, eqv_tup_str, eqv_tup_tup, eqv_tup_lst, eqv_lst_non, eqv_lst_bl, eqv_lst_int, eqv_lst_str, eqv_lst_tup, eqv_lst_lst, eqvL_nn, eqvL_cc, eqvL_nc, eqvL_cn, ok_tup, ok_lst, ok_tup50, ok_lst50, ok_tup49, ok_non, ok_bl, ok_int, ok_str, it_tup, it_lst, it_ref, ix_str, ix_scr, ix_tup, ix_lst, ix_ref, sl_str, sl_tup, sl_lst, ln_str, ln_scr, ln_tup, ln_lst, ln_ref, in_int, in_bl, u_neg, u_len, u_isi, u_int, u_abs, u_tup, u_lst_t, u_lst_l, u_range, u_str, u_sorted, u_sortedr, u_sset, u_find, b_max, b_starts, b_index, w_str, w_tup, w_lst, a_bl, a_int, r_tup, at_ref, at_0, at_1, at_2, at_3, at_4, lookA, df_Kitchen_word_at, pb_Kitchen_word_at, pe, encO, enc, wordOf, e]
theorem found_eq {n : Nat} (hn : 3 ≤ n) (t : T) (rw_ sh : Row) (d : Deed) (hf : d.fit) (hs : d.isSh = false) : callF prog n f_Kitchen_found [.ref 0, encD d] (KM t rw_ sh) = some (encH (brings t rw_ sh d), KM t rw_ sh) := by
  obtain ⟨m, rfl, hm⟩ := succ_of hn
  rw [call1 at_Kitchen_found]
  have e1 := fun x i => holds_eq (n := m) (by omega) (KM t rw_ sh) x 1 rw_ rfl i
  have e2 := fun x i => holds_eq (n := m) (by omega) (KM t rw_ sh) x 2 sh rfl i
  have e3 := fun a => word_eq (n := m) hm t rw_ sh a
  cases d with
  | shelve s p => cases hs
  | fetch p s => simp [evalX, evalA, evalS, evalB, runD, fin_same, o_add_i, o_add_s, o_add_l, o_add_t, o_sub, o_mul, o_rep, o_div, o_mod, c_lt, c_le, c_gt, c_ge, c_eq, c_ne, c_is_non, c_isn_non, c_is_bl, c_isn_bl, c_is_int, c_isn_int, c_is_str, c_isn_str, c_is_tup, c_isn_tup, c_is_lst, c_isn_lst, c_mem_s, c_nmem_s, c_mem_t, c_nmem_t, c_mem_l, c_nmem_l, fl_non, isi_tuple_non, isi_str_non, isi_int_non, isi_bool_non, fl_bl, isi_tuple_bl, isi_str_bl, isi_int_bl, isi_bool_bl, fl_int, isi_tuple_int, isi_str_int, isi_int_int, isi_bool_int, fl_str, isi_tuple_str, isi_str_str, isi_int_str, isi_bool_str, fl_tup, isi_tuple_tup, isi_str_tup, isi_int_tup, isi_bool_tup, fl_lst, isi_tuple_lst, isi_str_lst, isi_int_lst, isi_bool_lst, eqv_non_non, eqv_non_bl, eqv_non_int, eqv_non_str, eqv_non_tup, eqv_non_lst, eqv_bl_non, eqv_bl_bl, eqv_bl_int, eqv_bl_str, eqv_bl_tup, eqv_bl_lst, eqv_int_non, eqv_int_bl, eqv_int_int, eqv_int_str, eqv_int_tup, eqv_int_lst, eqv_str_non, eqv_str_bl, eqv_str_int, eqv_str_str, eqv_str_tup, eqv_str_lst, eqv_tup_non, eqv_tup_bl, eqv_tup_int, eqv_tup_str, eqv_tup_tup, eqv_tup_lst, eqv_lst_non, eqv_lst_bl, eqv_lst_int, eqv_lst_str, eqv_lst_tup, eqv_lst_lst, eqvL_nn, eqvL_cc, eqvL_nc, eqvL_cn, ok_tup, ok_lst, ok_tup50, ok_lst50, ok_tup49, ok_non, ok_bl, ok_int, ok_str, it_tup, it_lst, it_ref, ix_str, ix_scr, ix_tup, ix_lst, ix_ref, sl_str, sl_tup, sl_lst, ln_str, ln_scr, ln_tup, ln_lst, ln_ref, in_int, in_bl, u_neg, u_len, u_isi, u_int, u_abs, u_tup, u_lst_t, u_lst_l, u_range, u_str, u_sorted, u_sortedr, u_sset, u_find, b_max, b_starts, b_index, w_str, w_tup, w_lst, a_bl, a_int, r_tup, at_ref, at_0, at_1, at_2, at_3, at_4, recv, lookA, df_Kitchen_found, pb_Kitchen_found, encD, e2, brings]
  | put p a =>
    cases e : part t a with
    | none => simp [evalX, evalA, evalS, evalB, runD, fin_same, o_add_i, o_add_s, o_add_l, o_add_t, o_sub, o_mul, o_rep, o_div, o_mod, c_lt, c_le, c_gt, c_ge, c_eq, c_ne, c_is_non, c_isn_non, c_is_bl, c_isn_bl, c_is_int, c_isn_int, c_is_str, c_isn_str, c_is_tup, c_isn_tup, c_is_lst, c_isn_lst, c_mem_s, c_nmem_s, c_mem_t, c_nmem_t, c_mem_l, c_nmem_l, fl_non, isi_tuple_non, isi_str_non, isi_int_non, isi_bool_non, fl_bl, isi_tuple_bl, isi_str_bl, isi_int_bl, isi_bool_bl, fl_int, isi_tuple_int, isi_str_int, isi_int_int, isi_bool_int, fl_str, isi_tuple_str, isi_str_str, isi_int_str, isi_bool_str, fl_tup, isi_tuple_tup, isi_str_tup, isi_int_tup, isi_bool_tup, fl_lst, isi_tuple_lst, isi_str_lst, isi_int_lst, isi_bool_lst, eqv_non_non, eqv_non_bl, eqv_non_int, eqv_non_str, eqv_non_tup, eqv_non_lst, eqv_bl_non, eqv_bl_bl, eqv_bl_int, eqv_bl_str, eqv_bl_tup, eqv_bl_lst, eqv_int_non, eqv_int_bl, eqv_int_int, eqv_int_str, eqv_int_tup, eqv_int_lst, eqv_str_non, eqv_str_bl, eqv_str_int, eqv_str_str, eqv_str_tup, eqv_str_lst, eqv_tup_non, eqv_tup_bl, eqv_tup_int, eqv_tup_str, eqv_tup_tup, eqv_tup_lst, eqv_lst_non, eqv_lst_bl, eqv_lst_int, eqv_lst_str, eqv_lst_tup, eqv_lst_lst, eqvL_nn, eqvL_cc, eqvL_nc, eqvL_cn, ok_tup, ok_lst, ok_tup50, ok_lst50, ok_tup49, ok_non, ok_bl, ok_int, ok_str, it_tup, it_lst, it_ref, ix_str, ix_scr, ix_tup, ix_lst, ix_ref, sl_str, sl_tup, sl_lst, ln_str, ln_scr, ln_tup, ln_lst, ln_ref, in_int, in_bl, u_neg, u_len, u_isi, u_int, u_abs, u_tup, u_lst_t, u_lst_l, u_range, u_str, u_sorted, u_sortedr, u_sset, u_find, b_max, b_starts, b_index, w_str, w_tup, w_lst, a_bl, a_int, r_tup, at_ref, at_0, at_1, at_2, at_3, at_4, recv, lookA, df_Kitchen_found, pb_Kitchen_found, encD, e3, wordOf, brings, e, encH_n]
    | some u =>
      cases u with
      | num k => simp [evalX, evalA, evalS, evalB, runD, fin_same, o_add_i, o_add_s, o_add_l, o_add_t, o_sub, o_mul, o_rep, o_div, o_mod, c_lt, c_le, c_gt, c_ge, c_eq, c_ne, c_is_non, c_isn_non, c_is_bl, c_isn_bl, c_is_int, c_isn_int, c_is_str, c_isn_str, c_is_tup, c_isn_tup, c_is_lst, c_isn_lst, c_mem_s, c_nmem_s, c_mem_t, c_nmem_t, c_mem_l, c_nmem_l, fl_non, isi_tuple_non, isi_str_non, isi_int_non, isi_bool_non, fl_bl, isi_tuple_bl, isi_str_bl, isi_int_bl, isi_bool_bl, fl_int, isi_tuple_int, isi_str_int, isi_int_int, isi_bool_int, fl_str, isi_tuple_str, isi_str_str, isi_int_str, isi_bool_str, fl_tup, isi_tuple_tup, isi_str_tup, isi_int_tup, isi_bool_tup, fl_lst, isi_tuple_lst, isi_str_lst, isi_int_lst, isi_bool_lst, eqv_non_non, eqv_non_bl, eqv_non_int, eqv_non_str, eqv_non_tup, eqv_non_lst, eqv_bl_non, eqv_bl_bl, eqv_bl_int, eqv_bl_str, eqv_bl_tup, eqv_bl_lst, eqv_int_non, eqv_int_bl, eqv_int_int, eqv_int_str, eqv_int_tup, eqv_int_lst, eqv_str_non, eqv_str_bl, eqv_str_int, eqv_str_str, eqv_str_tup, eqv_str_lst, eqv_tup_non, eqv_tup_bl, eqv_tup_int, eqv_tup_str, eqv_tup_tup, eqv_tup_lst, eqv_lst_non, eqv_lst_bl, eqv_lst_int, eqv_lst_str, eqv_lst_tup, eqv_lst_lst, eqvL_nn, eqvL_cc, eqvL_nc, eqvL_cn, ok_tup, ok_lst, ok_tup50, ok_lst50, ok_tup49, ok_non, ok_bl, ok_int, ok_str, it_tup, it_lst, it_ref, ix_str, ix_scr, ix_tup, ix_lst, ix_ref, sl_str, sl_tup, sl_lst, ln_str, ln_scr, ln_tup, ln_lst, ln_ref, in_int, in_bl, u_neg, u_len, u_isi, u_int, u_abs, u_tup, u_lst_t, u_lst_l, u_range, u_str, u_sorted, u_sortedr, u_sset, u_find, b_max, b_starts, b_index, w_str, w_tup, w_lst, a_bl, a_int, r_tup, at_ref, at_0, at_1, at_2, at_3, at_4, recv, lookA, df_Kitchen_found, pb_Kitchen_found, encD, e3, wordOf, brings, e, encH_s]
      | join w l r => simp [evalX, evalA, evalS, evalB, runD, fin_same, o_add_i, o_add_s, o_add_l, o_add_t, o_sub, o_mul, o_rep, o_div, o_mod, c_lt, c_le, c_gt, c_ge, c_eq, c_ne, c_is_non, c_isn_non, c_is_bl, c_isn_bl, c_is_int, c_isn_int, c_is_str, c_isn_str, c_is_tup, c_isn_tup, c_is_lst, c_isn_lst, c_mem_s, c_nmem_s, c_mem_t, c_nmem_t, c_mem_l, c_nmem_l, fl_non, isi_tuple_non, isi_str_non, isi_int_non, isi_bool_non, fl_bl, isi_tuple_bl, isi_str_bl, isi_int_bl, isi_bool_bl, fl_int, isi_tuple_int, isi_str_int, isi_int_int, isi_bool_int, fl_str, isi_tuple_str, isi_str_str, isi_int_str, isi_bool_str, fl_tup, isi_tuple_tup, isi_str_tup, isi_int_tup, isi_bool_tup, fl_lst, isi_tuple_lst, isi_str_lst, isi_int_lst, isi_bool_lst, eqv_non_non, eqv_non_bl, eqv_non_int, eqv_non_str, eqv_non_tup, eqv_non_lst, eqv_bl_non, eqv_bl_bl, eqv_bl_int, eqv_bl_str, eqv_bl_tup, eqv_bl_lst, eqv_int_non, eqv_int_bl, eqv_int_int, eqv_int_str, eqv_int_tup, eqv_int_lst, eqv_str_non, eqv_str_bl, eqv_str_int, eqv_str_str, eqv_str_tup, eqv_str_lst, eqv_tup_non, eqv_tup_bl, eqv_tup_int, eqv_tup_str, eqv_tup_tup, eqv_tup_lst, eqv_lst_non, eqv_lst_bl, eqv_lst_int, eqv_lst_str, eqv_lst_tup, eqv_lst_lst, eqvL_nn, eqvL_cc, eqvL_nc, eqvL_cn, ok_tup, ok_lst, ok_tup50, ok_lst50, ok_tup49, ok_non, ok_bl, ok_int, ok_str, it_tup, it_lst, it_ref, ix_str, ix_scr, ix_tup, ix_lst, ix_ref, sl_str, sl_tup, sl_lst, ln_str, ln_scr, ln_tup, ln_lst, ln_ref, in_int, in_bl, u_neg, u_len, u_isi, u_int, u_abs, u_tup, u_lst_t, u_lst_l, u_range, u_str, u_sorted, u_sortedr, u_sset, u_find, b_max, b_starts, b_index, w_str, w_tup, w_lst, a_bl, a_int, r_tup, at_ref, at_0, at_1, at_2, at_3, at_4, recv, lookA, df_Kitchen_found, pb_Kitchen_found, encD, e3, wordOf, brings, e, encH_n, w.ne]
  | join p a q r =>
    simp only [Deed.fit] at hf
    have l1 : a.length + 1 ≤ lim := by rw [lim_eq]; omega
    cases e : part t a with
    | none => simp [evalX, evalA, evalS, evalB, runD, fin_same, o_add_i, o_add_s, o_add_l, o_add_t, o_sub, o_mul, o_rep, o_div, o_mod, c_lt, c_le, c_gt, c_ge, c_eq, c_ne, c_is_non, c_isn_non, c_is_bl, c_isn_bl, c_is_int, c_isn_int, c_is_str, c_isn_str, c_is_tup, c_isn_tup, c_is_lst, c_isn_lst, c_mem_s, c_nmem_s, c_mem_t, c_nmem_t, c_mem_l, c_nmem_l, fl_non, isi_tuple_non, isi_str_non, isi_int_non, isi_bool_non, fl_bl, isi_tuple_bl, isi_str_bl, isi_int_bl, isi_bool_bl, fl_int, isi_tuple_int, isi_str_int, isi_int_int, isi_bool_int, fl_str, isi_tuple_str, isi_str_str, isi_int_str, isi_bool_str, fl_tup, isi_tuple_tup, isi_str_tup, isi_int_tup, isi_bool_tup, fl_lst, isi_tuple_lst, isi_str_lst, isi_int_lst, isi_bool_lst, eqv_non_non, eqv_non_bl, eqv_non_int, eqv_non_str, eqv_non_tup, eqv_non_lst, eqv_bl_non, eqv_bl_bl, eqv_bl_int, eqv_bl_str, eqv_bl_tup, eqv_bl_lst, eqv_int_non, eqv_int_bl, eqv_int_int, eqv_int_str, eqv_int_tup, eqv_int_lst, eqv_str_non, eqv_str_bl, eqv_str_int, eqv_str_str, eqv_str_tup, eqv_str_lst, eqv_tup_non, eqv_tup_bl, eqv_tup_int, eqv_tup_str, eqv_tup_tup, eqv_tup_lst, eqv_lst_non, eqv_lst_bl, eqv_lst_int, eqv_lst_str, eqv_lst_tup, eqv_lst_lst, eqvL_nn, eqvL_cc, eqvL_nc, eqvL_cn, ok_tup, ok_lst, ok_tup50, ok_lst50, ok_tup49, ok_non, ok_bl, ok_int, ok_str, it_tup, it_lst, it_ref, ix_str, ix_scr, ix_tup, ix_lst, ix_ref, sl_str, sl_tup, sl_lst, ln_str, ln_scr, ln_tup, ln_lst, ln_ref, in_int, in_bl, u_neg, u_len, u_isi, u_int, u_abs, u_tup, u_lst_t, u_lst_l, u_range, u_str, u_sorted, u_sortedr, u_sset, u_find, b_max, b_starts, b_index, w_str, w_tup, w_lst, a_bl, a_int, r_tup, at_ref, at_0, at_1, at_2, at_3, at_4, recv, lookA, df_Kitchen_found, pb_Kitchen_found, encD, e3, wordOf, brings, e, encH_n]
    | some u =>
      cases u with
      | num k => simp [evalX, evalA, evalS, evalB, runD, fin_same, o_add_i, o_add_s, o_add_l, o_add_t, o_sub, o_mul, o_rep, o_div, o_mod, c_lt, c_le, c_gt, c_ge, c_eq, c_ne, c_is_non, c_isn_non, c_is_bl, c_isn_bl, c_is_int, c_isn_int, c_is_str, c_isn_str, c_is_tup, c_isn_tup, c_is_lst, c_isn_lst, c_mem_s, c_nmem_s, c_mem_t, c_nmem_t, c_mem_l, c_nmem_l, fl_non, isi_tuple_non, isi_str_non, isi_int_non, isi_bool_non, fl_bl, isi_tuple_bl, isi_str_bl, isi_int_bl, isi_bool_bl, fl_int, isi_tuple_int, isi_str_int, isi_int_int, isi_bool_int, fl_str, isi_tuple_str, isi_str_str, isi_int_str, isi_bool_str, fl_tup, isi_tuple_tup, isi_str_tup, isi_int_tup, isi_bool_tup, fl_lst, isi_tuple_lst, isi_str_lst, isi_int_lst, isi_bool_lst, eqv_non_non, eqv_non_bl, eqv_non_int, eqv_non_str, eqv_non_tup, eqv_non_lst, eqv_bl_non, eqv_bl_bl, eqv_bl_int, eqv_bl_str, eqv_bl_tup, eqv_bl_lst, eqv_int_non, eqv_int_bl, eqv_int_int, eqv_int_str, eqv_int_tup, eqv_int_lst, eqv_str_non, eqv_str_bl, eqv_str_int, eqv_str_str, eqv_str_tup, eqv_str_lst, eqv_tup_non, eqv_tup_bl, eqv_tup_int, eqv_tup_str, eqv_tup_tup, eqv_tup_lst, eqv_lst_non, eqv_lst_bl, eqv_lst_int, eqv_lst_str, eqv_lst_tup, eqv_lst_lst, eqvL_nn, eqvL_cc, eqvL_nc, eqvL_cn, ok_tup, ok_lst, ok_tup50, ok_lst50, ok_tup49, ok_non, ok_bl, ok_int, ok_str, it_tup, it_lst, it_ref, ix_str, ix_scr, ix_tup, ix_lst, ix_ref, sl_str, sl_tup, sl_lst, ln_str, ln_scr, ln_tup, ln_lst, ln_ref, in_int, in_bl, u_neg, u_len, u_isi, u_int, u_abs, u_tup, u_lst_t, u_lst_l, u_range, u_str, u_sorted, u_sortedr, u_sset, u_find, b_max, b_starts, b_index, w_str, w_tup, w_lst, a_bl, a_int, r_tup, at_ref, at_0, at_1, at_2, at_3, at_4, recv, lookA, df_Kitchen_found, pb_Kitchen_found, encD, e3, wordOf, brings, e, encH_n]
      | join w l r2 =>
        have wm : ([112, 108, 117, 115] == w.tx || ([108, 101, 115, 115] == w.tx || [116, 105, 109, 101, 115] == w.tx)) = true := by cases w <;> decide
        have wm2 : (¬ [112, 108, 117, 115] = w.tx ∧ ¬ [108, 101, 115, 115] = w.tx ∧ ¬ [116, 105, 109, 101, 115] = w.tx) = False := by cases w <;> simp [Wd.tx]
        by_cases c1 : held rw_ q = some (a ++ [108])
        · by_cases c2 : held rw_ r = some (a ++ [114])
          · simp [evalX, evalA, evalS, evalB, runD, fin_same, o_add_i, o_add_s, o_add_l, o_add_t, o_sub, o_mul, o_rep, o_div, o_mod, c_lt, c_le, c_gt, c_ge, c_eq, c_ne, c_is_non, c_isn_non, c_is_bl, c_isn_bl, c_is_int, c_isn_int, c_is_str, c_isn_str, c_is_tup, c_isn_tup, c_is_lst, c_isn_lst, c_mem_s, c_nmem_s, c_mem_t, c_nmem_t, c_mem_l, c_nmem_l, fl_non, isi_tuple_non, isi_str_non, isi_int_non, isi_bool_non, fl_bl, isi_tuple_bl, isi_str_bl, isi_int_bl, isi_bool_bl, fl_int, isi_tuple_int, isi_str_int, isi_int_int, isi_bool_int, fl_str, isi_tuple_str, isi_str_str, isi_int_str, isi_bool_str, fl_tup, isi_tuple_tup, isi_str_tup, isi_int_tup, isi_bool_tup, fl_lst, isi_tuple_lst, isi_str_lst, isi_int_lst, isi_bool_lst, eqv_non_non, eqv_non_bl, eqv_non_int, eqv_non_str, eqv_non_tup, eqv_non_lst, eqv_bl_non, eqv_bl_bl, eqv_bl_int, eqv_bl_str, eqv_bl_tup, eqv_bl_lst, eqv_int_non, eqv_int_bl, eqv_int_int, eqv_int_str, eqv_int_tup, eqv_int_lst, eqv_str_non, eqv_str_bl, eqv_str_int, eqv_str_str, eqv_str_tup, eqv_str_lst, eqv_tup_non, eqv_tup_bl, eqv_tup_int, eqv_tup_str, eqv_tup_tup, eqv_tup_lst, eqv_lst_non, eqv_lst_bl, eqv_lst_int, eqv_lst_str, eqv_lst_tup, eqv_lst_lst, eqvL_nn, eqvL_cc, eqvL_nc, eqvL_cn, ok_tup, ok_lst, ok_tup50, ok_lst50, ok_tup49, ok_non, ok_bl, ok_int, ok_str, it_tup, it_lst, it_ref, ix_str, ix_scr, ix_tup, ix_lst, ix_ref, sl_str, sl_tup, sl_lst, ln_str, ln_scr, ln_tup, ln_lst, ln_ref, in_int, in_bl, u_neg, u_len, u_isi, u_int, u_abs, u_tup, u_lst_t, u_lst_l, u_range, u_str, u_sorted, u_sortedr, u_sset, u_find, b_max, b_starts, b_index, w_str, w_tup, w_lst, a_bl, a_int, r_tup, at_ref, at_0, at_1, at_2, at_3, at_4, recv, lookA, df_Kitchen_found, pb_Kitchen_found, encD, e3, wordOf, brings, e, encH_s, e1, l1, c1, c2, wm, wm2]
          · simp [evalX, evalA, evalS, evalB, runD, fin_same, o_add_i, o_add_s, o_add_l, o_add_t, o_sub, o_mul, o_rep, o_div, o_mod, c_lt, c_le, c_gt, c_ge, c_eq, c_ne, c_is_non, c_isn_non, c_is_bl, c_isn_bl, c_is_int, c_isn_int, c_is_str, c_isn_str, c_is_tup, c_isn_tup, c_is_lst, c_isn_lst, c_mem_s, c_nmem_s, c_mem_t, c_nmem_t, c_mem_l, c_nmem_l, fl_non, isi_tuple_non, isi_str_non, isi_int_non, isi_bool_non, fl_bl, isi_tuple_bl, isi_str_bl, isi_int_bl, isi_bool_bl, fl_int, isi_tuple_int, isi_str_int, isi_int_int, isi_bool_int, fl_str, isi_tuple_str, isi_str_str, isi_int_str, isi_bool_str, fl_tup, isi_tuple_tup, isi_str_tup, isi_int_tup, isi_bool_tup, fl_lst, isi_tuple_lst, isi_str_lst, isi_int_lst, isi_bool_lst, eqv_non_non, eqv_non_bl, eqv_non_int, eqv_non_str, eqv_non_tup, eqv_non_lst, eqv_bl_non, eqv_bl_bl, eqv_bl_int, eqv_bl_str, eqv_bl_tup, eqv_bl_lst, eqv_int_non, eqv_int_bl, eqv_int_int, eqv_int_str, eqv_int_tup, eqv_int_lst, eqv_str_non, eqv_str_bl, eqv_str_int, eqv_str_str, eqv_str_tup, eqv_str_lst, eqv_tup_non, eqv_tup_bl, eqv_tup_int, eqv_tup_str, eqv_tup_tup, eqv_tup_lst, eqv_lst_non, eqv_lst_bl, eqv_lst_int, eqv_lst_str, eqv_lst_tup, eqv_lst_lst, eqvL_nn, eqvL_cc, eqvL_nc, eqvL_cn, ok_tup, ok_lst, ok_tup50, ok_lst50, ok_tup49, ok_non, ok_bl, ok_int, ok_str, it_tup, it_lst, it_ref, ix_str, ix_scr, ix_tup, ix_lst, ix_ref, sl_str, sl_tup, sl_lst, ln_str, ln_scr, ln_tup, ln_lst, ln_ref, in_int, in_bl, u_neg, u_len, u_isi, u_int, u_abs, u_tup, u_lst_t, u_lst_l, u_range, u_str, u_sorted, u_sortedr, u_sset, u_find, b_max, b_starts, b_index, w_str, w_tup, w_lst, a_bl, a_int, r_tup, at_ref, at_0, at_1, at_2, at_3, at_4, recv, lookA, df_Kitchen_found, pb_Kitchen_found, encD, e3, wordOf, brings, e, encH_n, encH_s, e1, l1, c1, c2, wm, wm2, encH_ok, encH_eqv]
        · simp [evalX, evalA, evalS, evalB, runD, fin_same, o_add_i, o_add_s, o_add_l, o_add_t, o_sub, o_mul, o_rep, o_div, o_mod, c_lt, c_le, c_gt, c_ge, c_eq, c_ne, c_is_non, c_isn_non, c_is_bl, c_isn_bl, c_is_int, c_isn_int, c_is_str, c_isn_str, c_is_tup, c_isn_tup, c_is_lst, c_isn_lst, c_mem_s, c_nmem_s, c_mem_t, c_nmem_t, c_mem_l, c_nmem_l, fl_non, isi_tuple_non, isi_str_non, isi_int_non, isi_bool_non, fl_bl, isi_tuple_bl, isi_str_bl, isi_int_bl, isi_bool_bl, fl_int, isi_tuple_int, isi_str_int, isi_int_int, isi_bool_int, fl_str, isi_tuple_str, isi_str_str, isi_int_str, isi_bool_str, fl_tup, isi_tuple_tup, isi_str_tup, isi_int_tup, isi_bool_tup, fl_lst, isi_tuple_lst, isi_str_lst, isi_int_lst, isi_bool_lst, eqv_non_non, eqv_non_bl, eqv_non_int, eqv_non_str, eqv_non_tup, eqv_non_lst, eqv_bl_non, eqv_bl_bl, eqv_bl_int, eqv_bl_str, eqv_bl_tup, eqv_bl_lst, eqv_int_non, eqv_int_bl, eqv_int_int, eqv_int_str, eqv_int_tup, eqv_int_lst, eqv_str_non, eqv_str_bl, eqv_str_int, eqv_str_str, eqv_str_tup, eqv_str_lst, eqv_tup_non, eqv_tup_bl, eqv_tup_int, eqv_tup_str, eqv_tup_tup, eqv_tup_lst, eqv_lst_non, eqv_lst_bl, eqv_lst_int, eqv_lst_str, eqv_lst_tup, eqv_lst_lst, eqvL_nn, eqvL_cc, eqvL_nc, eqvL_cn, ok_tup, ok_lst, ok_tup50, ok_lst50, ok_tup49, ok_non, ok_bl, ok_int, ok_str, it_tup, it_lst, it_ref, ix_str, ix_scr, ix_tup, ix_lst, ix_ref, sl_str, sl_tup, sl_lst, ln_str, ln_scr, ln_tup, ln_lst, ln_ref, in_int, in_bl, u_neg, u_len, u_isi, u_int, u_abs, u_tup, u_lst_t, u_lst_l, u_range, u_str, u_sorted, u_sortedr, u_sset, u_find, b_max, b_starts, b_index, w_str, w_tup, w_lst, a_bl, a_int, r_tup, at_ref, at_0, at_1, at_2, at_3, at_4, recv, lookA, df_Kitchen_found, pb_Kitchen_found, encD, e3, wordOf, brings, e, encH_n, e1, l1, c1, wm, wm2, encH_ok, encH_eqv]
theorem is_pan_eq {n : Nat} (hn : 1 ≤ n) (t : T) (rw_ sh : Row) (i : Int) : callF prog n f_Kitchen_is_pan [.ref 0, .int i] (KM t rw_ sh) = some (.bl (decide (0 ≤ i ∧ i < rw_.length)), KM t rw_ sh) := by
  obtain ⟨m, rfl, hm⟩ := succ_of hn
  rw [call1 at_Kitchen_is_pan]
  by_cases h : 0 ≤ i
  · simp [evalX, evalA, evalS, evalB, runD, fin_same, o_add_i, o_add_s, o_add_l, o_add_t, o_sub, o_mul, o_rep, o_div, o_mod, c_lt, c_le, c_gt, c_ge, c_eq, c_ne, c_is_non, c_isn_non, c_is_bl, c_isn_bl, c_is_int, c_isn_int, c_is_str, c_isn_str, c_is_tup, c_isn_tup, c_is_lst, c_isn_lst, c_mem_s, c_nmem_s, c_mem_t, c_nmem_t, c_mem_l, c_nmem_l, fl_non, isi_tuple_non, isi_str_non, isi_int_non, isi_bool_non, fl_bl, isi_tuple_bl, isi_str_bl, isi_int_bl, isi_bool_bl, fl_int, isi_tuple_int, isi_str_int, isi_int_int, isi_bool_int, fl_str, isi_tuple_str, isi_str_str, isi_int_str, isi_bool_str, fl_tup, isi_tuple_tup, isi_str_tup, isi_int_tup, isi_bool_tup, fl_lst, isi_tuple_lst, isi_str_lst, isi_int_lst, isi_bool_lst, eqv_non_non, eqv_non_bl, eqv_non_int, eqv_non_str, eqv_non_tup, eqv_non_lst, eqv_bl_non, eqv_bl_bl, eqv_bl_int, eqv_bl_str, eqv_bl_tup, eqv_bl_lst, eqv_int_non, eqv_int_bl, eqv_int_int, eqv_int_str, eqv_int_tup, eqv_int_lst, eqv_str_non, eqv_str_bl, eqv_str_int, eqv_str_str, eqv_str_tup, eqv_str_lst, eqv_tup_non, eqv_tup_bl, eqv_tup_int, eqv_tup_str, eqv_tup_tup, eqv_tup_lst, eqv_lst_non, eqv_lst_bl, eqv_lst_int, eqv_lst_str, eqv_lst_tup, eqv_lst_lst, eqvL_nn, eqvL_cc, eqvL_nc, eqvL_cn, ok_tup, ok_lst, ok_tup50, ok_lst50, ok_tup49, ok_non, ok_bl, ok_int, ok_str, it_tup, it_lst, it_ref, ix_str, ix_scr, ix_tup, ix_lst, ix_ref, sl_str, sl_tup, sl_lst, ln_str, ln_scr, ln_tup, ln_lst, ln_ref, in_int, in_bl, u_neg, u_len, u_isi, u_int, u_abs, u_tup, u_lst_t, u_lst_l, u_range, u_str, u_sorted, u_sortedr, u_sset, u_find, b_max, b_starts, b_index, w_str, w_tup, w_lst, a_bl, a_int, r_tup, at_ref, at_0, at_1, at_2, at_3, at_4, lookA, df_Kitchen_is_pan, pb_Kitchen_is_pan, h]
  · simp [evalX, evalA, evalS, evalB, runD, fin_same, o_add_i, o_add_s, o_add_l, o_add_t, o_sub, o_mul, o_rep, o_div, o_mod, c_lt, c_le, c_gt, c_ge, c_eq, c_ne, c_is_non, c_isn_non, c_is_bl, c_isn_bl, c_is_int, c_isn_int, c_is_str, c_isn_str, c_is_tup, c_isn_tup, c_is_lst, c_isn_lst, c_mem_s, c_nmem_s, c_mem_t, c_nmem_t, c_mem_l, c_nmem_l, fl_non, isi_tuple_non, isi_str_non, isi_int_non, isi_bool_non, fl_bl, isi_tuple_bl, isi_str_bl, isi_int_bl, isi_bool_bl, fl_int, isi_tuple_int, isi_str_int, isi_int_int, isi_bool_int, fl_str, isi_tuple_str, isi_str_str, isi_int_str, isi_bool_str, fl_tup, isi_tuple_tup, isi_str_tup, isi_int_tup, isi_bool_tup, fl_lst, isi_tuple_lst, isi_str_lst, isi_int_lst, isi_bool_lst, eqv_non_non, eqv_non_bl, eqv_non_int, eqv_non_str, eqv_non_tup, eqv_non_lst, eqv_bl_non, eqv_bl_bl, eqv_bl_int, eqv_bl_str, eqv_bl_tup, eqv_bl_lst, eqv_int_non, eqv_int_bl, eqv_int_int, eqv_int_str, eqv_int_tup, eqv_int_lst, eqv_str_non, eqv_str_bl, eqv_str_int, eqv_str_str, eqv_str_tup, eqv_str_lst, eqv_tup_non, eqv_tup_bl, eqv_tup_int, eqv_tup_str, eqv_tup_tup, eqv_tup_lst, eqv_lst_non, eqv_lst_bl, eqv_lst_int, eqv_lst_str, eqv_lst_tup, eqv_lst_lst, eqvL_nn, eqvL_cc, eqvL_nc, eqvL_cn, ok_tup, ok_lst, ok_tup50, ok_lst50, ok_tup49, ok_non, ok_bl, ok_int, ok_str, it_tup, it_lst, it_ref, ix_str, ix_scr, ix_tup, ix_lst, ix_ref, sl_str, sl_tup, sl_lst, ln_str, ln_scr, ln_tup, ln_lst, ln_ref, in_int, in_bl, u_neg, u_len, u_isi, u_int, u_abs, u_tup, u_lst_t, u_lst_l, u_range, u_str, u_sorted, u_sortedr, u_sset, u_find, b_max, b_starts, b_index, w_str, w_tup, w_lst, a_bl, a_int, r_tup, at_ref, at_0, at_1, at_2, at_3, at_4, lookA, df_Kitchen_is_pan, pb_Kitchen_is_pan, h]
def doR (t : T) (s : Row × Row) : Option (Row × Row) → D × Ms
  | none => (.bl false, KM t s.1 s.2)
  | some s' => (.bl true, KM t s'.1 s'.2)
theorem do_eq {n : Nat} (hn : 4 ≤ n) (t : T) (rw_ sh : Row) (h41 : sh.length = 41) (d : Deed) (hf : d.fit) : callF prog n f_Kitchen_do [.ref 0, encD d] (KM t rw_ sh) = some (doR t (rw_, sh) (step t d (rw_, sh))) := by
  obtain ⟨m, rfl, hm⟩ := succ_of hn
  rw [call1 at_Kitchen_do]
  have e1 := fun x i => holds_eq (n := m) (by omega) (KM t rw_ sh) x 1 rw_ rfl i
  have e4 := fun i => is_pan_eq (n := m) (by omega) t rw_ sh i
  by_cases hs : d.isSh = true
  · cases d with
    | shelve s p =>
      cases e : held rw_ p with
      | none => simp [evalX, evalA, evalS, evalB, runD, fin_same, o_add_i, o_add_s, o_add_l, o_add_t, o_sub, o_mul, o_rep, o_div, o_mod, c_lt, c_le, c_gt, c_ge, c_eq, c_ne, c_is_non, c_isn_non, c_is_bl, c_isn_bl, c_is_int, c_isn_int, c_is_str, c_isn_str, c_is_tup, c_isn_tup, c_is_lst, c_isn_lst, c_mem_s, c_nmem_s, c_mem_t, c_nmem_t, c_mem_l, c_nmem_l, fl_non, isi_tuple_non, isi_str_non, isi_int_non, isi_bool_non, fl_bl, isi_tuple_bl, isi_str_bl, isi_int_bl, isi_bool_bl, fl_int, isi_tuple_int, isi_str_int, isi_int_int, isi_bool_int, fl_str, isi_tuple_str, isi_str_str, isi_int_str, isi_bool_str, fl_tup, isi_tuple_tup, isi_str_tup, isi_int_tup, isi_bool_tup, fl_lst, isi_tuple_lst, isi_str_lst, isi_int_lst, isi_bool_lst, eqv_non_non, eqv_non_bl, eqv_non_int, eqv_non_str, eqv_non_tup, eqv_non_lst, eqv_bl_non, eqv_bl_bl, eqv_bl_int, eqv_bl_str, eqv_bl_tup, eqv_bl_lst, eqv_int_non, eqv_int_bl, eqv_int_int, eqv_int_str, eqv_int_tup, eqv_int_lst, eqv_str_non, eqv_str_bl, eqv_str_int, eqv_str_str, eqv_str_tup, eqv_str_lst, eqv_tup_non, eqv_tup_bl, eqv_tup_int, eqv_tup_str, eqv_tup_tup, eqv_tup_lst, eqv_lst_non, eqv_lst_bl, eqv_lst_int, eqv_lst_str, eqv_lst_tup, eqv_lst_lst, eqvL_nn, eqvL_cc, eqvL_nc, eqvL_cn, ok_tup, ok_lst, ok_tup50, ok_lst50, ok_tup49, ok_non, ok_bl, ok_int, ok_str, it_tup, it_lst, it_ref, ix_str, ix_scr, ix_tup, ix_lst, ix_ref, sl_str, sl_tup, sl_lst, ln_str, ln_scr, ln_tup, ln_lst, ln_ref, in_int, in_bl, u_neg, u_len, u_isi, u_int, u_abs, u_tup, u_lst_t, u_lst_l, u_range, u_str, u_sorted, u_sortedr, u_sset, u_find, b_max, b_starts, b_index, w_str, w_tup, w_lst, a_bl, a_int, r_tup, at_ref, at_0, at_1, at_2, at_3, at_4, recv, lookA, df_Kitchen_do, pb_Kitchen_do, encD, e1, e, encH_n, doR, step, brings]
      | some a =>
        by_cases g0 : 0 ≤ s
        · by_cases g1 : s < 41
          · have g2 : s < (sh.length : Int) := by omega
            simp [evalX, evalA, evalS, evalB, runD, fin_same, o_add_i, o_add_s, o_add_l, o_add_t, o_sub, o_mul, o_rep, o_div, o_mod, c_lt, c_le, c_gt, c_ge, c_eq, c_ne, c_is_non, c_isn_non, c_is_bl, c_isn_bl, c_is_int, c_isn_int, c_is_str, c_isn_str, c_is_tup, c_isn_tup, c_is_lst, c_isn_lst, c_mem_s, c_nmem_s, c_mem_t, c_nmem_t, c_mem_l, c_nmem_l, fl_non, isi_tuple_non, isi_str_non, isi_int_non, isi_bool_non, fl_bl, isi_tuple_bl, isi_str_bl, isi_int_bl, isi_bool_bl, fl_int, isi_tuple_int, isi_str_int, isi_int_int, isi_bool_int, fl_str, isi_tuple_str, isi_str_str, isi_int_str, isi_bool_str, fl_tup, isi_tuple_tup, isi_str_tup, isi_int_tup, isi_bool_tup, fl_lst, isi_tuple_lst, isi_str_lst, isi_int_lst, isi_bool_lst, eqv_non_non, eqv_non_bl, eqv_non_int, eqv_non_str, eqv_non_tup, eqv_non_lst, eqv_bl_non, eqv_bl_bl, eqv_bl_int, eqv_bl_str, eqv_bl_tup, eqv_bl_lst, eqv_int_non, eqv_int_bl, eqv_int_int, eqv_int_str, eqv_int_tup, eqv_int_lst, eqv_str_non, eqv_str_bl, eqv_str_int, eqv_str_str, eqv_str_tup, eqv_str_lst, eqv_tup_non, eqv_tup_bl, eqv_tup_int, eqv_tup_str, eqv_tup_tup, eqv_tup_lst, eqv_lst_non, eqv_lst_bl, eqv_lst_int, eqv_lst_str, eqv_lst_tup, eqv_lst_lst, eqvL_nn, eqvL_cc, eqvL_nc, eqvL_cn, ok_tup, ok_lst, ok_tup50, ok_lst50, ok_tup49, ok_non, ok_bl, ok_int, ok_str, it_tup, it_lst, it_ref, ix_str, ix_scr, ix_tup, ix_lst, ix_ref, sl_str, sl_tup, sl_lst, ln_str, ln_scr, ln_tup, ln_lst, ln_ref, in_int, in_bl, u_neg, u_len, u_isi, u_int, u_abs, u_tup, u_lst_t, u_lst_l, u_range, u_str, u_sorted, u_sortedr, u_sset, u_find, b_max, b_starts, b_index, w_str, w_tup, w_lst, a_bl, a_int, r_tup, at_ref, at_0, at_1, at_2, at_3, at_4, recv, lookA, df_Kitchen_do, pb_Kitchen_do, encD, e1, e, encH_s, doR, step, brings, Deed.isSh, Deed.goal, g0, g1, g2, h41, ixD, List.map_set]
          · simp [evalX, evalA, evalS, evalB, runD, fin_same, o_add_i, o_add_s, o_add_l, o_add_t, o_sub, o_mul, o_rep, o_div, o_mod, c_lt, c_le, c_gt, c_ge, c_eq, c_ne, c_is_non, c_isn_non, c_is_bl, c_isn_bl, c_is_int, c_isn_int, c_is_str, c_isn_str, c_is_tup, c_isn_tup, c_is_lst, c_isn_lst, c_mem_s, c_nmem_s, c_mem_t, c_nmem_t, c_mem_l, c_nmem_l, fl_non, isi_tuple_non, isi_str_non, isi_int_non, isi_bool_non, fl_bl, isi_tuple_bl, isi_str_bl, isi_int_bl, isi_bool_bl, fl_int, isi_tuple_int, isi_str_int, isi_int_int, isi_bool_int, fl_str, isi_tuple_str, isi_str_str, isi_int_str, isi_bool_str, fl_tup, isi_tuple_tup, isi_str_tup, isi_int_tup, isi_bool_tup, fl_lst, isi_tuple_lst, isi_str_lst, isi_int_lst, isi_bool_lst, eqv_non_non, eqv_non_bl, eqv_non_int, eqv_non_str, eqv_non_tup, eqv_non_lst, eqv_bl_non, eqv_bl_bl, eqv_bl_int, eqv_bl_str, eqv_bl_tup, eqv_bl_lst, eqv_int_non, eqv_int_bl, eqv_int_int, eqv_int_str, eqv_int_tup, eqv_int_lst, eqv_str_non, eqv_str_bl, eqv_str_int, eqv_str_str, eqv_str_tup, eqv_str_lst, eqv_tup_non, eqv_tup_bl, eqv_tup_int, eqv_tup_str, eqv_tup_tup, eqv_tup_lst, eqv_lst_non, eqv_lst_bl, eqv_lst_int, eqv_lst_str, eqv_lst_tup, eqv_lst_lst, eqvL_nn, eqvL_cc, eqvL_nc, eqvL_cn, ok_tup, ok_lst, ok_tup50, ok_lst50, ok_tup49, ok_non, ok_bl, ok_int, ok_str, it_tup, it_lst, it_ref, ix_str, ix_scr, ix_tup, ix_lst, ix_ref, sl_str, sl_tup, sl_lst, ln_str, ln_scr, ln_tup, ln_lst, ln_ref, in_int, in_bl, u_neg, u_len, u_isi, u_int, u_abs, u_tup, u_lst_t, u_lst_l, u_range, u_str, u_sorted, u_sortedr, u_sset, u_find, b_max, b_starts, b_index, w_str, w_tup, w_lst, a_bl, a_int, r_tup, at_ref, at_0, at_1, at_2, at_3, at_4, recv, lookA, df_Kitchen_do, pb_Kitchen_do, encD, e1, e, encH_s, doR, step, brings, Deed.isSh, Deed.goal, g0, g1, h41]
        · simp [evalX, evalA, evalS, evalB, runD, fin_same, o_add_i, o_add_s, o_add_l, o_add_t, o_sub, o_mul, o_rep, o_div, o_mod, c_lt, c_le, c_gt, c_ge, c_eq, c_ne, c_is_non, c_isn_non, c_is_bl, c_isn_bl, c_is_int, c_isn_int, c_is_str, c_isn_str, c_is_tup, c_isn_tup, c_is_lst, c_isn_lst, c_mem_s, c_nmem_s, c_mem_t, c_nmem_t, c_mem_l, c_nmem_l, fl_non, isi_tuple_non, isi_str_non, isi_int_non, isi_bool_non, fl_bl, isi_tuple_bl, isi_str_bl, isi_int_bl, isi_bool_bl, fl_int, isi_tuple_int, isi_str_int, isi_int_int, isi_bool_int, fl_str, isi_tuple_str, isi_str_str, isi_int_str, isi_bool_str, fl_tup, isi_tuple_tup, isi_str_tup, isi_int_tup, isi_bool_tup, fl_lst, isi_tuple_lst, isi_str_lst, isi_int_lst, isi_bool_lst, eqv_non_non, eqv_non_bl, eqv_non_int, eqv_non_str, eqv_non_tup, eqv_non_lst, eqv_bl_non, eqv_bl_bl, eqv_bl_int, eqv_bl_str, eqv_bl_tup, eqv_bl_lst, eqv_int_non, eqv_int_bl, eqv_int_int, eqv_int_str, eqv_int_tup, eqv_int_lst, eqv_str_non, eqv_str_bl, eqv_str_int, eqv_str_str, eqv_str_tup, eqv_str_lst, eqv_tup_non, eqv_tup_bl, eqv_tup_int, eqv_tup_str, eqv_tup_tup, eqv_tup_lst, eqv_lst_non, eqv_lst_bl, eqv_lst_int, eqv_lst_str, eqv_lst_tup, eqv_lst_lst, eqvL_nn, eqvL_cc, eqvL_nc, eqvL_cn, ok_tup, ok_lst, ok_tup50, ok_lst50, ok_tup49, ok_non, ok_bl, ok_int, ok_str, it_tup, it_lst, it_ref, ix_str, ix_scr, ix_tup, ix_lst, ix_ref, sl_str, sl_tup, sl_lst, ln_str, ln_scr, ln_tup, ln_lst, ln_ref, in_int, in_bl, u_neg, u_len, u_isi, u_int, u_abs, u_tup, u_lst_t, u_lst_l, u_range, u_str, u_sorted, u_sortedr, u_sset, u_find, b_max, b_starts, b_index, w_str, w_tup, w_lst, a_bl, a_int, r_tup, at_ref, at_0, at_1, at_2, at_3, at_4, recv, lookA, df_Kitchen_do, pb_Kitchen_do, encD, e1, e, encH_s, doR, step, brings, Deed.isSh, Deed.goal, g0, h41]
    | _ => cases hs
  · have hs' : d.isSh = false := by simpa using hs
    have e5 := found_eq (n := m) (by omega) t rw_ sh d hf hs'
    have key : ∃ s0 rest, encD d = .tup (.str s0 :: .int d.goal :: rest) ∧ s0 ≠ cShelve := by
      cases d with
      | shelve s p => cases hs'
      | _ => exact ⟨_, _, rfl, by decide⟩
    obtain ⟨s0, rest, ed, hne⟩ := key
    rw [ed] at e5 ⊢
    cases e : brings t rw_ sh d with
    | none =>
      rw [e] at e5
      simp [evalX, evalA, evalS, evalB, runD, fin_same, o_add_i, o_add_s, o_add_l, o_add_t, o_sub, o_mul, o_rep, o_div, o_mod, c_lt, c_le, c_gt, c_ge, c_eq, c_ne, c_is_non, c_isn_non, c_is_bl, c_isn_bl, c_is_int, c_isn_int, c_is_str, c_isn_str, c_is_tup, c_isn_tup, c_is_lst, c_isn_lst, c_mem_s, c_nmem_s, c_mem_t, c_nmem_t, c_mem_l, c_nmem_l, fl_non, isi_tuple_non, isi_str_non, isi_int_non, isi_bool_non, fl_bl, isi_tuple_bl, isi_str_bl, isi_int_bl, isi_bool_bl, fl_int, isi_tuple_int, isi_str_int, isi_int_int, isi_bool_int, fl_str, isi_tuple_str, isi_str_str, isi_int_str, isi_bool_str, fl_tup, isi_tuple_tup, isi_str_tup, isi_int_tup, isi_bool_tup, fl_lst, isi_tuple_lst, isi_str_lst, isi_int_lst, isi_bool_lst, eqv_non_non, eqv_non_bl, eqv_non_int, eqv_non_str, eqv_non_tup, eqv_non_lst, eqv_bl_non, eqv_bl_bl, eqv_bl_int, eqv_bl_str, eqv_bl_tup, eqv_bl_lst, eqv_int_non, eqv_int_bl, eqv_int_int, eqv_int_str, eqv_int_tup, eqv_int_lst, eqv_str_non, eqv_str_bl, eqv_str_int, eqv_str_str, eqv_str_tup, eqv_str_lst, eqv_tup_non, eqv_tup_bl, eqv_tup_int, eqv_tup_str, eqv_tup_tup, eqv_tup_lst, eqv_lst_non, eqv_lst_bl, eqv_lst_int, eqv_lst_str, eqv_lst_tup, eqv_lst_lst, eqvL_nn, eqvL_cc, eqvL_nc, eqvL_cn, ok_tup, ok_lst, ok_tup50, ok_lst50, ok_tup49, ok_non, ok_bl, ok_int, ok_str, it_tup, it_lst, it_ref, ix_str, ix_scr, ix_tup, ix_lst, ix_ref, sl_str, sl_tup, sl_lst, ln_str, ln_scr, ln_tup, ln_lst, ln_ref, in_int, in_bl, u_neg, u_len, u_isi, u_int, u_abs, u_tup, u_lst_t, u_lst_l, u_range, u_str, u_sorted, u_sortedr, u_sset, u_find, b_max, b_starts, b_index, w_str, w_tup, w_lst, a_bl, a_int, r_tup, at_ref, at_0, at_1, at_2, at_3, at_4, recv, lookA, df_Kitchen_do, pb_Kitchen_do, hne, e5, encH_n, doR, step, e]
    | some a =>
      rw [e] at e5
      by_cases g0 : 0 ≤ d.goal
      · by_cases g1 : d.goal < (rw_.length : Int)
        · simp [evalX, evalA, evalS, evalB, runD, fin_same, o_add_i, o_add_s, o_add_l, o_add_t, o_sub, o_mul, o_rep, o_div, o_mod, c_lt, c_le, c_gt, c_ge, c_eq, c_ne, c_is_non, c_isn_non, c_is_bl, c_isn_bl, c_is_int, c_isn_int, c_is_str, c_isn_str, c_is_tup, c_isn_tup, c_is_lst, c_isn_lst, c_mem_s, c_nmem_s, c_mem_t, c_nmem_t, c_mem_l, c_nmem_l, fl_non, isi_tuple_non, isi_str_non, isi_int_non, isi_bool_non, fl_bl, isi_tuple_bl, isi_str_bl, isi_int_bl, isi_bool_bl, fl_int, isi_tuple_int, isi_str_int, isi_int_int, isi_bool_int, fl_str, isi_tuple_str, isi_str_str, isi_int_str, isi_bool_str, fl_tup, isi_tuple_tup, isi_str_tup, isi_int_tup, isi_bool_tup, fl_lst, isi_tuple_lst, isi_str_lst, isi_int_lst, isi_bool_lst, eqv_non_non, eqv_non_bl, eqv_non_int, eqv_non_str, eqv_non_tup, eqv_non_lst, eqv_bl_non, eqv_bl_bl, eqv_bl_int, eqv_bl_str, eqv_bl_tup, eqv_bl_lst, eqv_int_non, eqv_int_bl, eqv_int_int, eqv_int_str, eqv_int_tup, eqv_int_lst, eqv_str_non, eqv_str_bl, eqv_str_int, eqv_str_str, eqv_str_tup, eqv_str_lst, eqv_tup_non, eqv_tup_bl, eqv_tup_int, eqv_tup_str, eqv_tup_tup, eqv_tup_lst, eqv_lst_non, eqv_lst_bl, eqv_lst_int, eqv_lst_str, eqv_lst_tup, eqv_lst_lst, eqvL_nn, eqvL_cc, eqvL_nc, eqvL_cn, ok_tup, ok_lst, ok_tup50, ok_lst50, ok_tup49, ok_non, ok_bl, ok_int, ok_str, it_tup, it_lst, it_ref, ix_str, ix_scr, ix_tup, ix_lst, ix_ref, sl_str, sl_tup, sl_lst, ln_str, ln_scr, ln_tup, ln_lst, ln_ref, in_int, in_bl, u_neg, u_len, u_isi, u_int, u_abs, u_tup, u_lst_t, u_lst_l, u_range, u_str, u_sorted, u_sortedr, u_sset, u_find, b_max, b_starts, b_index, w_str, w_tup, w_lst, a_bl, a_int, r_tup, at_ref, at_0, at_1, at_2, at_3, at_4, recv, lookA, df_Kitchen_do, pb_Kitchen_do, hne, e5, e4, encH_s, doR, step, e, hs', g0, g1, ixD, List.map_set]
        · simp [evalX, evalA, evalS, evalB, runD, fin_same, o_add_i, o_add_s, o_add_l, o_add_t, o_sub, o_mul, o_rep, o_div, o_mod, c_lt, c_le, c_gt, c_ge, c_eq, c_ne, c_is_non, c_isn_non, c_is_bl, c_isn_bl, c_is_int, c_isn_int, c_is_str, c_isn_str, c_is_tup, c_isn_tup, c_is_lst, c_isn_lst, c_mem_s, c_nmem_s, c_mem_t, c_nmem_t, c_mem_l, c_nmem_l, fl_non, isi_tuple_non, isi_str_non, isi_int_non, isi_bool_non, fl_bl, isi_tuple_bl, isi_str_bl, isi_int_bl, isi_bool_bl, fl_int, isi_tuple_int, isi_str_int, isi_int_int, isi_bool_int, fl_str, isi_tuple_str, isi_str_str, isi_int_str, isi_bool_str, fl_tup, isi_tuple_tup, isi_str_tup, isi_int_tup, isi_bool_tup, fl_lst, isi_tuple_lst, isi_str_lst, isi_int_lst, isi_bool_lst, eqv_non_non, eqv_non_bl, eqv_non_int, eqv_non_str, eqv_non_tup, eqv_non_lst, eqv_bl_non, eqv_bl_bl, eqv_bl_int, eqv_bl_str, eqv_bl_tup, eqv_bl_lst, eqv_int_non, eqv_int_bl, eqv_int_int, eqv_int_str, eqv_int_tup, eqv_int_lst, eqv_str_non, eqv_str_bl, eqv_str_int, eqv_str_str, eqv_str_tup, eqv_str_lst, eqv_tup_non, eqv_tup_bl, eqv_tup_int, eqv_tup_str, eqv_tup_tup, eqv_tup_lst, eqv_lst_non, eqv_lst_bl, eqv_lst_int, eqv_lst_str, eqv_lst_tup, eqv_lst_lst, eqvL_nn, eqvL_cc, eqvL_nc, eqvL_cn, ok_tup, ok_lst, ok_tup50, ok_lst50, ok_tup49, ok_non, ok_bl, ok_int, ok_str, it_tup, it_lst, it_ref, ix_str, ix_scr, ix_tup, ix_lst, ix_ref, sl_str, sl_tup, sl_lst, ln_str, ln_scr, ln_tup, ln_lst, ln_ref, in_int, in_bl, u_neg, u_len, u_isi, u_int, u_abs, u_tup, u_lst_t, u_lst_l, u_range, u_str, u_sorted, u_sortedr, u_sset, u_find, b_max, b_starts, b_index, w_str, w_tup, w_lst, a_bl, a_int, r_tup, at_ref, at_0, at_1, at_2, at_3, at_4, recv, lookA, df_Kitchen_do, pb_Kitchen_do, hne, e5, e4, encH_s, doR, step, e, hs', g0, g1]
      · simp [evalX, evalA, evalS, evalB, runD, fin_same, o_add_i, o_add_s, o_add_l, o_add_t, o_sub, o_mul, o_rep, o_div, o_mod, c_lt, c_le, c_gt, c_ge, c_eq, c_ne, c_is_non, c_isn_non, c_is_bl, c_isn_bl, c_is_int, c_isn_int, c_is_str, c_isn_str, c_is_tup, c_isn_tup, c_is_lst, c_isn_lst, c_mem_s, c_nmem_s, c_mem_t, c_nmem_t, c_mem_l, c_nmem_l, fl_non, isi_tuple_non, isi_str_non, isi_int_non, isi_bool_non, fl_bl, isi_tuple_bl, isi_str_bl, isi_int_bl, isi_bool_bl, fl_int, isi_tuple_int, isi_str_int, isi_int_int, isi_bool_int, fl_str, isi_tuple_str, isi_str_str, isi_int_str, isi_bool_str, fl_tup, isi_tuple_tup, isi_str_tup, isi_int_tup, isi_bool_tup, fl_lst, isi_tuple_lst, isi_str_lst, isi_int_lst, isi_bool_lst, eqv_non_non, eqv_non_bl, eqv_non_int, eqv_non_str, eqv_non_tup, eqv_non_lst, eqv_bl_non, eqv_bl_bl, eqv_bl_int, eqv_bl_str, eqv_bl_tup, eqv_bl_lst, eqv_int_non, eqv_int_bl, eqv_int_int, eqv_int_str, eqv_int_tup, eqv_int_lst, eqv_str_non, eqv_str_bl, eqv_str_int, eqv_str_str, eqv_str_tup, eqv_str_lst, eqv_tup_non, eqv_tup_bl, eqv_tup_int, eqv_tup_str, eqv_tup_tup, eqv_tup_lst, eqv_lst_non, eqv_lst_bl, eqv_lst_int, eqv_lst_str, eqv_lst_tup, eqv_lst_lst, eqvL_nn, eqvL_cc, eqvL_nc, eqvL_cn, ok_tup, ok_lst, ok_tup50, ok_lst50, ok_tup49, ok_non, ok_bl, ok_int, ok_str, it_tup, it_lst, it_ref, ix_str, ix_scr, ix_tup, ix_lst, ix_ref, sl_str, sl_tup, sl_lst, ln_str, ln_scr, ln_tup, ln_lst, ln_ref, in_int, in_bl, u_neg, u_len, u_isi, u_int, u_abs, u_tup, u_lst_t, u_lst_l, u_range, u_str, u_sorted, u_sortedr, u_sset, u_find, b_max, b_starts, b_index, w_str, w_tup, w_lst, a_bl, a_int, r_tup, at_ref, at_0, at_1, at_2, at_3, at_4, recv, lookA, df_Kitchen_do, pb_Kitchen_do, hne, e5, e4, encH_s, doR, step, e, hs', g0]
theorem run_loop {m : Nat} (hm : 4 ≤ m) (t : T) : ∀ (code : List Deed) (hf : ∀ d ∈ code, d.fit) (rw_ sh : Row) (h41 : sh.length = 41) (x y z : D) (x4 : Option D), ∃ ρ M', loop (evalB (callF prog m) lb_run_0) 4 (code.map encD) [some x, some y, some z, some (.ref 0), x4] (KM t rw_ sh) =
    some (match runP t code (rw_, sh) with | some s => .nx ρ (KM t s.1 s.2) | none => .rt .non M') ∧ ρ[3]? = some (some (.ref 0))
  | [], hf, rw_, sh, h41, x, y, z, x4 => ⟨_, [], rfl, rfl⟩
  | d :: code, hf, rw_, sh, h41, x, y, z, x4 => by
    have ed := do_eq (n := m) hm t rw_ sh h41 d (hf d (by simp))
    cases e : step t d (rw_, sh) with
    | none =>
      rw [e] at ed
      refine ⟨[none, none, none, some (.ref 0)], KM t rw_ sh, ?_, rfl⟩
      rw [List.map_cons, loop_rt (v := .non) (M' := KM t rw_ sh)]
      · simp [runP, e]
      · simp [evalX, evalA, evalS, evalB, runD, fin_same, o_add_i, o_add_s, o_add_l, o_add_t, o_sub, o_mul, o_rep, o_div, o_mod, c_lt, c_le, c_gt, c_ge, c_eq, c_ne, c_is_non, c_isn_non, c_is_bl, c_isn_bl, c_is_int, c_isn_int, c_is_str, c_isn_str, c_is_tup, c_isn_tup, c_is_lst, c_isn_lst, c_mem_s, c_nmem_s, c_mem_t, c_nmem_t, c_mem_l, c_nmem_l, fl_non, isi_tuple_non, isi_str_non, isi_int_non, isi_bool_non, fl_bl, isi_tuple_bl, isi_str_bl, isi_int_bl, isi_bool_bl, fl_int, isi_tuple_int, isi_str_int, isi_int_int, isi_bool_int, fl_str, isi_tuple_str, isi_str_str, isi_int_str, isi_bool_str, fl_tup, isi_tuple_tup, isi_str_tup, isi_int_tup, isi_bool_tup, fl_lst, isi_tuple_lst, isi_str_lst, isi_int_lst, isi_bool_lst, eqv_non_non, eqv_non_bl, eqv_non_int, eqv_non_str, eqv_non_tup, eqv_non_lst, eqv_bl_non, eqv_bl_bl, eqv_bl_int, eqv_bl_str, eqv_bl_tup, eqv_bl_lst, eqv_int_non, eqv_int_bl, eqv_int_int, eqv_int_str, eqv_int_tup, eqv_int_lst, eqv_str_non, eqv_str_bl, eqv_str_int, eqv_str_str, eqv_str_tup, eqv_str_lst, eqv_tup_non, eqv_tup_bl, eqv_tup_int, eqv_tup_str, eqv_tup_tup, eqv_tup_lst, eqv_lst_non, eqv_lst_bl, eqv_lst_int, eqv_lst_str, eqv_lst_tup, eqv_lst_lst, eqvL_nn, eqvL_cc, eqvL_nc, eqvL_cn, ok_tup, ok_lst, ok_tup50, ok_lst50, ok_tup49, ok_non, ok_bl, ok_int, ok_str, it_tup, it_lst, it_ref, ix_str, ix_scr, ix_tup, ix_lst, ix_ref, sl_str, sl_tup, sl_lst, ln_str, ln_scr, ln_tup, ln_lst, ln_ref, in_int, in_bl, u_neg, u_len, u_isi, u_int, u_abs, u_tup, u_lst_t, u_lst_l, u_range, u_str, u_sorted, u_sortedr, u_sset, u_find, b_max, b_starts, b_index, w_str, w_tup, w_lst, a_bl, a_int, r_tup, at_ref, at_0, at_1, at_2, at_3, at_4, recv, lookA, lb_run_0, ed, doR]
    | some s =>
      rw [e] at ed
      have hl := runP_len t [d] (rw_, sh) s (by simp [runP, e])
      obtain ⟨ρ, M', h, h3⟩ := run_loop hm t code (fun d h => hf d (List.mem_cons_of_mem _ h)) s.1 s.2 (by rw [hl.2]; exact h41) x y z (some (encD d))
      refine ⟨ρ, M', ?_, h3⟩
      rw [List.map_cons, loop_nx (ρ' := [some x, some y, some z, some (.ref 0), some (encD d)]) (M' := KM t s.1 s.2), h]
      · simp [runP, e]
      · simp [evalX, evalA, evalS, evalB, runD, fin_same, o_add_i, o_add_s, o_add_l, o_add_t, o_sub, o_mul, o_rep, o_div, o_mod, c_lt, c_le, c_gt, c_ge, c_eq, c_ne, c_is_non, c_isn_non, c_is_bl, c_isn_bl, c_is_int, c_isn_int, c_is_str, c_isn_str, c_is_tup, c_isn_tup, c_is_lst, c_isn_lst, c_mem_s, c_nmem_s, c_mem_t, c_nmem_t, c_mem_l, c_nmem_l, fl_non, isi_tuple_non, isi_str_non, isi_int_non, isi_bool_non, fl_bl, isi_tuple_bl, isi_str_bl, isi_int_bl, isi_bool_bl, fl_int, isi_tuple_int, isi_str_int, isi_int_int, isi_bool_int, fl_str, isi_tuple_str, isi_str_str, isi_int_str, isi_bool_str, fl_tup, isi_tuple_tup, isi_str_tup, isi_int_tup, isi_bool_tup, fl_lst, isi_tuple_lst, isi_str_lst, isi_int_lst, isi_bool_lst, eqv_non_non, eqv_non_bl, eqv_non_int, eqv_non_str, eqv_non_tup, eqv_non_lst, eqv_bl_non, eqv_bl_bl, eqv_bl_int, eqv_bl_str, eqv_bl_tup, eqv_bl_lst, eqv_int_non, eqv_int_bl, eqv_int_int, eqv_int_str, eqv_int_tup, eqv_int_lst, eqv_str_non, eqv_str_bl, eqv_str_int, eqv_str_str, eqv_str_tup, eqv_str_lst, eqv_tup_non, eqv_tup_bl, eqv_tup_int, eqv_tup_str, eqv_tup_tup, eqv_tup_lst, eqv_lst_non, eqv_lst_bl, eqv_lst_int, eqv_lst_str, eqv_lst_tup, eqv_lst_lst, eqvL_nn, eqvL_cc, eqvL_nc, eqvL_cn, ok_tup, ok_lst, ok_tup50, ok_lst50, ok_tup49, ok_non, ok_bl, ok_int, ok_str, it_tup, it_lst, it_ref, ix_str, ix_scr, ix_tup, ix_lst, ix_ref, sl_str, sl_tup, sl_lst, ln_str, ln_scr, ln_tup, ln_lst, ln_ref, in_int, in_bl, u_neg, u_len, u_isi, u_int, u_abs, u_tup, u_lst_t, u_lst_l, u_range, u_str, u_sorted, u_sortedr, u_sset, u_find, b_max, b_starts, b_index, w_str, w_tup, w_lst, a_bl, a_int, r_tup, at_ref, at_0, at_1, at_2, at_3, at_4, recv, lookA, lb_run_0, ed, doR]
theorem run_eq {n : Nat} (hn : 5 ≤ n) (t : T) (code : List Deed) (hf : ∀ d ∈ code, d.fit) (k : Nat) (hk : k ≤ 1000) : fin [] (callF prog n f_run [enc t, .tup (code.map encD), .int k] []) = some (encR (runR t code k)) := by
  obtain ⟨m, rfl, hm⟩ := succ_of hn
  rw [call1 at_run]
  obtain ⟨ρ, M', h, h3⟩ := run_loop hm t code hf (empty k) (empty 41) rfl (enc t) (.tup (code.map encD)) (.int k) none
  have hk2 : (k : Int) ≤ 1000 := by omega
  have r1 := rep_flat k
  have ei := call1 (n := m - 1) at_Kitchen_init
  rw [show m - 1 + 1 = m by omega] at ei
  have e0 : callF prog m f_Kitchen_init [.ref 0, enc t, .int k] [.ins 0 []] = some (.non, KM t (empty k) (empty 41)) := by
    rw [ei, KM, emp41]
    simp [evalX, evalA, evalS, evalB, runD, fin_same, o_add_i, o_add_s, o_add_l, o_add_t, o_sub, o_mul, o_rep, o_div, o_mod, c_lt, c_le, c_gt, c_ge, c_eq, c_ne, c_is_non, c_isn_non, c_is_bl, c_isn_bl, c_is_int, c_isn_int, c_is_str, c_isn_str, c_is_tup, c_isn_tup, c_is_lst, c_isn_lst, c_mem_s, c_nmem_s, c_mem_t, c_nmem_t, c_mem_l, c_nmem_l, fl_non, isi_tuple_non, isi_str_non, isi_int_non, isi_bool_non, fl_bl, isi_tuple_bl, isi_str_bl, isi_int_bl, isi_bool_bl, fl_int, isi_tuple_int, isi_str_int, isi_int_int, isi_bool_int, fl_str, isi_tuple_str, isi_str_str, isi_int_str, isi_bool_str, fl_tup, isi_tuple_tup, isi_str_tup, isi_int_tup, isi_bool_tup, fl_lst, isi_tuple_lst, isi_str_lst, isi_int_lst, isi_bool_lst, eqv_non_non, eqv_non_bl, eqv_non_int, eqv_non_str, eqv_non_tup, eqv_non_lst, eqv_bl_non, eqv_bl_bl, eqv_bl_int, eqv_bl_str, eqv_bl_tup, eqv_bl_lst, eqv_int_non, eqv_int_bl, eqv_int_int, eqv_int_str, eqv_int_tup, eqv_int_lst, eqv_str_non, eqv_str_bl, eqv_str_int, eqv_str_str, eqv_str_tup, eqv_str_lst, eqv_tup_non, eqv_tup_bl, eqv_tup_int, eqv_tup_str, eqv_tup_tup, eqv_tup_lst, eqv_lst_non, eqv_lst_bl, eqv_lst_int, eqv_lst_str, eqv_lst_tup, eqv_lst_lst, eqvL_nn, eqvL_cc, eqvL_nc, eqvL_cn, ok_tup, ok_lst, ok_tup50, ok_lst50, ok_tup49, ok_non, ok_bl, ok_int, ok_str, it_tup, it_lst, it_ref, ix_str, ix_scr, ix_tup, ix_lst, ix_ref, sl_str, sl_tup, sl_lst, ln_str, ln_scr, ln_tup, ln_lst, ln_ref, in_int, in_bl, u_neg, u_len, u_isi, u_int, u_abs, u_tup, u_lst_t, u_lst_l, u_range, u_str, u_sorted, u_sortedr, u_sset, u_find, b_max, b_starts, b_index, w_str, w_tup, w_lst, a_bl, a_int, r_tup, at_ref, at_0, at_1, at_2, at_3, at_4, putA, df_Kitchen_init, pb_Kitchen_init, hk2, r1]
  have : ∃ M2, runD (callF prog m) df_run [enc t, .tup (code.map encD), .int k] [] = some (encR (runR t code k), M2) := by
    cases e : runP t code (empty k, empty 41) with
    | none =>
      rw [e] at h
      refine ⟨M', ?_⟩
      simp only [df_run, pb_run, runD, evalB, evalS, evalA, evalX]
      simp [evalX, evalA, evalS, evalB, runD, fin_same, o_add_i, o_add_s, o_add_l, o_add_t, o_sub, o_mul, o_rep, o_div, o_mod, c_lt, c_le, c_gt, c_ge, c_eq, c_ne, c_is_non, c_isn_non, c_is_bl, c_isn_bl, c_is_int, c_isn_int, c_is_str, c_isn_str, c_is_tup, c_isn_tup, c_is_lst, c_isn_lst, c_mem_s, c_nmem_s, c_mem_t, c_nmem_t, c_mem_l, c_nmem_l, fl_non, isi_tuple_non, isi_str_non, isi_int_non, isi_bool_non, fl_bl, isi_tuple_bl, isi_str_bl, isi_int_bl, isi_bool_bl, fl_int, isi_tuple_int, isi_str_int, isi_int_int, isi_bool_int, fl_str, isi_tuple_str, isi_str_str, isi_int_str, isi_bool_str, fl_tup, isi_tuple_tup, isi_str_tup, isi_int_tup, isi_bool_tup, fl_lst, isi_tuple_lst, isi_str_lst, isi_int_lst, isi_bool_lst, eqv_non_non, eqv_non_bl, eqv_non_int, eqv_non_str, eqv_non_tup, eqv_non_lst, eqv_bl_non, eqv_bl_bl, eqv_bl_int, eqv_bl_str, eqv_bl_tup, eqv_bl_lst, eqv_int_non, eqv_int_bl, eqv_int_int, eqv_int_str, eqv_int_tup, eqv_int_lst, eqv_str_non, eqv_str_bl, eqv_str_int, eqv_str_str, eqv_str_tup, eqv_str_lst, eqv_tup_non, eqv_tup_bl, eqv_tup_int, eqv_tup_str, eqv_tup_tup, eqv_tup_lst, eqv_lst_non, eqv_lst_bl, eqv_lst_int, eqv_lst_str, eqv_lst_tup, eqv_lst_lst, eqvL_nn, eqvL_cc, eqvL_nc, eqvL_cn, ok_tup, ok_lst, ok_tup50, ok_lst50, ok_tup49, ok_non, ok_bl, ok_int, ok_str, it_tup, it_lst, it_ref, ix_str, ix_scr, ix_tup, ix_lst, ix_ref, sl_str, sl_tup, sl_lst, ln_str, ln_scr, ln_tup, ln_lst, ln_ref, in_int, in_bl, u_neg, u_len, u_isi, u_int, u_abs, u_tup, u_lst_t, u_lst_l, u_range, u_str, u_sorted, u_sortedr, u_sset, u_find, b_max, b_starts, b_index, w_str, w_tup, w_lst, a_bl, a_int, r_tup, at_ref, at_0, at_1, at_2, at_3, at_4, e0]
      simp [h, runR, e, encR]
    | some s =>
      rw [e] at h
      refine ⟨KM t s.1 s.2, ?_⟩
      simp only [df_run, pb_run, runD, evalB, evalS, evalA, evalX]
      simp [evalX, evalA, evalS, evalB, runD, fin_same, o_add_i, o_add_s, o_add_l, o_add_t, o_sub, o_mul, o_rep, o_div, o_mod, c_lt, c_le, c_gt, c_ge, c_eq, c_ne, c_is_non, c_isn_non, c_is_bl, c_isn_bl, c_is_int, c_isn_int, c_is_str, c_isn_str, c_is_tup, c_isn_tup, c_is_lst, c_isn_lst, c_mem_s, c_nmem_s, c_mem_t, c_nmem_t, c_mem_l, c_nmem_l, fl_non, isi_tuple_non, isi_str_non, isi_int_non, isi_bool_non, fl_bl, isi_tuple_bl, isi_str_bl, isi_int_bl, isi_bool_bl, fl_int, isi_tuple_int, isi_str_int, isi_int_int, isi_bool_int, fl_str, isi_tuple_str, isi_str_str, isi_int_str, isi_bool_str, fl_tup, isi_tuple_tup, isi_str_tup, isi_int_tup, isi_bool_tup, fl_lst, isi_tuple_lst, isi_str_lst, isi_int_lst, isi_bool_lst, eqv_non_non, eqv_non_bl, eqv_non_int, eqv_non_str, eqv_non_tup, eqv_non_lst, eqv_bl_non, eqv_bl_bl, eqv_bl_int, eqv_bl_str, eqv_bl_tup, eqv_bl_lst, eqv_int_non, eqv_int_bl, eqv_int_int, eqv_int_str, eqv_int_tup, eqv_int_lst, eqv_str_non, eqv_str_bl, eqv_str_int, eqv_str_str, eqv_str_tup, eqv_str_lst, eqv_tup_non, eqv_tup_bl, eqv_tup_int, eqv_tup_str, eqv_tup_tup, eqv_tup_lst, eqv_lst_non, eqv_lst_bl, eqv_lst_int, eqv_lst_str, eqv_lst_tup, eqv_lst_lst, eqvL_nn, eqvL_cc, eqvL_nc, eqvL_cn, ok_tup, ok_lst, ok_tup50, ok_lst50, ok_tup49, ok_non, ok_bl, ok_int, ok_str, it_tup, it_lst, it_ref, ix_str, ix_scr, ix_tup, ix_lst, ix_ref, sl_str, sl_tup, sl_lst, ln_str, ln_scr, ln_tup, ln_lst, ln_ref, in_int, in_bl, u_neg, u_len, u_isi, u_int, u_abs, u_tup, u_lst_t, u_lst_l, u_range, u_str, u_sorted, u_sortedr, u_sset, u_find, b_max, b_starts, b_index, w_str, w_tup, w_lst, a_bl, a_int, r_tup, at_ref, at_0, at_1, at_2, at_3, at_4, e0]
      simp [evalX, evalA, evalS, evalB, runD, fin_same, o_add_i, o_add_s, o_add_l, o_add_t, o_sub, o_mul, o_rep, o_div, o_mod, c_lt, c_le, c_gt, c_ge, c_eq, c_ne, c_is_non, c_isn_non, c_is_bl, c_isn_bl, c_is_int, c_isn_int, c_is_str, c_isn_str, c_is_tup, c_isn_tup, c_is_lst, c_isn_lst, c_mem_s, c_nmem_s, c_mem_t, c_nmem_t, c_mem_l, c_nmem_l, fl_non, isi_tuple_non, isi_str_non, isi_int_non, isi_bool_non, fl_bl, isi_tuple_bl, isi_str_bl, isi_int_bl, isi_bool_bl, fl_int, isi_tuple_int, isi_str_int, isi_int_int, isi_bool_int, fl_str, isi_tuple_str, isi_str_str, isi_int_str, isi_bool_str, fl_tup, isi_tuple_tup, isi_str_tup, isi_int_tup, isi_bool_tup, fl_lst, isi_tuple_lst, isi_str_lst, isi_int_lst, isi_bool_lst, eqv_non_non, eqv_non_bl, eqv_non_int, eqv_non_str, eqv_non_tup, eqv_non_lst, eqv_bl_non, eqv_bl_bl, eqv_bl_int, eqv_bl_str, eqv_bl_tup, eqv_bl_lst, eqv_int_non, eqv_int_bl, eqv_int_int, eqv_int_str, eqv_int_tup, eqv_int_lst, eqv_str_non, eqv_str_bl, eqv_str_int, eqv_str_str, eqv_str_tup, eqv_str_lst, eqv_tup_non, eqv_tup_bl, eqv_tup_int, eqv_tup_str, eqv_tup_tup, eqv_tup_lst, eqv_lst_non, eqv_lst_bl, eqv_lst_int, eqv_lst_str, eqv_lst_tup, eqv_lst_lst, eqvL_nn, eqvL_cc, eqvL_nc, eqvL_cn, ok_tup, ok_lst, ok_tup50, ok_lst50, ok_tup49, ok_non, ok_bl, ok_int, ok_str, it_tup, it_lst, it_ref, ix_str, ix_scr, ix_tup, ix_lst, ix_ref, sl_str, sl_tup, sl_lst, ln_str, ln_scr, ln_tup, ln_lst, ln_ref, in_int, in_bl, u_neg, u_len, u_isi, u_int, u_abs, u_tup, u_lst_t, u_lst_l, u_range, u_str, u_sorted, u_sortedr, u_sset, u_find, b_max, b_starts, b_index, w_str, w_tup, w_lst, a_bl, a_int, r_tup, at_ref, at_0, at_1, at_2, at_3, at_4, lookA, h, h3, runR, e, encR]
  obtain ⟨M2, this⟩ := this
  rw [this, fin_nil _ _ (encR_clean _) (encR_ref _)]
theorem shelved_eq {n : Nat} (hn : 1 ≤ n) (code : List Deed) (hl : code.length ≤ 1000) : callF prog n f_shelved [.tup (code.map encD)] [] = some (.int (code.filter Deed.isSh).length, []) := by
  obtain ⟨m, rfl, hm⟩ := succ_of hn
  rw [call1 at_shelved]
  have wl2 : code.length ≤ lim := by rw [lim_eq]; omega
  have hfl : ∀ f : D → Option Bool, (∀ d, f (encD d) = some d.isSh) → filtD f (code.map encD) = some ((code.filter Deed.isSh).map encD) := fun f hf => filtD_map encD (g := Deed.isSh) (fun d _ => hf d)
  simp only [df_shelved, pb_shelved, runD, evalB, evalS, evalX]
  simp [evalX, evalA, evalS, evalB, runD, fin_same, o_add_i, o_add_s, o_add_l, o_add_t, o_sub, o_mul, o_rep, o_div, o_mod, c_lt, c_le, c_gt, c_ge, c_eq, c_ne, c_is_non, c_isn_non, c_is_bl, c_isn_bl, c_is_int, c_isn_int, c_is_str, c_isn_str, c_is_tup, c_isn_tup, c_is_lst, c_isn_lst, c_mem_s, c_nmem_s, c_mem_t, c_nmem_t, c_mem_l, c_nmem_l, fl_non, isi_tuple_non, isi_str_non, isi_int_non, isi_bool_non, fl_bl, isi_tuple_bl, isi_str_bl, isi_int_bl, isi_bool_bl, fl_int, isi_tuple_int, isi_str_int, isi_int_int, isi_bool_int, fl_str, isi_tuple_str, isi_str_str, isi_int_str, isi_bool_str, fl_tup, isi_tuple_tup, isi_str_tup, isi_int_tup, isi_bool_tup, fl_lst, isi_tuple_lst, isi_str_lst, isi_int_lst, isi_bool_lst, eqv_non_non, eqv_non_bl, eqv_non_int, eqv_non_str, eqv_non_tup, eqv_non_lst, eqv_bl_non, eqv_bl_bl, eqv_bl_int, eqv_bl_str, eqv_bl_tup, eqv_bl_lst, eqv_int_non, eqv_int_bl, eqv_int_int, eqv_int_str, eqv_int_tup, eqv_int_lst, eqv_str_non, eqv_str_bl, eqv_str_int, eqv_str_str, eqv_str_tup, eqv_str_lst, eqv_tup_non, eqv_tup_bl, eqv_tup_int, eqv_tup_str, eqv_tup_tup, eqv_tup_lst, eqv_lst_non, eqv_lst_bl, eqv_lst_int, eqv_lst_str, eqv_lst_tup, eqv_lst_lst, eqvL_nn, eqvL_cc, eqvL_nc, eqvL_cn, ok_tup, ok_lst, ok_tup50, ok_lst50, ok_tup49, ok_non, ok_bl, ok_int, ok_str, it_tup, it_lst, it_ref, ix_str, ix_scr, ix_tup, ix_lst, ix_ref, sl_str, sl_tup, sl_lst, ln_str, ln_scr, ln_tup, ln_lst, ln_ref, in_int, in_bl, u_neg, u_len, u_isi, u_int, u_abs, u_tup, u_lst_t, u_lst_l, u_range, u_str, u_sorted, u_sortedr, u_sset, u_find, b_max, b_starts, b_index, w_str, w_tup, w_lst, a_bl, a_int, r_tup, at_ref, at_0, at_1, at_2, at_3, at_4, wl2]
  rw [hfl _ (fun d => by cases d <;> simp [evalX, evalA, evalS, evalB, runD, fin_same, o_add_i, o_add_s, o_add_l, o_add_t, o_sub, o_mul, o_rep, o_div, o_mod, c_lt, c_le, c_gt, c_ge, c_eq, c_ne, c_is_non, c_isn_non, c_is_bl, c_isn_bl, c_is_int, c_isn_int, c_is_str, c_isn_str, c_is_tup, c_isn_tup, c_is_lst, c_isn_lst, c_mem_s, c_nmem_s, c_mem_t, c_nmem_t, c_mem_l, c_nmem_l, fl_non, isi_tuple_non, isi_str_non, isi_int_non, isi_bool_non, fl_bl, isi_tuple_bl, isi_str_bl, isi_int_bl, isi_bool_bl, fl_int, isi_tuple_int, isi_str_int, isi_int_int, isi_bool_int, fl_str, isi_tuple_str, isi_str_str, isi_int_str, isi_bool_str, fl_tup, isi_tuple_tup, isi_str_tup, isi_int_tup, isi_bool_tup, fl_lst, isi_tuple_lst, isi_str_lst, isi_int_lst, isi_bool_lst, eqv_non_non, eqv_non_bl, eqv_non_int, eqv_non_str, eqv_non_tup, eqv_non_lst, eqv_bl_non, eqv_bl_bl, eqv_bl_int, eqv_bl_str, eqv_bl_tup, eqv_bl_lst, eqv_int_non, eqv_int_bl, eqv_int_int, eqv_int_str, eqv_int_tup, eqv_int_lst, eqv_str_non, eqv_str_bl, eqv_str_int, eqv_str_str, eqv_str_tup, eqv_str_lst, eqv_tup_non, eqv_tup_bl, eqv_tup_int, eqv_tup_str, eqv_tup_tup, eqv_tup_lst, eqv_lst_non, eqv_lst_bl, eqv_lst_int, eqv_lst_str, eqv_lst_tup, eqv_lst_lst, eqvL_nn, eqvL_cc, eqvL_nc, eqvL_cn, ok_tup, ok_lst, ok_tup50, ok_lst50, ok_tup49, ok_non, ok_bl, ok_int, ok_str, it_tup, it_lst, it_ref, ix_str, ix_scr, ix_tup, ix_lst, ix_ref, sl_str, sl_tup, sl_lst, ln_str, ln_scr, ln_tup, ln_lst, ln_ref, in_int, in_bl, u_neg, u_len, u_isi, u_int, u_abs, u_tup, u_lst_t, u_lst_l, u_range, u_str, u_sorted, u_sortedr, u_sset, u_find, b_max, b_starts, b_index, w_str, w_tup, w_lst, a_bl, a_int, r_tup, at_ref, at_0, at_1, at_2, at_3, at_4, encD, Deed.isSh])]
  simp [evalX, evalA, evalS, evalB, runD, fin_same, o_add_i, o_add_s, o_add_l, o_add_t, o_sub, o_mul, o_rep, o_div, o_mod, c_lt, c_le, c_gt, c_ge, c_eq, c_ne, c_is_non, c_isn_non, c_is_bl, c_isn_bl, c_is_int, c_isn_int, c_is_str, c_isn_str, c_is_tup, c_isn_tup, c_is_lst, c_isn_lst, c_mem_s, c_nmem_s, c_mem_t, c_nmem_t, c_mem_l, c_nmem_l, fl_non, isi_tuple_non, isi_str_non, isi_int_non, isi_bool_non, fl_bl, isi_tuple_bl, isi_str_bl, isi_int_bl, isi_bool_bl, fl_int, isi_tuple_int, isi_str_int, isi_int_int, isi_bool_int, fl_str, isi_tuple_str, isi_str_str, isi_int_str, isi_bool_str, fl_tup, isi_tuple_tup, isi_str_tup, isi_int_tup, isi_bool_tup, fl_lst, isi_tuple_lst, isi_str_lst, isi_int_lst, isi_bool_lst, eqv_non_non, eqv_non_bl, eqv_non_int, eqv_non_str, eqv_non_tup, eqv_non_lst, eqv_bl_non, eqv_bl_bl, eqv_bl_int, eqv_bl_str, eqv_bl_tup, eqv_bl_lst, eqv_int_non, eqv_int_bl, eqv_int_int, eqv_int_str, eqv_int_tup, eqv_int_lst, eqv_str_non, eqv_str_bl, eqv_str_int, eqv_str_str, eqv_str_tup, eqv_str_lst, eqv_tup_non, eqv_tup_bl, eqv_tup_int, eqv_tup_str, eqv_tup_tup, eqv_tup_lst, eqv_lst_non, eqv_lst_bl, eqv_lst_int, eqv_lst_str, eqv_lst_tup, eqv_lst_lst, eqvL_nn, eqvL_cc, eqvL_nc, eqvL_cn, ok_tup, ok_lst, ok_tup50, ok_lst50, ok_tup49, ok_non, ok_bl, ok_int, ok_str, it_tup, it_lst, it_ref, ix_str, ix_scr, ix_tup, ix_lst, ix_ref, sl_str, sl_tup, sl_lst, ln_str, ln_scr, ln_tup, ln_lst, ln_ref, in_int, in_bl, u_neg, u_len, u_isi, u_int, u_abs, u_tup, u_lst_t, u_lst_l, u_range, u_str, u_sorted, u_sortedr, u_sset, u_find, b_max, b_starts, b_index, w_str, w_tup, w_lst, a_bl, a_int, r_tup, at_ref, at_0, at_1, at_2, at_3, at_4]

theorem cut_tail {α : Type} (x : α) (xs : List α) : cutL (x :: xs) (some 1) none = xs := by
  simp [cutL, sIxD]

/-! ### the law's drawn codes -/
structure Dr where
  fst : Tx → Bool
  go : Tx → Bool
  pl : Tx → Nat
def isN : T → Bool
  | .num _ => true
  | .join _ _ _ => false
def work (c : Dr) : T → Tx → List Nat → List Deed
  | .num _, a, fr => [.put (fr.headD 0) a]
  | .join _ l r, a, fr =>
    if c.fst a = true then
      if (2 < fr.length ∨ (isN l = true ∧ 1 < fr.length)) ∧ c.go a = true then
        work c r (a ++ [114]) fr ++ work c l (a ++ [108]) fr.tail ++ [.join (fr.headD 0) a (fr.tail.headD 0) (fr.headD 0)]
      else work c r (a ++ [114]) fr ++ [.shelve (c.pl a) (fr.headD 0)] ++ work c l (a ++ [108]) fr ++ [.fetch (fr.tail.headD 0) (c.pl a)] ++ [.join (fr.headD 0) a (fr.headD 0) (fr.tail.headD 0)]
    else
      if (2 < fr.length ∨ (isN r = true ∧ 1 < fr.length)) ∧ c.go a = true then
        work c l (a ++ [108]) fr ++ work c r (a ++ [114]) fr.tail ++ [.join (fr.headD 0) a (fr.headD 0) (fr.tail.headD 0)]
      else work c l (a ++ [108]) fr ++ [.shelve (c.pl a) (fr.headD 0)] ++ work c r (a ++ [114]) fr ++ [.fetch (fr.tail.headD 0) (c.pl a)] ++ [.join (fr.headD 0) a (fr.tail.headD 0) (fr.headD 0)]
theorem work_len (c : Dr) : ∀ (t : T) (a : Tx) (fr : List Nat), (work c t a fr).length + 3 ≤ 4 * t.cnt
  | .num _, a, fr => by simp [work, T.cnt]
  | .join _ l r, a, fr => by
    have h1 := work_len c l (a ++ [108]) fr
    have h2 := work_len c r (a ++ [114]) fr
    have h3 := work_len c l (a ++ [108]) fr.tail
    have h4 := work_len c r (a ++ [114]) fr.tail
    simp only [work, T.cnt]
    split <;> split <;> simp only [List.length_append, List.length_cons, List.length_nil] <;> omega
/-- enough free pans for a part -/
def FitW (t : T) (fr : List Nat) : Prop := 1 ≤ fr.length ∧ (isN t = false → 2 ≤ fr.length)
theorem FitW.two {w : Wd} {l r : T} {fr : List Nat} (h : FitW (.join w l r) fr) : ∃ x y rest, fr = x :: y :: rest := by
  have := h.2 rfl
  match fr, this with
  | x :: y :: rest, _ => exact ⟨x, y, rest, rfl⟩
theorem FitW.of2 (t : T) (x y : Nat) (rest : List Nat) : FitW t (x :: y :: rest) := ⟨by simp, fun _ => by simp⟩
theorem FitW.tail {t : T} {x y : Nat} {rest : List Nat} (h : 2 < (x :: y :: rest).length ∨ (isN t = true ∧ 1 < (x :: y :: rest).length)) : FitW t (y :: rest) := ⟨by simp, fun q => by
  simp only [List.length_cons] at h ⊢
  rcases h with h | h
  · omega
  · rw [h.1] at q; cases q⟩
theorem work_fit (c : Dr) : ∀ (t : T) (a : Tx) (fr : List Nat), a.length + t.dep ≤ 900 → ∀ d ∈ work c t a fr, (∀ b, (d = .put d.goal b ∨ (∃ q r, d = .join d.goal b q r)) → b.length ≤ 900)
  | .num _, a, fr, ha, d, hd, b, hb => by
    simp only [work, List.mem_singleton] at hd
    simp only [T.dep] at ha
    subst hd
    rcases hb with hb | ⟨q, r, hb⟩
    · cases hb; omega
    · cases hb
  | .join w l r, a, fr, ha, d, hd, b, hb => by
    simp only [T.dep] at ha
    have i1 := work_fit c l (a ++ [108]) fr (by simp; omega) d
    have i2 := work_fit c r (a ++ [114]) fr (by simp; omega) d
    have i3 := work_fit c l (a ++ [108]) fr.tail (by simp; omega) d
    have i4 := work_fit c r (a ++ [114]) fr.tail (by simp; omega) d
    have ij : ∀ p q s, d = .join p a q s → b.length ≤ 900 := fun p q s e => by
      subst e
      rcases hb with hb | ⟨q, r, hb⟩
      · cases hb
      · cases hb; omega
    have is : ∀ p q, d = .shelve p q → b.length ≤ 900 := fun p q e => by
      subst e
      rcases hb with hb | ⟨q, r, hb⟩ <;> cases hb
    have ig : ∀ p q, d = .fetch p q → b.length ≤ 900 := fun p q e => by
      subst e
      rcases hb with hb | ⟨q, r, hb⟩ <;> cases hb
    simp only [work] at hd
    split at hd <;> split at hd <;> simp only [List.mem_append, List.mem_singleton] at hd
    · rcases hd with (hd | hd) | hd
      · exact i2 hd b hb
      · exact i3 hd b hb
      · exact ij _ _ _ hd
    · rcases hd with (((hd | hd) | hd) | hd) | hd
      · exact i2 hd b hb
      · exact is _ _ hd
      · exact i1 hd b hb
      · exact ig _ _ hd
      · exact ij _ _ _ hd
    · rcases hd with (hd | hd) | hd
      · exact i1 hd b hb
      · exact i4 hd b hb
      · exact ij _ _ _ hd
    · rcases hd with (((hd | hd) | hd) | hd) | hd
      · exact i1 hd b hb
      · exact is _ _ hd
      · exact i2 hd b hb
      · exact ig _ _ hd
      · exact ij _ _ _ hd
/-! #### the law's text -/
theorem addr_mem : ∀ (a : Tx) (t root : T) (p : Tx), part t a = some root → (p ++ a) ∈ addrs t p
  | [], t, root, p, h => by
    rw [List.append_nil]
    cases t <;> simp [addrs]
  | c :: a, .num k, root, p, h => by simp [part] at h
  | c :: a, .join w l r, root, p, h => by
    simp only [part] at h
    simp only [addrs, List.mem_cons, List.mem_append]
    split at h
    · rename_i e
      subst e
      have := addr_mem a l root (p ++ [108]) h
      rw [List.append_assoc] at this
      exact .inr (.inl this)
    · split at h
      · rename_i e
        subst e
        have := addr_mem a r root (p ++ [114]) h
        rw [List.append_assoc] at this
        exact .inr (.inr this)
      · cases h
theorem firstD_mem : ∀ (ts : List Tx) (a : Tx), a ∈ ts → ∃ i, firstD (.str a) (ts.map .str) = some i ∧ ts[i]? = some a ∧ i < ts.length
  | [], a, h => by simp at h
  | t :: ts, a, h => by
    by_cases e : t = a
    · subst e
      exact ⟨0, by simp [firstD, D.eqv], rfl, by simp⟩
    · have h2 : a ∈ ts := by
        rcases List.mem_cons.mp h with h | h
        · exact absurd h.symm e
        · exact h
      obtain ⟨i, h1, h3, h4⟩ := firstD_mem ts a h2
      refine ⟨i + 1, ?_, by simpa using h3, by simp; omega⟩
      have : (t == a) = false := by simpa using e
      simp [firstD, D.eqv, this, h1]
def ixOf (root : T) (a : Tx) : Nat := (firstD (.str a) ((addrs root []).map .str)).getD 0
theorem ixOf_eq {root t : T} {a : Tx} (h : part root a = some t) : firstD (.str a) ((addrs root []).map .str) = some (ixOf root a) ∧ (addrs root [])[ixOf root a]? = some a ∧ ixOf root a < 2 * root.cnt - 1 := by
  have hm := addr_mem a root t [] h
  rw [List.nil_append] at hm
  obtain ⟨i, h1, h2, h3⟩ := firstD_mem _ _ hm
  rw [addrs_len] at h3
  have e : ixOf root a = i := by simp [ixOf, h1]
  rw [e]
  exact ⟨h1, h2, h3⟩
/-- what a number draws -/
def drOf (root : T) (number : Int) : Dr where
  fst a := decide (drawn number (ixOf root a) % 2 = 1)
  go a := decide (0 < drawn number (ixOf root a) / 2 % 4)
  pl a := ((ixOf root a + number / 4096) % 41).toNat
def hdw : T → Tx
  | .num _ => cNum
  | .join w _ _ => w.tx
theorem hdw_ix (M : Ms) (t : T) : idxD M (enc t) (.int 0) = some (.str (hdw t)) := by cases t <;> rfl
theorem hdw_eq (t : T) : (hdw t == cNum) = isN t := by
  cases t with
  | num k => rfl
  | join w l r => exact w.ne
theorem hdw_eq2 (t : T) : (hdw t = cNum) = (isN t = true) := by
  rw [← hdw_eq]; simp
theorem flat_strs (ts : List Tx) : (ts.map D.str).all D.flat = true := by simp [D.flat]
theorem Lwork_eq (root : T) (hrc : root.cnt ≤ 60) (number : Int) : ∀ (t : T) {n : Nat} (hn : t.dep + 2 ≤ n) (a : Tx) (fr : List Nat) (hf : FitW t fr) (hp : part root a = some t) (ha : a.length + t.dep ≤ 900) (M : Ms),
    callF prog n f_Lwork [enc root, .str a, .lst (fr.map fun (x : Nat) => D.int x), .int number, .lst ((addrs root []).map .str)] M = some (.lst ((work (drOf root number) t a fr).map encD), M)
  | .num k, n, hn, a, fr, hf, hp, ha, M => by
    match fr, hf.1 with
    | x :: rest, _ =>
      obtain ⟨m, rfl, hm⟩ := succ_of hn
      rw [call1 at_Lwork]
      have pe := Lpart_eq (n := m) (by omega) root a M
      rw [hp] at pe
      simp [evalX, evalA, evalS, evalB, runD, fin_same, o_add_i, o_add_s, o_add_l, o_add_t, o_sub, o_mul, o_rep, o_div, o_mod, c_lt, c_le, c_gt, c_ge, c_eq, c_ne, c_is_non, c_isn_non, c_is_bl, c_isn_bl, c_is_int, c_isn_int, c_is_str, c_isn_str, c_is_tup, c_isn_tup, c_is_lst, c_isn_lst, c_mem_s, c_nmem_s, c_mem_t, c_nmem_t, c_mem_l, c_nmem_l, fl_non, isi_tuple_non, isi_str_non, isi_int_non, isi_bool_non, fl_bl, isi_tuple_bl, isi_str_bl, isi_int_bl, isi_bool_bl, fl_int, isi_tuple_int, isi_str_int, isi_int_int, isi_bool_int, fl_str, isi_tuple_str, isi_str_str, isi_int_str, isi_bool_str, fl_tup, isi_tuple_tup, isi_str_tup, isi_int_tup, isi_bool_tup, fl_lst, isi_tuple_lst, isi_str_lst, isi_int_lst, isi_bool_lst, eqv_non_non, eqv_non_bl, eqv_non_int, eqv_non_str, eqv_non_tup, eqv_non_lst, eqv_bl_non, eqv_bl_bl, eqv_bl_int, eqv_bl_str, eqv_bl_tup, eqv_bl_lst, eqv_int_non, eqv_int_bl, eqv_int_int, eqv_int_str, eqv_int_tup, eqv_int_lst, eqv_str_non, eqv_str_bl, eqv_str_int, eqv_str_str, eqv_str_tup, eqv_str_lst, eqv_tup_non, eqv_tup_bl, eqv_tup_int, eqv_tup_str, eqv_tup_tup, eqv_tup_lst, eqv_lst_non, eqv_lst_bl, eqv_lst_int, eqv_lst_str, eqv_lst_tup, eqv_lst_lst, eqvL_nn, eqvL_cc, eqvL_nc, eqvL_cn, ok_tup, ok_lst, ok_tup50, ok_lst50, ok_tup49, ok_non, ok_bl, ok_int, ok_str, it_tup, it_lst, it_ref, ix_str, ix_scr, ix_tup, ix_lst, ix_ref, sl_str, sl_tup, sl_lst, ln_str, ln_scr, ln_tup, ln_lst, ln_ref, in_int, in_bl, u_neg, u_len, u_isi, u_int, u_abs, u_tup, u_lst_t, u_lst_l, u_range, u_str, u_sorted, u_sortedr, u_sset, u_find, b_max, b_starts, b_index, w_str, w_tup, w_lst, a_bl, a_int, r_tup, at_ref, at_0, at_1, at_2, at_3, at_4, df_Lwork, pb_Lwork, pe, encO, enc, work, encD]
  | .join w l r, n, hn, a, fr, hf, hp, ha, M => by
    obtain ⟨x, y, rest, rfl⟩ := hf.two
    simp only [T.dep] at hn ha
    obtain ⟨m, rfl, hm⟩ := succ_of hn
    rw [call1 at_Lwork]
    have pe := Lpart_eq (n := m) (by omega) root a M
    have pl := Lpart_eq (n := m) (by omega) root (a ++ [108]) M
    have pr := Lpart_eq (n := m) (by omega) root (a ++ [114]) M
    rw [hp] at pe
    rw [part_l hp] at pl
    rw [part_r hp] at pr
    have hd := Ldrawn_eq (n := m) (by omega) number (ixOf root a) M
    obtain ⟨ix, _, il⟩ := ixOf_eq hp
    have fl := flat_strs (addrs root [])
    have l0 : a.length + 1 ≤ lim := by rw [lim_eq]; omega
    have wl := fun fr => work_len (drOf root number) l (a ++ [108]) fr
    have wr := fun fr => work_len (drOf root number) r (a ++ [114]) fr
    have cc : l.cnt + r.cnt ≤ 60 := by
      have := part_cnt2 a root _ hp
      simp only [T.cnt] at this
      omega
    have w1 := Lwork_eq root hrc number l (n := m) (by omega) (a ++ [108]) (x :: y :: rest) (FitW.of2 l x y rest) (part_l hp) (by simp; omega) M
    have w2 := Lwork_eq root hrc number r (n := m) (by omega) (a ++ [114]) (x :: y :: rest) (FitW.of2 r x y rest) (part_r hp) (by simp; omega) M
    have w3 : (2 < (x :: y :: rest).length ∨ (isN l = true ∧ 1 < (x :: y :: rest).length)) → _ := fun h => Lwork_eq root hrc number l (n := m) (by omega) (a ++ [108]) (y :: rest) (FitW.tail h) (part_l hp) (by simp; omega) M
    have w4 : (2 < (x :: y :: rest).length ∨ (isN r = true ∧ 1 < (x :: y :: rest).length)) → _ := fun h => Lwork_eq root hrc number r (n := m) (by omega) (a ++ [114]) (y :: rest) (FitW.tail h) (part_r hp) (by simp; omega) M
    have g1 : (drOf root number).fst a = decide (drawn number (ixOf root a) % 2 = 1) := rfl
    have g2 : (drOf root number).go a = decide (0 < drawn number (ixOf root a) / 2 % 4) := rfl
    have g3 : (((drOf root number).pl a : Nat) : Int) = (ixOf root a + number / 4096) % 41 := by
      have := Int.emod_nonneg (ixOf root a + number / 4096) (show (41 : Int) ≠ 0 by decide)
      show ((((ixOf root a + number / 4096) % 41).toNat : Nat) : Int) = _
      omega
    have z0 : 0 ≤ drawn number (ixOf root a) % 2 := Int.emod_nonneg _ (by decide)
    have z1 : drawn number (ixOf root a) % 2 < 2 := Int.emod_lt_of_pos _ (by decide)
    have z2 : drawn number (ixOf root a) % 2 = 0 ∨ drawn number (ixOf root a) % 2 = 1 := by omega
    have cnl : ∀ fr1 fr2, (work (drOf root number) l (a ++ [108]) fr1).length + (work (drOf root number) r (a ++ [114]) fr2).length ≤ 240 := fun fr1 fr2 => by have := wl fr1; have := wr fr2; omega
    have cnr : ∀ fr1 fr2, (work (drOf root number) r (a ++ [114]) fr1).length + (work (drOf root number) l (a ++ [108]) fr2).length ≤ 240 := fun fr1 fr2 => by have := wr fr1; have := wl fr2; omega
    rcases z2 with z | z
    · by_cases q : (2 < (x :: y :: rest).length ∨ (isN r = true ∧ 1 < (x :: y :: rest).length)) ∧ 0 < drawn number (ixOf root a) / 2 % 4
      · have wY := w4 q.1
        have q1 : (2 : Int) - (if isN r = true then 1 else 0) < (rest.length : Int) + 1 + 1 := by
          have := q.1
          simp only [List.length_cons] at this
          split <;> simp_all <;> omega
        have q2 := q.2
        have e : work (drOf root number) (.join w l r) a (x :: y :: rest) = work (drOf root number) l (a ++ [108]) (x :: y :: rest) ++ work (drOf root number) r (a ++ [114]) (y :: rest) ++ [.join x a x y] := by
          rw [work, g1, g2, if_neg (by simp [z]), if_pos ⟨q.1, by simp [q2]⟩]
          rfl
        rw [e]
        have h1 := cnl (x :: y :: rest) (y :: rest)
        have l1 : (work (drOf root number) l (a ++ [108]) (x :: y :: rest)).length + (work (drOf root number) r (a ++ [114]) (y :: rest)).length ≤ lim := by rw [lim_eq]; omega
        have l2 : (work (drOf root number) l (a ++ [108]) (x :: y :: rest)).length + (work (drOf root number) r (a ++ [114]) (y :: rest)).length + 1 ≤ lim := by rw [lim_eq]; omega
        have l3 : (work (drOf root number) l (a ++ [108]) (x :: y :: rest)).length + ((work (drOf root number) r (a ++ [114]) (y :: rest)).length + 1) ≤ lim := by rw [lim_eq]; omega
        clear e w3 w4 wl wr cnl cnr q
        simp only [List.map_cons] at w1 w2 wY
        simp [evalX, evalA, evalS, evalB, runD, fin_same, o_add_i, o_add_s, o_add_l, o_add_t, o_sub, o_mul, o_rep, o_div, o_mod, c_lt, c_le, c_gt, c_ge, c_eq, c_ne, c_is_non, c_isn_non, c_is_bl, c_isn_bl, c_is_int, c_isn_int, c_is_str, c_isn_str, c_is_tup, c_isn_tup, c_is_lst, c_isn_lst, c_mem_s, c_nmem_s, c_mem_t, c_nmem_t, c_mem_l, c_nmem_l, fl_non, isi_tuple_non, isi_str_non, isi_int_non, isi_bool_non, fl_bl, isi_tuple_bl, isi_str_bl, isi_int_bl, isi_bool_bl, fl_int, isi_tuple_int, isi_str_int, isi_int_int, isi_bool_int, fl_str, isi_tuple_str, isi_str_str, isi_int_str, isi_bool_str, fl_tup, isi_tuple_tup, isi_str_tup, isi_int_tup, isi_bool_tup, fl_lst, isi_tuple_lst, isi_str_lst, isi_int_lst, isi_bool_lst, eqv_non_non, eqv_non_bl, eqv_non_int, eqv_non_str, eqv_non_tup, eqv_non_lst, eqv_bl_non, eqv_bl_bl, eqv_bl_int, eqv_bl_str, eqv_bl_tup, eqv_bl_lst, eqv_int_non, eqv_int_bl, eqv_int_int, eqv_int_str, eqv_int_tup, eqv_int_lst, eqv_str_non, eqv_str_bl, eqv_str_int, eqv_str_str, eqv_str_tup, eqv_str_lst, eqv_tup_non, eqv_tup_bl, eqv_tup_int, eqv_tup_str, eqv_tup_tup, eqv_tup_lst, eqv_lst_non, eqv_lst_bl, eqv_lst_int, eqv_lst_str, eqv_lst_tup, eqv_lst_lst, eqvL_nn, eqvL_cc, eqvL_nc, eqvL_cn, ok_tup, ok_lst, ok_tup50, ok_lst50, ok_tup49, ok_non, ok_bl, ok_int, ok_str, it_tup, it_lst, it_ref, ix_str, ix_scr, ix_tup, ix_lst, ix_ref, sl_str, sl_tup, sl_lst, ln_str, ln_scr, ln_tup, ln_lst, ln_ref, in_int, in_bl, u_neg, u_len, u_isi, u_int, u_abs, u_tup, u_lst_t, u_lst_l, u_range, u_str, u_sorted, u_sortedr, u_sset, u_find, b_max, b_starts, b_index, w_str, w_tup, w_lst, a_bl, a_int, r_tup, at_ref, at_0, at_1, at_2, at_3, at_4, unpackD, cut_tail, hdw_ix, hdw_eq, hdw_eq2, df_Lwork, pb_Lwork, pe, pl, pr, encO, enc, encD, w.ne, hd, ix, fl, z, l0, w1, wY, q1, q2, l1, l2, l3, at2]
      · have e : work (drOf root number) (.join w l r) a (x :: y :: rest) = work (drOf root number) l (a ++ [108]) (x :: y :: rest) ++ [.shelve ((drOf root number).pl a) x] ++ work (drOf root number) r (a ++ [114]) (x :: y :: rest) ++ [.fetch y ((drOf root number).pl a)] ++ [.join x a y x] := by
          rw [work, g1, g2, if_neg (by simp [z]), if_neg (by simpa using q)]
          rfl
        rw [e]
        have h1 := cnl (x :: y :: rest) (x :: y :: rest)
        have l1 : (work (drOf root number) l (a ++ [108]) (x :: y :: rest)).length + (work (drOf root number) r (a ++ [114]) (x :: y :: rest)).length ≤ lim := by rw [lim_eq]; omega
        have l2 : (work (drOf root number) l (a ++ [108]) (x :: y :: rest)).length + 1 ≤ lim := by rw [lim_eq]; omega
        have l3 : (work (drOf root number) l (a ++ [108]) (x :: y :: rest)).length + ((work (drOf root number) r (a ++ [114]) (x :: y :: rest)).length + 1) ≤ lim := by rw [lim_eq]; omega
        have l4 : (work (drOf root number) l (a ++ [108]) (x :: y :: rest)).length + 1 + (work (drOf root number) r (a ++ [114]) (x :: y :: rest)).length ≤ lim := by rw [lim_eq]; omega
        have l5 : (work (drOf root number) l (a ++ [108]) (x :: y :: rest)).length + ((work (drOf root number) r (a ++ [114]) (x :: y :: rest)).length + 1 + 1) ≤ lim := by rw [lim_eq]; omega
        have l6 : (work (drOf root number) l (a ++ [108]) (x :: y :: rest)).length + ((work (drOf root number) r (a ++ [114]) (x :: y :: rest)).length + 1 + 1 + 1) ≤ lim := by rw [lim_eq]; omega
        have l7 : (work (drOf root number) l (a ++ [108]) (x :: y :: rest)).length + ((work (drOf root number) r (a ++ [114]) (x :: y :: rest)).length + 1) + 1 ≤ lim := by rw [lim_eq]; omega
        have l8 : (work (drOf root number) l (a ++ [108]) (x :: y :: rest)).length + ((work (drOf root number) r (a ++ [114]) (x :: y :: rest)).length + 1 + 1) + 1 ≤ lim := by rw [lim_eq]; omega
        by_cases q1 : (2 : Int) - (if isN r = true then 1 else 0) < (rest.length : Int) + 1 + 1
        · have q2 : ¬ 0 < drawn number (ixOf root a) / 2 % 4 := fun z => q ⟨by
            simp only [List.length_cons]
            cases hN : isN r
            · rw [hN] at q1; simp at q1; left; omega
            · right; exact ⟨rfl, by omega⟩, z⟩
          clear e w3 w4 wl wr cnl cnr q
          simp only [List.map_cons] at w1 w2
          simp [evalX, evalA, evalS, evalB, runD, fin_same, o_add_i, o_add_s, o_add_l, o_add_t, o_sub, o_mul, o_rep, o_div, o_mod, c_lt, c_le, c_gt, c_ge, c_eq, c_ne, c_is_non, c_isn_non, c_is_bl, c_isn_bl, c_is_int, c_isn_int, c_is_str, c_isn_str, c_is_tup, c_isn_tup, c_is_lst, c_isn_lst, c_mem_s, c_nmem_s, c_mem_t, c_nmem_t, c_mem_l, c_nmem_l, fl_non, isi_tuple_non, isi_str_non, isi_int_non, isi_bool_non, fl_bl, isi_tuple_bl, isi_str_bl, isi_int_bl, isi_bool_bl, fl_int, isi_tuple_int, isi_str_int, isi_int_int, isi_bool_int, fl_str, isi_tuple_str, isi_str_str, isi_int_str, isi_bool_str, fl_tup, isi_tuple_tup, isi_str_tup, isi_int_tup, isi_bool_tup, fl_lst, isi_tuple_lst, isi_str_lst, isi_int_lst, isi_bool_lst, eqv_non_non, eqv_non_bl, eqv_non_int, eqv_non_str, eqv_non_tup, eqv_non_lst, eqv_bl_non, eqv_bl_bl, eqv_bl_int, eqv_bl_str, eqv_bl_tup, eqv_bl_lst, eqv_int_non, eqv_int_bl, eqv_int_int, eqv_int_str, eqv_int_tup, eqv_int_lst, eqv_str_non, eqv_str_bl, eqv_str_int, eqv_str_str, eqv_str_tup, eqv_str_lst, eqv_tup_non, eqv_tup_bl, eqv_tup_int, eqv_tup_str, eqv_tup_tup, eqv_tup_lst, eqv_lst_non, eqv_lst_bl, eqv_lst_int, eqv_lst_str, eqv_lst_tup, eqv_lst_lst, eqvL_nn, eqvL_cc, eqvL_nc, eqvL_cn, ok_tup, ok_lst, ok_tup50, ok_lst50, ok_tup49, ok_non, ok_bl, ok_int, ok_str, it_tup, it_lst, it_ref, ix_str, ix_scr, ix_tup, ix_lst, ix_ref, sl_str, sl_tup, sl_lst, ln_str, ln_scr, ln_tup, ln_lst, ln_ref, in_int, in_bl, u_neg, u_len, u_isi, u_int, u_abs, u_tup, u_lst_t, u_lst_l, u_range, u_str, u_sorted, u_sortedr, u_sset, u_find, b_max, b_starts, b_index, w_str, w_tup, w_lst, a_bl, a_int, r_tup, at_ref, at_0, at_1, at_2, at_3, at_4, unpackD, cut_tail, hdw_ix, hdw_eq, hdw_eq2, df_Lwork, pb_Lwork, pe, pl, pr, encO, enc, encD, w.ne, hd, ix, fl, z, l0, w1, w2, q1, q2, l1, l2, l3, l4, l5, l6, l7, l8, at2, g3]
        · clear e w3 w4 wl wr cnl cnr q
          simp only [List.map_cons] at w1 w2
          simp [evalX, evalA, evalS, evalB, runD, fin_same, o_add_i, o_add_s, o_add_l, o_add_t, o_sub, o_mul, o_rep, o_div, o_mod, c_lt, c_le, c_gt, c_ge, c_eq, c_ne, c_is_non, c_isn_non, c_is_bl, c_isn_bl, c_is_int, c_isn_int, c_is_str, c_isn_str, c_is_tup, c_isn_tup, c_is_lst, c_isn_lst, c_mem_s, c_nmem_s, c_mem_t, c_nmem_t, c_mem_l, c_nmem_l, fl_non, isi_tuple_non, isi_str_non, isi_int_non, isi_bool_non, fl_bl, isi_tuple_bl, isi_str_bl, isi_int_bl, isi_bool_bl, fl_int, isi_tuple_int, isi_str_int, isi_int_int, isi_bool_int, fl_str, isi_tuple_str, isi_str_str, isi_int_str, isi_bool_str, fl_tup, isi_tuple_tup, isi_str_tup, isi_int_tup, isi_bool_tup, fl_lst, isi_tuple_lst, isi_str_lst, isi_int_lst, isi_bool_lst, eqv_non_non, eqv_non_bl, eqv_non_int, eqv_non_str, eqv_non_tup, eqv_non_lst, eqv_bl_non, eqv_bl_bl, eqv_bl_int, eqv_bl_str, eqv_bl_tup, eqv_bl_lst, eqv_int_non, eqv_int_bl, eqv_int_int, eqv_int_str, eqv_int_tup, eqv_int_lst, eqv_str_non, eqv_str_bl, eqv_str_int, eqv_str_str, eqv_str_tup, eqv_str_lst, eqv_tup_non, eqv_tup_bl, eqv_tup_int, eqv_tup_str, eqv_tup_tup, eqv_tup_lst, eqv_lst_non, eqv_lst_bl, eqv_lst_int, eqv_lst_str, eqv_lst_tup, eqv_lst_lst, eqvL_nn, eqvL_cc, eqvL_nc, eqvL_cn, ok_tup, ok_lst, ok_tup50, ok_lst50, ok_tup49, ok_non, ok_bl, ok_int, ok_str, it_tup, it_lst, it_ref, ix_str, ix_scr, ix_tup, ix_lst, ix_ref, sl_str, sl_tup, sl_lst, ln_str, ln_scr, ln_tup, ln_lst, ln_ref, in_int, in_bl, u_neg, u_len, u_isi, u_int, u_abs, u_tup, u_lst_t, u_lst_l, u_range, u_str, u_sorted, u_sortedr, u_sset, u_find, b_max, b_starts, b_index, w_str, w_tup, w_lst, a_bl, a_int, r_tup, at_ref, at_0, at_1, at_2, at_3, at_4, unpackD, cut_tail, hdw_ix, hdw_eq, hdw_eq2, df_Lwork, pb_Lwork, pe, pl, pr, encO, enc, encD, w.ne, hd, ix, fl, z, l0, w1, w2, q1, l1, l2, l3, l4, l5, l6, l7, l8, at2, g3]
    · by_cases q : (2 < (x :: y :: rest).length ∨ (isN l = true ∧ 1 < (x :: y :: rest).length)) ∧ 0 < drawn number (ixOf root a) / 2 % 4
      · have wY := w3 q.1
        have q1 : (2 : Int) - (if isN l = true then 1 else 0) < (rest.length : Int) + 1 + 1 := by
          have := q.1
          simp only [List.length_cons] at this
          split <;> simp_all <;> omega
        have q2 := q.2
        have e : work (drOf root number) (.join w l r) a (x :: y :: rest) = work (drOf root number) r (a ++ [114]) (x :: y :: rest) ++ work (drOf root number) l (a ++ [108]) (y :: rest) ++ [.join x a y x] := by
          rw [work, g1, g2, if_pos (by simp [z]), if_pos ⟨q.1, by simp [q2]⟩]
          rfl
        rw [e]
        have h1 := cnr (x :: y :: rest) (y :: rest)
        have l1 : (work (drOf root number) r (a ++ [114]) (x :: y :: rest)).length + (work (drOf root number) l (a ++ [108]) (y :: rest)).length ≤ lim := by rw [lim_eq]; omega
        have l2 : (work (drOf root number) r (a ++ [114]) (x :: y :: rest)).length + (work (drOf root number) l (a ++ [108]) (y :: rest)).length + 1 ≤ lim := by rw [lim_eq]; omega
        have l3 : (work (drOf root number) r (a ++ [114]) (x :: y :: rest)).length + ((work (drOf root number) l (a ++ [108]) (y :: rest)).length + 1) ≤ lim := by rw [lim_eq]; omega
        clear e w3 w4 wl wr cnl cnr q
        simp only [List.map_cons] at w1 w2 wY
        simp [evalX, evalA, evalS, evalB, runD, fin_same, o_add_i, o_add_s, o_add_l, o_add_t, o_sub, o_mul, o_rep, o_div, o_mod, c_lt, c_le, c_gt, c_ge, c_eq, c_ne, c_is_non, c_isn_non, c_is_bl, c_isn_bl, c_is_int, c_isn_int, c_is_str, c_isn_str, c_is_tup, c_isn_tup, c_is_lst, c_isn_lst, c_mem_s, c_nmem_s, c_mem_t, c_nmem_t, c_mem_l, c_nmem_l, fl_non, isi_tuple_non, isi_str_non, isi_int_non, isi_bool_non, fl_bl, isi_tuple_bl, isi_str_bl, isi_int_bl, isi_bool_bl, fl_int, isi_tuple_int, isi_str_int, isi_int_int, isi_bool_int, fl_str, isi_tuple_str, isi_str_str, isi_int_str, isi_bool_str, fl_tup, isi_tuple_tup, isi_str_tup, isi_int_tup, isi_bool_tup, fl_lst, isi_tuple_lst, isi_str_lst, isi_int_lst, isi_bool_lst, eqv_non_non, eqv_non_bl, eqv_non_int, eqv_non_str, eqv_non_tup, eqv_non_lst, eqv_bl_non, eqv_bl_bl, eqv_bl_int, eqv_bl_str, eqv_bl_tup, eqv_bl_lst, eqv_int_non, eqv_int_bl, eqv_int_int, eqv_int_str, eqv_int_tup, eqv_int_lst, eqv_str_non, eqv_str_bl, eqv_str_int, eqv_str_str, eqv_str_tup, eqv_str_lst, eqv_tup_non, eqv_tup_bl, eqv_tup_int, eqv_tup_str, eqv_tup_tup, eqv_tup_lst, eqv_lst_non, eqv_lst_bl, eqv_lst_int, eqv_lst_str, eqv_lst_tup, eqv_lst_lst, eqvL_nn, eqvL_cc, eqvL_nc, eqvL_cn, ok_tup, ok_lst, ok_tup50, ok_lst50, ok_tup49, ok_non, ok_bl, ok_int, ok_str, it_tup, it_lst, it_ref, ix_str, ix_scr, ix_tup, ix_lst, ix_ref, sl_str, sl_tup, sl_lst, ln_str, ln_scr, ln_tup, ln_lst, ln_ref, in_int, in_bl, u_neg, u_len, u_isi, u_int, u_abs, u_tup, u_lst_t, u_lst_l, u_range, u_str, u_sorted, u_sortedr, u_sset, u_find, b_max, b_starts, b_index, w_str, w_tup, w_lst, a_bl, a_int, r_tup, at_ref, at_0, at_1, at_2, at_3, at_4, unpackD, cut_tail, hdw_ix, hdw_eq, hdw_eq2, df_Lwork, pb_Lwork, pe, pl, pr, encO, enc, encD, w.ne, hd, ix, fl, z, l0, w2, wY, q1, q2, l1, l2, l3, at2]
      · have e : work (drOf root number) (.join w l r) a (x :: y :: rest) = work (drOf root number) r (a ++ [114]) (x :: y :: rest) ++ [.shelve ((drOf root number).pl a) x] ++ work (drOf root number) l (a ++ [108]) (x :: y :: rest) ++ [.fetch y ((drOf root number).pl a)] ++ [.join x a x y] := by
          rw [work, g1, g2, if_pos (by simp [z]), if_neg (by simpa using q)]
          rfl
        rw [e]
        have h1 := cnr (x :: y :: rest) (x :: y :: rest)
        have l1 : (work (drOf root number) r (a ++ [114]) (x :: y :: rest)).length + (work (drOf root number) l (a ++ [108]) (x :: y :: rest)).length ≤ lim := by rw [lim_eq]; omega
        have l2 : (work (drOf root number) r (a ++ [114]) (x :: y :: rest)).length + 1 ≤ lim := by rw [lim_eq]; omega
        have l3 : (work (drOf root number) r (a ++ [114]) (x :: y :: rest)).length + ((work (drOf root number) l (a ++ [108]) (x :: y :: rest)).length + 1) ≤ lim := by rw [lim_eq]; omega
        have l4 : (work (drOf root number) r (a ++ [114]) (x :: y :: rest)).length + 1 + (work (drOf root number) l (a ++ [108]) (x :: y :: rest)).length ≤ lim := by rw [lim_eq]; omega
        have l5 : (work (drOf root number) r (a ++ [114]) (x :: y :: rest)).length + ((work (drOf root number) l (a ++ [108]) (x :: y :: rest)).length + 1 + 1) ≤ lim := by rw [lim_eq]; omega
        have l6 : (work (drOf root number) r (a ++ [114]) (x :: y :: rest)).length + ((work (drOf root number) l (a ++ [108]) (x :: y :: rest)).length + 1 + 1 + 1) ≤ lim := by rw [lim_eq]; omega
        have l7 : (work (drOf root number) r (a ++ [114]) (x :: y :: rest)).length + ((work (drOf root number) l (a ++ [108]) (x :: y :: rest)).length + 1) + 1 ≤ lim := by rw [lim_eq]; omega
        have l8 : (work (drOf root number) r (a ++ [114]) (x :: y :: rest)).length + ((work (drOf root number) l (a ++ [108]) (x :: y :: rest)).length + 1 + 1) + 1 ≤ lim := by rw [lim_eq]; omega
        by_cases q1 : (2 : Int) - (if isN l = true then 1 else 0) < (rest.length : Int) + 1 + 1
        · have q2 : ¬ 0 < drawn number (ixOf root a) / 2 % 4 := fun z => q ⟨by
            simp only [List.length_cons]
            cases hN : isN l
            · rw [hN] at q1; simp at q1; left; omega
            · right; exact ⟨rfl, by omega⟩, z⟩
          clear e w3 w4 wl wr cnl cnr q
          simp only [List.map_cons] at w1 w2
          simp [evalX, evalA, evalS, evalB, runD, fin_same, o_add_i, o_add_s, o_add_l, o_add_t, o_sub, o_mul, o_rep, o_div, o_mod, c_lt, c_le, c_gt, c_ge, c_eq, c_ne, c_is_non, c_isn_non, c_is_bl, c_isn_bl, c_is_int, c_isn_int, c_is_str, c_isn_str, c_is_tup, c_isn_tup, c_is_lst, c_isn_lst, c_mem_s, c_nmem_s, c_mem_t, c_nmem_t, c_mem_l, c_nmem_l, fl_non, isi_tuple_non, isi_str_non, isi_int_non, isi_bool_non, fl_bl, isi_tuple_bl, isi_str_bl, isi_int_bl, isi_bool_bl, fl_int, isi_tuple_int, isi_str_int, isi_int_int, isi_bool_int, fl_str, isi_tuple_str, isi_str_str, isi_int_str, isi_bool_str, fl_tup, isi_tuple_tup, isi_str_tup, isi_int_tup, isi_bool_tup, fl_lst, isi_tuple_lst, isi_str_lst, isi_int_lst, isi_bool_lst, eqv_non_non, eqv_non_bl, eqv_non_int, eqv_non_str, eqv_non_tup, eqv_non_lst, eqv_bl_non, eqv_bl_bl, eqv_bl_int, eqv_bl_str, eqv_bl_tup, eqv_bl_lst, eqv_int_non, eqv_int_bl, eqv_int_int, eqv_int_str, eqv_int_tup, eqv_int_lst, eqv_str_non, eqv_str_bl, eqv_str_int, eqv_str_str, eqv_str_tup, eqv_str_lst, eqv_tup_non, eqv_tup_bl, eqv_tup_int, eqv_tup_str, eqv_tup_tup, eqv_tup_lst, eqv_lst_non, eqv_lst_bl, eqv_lst_int, eqv_lst_str, eqv_lst_tup, eqv_lst_lst, eqvL_nn, eqvL_cc, eqvL_nc, eqvL_cn, ok_tup, ok_lst, ok_tup50, ok_lst50, ok_tup49, ok_non, ok_bl, ok_int, ok_str, it_tup, it_lst, it_ref, ix_str, ix_scr, ix_tup, ix_lst, ix_ref, sl_str, sl_tup, sl_lst, ln_str, ln_scr, ln_tup, ln_lst, ln_ref, in_int, in_bl, u_neg, u_len, u_isi, u_int, u_abs, u_tup, u_lst_t, u_lst_l, u_range, u_str, u_sorted, u_sortedr, u_sset, u_find, b_max, b_starts, b_index, w_str, w_tup, w_lst, a_bl, a_int, r_tup, at_ref, at_0, at_1, at_2, at_3, at_4, unpackD, cut_tail, hdw_ix, hdw_eq, hdw_eq2, df_Lwork, pb_Lwork, pe, pl, pr, encO, enc, encD, w.ne, hd, ix, fl, z, l0, w2, w1, q1, q2, l1, l2, l3, l4, l5, l6, l7, l8, at2, g3]
        · clear e w3 w4 wl wr cnl cnr q
          simp only [List.map_cons] at w1 w2
          simp [evalX, evalA, evalS, evalB, runD, fin_same, o_add_i, o_add_s, o_add_l, o_add_t, o_sub, o_mul, o_rep, o_div, o_mod, c_lt, c_le, c_gt, c_ge, c_eq, c_ne, c_is_non, c_isn_non, c_is_bl, c_isn_bl, c_is_int, c_isn_int, c_is_str, c_isn_str, c_is_tup, c_isn_tup, c_is_lst, c_isn_lst, c_mem_s, c_nmem_s, c_mem_t, c_nmem_t, c_mem_l, c_nmem_l, fl_non, isi_tuple_non, isi_str_non, isi_int_non, isi_bool_non, fl_bl, isi_tuple_bl, isi_str_bl, isi_int_bl, isi_bool_bl, fl_int, isi_tuple_int, isi_str_int, isi_int_int, isi_bool_int, fl_str, isi_tuple_str, isi_str_str, isi_int_str, isi_bool_str, fl_tup, isi_tuple_tup, isi_str_tup, isi_int_tup, isi_bool_tup, fl_lst, isi_tuple_lst, isi_str_lst, isi_int_lst, isi_bool_lst, eqv_non_non, eqv_non_bl, eqv_non_int, eqv_non_str, eqv_non_tup, eqv_non_lst, eqv_bl_non, eqv_bl_bl, eqv_bl_int, eqv_bl_str, eqv_bl_tup, eqv_bl_lst, eqv_int_non, eqv_int_bl, eqv_int_int, eqv_int_str, eqv_int_tup, eqv_int_lst, eqv_str_non, eqv_str_bl, eqv_str_int, eqv_str_str, eqv_str_tup, eqv_str_lst, eqv_tup_non, eqv_tup_bl, eqv_tup_int, eqv_tup_str, eqv_tup_tup, eqv_tup_lst, eqv_lst_non, eqv_lst_bl, eqv_lst_int, eqv_lst_str, eqv_lst_tup, eqv_lst_lst, eqvL_nn, eqvL_cc, eqvL_nc, eqvL_cn, ok_tup, ok_lst, ok_tup50, ok_lst50, ok_tup49, ok_non, ok_bl, ok_int, ok_str, it_tup, it_lst, it_ref, ix_str, ix_scr, ix_tup, ix_lst, ix_ref, sl_str, sl_tup, sl_lst, ln_str, ln_scr, ln_tup, ln_lst, ln_ref, in_int, in_bl, u_neg, u_len, u_isi, u_int, u_abs, u_tup, u_lst_t, u_lst_l, u_range, u_str, u_sorted, u_sortedr, u_sset, u_find, b_max, b_starts, b_index, w_str, w_tup, w_lst, a_bl, a_int, r_tup, at_ref, at_0, at_1, at_2, at_3, at_4, unpackD, cut_tail, hdw_ix, hdw_eq, hdw_eq2, df_Lwork, pb_Lwork, pe, pl, pr, encO, enc, encD, w.ne, hd, ix, fl, z, l0, w2, w1, q1, l1, l2, l3, l4, l5, l6, l7, l8, at2, g3]

theorem work_ok (c : Dr) (t : T) (a : Tx) (fr : List Nat) (h : a.length + t.dep ≤ 900) : ∀ d ∈ work c t a fr, d.fit := fun d hd => by
  have := work_fit c t a fr h d hd
  cases d with
  | put p b => exact Nat.le_trans (this b (.inl rfl)) (by decide)
  | join p b q r => exact Nat.le_trans (this b (.inr ⟨q, r, rfl⟩)) (by decide)
  | shelve s p => exact True.intro
  | fetch p s => exact True.intro

/-! ### the law's code -/
theorem Lcode_ex (t : T) (hc : t.cnt ≤ 16) {n : Nat} (hn : 30 ≤ n) (number : Int) (k : Nat) (hk : 2 ≤ k) (hk2 : k ≤ 8) (M : Ms) : ∃ (pre : List Deed), (pre = [] ∨ ∃ b u, part t b = some u ∧ pre = work (drOf t (number / 64)) u b (List.range k)) ∧
    callF prog n f_Lcode [enc t, .int number, .int k] M = some (.lst ((pre ++ work (drOf t number) t [] (List.range k)).map encD), M) := by
  obtain ⟨m, rfl, hm⟩ := succ_of hn
  rw [call1 at_Lcode]
  have td := t.dep_lt
  have e8 := Laddresses_eq t (n := m) (by omega) [] M (by omega) (by simp; omega)
  have al := addrs_len t []
  have cp := t.cnt_pos
  have fw : ∀ u : T, FitW u (List.range k) := fun u => ⟨by simp; omega, fun _ => by simp; omega⟩
  have ew := Lwork_eq t (by omega) number t (n := m) (by omega) [] (List.range k) (fw t) (part_nil t) (by simp; omega) M
  have wl := work_len (drOf t number) t [] (List.range k)
  have hk3 : (k : Int) ≤ 1000 := by omega
  by_cases c : number % 3 = 1
  · have hlen : (0 : Int) < ((addrs t []).length : Int) := by omega
    have hlenN : 0 < (addrs t []).length := by omega
    obtain ⟨d9, e9, m9⟩ := atD_mem ((addrs t []).map D.str) (i := number / 3 % ((addrs t []).length : Int)) (Int.emod_nonneg _ (by omega)) (by rw [List.length_map]; exact Int.emod_lt_of_pos _ hlen)
    obtain ⟨b, mb, rfl⟩ := List.mem_map.mp m9
    obtain ⟨u, hu⟩ := addrs_part t t [] b (part_nil t) mb
    have pl := part_len2 b t u hu
    have pc := part_cnt2 b t u hu
    have ud := u.dep_lt
    have ew2 := Lwork_eq t (by omega) (number / 64) u (n := m) (by omega) b (List.range k) (fw u) hu (by omega) M
    have wl2 := work_len (drOf t (number / 64)) u b (List.range k)
    refine ⟨work (drOf t (number / 64)) u b (List.range k), .inr ⟨b, u, hu, rfl⟩, ?_⟩
    have l1 : (work (drOf t (number / 64)) u b (List.range k)).length + (work (drOf t number) t [] (List.range k)).length ≤ lim := by rw [lim_eq]; omega
    generalize work (drOf t (number / 64)) u b (List.range k) = w2 at *
    generalize work (drOf t number) t [] (List.range k) = w1 at *
    generalize addrs t [] = ad at *
    simp [evalX, evalA, evalS, evalB, runD, fin_same, o_add_i, o_add_s, o_add_l, o_add_t, o_sub, o_mul, o_rep, o_div, o_mod, c_lt, c_le, c_gt, c_ge, c_eq, c_ne, c_is_non, c_isn_non, c_is_bl, c_isn_bl, c_is_int, c_isn_int, c_is_str, c_isn_str, c_is_tup, c_isn_tup, c_is_lst, c_isn_lst, c_mem_s, c_nmem_s, c_mem_t, c_nmem_t, c_mem_l, c_nmem_l, fl_non, isi_tuple_non, isi_str_non, isi_int_non, isi_bool_non, fl_bl, isi_tuple_bl, isi_str_bl, isi_int_bl, isi_bool_bl, fl_int, isi_tuple_int, isi_str_int, isi_int_int, isi_bool_int, fl_str, isi_tuple_str, isi_str_str, isi_int_str, isi_bool_str, fl_tup, isi_tuple_tup, isi_str_tup, isi_int_tup, isi_bool_tup, fl_lst, isi_tuple_lst, isi_str_lst, isi_int_lst, isi_bool_lst, eqv_non_non, eqv_non_bl, eqv_non_int, eqv_non_str, eqv_non_tup, eqv_non_lst, eqv_bl_non, eqv_bl_bl, eqv_bl_int, eqv_bl_str, eqv_bl_tup, eqv_bl_lst, eqv_int_non, eqv_int_bl, eqv_int_int, eqv_int_str, eqv_int_tup, eqv_int_lst, eqv_str_non, eqv_str_bl, eqv_str_int, eqv_str_str, eqv_str_tup, eqv_str_lst, eqv_tup_non, eqv_tup_bl, eqv_tup_int, eqv_tup_str, eqv_tup_tup, eqv_tup_lst, eqv_lst_non, eqv_lst_bl, eqv_lst_int, eqv_lst_str, eqv_lst_tup, eqv_lst_lst, eqvL_nn, eqvL_cc, eqvL_nc, eqvL_cn, ok_tup, ok_lst, ok_tup50, ok_lst50, ok_tup49, ok_non, ok_bl, ok_int, ok_str, it_tup, it_lst, it_ref, ix_str, ix_scr, ix_tup, ix_lst, ix_ref, sl_str, sl_tup, sl_lst, ln_str, ln_scr, ln_tup, ln_lst, ln_ref, in_int, in_bl, u_neg, u_len, u_isi, u_int, u_abs, u_tup, u_lst_t, u_lst_l, u_range, u_str, u_sorted, u_sortedr, u_sset, u_find, b_max, b_starts, b_index, w_str, w_tup, w_lst, a_bl, a_int, r_tup, at_ref, at_0, at_1, at_2, at_3, at_4, df_Lcode, pb_Lcode, e8, c, hlen, hlenN, e9, hk3, ew, ew2, l1]
  · refine ⟨[], .inl rfl, ?_⟩
    have l1 : (work (drOf t number) t [] (List.range k)).length ≤ lim := by rw [lim_eq]; omega
    generalize work (drOf t number) t [] (List.range k) = w1 at *
    generalize addrs t [] = ad at *
    simp [evalX, evalA, evalS, evalB, runD, fin_same, o_add_i, o_add_s, o_add_l, o_add_t, o_sub, o_mul, o_rep, o_div, o_mod, c_lt, c_le, c_gt, c_ge, c_eq, c_ne, c_is_non, c_isn_non, c_is_bl, c_isn_bl, c_is_int, c_isn_int, c_is_str, c_isn_str, c_is_tup, c_isn_tup, c_is_lst, c_isn_lst, c_mem_s, c_nmem_s, c_mem_t, c_nmem_t, c_mem_l, c_nmem_l, fl_non, isi_tuple_non, isi_str_non, isi_int_non, isi_bool_non, fl_bl, isi_tuple_bl, isi_str_bl, isi_int_bl, isi_bool_bl, fl_int, isi_tuple_int, isi_str_int, isi_int_int, isi_bool_int, fl_str, isi_tuple_str, isi_str_str, isi_int_str, isi_bool_str, fl_tup, isi_tuple_tup, isi_str_tup, isi_int_tup, isi_bool_tup, fl_lst, isi_tuple_lst, isi_str_lst, isi_int_lst, isi_bool_lst, eqv_non_non, eqv_non_bl, eqv_non_int, eqv_non_str, eqv_non_tup, eqv_non_lst, eqv_bl_non, eqv_bl_bl, eqv_bl_int, eqv_bl_str, eqv_bl_tup, eqv_bl_lst, eqv_int_non, eqv_int_bl, eqv_int_int, eqv_int_str, eqv_int_tup, eqv_int_lst, eqv_str_non, eqv_str_bl, eqv_str_int, eqv_str_str, eqv_str_tup, eqv_str_lst, eqv_tup_non, eqv_tup_bl, eqv_tup_int, eqv_tup_str, eqv_tup_tup, eqv_tup_lst, eqv_lst_non, eqv_lst_bl, eqv_lst_int, eqv_lst_str, eqv_lst_tup, eqv_lst_lst, eqvL_nn, eqvL_cc, eqvL_nc, eqvL_cn, ok_tup, ok_lst, ok_tup50, ok_lst50, ok_tup49, ok_non, ok_bl, ok_int, ok_str, it_tup, it_lst, it_ref, ix_str, ix_scr, ix_tup, ix_lst, ix_ref, sl_str, sl_tup, sl_lst, ln_str, ln_scr, ln_tup, ln_lst, ln_ref, in_int, in_bl, u_neg, u_len, u_isi, u_int, u_abs, u_tup, u_lst_t, u_lst_l, u_range, u_str, u_sorted, u_sortedr, u_sset, u_find, b_max, b_starts, b_index, w_str, w_tup, w_lst, a_bl, a_int, r_tup, at_ref, at_0, at_1, at_2, at_3, at_4, df_Lcode, pb_Lcode, e8, c, hk3, ew, l1]

/-! ### a code changed -/
def Deed.al : Deed → Nat
  | .put _ a => a.length
  | .join _ a _ _ => a.length
  | _ => 0
theorem al_fit {d : Deed} (h : d.al ≤ 1000) : d.fit := by cases d <;> first | exact h | exact True.intro
theorem cut_to {α : Type} (xs : List α) {i : Int} (h : 0 ≤ i) : cutL xs none (some i) = xs.take i.toNat := by
  have : ¬ i < 0 := by omega
  simp only [cutL, sIxD, this, if_false, List.drop_zero, Nat.sub_zero]
  rcases Nat.le_total i.toNat xs.length with c | c
  · rw [Nat.min_eq_left c]
  · rw [Nat.min_eq_right c, List.take_of_length_le (Nat.le_refl _), List.take_of_length_le c]
theorem cut_from {α : Type} (xs : List α) {i : Int} (h : 0 ≤ i) : cutL xs (some i) none = xs.drop i.toNat := by
  have : ¬ i < 0 := by omega
  simp only [cutL, sIxD, this, if_false]
  rcases Nat.le_total i.toNat xs.length with c | c
  · rw [Nat.min_eq_left c, List.take_of_length_le (by rw [List.length_drop]; exact Nat.le_refl _)]
  · rw [Nat.min_eq_right c, List.drop_of_length_le (Nat.le_refl _), List.drop_of_length_le c]; simp
theorem cut_mid {α : Type} (xs : List α) {i : Int} (h : 0 ≤ i) : cutL xs (some i) (some (i + 1)) = (xs.drop i.toNat).take 1 := by
  have h1 : ¬ i < 0 := by omega
  have h2 : ¬ i + 1 < 0 := by omega
  have e : (i + 1).toNat = i.toNat + 1 := by omega
  simp only [cutL, sIxD, h1, h2, if_false, e]
  rcases Nat.lt_or_ge i.toNat xs.length with c | c
  · rw [Nat.min_eq_left (by omega), Nat.min_eq_left (by omega), show i.toNat + 1 - i.toNat = 1 by omega]
  · rw [Nat.min_eq_right c, List.drop_of_length_le (Nat.le_refl _), List.drop_of_length_le c]; simp
theorem cutl1 {α : Type} (a : α) (xs : List α) : cutL (a :: xs) none (some 1) = [a] := by
  rw [cut_to _ (by decide)]; rfl
theorem cutl2 {α : Type} (a b : α) (xs : List α) : cutL (a :: b :: xs) none (some 2) = [a, b] := by
  rw [cut_to _ (by decide)]; rfl
theorem cutl3 {α : Type} (a b c : α) (xs : List α) : cutL (a :: b :: c :: xs) none (some 3) = [a, b, c] := by
  rw [cut_to _ (by decide)]; rfl
theorem cutl4 {α : Type} (a b c d : α) (xs : List α) : cutL (a :: b :: c :: d :: xs) none (some 4) = [a, b, c, d] := by
  rw [cut_to _ (by decide)]; rfl
theorem cutr2 {α : Type} (a b : α) (xs : List α) : cutL (a :: b :: xs) (some 2) none = xs := by
  rw [cut_from _ (by decide)]; rfl
theorem cutr3 {α : Type} (a b c : α) (xs : List α) : cutL (a :: b :: c :: xs) (some 3) none = xs := by
  rw [cut_from _ (by decide)]; rfl
theorem cutr4 {α : Type} (a b c d : α) (xs : List α) : cutL (a :: b :: c :: d :: xs) (some 4) none = xs := by
  rw [cut_from _ (by decide)]; rfl
theorem cutr5 {α : Type} (a b c d e : α) (xs : List α) : cutL (a :: b :: c :: d :: e :: xs) (some 5) none = xs := by
  rw [cut_from _ (by decide)]; rfl
theorem mem8 {x : D} (h : x ∈ [D.int 0, D.int 1, D.int 7, D.int 8, D.int 40, D.int 41, D.int (-1), D.int 2]) : ∃ v, x = .int v := by
  simp only [List.mem_cons, List.not_mem_nil, or_false] at h
  rcases h with h | h | h | h | h | h | h | h <;> exact ⟨_, h⟩
theorem mem6 {x : D} {a : Tx} (h : x ∈ [D.str [], D.str [108], D.str [114], D.str (a ++ [108]), D.str (cutL a none (some (-1))), D.str [120]]) : ∃ s, x = .str s ∧ s.length ≤ a.length + 1 := by
  simp only [List.mem_cons, List.not_mem_nil, or_false] at h
  rcases h with h | h | h | h | h | h
  · exact ⟨_, h, by simp⟩
  · exact ⟨_, h, by simp⟩
  · exact ⟨_, h, by simp⟩
  · exact ⟨_, h, by simp⟩
  · exact ⟨_, h, by simp [cutL]; omega⟩
  · exact ⟨_, h, by simp⟩
theorem Lchanged_ex {n : Nat} (hn : 1 ≤ n) (code : List Deed) (hne : 1 ≤ code.length) (hl : code.length ≤ 1000) (B : Nat) (hB : B ≤ 990) (hb : ∀ d ∈ code, d.al ≤ B) (number : Int) (M : Ms) :
    ∃ code' : List Deed, callF prog n f_Lchanged [.lst (code.map encD), .int number] M = some (.lst (code'.map encD), M) ∧ code'.length ≤ code.length + 1 ∧ ∀ d ∈ code', d.al ≤ B + 1 := by
  obtain ⟨m, rfl, hm⟩ := succ_of hn
  rw [call1 at_Lchanged]
  have p0 : (0 : Int) < (code.length : Int) := by omega
  have p0' : 0 < code.length := hne
  have i0 := Int.emod_nonneg (number / 8) (show (code.length : Int) ≠ 0 by omega)
  have i1 := Int.emod_lt_of_pos (number / 8) p0
  obtain ⟨i, hi⟩ : ∃ i : Nat, number / 8 % (code.length : Int) = (i : Int) := ⟨(number / 8 % (code.length : Int)).toNat, by omega⟩
  rw [hi] at i0 i1
  have il : i < code.length := by omega
  have hd : code[i]? = some code[i] := List.getElem?_eq_getElem il
  have hdm : code[i] ∈ code := List.getElem_mem il
  generalize code[i] = d at hd hdm
  have hat : atD (code.map encD) (i : Int) = some (encD d) := by simp [atD, ixD, i1, hd]
  have bd := hb d hdm
  have ht : ∀ k, ∀ x ∈ code.take k, x.al ≤ B + 1 := fun k x hx => Nat.le_succ_of_le (hb x (List.mem_of_mem_take hx))
  have hr : ∀ k, ∀ x ∈ code.drop k, x.al ≤ B + 1 := fun k x hx => Nat.le_succ_of_le (hb x (List.mem_of_mem_drop hx))
  have c1 := cut_to (code.map encD) (i := (i : Int)) i0
  have c2 := cut_to (code.map encD) (i := (i : Int) + 1) (by omega)
  have c3 := cut_from (code.map encD) (i := (i : Int)) i0
  have c4 := cut_from (code.map encD) (i := (i : Int) + 1) (by omega)
  have c5 := cut_from (code.map encD) (i := (i : Int) + 2) (by omega)
  have c6 := cut_mid (code.map encD) (i := (i : Int) + 1) (by omega)
  rw [show (i : Int) + 1 + 1 = (i : Int) + 2 by omega] at c6
  rw [show (i : Int).toNat = i by omega] at c1 c3
  rw [show ((i : Int) + 1).toNat = i + 1 by omega] at c2 c4 c6
  rw [show ((i : Int) + 2).toNat = i + 2 by omega] at c5
  by_cases k0 : number % 8 = 0
  · refine ⟨code.take i ++ code.drop (i + 1), ?_, by simp; omega, fun x hx => ?_⟩
    · have l1 : min i code.length + (code.length - (i + 1)) ≤ lim := by rw [lim_eq]; omega
      simp [evalX, evalA, evalS, evalB, runD, fin_same, o_add_i, o_add_s, o_add_l, o_add_t, o_sub, o_mul, o_rep, o_div, o_mod, c_lt, c_le, c_gt, c_ge, c_eq, c_ne, c_is_non, c_isn_non, c_is_bl, c_isn_bl, c_is_int, c_isn_int, c_is_str, c_isn_str, c_is_tup, c_isn_tup, c_is_lst, c_isn_lst, c_mem_s, c_nmem_s, c_mem_t, c_nmem_t, c_mem_l, c_nmem_l, fl_non, isi_tuple_non, isi_str_non, isi_int_non, isi_bool_non, fl_bl, isi_tuple_bl, isi_str_bl, isi_int_bl, isi_bool_bl, fl_int, isi_tuple_int, isi_str_int, isi_int_int, isi_bool_int, fl_str, isi_tuple_str, isi_str_str, isi_int_str, isi_bool_str, fl_tup, isi_tuple_tup, isi_str_tup, isi_int_tup, isi_bool_tup, fl_lst, isi_tuple_lst, isi_str_lst, isi_int_lst, isi_bool_lst, eqv_non_non, eqv_non_bl, eqv_non_int, eqv_non_str, eqv_non_tup, eqv_non_lst, eqv_bl_non, eqv_bl_bl, eqv_bl_int, eqv_bl_str, eqv_bl_tup, eqv_bl_lst, eqv_int_non, eqv_int_bl, eqv_int_int, eqv_int_str, eqv_int_tup, eqv_int_lst, eqv_str_non, eqv_str_bl, eqv_str_int, eqv_str_str, eqv_str_tup, eqv_str_lst, eqv_tup_non, eqv_tup_bl, eqv_tup_int, eqv_tup_str, eqv_tup_tup, eqv_tup_lst, eqv_lst_non, eqv_lst_bl, eqv_lst_int, eqv_lst_str, eqv_lst_tup, eqv_lst_lst, eqvL_nn, eqvL_cc, eqvL_nc, eqvL_cn, ok_tup, ok_lst, ok_tup50, ok_lst50, ok_tup49, ok_non, ok_bl, ok_int, ok_str, it_tup, it_lst, it_ref, ix_str, ix_scr, ix_tup, ix_lst, ix_ref, sl_str, sl_tup, sl_lst, ln_str, ln_scr, ln_tup, ln_lst, ln_ref, in_int, in_bl, u_neg, u_len, u_isi, u_int, u_abs, u_tup, u_lst_t, u_lst_l, u_range, u_str, u_sorted, u_sortedr, u_sset, u_find, b_max, b_starts, b_index, w_str, w_tup, w_lst, a_bl, a_int, r_tup, at_ref, at_0, at_1, at_2, at_3, at_4, df_Lchanged, pb_Lchanged, p0, p0', hi, hat, k0, c1, c4, l1, List.map_take, List.map_drop]
    · rcases List.mem_append.mp hx with hx | hx
      · exact ht _ x hx
      · exact hr _ x hx
  by_cases k1 : number % 8 = 1
  · refine ⟨code.take (i + 1) ++ code.drop i, ?_, by simp; omega, fun x hx => ?_⟩
    · have l1 : min (i + 1) code.length + (code.length - i) ≤ lim := by rw [lim_eq]; omega
      simp [evalX, evalA, evalS, evalB, runD, fin_same, o_add_i, o_add_s, o_add_l, o_add_t, o_sub, o_mul, o_rep, o_div, o_mod, c_lt, c_le, c_gt, c_ge, c_eq, c_ne, c_is_non, c_isn_non, c_is_bl, c_isn_bl, c_is_int, c_isn_int, c_is_str, c_isn_str, c_is_tup, c_isn_tup, c_is_lst, c_isn_lst, c_mem_s, c_nmem_s, c_mem_t, c_nmem_t, c_mem_l, c_nmem_l, fl_non, isi_tuple_non, isi_str_non, isi_int_non, isi_bool_non, fl_bl, isi_tuple_bl, isi_str_bl, isi_int_bl, isi_bool_bl, fl_int, isi_tuple_int, isi_str_int, isi_int_int, isi_bool_int, fl_str, isi_tuple_str, isi_str_str, isi_int_str, isi_bool_str, fl_tup, isi_tuple_tup, isi_str_tup, isi_int_tup, isi_bool_tup, fl_lst, isi_tuple_lst, isi_str_lst, isi_int_lst, isi_bool_lst, eqv_non_non, eqv_non_bl, eqv_non_int, eqv_non_str, eqv_non_tup, eqv_non_lst, eqv_bl_non, eqv_bl_bl, eqv_bl_int, eqv_bl_str, eqv_bl_tup, eqv_bl_lst, eqv_int_non, eqv_int_bl, eqv_int_int, eqv_int_str, eqv_int_tup, eqv_int_lst, eqv_str_non, eqv_str_bl, eqv_str_int, eqv_str_str, eqv_str_tup, eqv_str_lst, eqv_tup_non, eqv_tup_bl, eqv_tup_int, eqv_tup_str, eqv_tup_tup, eqv_tup_lst, eqv_lst_non, eqv_lst_bl, eqv_lst_int, eqv_lst_str, eqv_lst_tup, eqv_lst_lst, eqvL_nn, eqvL_cc, eqvL_nc, eqvL_cn, ok_tup, ok_lst, ok_tup50, ok_lst50, ok_tup49, ok_non, ok_bl, ok_int, ok_str, it_tup, it_lst, it_ref, ix_str, ix_scr, ix_tup, ix_lst, ix_ref, sl_str, sl_tup, sl_lst, ln_str, ln_scr, ln_tup, ln_lst, ln_ref, in_int, in_bl, u_neg, u_len, u_isi, u_int, u_abs, u_tup, u_lst_t, u_lst_l, u_range, u_str, u_sorted, u_sortedr, u_sset, u_find, b_max, b_starts, b_index, w_str, w_tup, w_lst, a_bl, a_int, r_tup, at_ref, at_0, at_1, at_2, at_3, at_4, df_Lchanged, pb_Lchanged, p0, p0', hi, hat, k1, c2, c3, l1, List.map_take, List.map_drop]
    · rcases List.mem_append.mp hx with hx | hx
      · exact ht _ x hx
      · exact hr _ x hx
  by_cases k2 : number % 8 = 2
  · refine ⟨code.take i ++ ((code.drop (i + 1)).take 1 ++ [d]) ++ code.drop (i + 2), ?_, by simp; omega, fun x hx => ?_⟩
    · have l1 : min 1 (code.length - (i + 1)) + 1 ≤ lim := by rw [lim_eq]; omega
      have l2 : min i code.length + (min 1 (code.length - (i + 1)) + 1) ≤ lim := by rw [lim_eq]; omega
      have l3 : min i code.length + (min 1 (code.length - (i + 1)) + 1) + (code.length - (i + 2)) ≤ lim := by rw [lim_eq]; omega
      simp [evalX, evalA, evalS, evalB, runD, fin_same, o_add_i, o_add_s, o_add_l, o_add_t, o_sub, o_mul, o_rep, o_div, o_mod, c_lt, c_le, c_gt, c_ge, c_eq, c_ne, c_is_non, c_isn_non, c_is_bl, c_isn_bl, c_is_int, c_isn_int, c_is_str, c_isn_str, c_is_tup, c_isn_tup, c_is_lst, c_isn_lst, c_mem_s, c_nmem_s, c_mem_t, c_nmem_t, c_mem_l, c_nmem_l, fl_non, isi_tuple_non, isi_str_non, isi_int_non, isi_bool_non, fl_bl, isi_tuple_bl, isi_str_bl, isi_int_bl, isi_bool_bl, fl_int, isi_tuple_int, isi_str_int, isi_int_int, isi_bool_int, fl_str, isi_tuple_str, isi_str_str, isi_int_str, isi_bool_str, fl_tup, isi_tuple_tup, isi_str_tup, isi_int_tup, isi_bool_tup, fl_lst, isi_tuple_lst, isi_str_lst, isi_int_lst, isi_bool_lst, eqv_non_non, eqv_non_bl, eqv_non_int, eqv_non_str, eqv_non_tup, eqv_non_lst, eqv_bl_non, eqv_bl_bl, eqv_bl_int, eqv_bl_str, eqv_bl_tup, eqv_bl_lst, eqv_int_non, eqv_int_bl, eqv_int_int, eqv_int_str, eqv_int_tup, eqv_int_lst, eqv_str_non, eqv_str_bl, eqv_str_int, eqv_str_str, eqv_str_tup, eqv_str_lst, eqv_tup_non, eqv_tup_bl, eqv_tup_int, eqv_tup_str, eqv_tup_tup, eqv_tup_lst, eqv_lst_non, eqv_lst_bl, eqv_lst_int, eqv_lst_str, eqv_lst_tup, eqv_lst_lst, eqvL_nn, eqvL_cc, eqvL_nc, eqvL_cn, ok_tup, ok_lst, ok_tup50, ok_lst50, ok_tup49, ok_non, ok_bl, ok_int, ok_str, it_tup, it_lst, it_ref, ix_str, ix_scr, ix_tup, ix_lst, ix_ref, sl_str, sl_tup, sl_lst, ln_str, ln_scr, ln_tup, ln_lst, ln_ref, in_int, in_bl, u_neg, u_len, u_isi, u_int, u_abs, u_tup, u_lst_t, u_lst_l, u_range, u_str, u_sorted, u_sortedr, u_sset, u_find, b_max, b_starts, b_index, w_str, w_tup, w_lst, a_bl, a_int, r_tup, at_ref, at_0, at_1, at_2, at_3, at_4, df_Lchanged, pb_Lchanged, p0, p0', hi, hat, k2, c1, c5, c6, l1, l2, l3, List.map_take, List.map_drop]
    · simp only [List.mem_append, List.mem_singleton] at hx
      rcases hx with (hx | hx | hx) | hx
      · exact ht _ x hx
      · exact hr _ x (List.mem_of_mem_take hx)
      · subst hx; omega
      · exact hr _ x hx
  -- a part of a deed changed
  obtain ⟨x8, h8, m8⟩ := atD_mem [D.int 0, D.int 1, D.int 7, D.int 8, D.int 40, D.int 41, D.int (-1), D.int 2] (i := number / 4000 % 8) (Int.emod_nonneg _ (by decide)) (Int.emod_lt_of_pos _ (by decide))
  obtain ⟨v, rfl⟩ := mem8 m8
  suffices H : ∃ d' : Deed, d'.al ≤ B + 1 ∧ runD (callF prog m) df_Lchanged [.lst (code.map encD), .int number] M = some (.lst ((code.map encD).take i ++ (encD d' :: (code.map encD).drop (i + 1))), M) by
    obtain ⟨d', hd', H⟩ := H
    refine ⟨code.take i ++ [d'] ++ code.drop (i + 1), ?_, by simp; omega, fun x hx => ?_⟩
    · rw [H]; simp [List.map_take, List.map_drop]
    · simp only [List.mem_append, List.mem_singleton] at hx
      rcases hx with (hx | hx) | hx
      · exact ht _ x hx
      · subst hx; exact hd'
      · exact hr _ x hx
  have l1 : min i code.length + 1 ≤ 100000 := by omega
  have l2 : min i code.length + 1 + (code.length - (i + 1)) ≤ 100000 := by omega
  have w2 : number / 800 % 2 = 0 ∨ number / 800 % 2 = 1 := by omega
  have w4 : number / 800 % 4 = 0 ∨ number / 800 % 4 = 1 ∨ number / 800 % 4 = 2 ∨ number / 800 % 4 = 3 := by omega
  cases d with
  | put p a =>
    rcases w2 with w | w
    · refine ⟨.put v a, by simp only [Deed.al] at bd ⊢; omega, ?_⟩
      simp [evalX, evalA, evalS, evalB, runD, fin_same, o_add_i, o_add_s, o_add_l, o_add_t, o_sub, o_mul, o_rep, o_div, o_mod, c_lt, c_le, c_gt, c_ge, c_eq, c_ne, c_is_non, c_isn_non, c_is_bl, c_isn_bl, c_is_int, c_isn_int, c_is_str, c_isn_str, c_is_tup, c_isn_tup, c_is_lst, c_isn_lst, c_mem_s, c_nmem_s, c_mem_t, c_nmem_t, c_mem_l, c_nmem_l, fl_non, isi_tuple_non, isi_str_non, isi_int_non, isi_bool_non, fl_bl, isi_tuple_bl, isi_str_bl, isi_int_bl, isi_bool_bl, fl_int, isi_tuple_int, isi_str_int, isi_int_int, isi_bool_int, fl_str, isi_tuple_str, isi_str_str, isi_int_str, isi_bool_str, fl_tup, isi_tuple_tup, isi_str_tup, isi_int_tup, isi_bool_tup, fl_lst, isi_tuple_lst, isi_str_lst, isi_int_lst, isi_bool_lst, eqv_non_non, eqv_non_bl, eqv_non_int, eqv_non_str, eqv_non_tup, eqv_non_lst, eqv_bl_non, eqv_bl_bl, eqv_bl_int, eqv_bl_str, eqv_bl_tup, eqv_bl_lst, eqv_int_non, eqv_int_bl, eqv_int_int, eqv_int_str, eqv_int_tup, eqv_int_lst, eqv_str_non, eqv_str_bl, eqv_str_int, eqv_str_str, eqv_str_tup, eqv_str_lst, eqv_tup_non, eqv_tup_bl, eqv_tup_int, eqv_tup_str, eqv_tup_tup, eqv_tup_lst, eqv_lst_non, eqv_lst_bl, eqv_lst_int, eqv_lst_str, eqv_lst_tup, eqv_lst_lst, eqvL_nn, eqvL_cc, eqvL_nc, eqvL_cn, ok_tup, ok_lst, ok_tup50, ok_lst50, ok_tup49, ok_non, ok_bl, ok_int, ok_str, it_tup, it_lst, it_ref, ix_str, ix_scr, ix_tup, ix_lst, ix_ref, sl_str, sl_tup, sl_lst, ln_str, ln_scr, ln_tup, ln_lst, ln_ref, in_int, in_bl, u_neg, u_len, u_isi, u_int, u_abs, u_tup, u_lst_t, u_lst_l, u_range, u_str, u_sorted, u_sortedr, u_sset, u_find, b_max, b_starts, b_index, w_str, w_tup, w_lst, a_bl, a_int, r_tup, at_ref, at_0, at_1, at_2, at_3, at_4, cutl1, cutl2, cutl3, cutl4, cutr2, cutr3, cutr4, cutr5, df_Lchanged, pb_Lchanged, lim_eq, p0, p0', hi, hat, k0, k1, k2, h8, encD, w, c1, c4, l1, l2]
    · simp only [Deed.al] at bd
      obtain ⟨x6, h6, m6⟩ := atD_mem [D.str [], D.str [108], D.str [114], D.str (a ++ [108]), D.str (cutL a none (some (-1))), D.str [120]] (i := number / 4000 % 6) (Int.emod_nonneg _ (by decide)) (Int.emod_lt_of_pos _ (by decide))
      obtain ⟨s, rfl, hs⟩ := mem6 m6
      refine ⟨.put p s, by simp only [Deed.al]; omega, ?_⟩
      have la : a.length + 1 ≤ 100000 := by omega
      have lb : a.length ≤ 100000 := by omega
      simp [evalX, evalA, evalS, evalB, runD, fin_same, o_add_i, o_add_s, o_add_l, o_add_t, o_sub, o_mul, o_rep, o_div, o_mod, c_lt, c_le, c_gt, c_ge, c_eq, c_ne, c_is_non, c_isn_non, c_is_bl, c_isn_bl, c_is_int, c_isn_int, c_is_str, c_isn_str, c_is_tup, c_isn_tup, c_is_lst, c_isn_lst, c_mem_s, c_nmem_s, c_mem_t, c_nmem_t, c_mem_l, c_nmem_l, fl_non, isi_tuple_non, isi_str_non, isi_int_non, isi_bool_non, fl_bl, isi_tuple_bl, isi_str_bl, isi_int_bl, isi_bool_bl, fl_int, isi_tuple_int, isi_str_int, isi_int_int, isi_bool_int, fl_str, isi_tuple_str, isi_str_str, isi_int_str, isi_bool_str, fl_tup, isi_tuple_tup, isi_str_tup, isi_int_tup, isi_bool_tup, fl_lst, isi_tuple_lst, isi_str_lst, isi_int_lst, isi_bool_lst, eqv_non_non, eqv_non_bl, eqv_non_int, eqv_non_str, eqv_non_tup, eqv_non_lst, eqv_bl_non, eqv_bl_bl, eqv_bl_int, eqv_bl_str, eqv_bl_tup, eqv_bl_lst, eqv_int_non, eqv_int_bl, eqv_int_int, eqv_int_str, eqv_int_tup, eqv_int_lst, eqv_str_non, eqv_str_bl, eqv_str_int, eqv_str_str, eqv_str_tup, eqv_str_lst, eqv_tup_non, eqv_tup_bl, eqv_tup_int, eqv_tup_str, eqv_tup_tup, eqv_tup_lst, eqv_lst_non, eqv_lst_bl, eqv_lst_int, eqv_lst_str, eqv_lst_tup, eqv_lst_lst, eqvL_nn, eqvL_cc, eqvL_nc, eqvL_cn, ok_tup, ok_lst, ok_tup50, ok_lst50, ok_tup49, ok_non, ok_bl, ok_int, ok_str, it_tup, it_lst, it_ref, ix_str, ix_scr, ix_tup, ix_lst, ix_ref, sl_str, sl_tup, sl_lst, ln_str, ln_scr, ln_tup, ln_lst, ln_ref, in_int, in_bl, u_neg, u_len, u_isi, u_int, u_abs, u_tup, u_lst_t, u_lst_l, u_range, u_str, u_sorted, u_sortedr, u_sset, u_find, b_max, b_starts, b_index, w_str, w_tup, w_lst, a_bl, a_int, r_tup, at_ref, at_0, at_1, at_2, at_3, at_4, cutl1, cutl2, cutl3, cutl4, cutr2, cutr3, cutr4, cutr5, df_Lchanged, pb_Lchanged, lim_eq, p0, p0', hi, hat, k0, k1, k2, h8, h6, la, lb, encD, w, c1, c4, l1, l2]
  | join p a q r =>
    rcases w4 with w | w | w | w
    · refine ⟨.join v a q r, by simp only [Deed.al] at bd ⊢; omega, ?_⟩
      simp [evalX, evalA, evalS, evalB, runD, fin_same, o_add_i, o_add_s, o_add_l, o_add_t, o_sub, o_mul, o_rep, o_div, o_mod, c_lt, c_le, c_gt, c_ge, c_eq, c_ne, c_is_non, c_isn_non, c_is_bl, c_isn_bl, c_is_int, c_isn_int, c_is_str, c_isn_str, c_is_tup, c_isn_tup, c_is_lst, c_isn_lst, c_mem_s, c_nmem_s, c_mem_t, c_nmem_t, c_mem_l, c_nmem_l, fl_non, isi_tuple_non, isi_str_non, isi_int_non, isi_bool_non, fl_bl, isi_tuple_bl, isi_str_bl, isi_int_bl, isi_bool_bl, fl_int, isi_tuple_int, isi_str_int, isi_int_int, isi_bool_int, fl_str, isi_tuple_str, isi_str_str, isi_int_str, isi_bool_str, fl_tup, isi_tuple_tup, isi_str_tup, isi_int_tup, isi_bool_tup, fl_lst, isi_tuple_lst, isi_str_lst, isi_int_lst, isi_bool_lst, eqv_non_non, eqv_non_bl, eqv_non_int, eqv_non_str, eqv_non_tup, eqv_non_lst, eqv_bl_non, eqv_bl_bl, eqv_bl_int, eqv_bl_str, eqv_bl_tup, eqv_bl_lst, eqv_int_non, eqv_int_bl, eqv_int_int, eqv_int_str, eqv_int_tup, eqv_int_lst, eqv_str_non, eqv_str_bl, eqv_str_int, eqv_str_str, eqv_str_tup, eqv_str_lst, eqv_tup_non, eqv_tup_bl, eqv_tup_int, eqv_tup_str, eqv_tup_tup, eqv_tup_lst, eqv_lst_non, eqv_lst_bl, eqv_lst_int, eqv_lst_str, eqv_lst_tup, eqv_lst_lst, eqvL_nn, eqvL_cc, eqvL_nc, eqvL_cn, ok_tup, ok_lst, ok_tup50, ok_lst50, ok_tup49, ok_non, ok_bl, ok_int, ok_str, it_tup, it_lst, it_ref, ix_str, ix_scr, ix_tup, ix_lst, ix_ref, sl_str, sl_tup, sl_lst, ln_str, ln_scr, ln_tup, ln_lst, ln_ref, in_int, in_bl, u_neg, u_len, u_isi, u_int, u_abs, u_tup, u_lst_t, u_lst_l, u_range, u_str, u_sorted, u_sortedr, u_sset, u_find, b_max, b_starts, b_index, w_str, w_tup, w_lst, a_bl, a_int, r_tup, at_ref, at_0, at_1, at_2, at_3, at_4, cutl1, cutl2, cutl3, cutl4, cutr2, cutr3, cutr4, cutr5, df_Lchanged, pb_Lchanged, lim_eq, p0, p0', hi, hat, k0, k1, k2, h8, encD, w, c1, c4, l1, l2]
    · simp only [Deed.al] at bd
      obtain ⟨x6, h6, m6⟩ := atD_mem [D.str [], D.str [108], D.str [114], D.str (a ++ [108]), D.str (cutL a none (some (-1))), D.str [120]] (i := number / 4000 % 6) (Int.emod_nonneg _ (by decide)) (Int.emod_lt_of_pos _ (by decide))
      obtain ⟨s, rfl, hs⟩ := mem6 m6
      refine ⟨.join p s q r, by simp only [Deed.al]; omega, ?_⟩
      have la : a.length + 1 ≤ 100000 := by omega
      have lb : a.length ≤ 100000 := by omega
      simp [evalX, evalA, evalS, evalB, runD, fin_same, o_add_i, o_add_s, o_add_l, o_add_t, o_sub, o_mul, o_rep, o_div, o_mod, c_lt, c_le, c_gt, c_ge, c_eq, c_ne, c_is_non, c_isn_non, c_is_bl, c_isn_bl, c_is_int, c_isn_int, c_is_str, c_isn_str, c_is_tup, c_isn_tup, c_is_lst, c_isn_lst, c_mem_s, c_nmem_s, c_mem_t, c_nmem_t, c_mem_l, c_nmem_l, fl_non, isi_tuple_non, isi_str_non, isi_int_non, isi_bool_non, fl_bl, isi_tuple_bl, isi_str_bl, isi_int_bl, isi_bool_bl, fl_int, isi_tuple_int, isi_str_int, isi_int_int, isi_bool_int, fl_str, isi_tuple_str, isi_str_str, isi_int_str, isi_bool_str, fl_tup, isi_tuple_tup, isi_str_tup, isi_int_tup, isi_bool_tup, fl_lst, isi_tuple_lst, isi_str_lst, isi_int_lst, isi_bool_lst, eqv_non_non, eqv_non_bl, eqv_non_int, eqv_non_str, eqv_non_tup, eqv_non_lst, eqv_bl_non, eqv_bl_bl, eqv_bl_int, eqv_bl_str, eqv_bl_tup, eqv_bl_lst, eqv_int_non, eqv_int_bl, eqv_int_int, eqv_int_str, eqv_int_tup, eqv_int_lst, eqv_str_non, eqv_str_bl, eqv_str_int, eqv_str_str, eqv_str_tup, eqv_str_lst, eqv_tup_non, eqv_tup_bl, eqv_tup_int, eqv_tup_str, eqv_tup_tup, eqv_tup_lst, eqv_lst_non, eqv_lst_bl, eqv_lst_int, eqv_lst_str, eqv_lst_tup, eqv_lst_lst, eqvL_nn, eqvL_cc, eqvL_nc, eqvL_cn, ok_tup, ok_lst, ok_tup50, ok_lst50, ok_tup49, ok_non, ok_bl, ok_int, ok_str, it_tup, it_lst, it_ref, ix_str, ix_scr, ix_tup, ix_lst, ix_ref, sl_str, sl_tup, sl_lst, ln_str, ln_scr, ln_tup, ln_lst, ln_ref, in_int, in_bl, u_neg, u_len, u_isi, u_int, u_abs, u_tup, u_lst_t, u_lst_l, u_range, u_str, u_sorted, u_sortedr, u_sset, u_find, b_max, b_starts, b_index, w_str, w_tup, w_lst, a_bl, a_int, r_tup, at_ref, at_0, at_1, at_2, at_3, at_4, cutl1, cutl2, cutl3, cutl4, cutr2, cutr3, cutr4, cutr5, df_Lchanged, pb_Lchanged, lim_eq, p0, p0', hi, hat, k0, k1, k2, h8, h6, la, lb, encD, w, c1, c4, l1, l2]
    · refine ⟨.join p a v r, by simp only [Deed.al] at bd ⊢; omega, ?_⟩
      simp [evalX, evalA, evalS, evalB, runD, fin_same, o_add_i, o_add_s, o_add_l, o_add_t, o_sub, o_mul, o_rep, o_div, o_mod, c_lt, c_le, c_gt, c_ge, c_eq, c_ne, c_is_non, c_isn_non, c_is_bl, c_isn_bl, c_is_int, c_isn_int, c_is_str, c_isn_str, c_is_tup, c_isn_tup, c_is_lst, c_isn_lst, c_mem_s, c_nmem_s, c_mem_t, c_nmem_t, c_mem_l, c_nmem_l, fl_non, isi_tuple_non, isi_str_non, isi_int_non, isi_bool_non, fl_bl, isi_tuple_bl, isi_str_bl, isi_int_bl, isi_bool_bl, fl_int, isi_tuple_int, isi_str_int, isi_int_int, isi_bool_int, fl_str, isi_tuple_str, isi_str_str, isi_int_str, isi_bool_str, fl_tup, isi_tuple_tup, isi_str_tup, isi_int_tup, isi_bool_tup, fl_lst, isi_tuple_lst, isi_str_lst, isi_int_lst, isi_bool_lst, eqv_non_non, eqv_non_bl, eqv_non_int, eqv_non_str, eqv_non_tup, eqv_non_lst, eqv_bl_non, eqv_bl_bl, eqv_bl_int, eqv_bl_str, eqv_bl_tup, eqv_bl_lst, eqv_int_non, eqv_int_bl, eqv_int_int, eqv_int_str, eqv_int_tup, eqv_int_lst, eqv_str_non, eqv_str_bl, eqv_str_int, eqv_str_str, eqv_str_tup, eqv_str_lst, eqv_tup_non, eqv_tup_bl, eqv_tup_int, eqv_tup_str, eqv_tup_tup, eqv_tup_lst, eqv_lst_non, eqv_lst_bl, eqv_lst_int, eqv_lst_str, eqv_lst_tup, eqv_lst_lst, eqvL_nn, eqvL_cc, eqvL_nc, eqvL_cn, ok_tup, ok_lst, ok_tup50, ok_lst50, ok_tup49, ok_non, ok_bl, ok_int, ok_str, it_tup, it_lst, it_ref, ix_str, ix_scr, ix_tup, ix_lst, ix_ref, sl_str, sl_tup, sl_lst, ln_str, ln_scr, ln_tup, ln_lst, ln_ref, in_int, in_bl, u_neg, u_len, u_isi, u_int, u_abs, u_tup, u_lst_t, u_lst_l, u_range, u_str, u_sorted, u_sortedr, u_sset, u_find, b_max, b_starts, b_index, w_str, w_tup, w_lst, a_bl, a_int, r_tup, at_ref, at_0, at_1, at_2, at_3, at_4, cutl1, cutl2, cutl3, cutl4, cutr2, cutr3, cutr4, cutr5, df_Lchanged, pb_Lchanged, lim_eq, p0, p0', hi, hat, k0, k1, k2, h8, encD, w, c1, c4, l1, l2]
    · refine ⟨.join p a q v, by simp only [Deed.al] at bd ⊢; omega, ?_⟩
      simp [evalX, evalA, evalS, evalB, runD, fin_same, o_add_i, o_add_s, o_add_l, o_add_t, o_sub, o_mul, o_rep, o_div, o_mod, c_lt, c_le, c_gt, c_ge, c_eq, c_ne, c_is_non, c_isn_non, c_is_bl, c_isn_bl, c_is_int, c_isn_int, c_is_str, c_isn_str, c_is_tup, c_isn_tup, c_is_lst, c_isn_lst, c_mem_s, c_nmem_s, c_mem_t, c_nmem_t, c_mem_l, c_nmem_l, fl_non, isi_tuple_non, isi_str_non, isi_int_non, isi_bool_non, fl_bl, isi_tuple_bl, isi_str_bl, isi_int_bl, isi_bool_bl, fl_int, isi_tuple_int, isi_str_int, isi_int_int, isi_bool_int, fl_str, isi_tuple_str, isi_str_str, isi_int_str, isi_bool_str, fl_tup, isi_tuple_tup, isi_str_tup, isi_int_tup, isi_bool_tup, fl_lst, isi_tuple_lst, isi_str_lst, isi_int_lst, isi_bool_lst, eqv_non_non, eqv_non_bl, eqv_non_int, eqv_non_str, eqv_non_tup, eqv_non_lst, eqv_bl_non, eqv_bl_bl, eqv_bl_int, eqv_bl_str, eqv_bl_tup, eqv_bl_lst, eqv_int_non, eqv_int_bl, eqv_int_int, eqv_int_str, eqv_int_tup, eqv_int_lst, eqv_str_non, eqv_str_bl, eqv_str_int, eqv_str_str, eqv_str_tup, eqv_str_lst, eqv_tup_non, eqv_tup_bl, eqv_tup_int, eqv_tup_str, eqv_tup_tup, eqv_tup_lst, eqv_lst_non, eqv_lst_bl, eqv_lst_int, eqv_lst_str, eqv_lst_tup, eqv_lst_lst, eqvL_nn, eqvL_cc, eqvL_nc, eqvL_cn, ok_tup, ok_lst, ok_tup50, ok_lst50, ok_tup49, ok_non, ok_bl, ok_int, ok_str, it_tup, it_lst, it_ref, ix_str, ix_scr, ix_tup, ix_lst, ix_ref, sl_str, sl_tup, sl_lst, ln_str, ln_scr, ln_tup, ln_lst, ln_ref, in_int, in_bl, u_neg, u_len, u_isi, u_int, u_abs, u_tup, u_lst_t, u_lst_l, u_range, u_str, u_sorted, u_sortedr, u_sset, u_find, b_max, b_starts, b_index, w_str, w_tup, w_lst, a_bl, a_int, r_tup, at_ref, at_0, at_1, at_2, at_3, at_4, cutl1, cutl2, cutl3, cutl4, cutr2, cutr3, cutr4, cutr5, df_Lchanged, pb_Lchanged, lim_eq, p0, p0', hi, hat, k0, k1, k2, h8, encD, w, c1, c4, l1, l2]
  | shelve p q =>
    rcases w2 with w | w
    · refine ⟨.shelve v q, by simp only [Deed.al] at bd ⊢; omega, ?_⟩
      simp [evalX, evalA, evalS, evalB, runD, fin_same, o_add_i, o_add_s, o_add_l, o_add_t, o_sub, o_mul, o_rep, o_div, o_mod, c_lt, c_le, c_gt, c_ge, c_eq, c_ne, c_is_non, c_isn_non, c_is_bl, c_isn_bl, c_is_int, c_isn_int, c_is_str, c_isn_str, c_is_tup, c_isn_tup, c_is_lst, c_isn_lst, c_mem_s, c_nmem_s, c_mem_t, c_nmem_t, c_mem_l, c_nmem_l, fl_non, isi_tuple_non, isi_str_non, isi_int_non, isi_bool_non, fl_bl, isi_tuple_bl, isi_str_bl, isi_int_bl, isi_bool_bl, fl_int, isi_tuple_int, isi_str_int, isi_int_int, isi_bool_int, fl_str, isi_tuple_str, isi_str_str, isi_int_str, isi_bool_str, fl_tup, isi_tuple_tup, isi_str_tup, isi_int_tup, isi_bool_tup, fl_lst, isi_tuple_lst, isi_str_lst, isi_int_lst, isi_bool_lst, eqv_non_non, eqv_non_bl, eqv_non_int, eqv_non_str, eqv_non_tup, eqv_non_lst, eqv_bl_non, eqv_bl_bl, eqv_bl_int, eqv_bl_str, eqv_bl_tup, eqv_bl_lst, eqv_int_non, eqv_int_bl, eqv_int_int, eqv_int_str, eqv_int_tup, eqv_int_lst, eqv_str_non, eqv_str_bl, eqv_str_int, eqv_str_str, eqv_str_tup, eqv_str_lst, eqv_tup_non, eqv_tup_bl, eqv_tup_int, eqv_tup_str, eqv_tup_tup, eqv_tup_lst, eqv_lst_non, eqv_lst_bl, eqv_lst_int, eqv_lst_str, eqv_lst_tup, eqv_lst_lst, eqvL_nn, eqvL_cc, eqvL_nc, eqvL_cn, ok_tup, ok_lst, ok_tup50, ok_lst50, ok_tup49, ok_non, ok_bl, ok_int, ok_str, it_tup, it_lst, it_ref, ix_str, ix_scr, ix_tup, ix_lst, ix_ref, sl_str, sl_tup, sl_lst, ln_str, ln_scr, ln_tup, ln_lst, ln_ref, in_int, in_bl, u_neg, u_len, u_isi, u_int, u_abs, u_tup, u_lst_t, u_lst_l, u_range, u_str, u_sorted, u_sortedr, u_sset, u_find, b_max, b_starts, b_index, w_str, w_tup, w_lst, a_bl, a_int, r_tup, at_ref, at_0, at_1, at_2, at_3, at_4, cutl1, cutl2, cutl3, cutl4, cutr2, cutr3, cutr4, cutr5, df_Lchanged, pb_Lchanged, lim_eq, p0, p0', hi, hat, k0, k1, k2, h8, encD, w, c1, c4, l1, l2]
    · refine ⟨.shelve p v, by simp only [Deed.al] at bd ⊢; omega, ?_⟩
      simp [evalX, evalA, evalS, evalB, runD, fin_same, o_add_i, o_add_s, o_add_l, o_add_t, o_sub, o_mul, o_rep, o_div, o_mod, c_lt, c_le, c_gt, c_ge, c_eq, c_ne, c_is_non, c_isn_non, c_is_bl, c_isn_bl, c_is_int, c_isn_int, c_is_str, c_isn_str, c_is_tup, c_isn_tup, c_is_lst, c_isn_lst, c_mem_s, c_nmem_s, c_mem_t, c_nmem_t, c_mem_l, c_nmem_l, fl_non, isi_tuple_non, isi_str_non, isi_int_non, isi_bool_non, fl_bl, isi_tuple_bl, isi_str_bl, isi_int_bl, isi_bool_bl, fl_int, isi_tuple_int, isi_str_int, isi_int_int, isi_bool_int, fl_str, isi_tuple_str, isi_str_str, isi_int_str, isi_bool_str, fl_tup, isi_tuple_tup, isi_str_tup, isi_int_tup, isi_bool_tup, fl_lst, isi_tuple_lst, isi_str_lst, isi_int_lst, isi_bool_lst, eqv_non_non, eqv_non_bl, eqv_non_int, eqv_non_str, eqv_non_tup, eqv_non_lst, eqv_bl_non, eqv_bl_bl, eqv_bl_int, eqv_bl_str, eqv_bl_tup, eqv_bl_lst, eqv_int_non, eqv_int_bl, eqv_int_int, eqv_int_str, eqv_int_tup, eqv_int_lst, eqv_str_non, eqv_str_bl, eqv_str_int, eqv_str_str, eqv_str_tup, eqv_str_lst, eqv_tup_non, eqv_tup_bl, eqv_tup_int, eqv_tup_str, eqv_tup_tup, eqv_tup_lst, eqv_lst_non, eqv_lst_bl, eqv_lst_int, eqv_lst_str, eqv_lst_tup, eqv_lst_lst, eqvL_nn, eqvL_cc, eqvL_nc, eqvL_cn, ok_tup, ok_lst, ok_tup50, ok_lst50, ok_tup49, ok_non, ok_bl, ok_int, ok_str, it_tup, it_lst, it_ref, ix_str, ix_scr, ix_tup, ix_lst, ix_ref, sl_str, sl_tup, sl_lst, ln_str, ln_scr, ln_tup, ln_lst, ln_ref, in_int, in_bl, u_neg, u_len, u_isi, u_int, u_abs, u_tup, u_lst_t, u_lst_l, u_range, u_str, u_sorted, u_sortedr, u_sset, u_find, b_max, b_starts, b_index, w_str, w_tup, w_lst, a_bl, a_int, r_tup, at_ref, at_0, at_1, at_2, at_3, at_4, cutl1, cutl2, cutl3, cutl4, cutr2, cutr3, cutr4, cutr5, df_Lchanged, pb_Lchanged, lim_eq, p0, p0', hi, hat, k0, k1, k2, h8, encD, w, c1, c4, l1, l2]
  | fetch p q =>
    rcases w2 with w | w
    · refine ⟨.fetch v q, by simp only [Deed.al] at bd ⊢; omega, ?_⟩
      simp [evalX, evalA, evalS, evalB, runD, fin_same, o_add_i, o_add_s, o_add_l, o_add_t, o_sub, o_mul, o_rep, o_div, o_mod, c_lt, c_le, c_gt, c_ge, c_eq, c_ne, c_is_non, c_isn_non, c_is_bl, c_isn_bl, c_is_int, c_isn_int, c_is_str, c_isn_str, c_is_tup, c_isn_tup, c_is_lst, c_isn_lst, c_mem_s, c_nmem_s, c_mem_t, c_nmem_t, c_mem_l, c_nmem_l, fl_non, isi_tuple_non, isi_str_non, isi_int_non, isi_bool_non, fl_bl, isi_tuple_bl, isi_str_bl, isi_int_bl, isi_bool_bl, fl_int, isi_tuple_int, isi_str_int, isi_int_int, isi_bool_int, fl_str, isi_tuple_str, isi_str_str, isi_int_str, isi_bool_str, fl_tup, isi_tuple_tup, isi_str_tup, isi_int_tup, isi_bool_tup, fl_lst, isi_tuple_lst, isi_str_lst, isi_int_lst, isi_bool_lst, eqv_non_non, eqv_non_bl, eqv_non_int, eqv_non_str, eqv_non_tup, eqv_non_lst, eqv_bl_non, eqv_bl_bl, eqv_bl_int, eqv_bl_str, eqv_bl_tup, eqv_bl_lst, eqv_int_non, eqv_int_bl, eqv_int_int, eqv_int_str, eqv_int_tup, eqv_int_lst, eqv_str_non, eqv_str_bl, eqv_str_int, eqv_str_str, eqv_str_tup, eqv_str_lst, eqv_tup_non, eqv_tup_bl, eqv_tup_int, eqv_tup_str, eqv_tup_tup, eqv_tup_lst, eqv_lst_non, eqv_lst_bl, eqv_lst_int, eqv_lst_str, eqv_lst_tup, eqv_lst_lst, eqvL_nn, eqvL_cc, eqvL_nc, eqvL_cn, ok_tup, ok_lst, ok_tup50, ok_lst50, ok_tup49, ok_non, ok_bl, ok_int, ok_str, it_tup, it_lst, it_ref, ix_str, ix_scr, ix_tup, ix_lst, ix_ref, sl_str, sl_tup, sl_lst, ln_str, ln_scr, ln_tup, ln_lst, ln_ref, in_int, in_bl, u_neg, u_len, u_isi, u_int, u_abs, u_tup, u_lst_t, u_lst_l, u_range, u_str, u_sorted, u_sortedr, u_sset, u_find, b_max, b_starts, b_index, w_str, w_tup, w_lst, a_bl, a_int, r_tup, at_ref, at_0, at_1, at_2, at_3, at_4, cutl1, cutl2, cutl3, cutl4, cutr2, cutr3, cutr4, cutr5, df_Lchanged, pb_Lchanged, lim_eq, p0, p0', hi, hat, k0, k1, k2, h8, encD, w, c1, c4, l1, l2]
    · refine ⟨.fetch p v, by simp only [Deed.al] at bd ⊢; omega, ?_⟩
      simp [evalX, evalA, evalS, evalB, runD, fin_same, o_add_i, o_add_s, o_add_l, o_add_t, o_sub, o_mul, o_rep, o_div, o_mod, c_lt, c_le, c_gt, c_ge, c_eq, c_ne, c_is_non, c_isn_non, c_is_bl, c_isn_bl, c_is_int, c_isn_int, c_is_str, c_isn_str, c_is_tup, c_isn_tup, c_is_lst, c_isn_lst, c_mem_s, c_nmem_s, c_mem_t, c_nmem_t, c_mem_l, c_nmem_l, fl_non, isi_tuple_non, isi_str_non, isi_int_non, isi_bool_non, fl_bl, isi_tuple_bl, isi_str_bl, isi_int_bl, isi_bool_bl, fl_int, isi_tuple_int, isi_str_int, isi_int_int, isi_bool_int, fl_str, isi_tuple_str, isi_str_str, isi_int_str, isi_bool_str, fl_tup, isi_tuple_tup, isi_str_tup, isi_int_tup, isi_bool_tup, fl_lst, isi_tuple_lst, isi_str_lst, isi_int_lst, isi_bool_lst, eqv_non_non, eqv_non_bl, eqv_non_int, eqv_non_str, eqv_non_tup, eqv_non_lst, eqv_bl_non, eqv_bl_bl, eqv_bl_int, eqv_bl_str, eqv_bl_tup, eqv_bl_lst, eqv_int_non, eqv_int_bl, eqv_int_int, eqv_int_str, eqv_int_tup, eqv_int_lst, eqv_str_non, eqv_str_bl, eqv_str_int, eqv_str_str, eqv_str_tup, eqv_str_lst, eqv_tup_non, eqv_tup_bl, eqv_tup_int, eqv_tup_str, eqv_tup_tup, eqv_tup_lst, eqv_lst_non, eqv_lst_bl, eqv_lst_int, eqv_lst_str, eqv_lst_tup, eqv_lst_lst, eqvL_nn, eqvL_cc, eqvL_nc, eqvL_cn, ok_tup, ok_lst, ok_tup50, ok_lst50, ok_tup49, ok_non, ok_bl, ok_int, ok_str, it_tup, it_lst, it_ref, ix_str, ix_scr, ix_tup, ix_lst, ix_ref, sl_str, sl_tup, sl_lst, ln_str, ln_scr, ln_tup, ln_lst, ln_ref, in_int, in_bl, u_neg, u_len, u_isi, u_int, u_abs, u_tup, u_lst_t, u_lst_l, u_range, u_str, u_sorted, u_sortedr, u_sset, u_find, b_max, b_starts, b_index, w_str, w_tup, w_lst, a_bl, a_int, r_tup, at_ref, at_0, at_1, at_2, at_3, at_4, cutl1, cutl2, cutl3, cutl4, cutr2, cutr3, cutr4, cutr5, df_Lchanged, pb_Lchanged, lim_eq, p0, p0', hi, hat, k0, k1, k2, h8, encD, w, c1, c4, l1, l2]

theorem work_al (c : Dr) (t : T) (a : Tx) (fr : List Nat) (h : a.length + t.dep ≤ 900) : ∀ d ∈ work c t a fr, d.al ≤ 900 := fun d hd => by
  have := work_fit c t a fr h d hd
  cases d with
  | put p b => exact this b (.inl rfl)
  | join p b q r => exact this b (.inr ⟨q, r, rfl⟩)
  | shelve s p => exact Nat.zero_le _
  | fetch p s => exact Nat.zero_le _
/-- the drawn code: not too long, its addresses neither, not empty -/
theorem Lcode_al (t : T) (hc : t.cnt ≤ 16) {n : Nat} (hn : 30 ≤ n) (number : Int) (k : Nat) (hk : 2 ≤ k) (hk2 : k ≤ 8) (M : Ms) : ∃ code : List Deed, code.length ≤ 300 ∧ (∀ d ∈ code, d.al ≤ 900) ∧ 1 ≤ code.length ∧ callF prog n f_Lcode [enc t, .int number, .int k] M = some (.lst (code.map encD), M) := by
  obtain ⟨pre, hpre, ec⟩ := Lcode_ex t hc hn number k hk hk2 M
  have td := t.dep_lt
  refine ⟨_, ?_, ?_, ?_, ec⟩
  · have w1 := work_len (drOf t number) t [] (List.range k)
    rw [List.length_append]
    rcases hpre with rfl | ⟨b, u, hu, rfl⟩
    · simp; omega
    · have := part_cnt2 b t u hu
      have w2 := work_len (drOf t (number / 64)) u b (List.range k)
      omega
  · intro d hd
    rcases List.mem_append.mp hd with hd | hd
    · rcases hpre with rfl | ⟨b, u, hu, rfl⟩
      · simp at hd
      · have := part_len2 b t u hu
        have := part_cnt2 b t u hu
        have := u.dep_lt
        exact work_al _ u b _ (by omega) d hd
    · exact work_al _ t [] _ (by simp; omega) d hd
  · rw [List.length_append]
    have : 1 ≤ (work (drOf t number) t [] (List.range k)).length := by
      cases t with
      | num j => simp [work]
      | join w l r =>
        simp only [work]
        split <;> split <;> simp only [List.length_append, List.length_cons, List.length_nil] <;> omega
    omega

/-! ### the law -/
theorem encD_ok (d : Deed) : (encD d).ok 49 = true := by cases d <;> rfl
theorem chg_loop (ns : List Int) (x1 x2 : D) : ∀ (js : List Nat) (code : List Deed) (L B : Nat) (x4 : Option D), code.length ≤ L → L + js.length ≤ 900 → (∀ d ∈ code, d.al ≤ B) → B + js.length ≤ 980 → (∀ j ∈ js, j ≤ 900) →
    ∃ (code' : List Deed) (y4 : Option D), loop (evalB (callF prog 39) lb_law_0) 4 (js.map fun (j : Nat) => D.int j) [some (.scr ns), some x1, some x2, some (.lst (code.map encD)), x4, none, none, none] [] =
      some (.nx [some (.scr ns), some x1, some x2, some (.lst (code'.map encD)), y4, none, none, none] []) ∧ code'.length ≤ L + js.length ∧ ∀ d ∈ code', d.al ≤ B + js.length
  | [], code, L, B, x4, hL, _, hB, _, _ => ⟨code, x4, rfl, hL, hB⟩
  | j :: js, code, L, B, x4, hL, hL2, hB, hB2, hj => by
    simp only [List.length_cons] at hL2 hB2 ⊢
    have mx := Lmixed_eq (n := 39) (by decide) ns (k := 4 + (j : Int)) (by omega) (by have := hj j (by simp); omega) []
    cases code with
    | nil =>
      obtain ⟨c', y4, e, h1, h2⟩ := chg_loop ns x1 x2 js [] (L + 1) (B + 1) (some (.int j)) (by simp) (by omega) (by simp) (by omega) (fun i hi => hj i (List.mem_cons_of_mem _ hi))
      refine ⟨c', y4, ?_, by omega, fun d hd => by have := h2 d hd; omega⟩
      rw [List.map_cons, loop_nx (ρ' := [some (.scr ns), some x1, some x2, some (.lst []), some (.int j), none, none, none]) (M' := []) (by simp [evalX, evalA, evalS, evalB, runD, fin_same, o_add_i, o_add_s, o_add_l, o_add_t, o_sub, o_mul, o_rep, o_div, o_mod, c_lt, c_le, c_gt, c_ge, c_eq, c_ne, c_is_non, c_isn_non, c_is_bl, c_isn_bl, c_is_int, c_isn_int, c_is_str, c_isn_str, c_is_tup, c_isn_tup, c_is_lst, c_isn_lst, c_mem_s, c_nmem_s, c_mem_t, c_nmem_t, c_mem_l, c_nmem_l, fl_non, isi_tuple_non, isi_str_non, isi_int_non, isi_bool_non, fl_bl, isi_tuple_bl, isi_str_bl, isi_int_bl, isi_bool_bl, fl_int, isi_tuple_int, isi_str_int, isi_int_int, isi_bool_int, fl_str, isi_tuple_str, isi_str_str, isi_int_str, isi_bool_str, fl_tup, isi_tuple_tup, isi_str_tup, isi_int_tup, isi_bool_tup, fl_lst, isi_tuple_lst, isi_str_lst, isi_int_lst, isi_bool_lst, eqv_non_non, eqv_non_bl, eqv_non_int, eqv_non_str, eqv_non_tup, eqv_non_lst, eqv_bl_non, eqv_bl_bl, eqv_bl_int, eqv_bl_str, eqv_bl_tup, eqv_bl_lst, eqv_int_non, eqv_int_bl, eqv_int_int, eqv_int_str, eqv_int_tup, eqv_int_lst, eqv_str_non, eqv_str_bl, eqv_str_int, eqv_str_str, eqv_str_tup, eqv_str_lst, eqv_tup_non, eqv_tup_bl, eqv_tup_int, eqv_tup_str, eqv_tup_tup, eqv_tup_lst, eqv_lst_non, eqv_lst_bl, eqv_lst_int, eqv_lst_str, eqv_lst_tup, eqv_lst_lst, eqvL_nn, eqvL_cc, eqvL_nc, eqvL_cn, ok_tup, ok_lst, ok_tup50, ok_lst50, ok_tup49, ok_non, ok_bl, ok_int, ok_str, it_tup, it_lst, it_ref, ix_str, ix_scr, ix_tup, ix_lst, ix_ref, sl_str, sl_tup, sl_lst, ln_str, ln_scr, ln_tup, ln_lst, ln_ref, in_int, in_bl, u_neg, u_len, u_isi, u_int, u_abs, u_tup, u_lst_t, u_lst_l, u_range, u_str, u_sorted, u_sortedr, u_sset, u_find, b_max, b_starts, b_index, w_str, w_tup, w_lst, a_bl, a_int, r_tup, at_ref, at_0, at_1, at_2, at_3, at_4, lb_law_0])]
      exact e
    | cons d0 rest =>
      obtain ⟨c1, e1, l1, b1⟩ := Lchanged_ex (n := 39) (by decide) (d0 :: rest) (by simp) (by omega) B (by omega) hB (mixed ns (4 + (j : Int))) []
      obtain ⟨c', y4, e, h1, h2⟩ := chg_loop ns x1 x2 js c1 (L + 1) (B + 1) (some (.int j)) (by omega) (by omega) b1 (by omega) (fun i hi => hj i (List.mem_cons_of_mem _ hi))
      refine ⟨c', y4, ?_, by omega, fun d hd => by have := h2 d hd; omega⟩
      have ok1 : ∀ ds : List Deed, (ds.map encD).all (D.ok 49) = true := fun ds => by simp [encD_ok]
      have ok2 := encD_ok d0
      have ok3 := ok1 rest
      simp only [List.map_cons] at e1
      rw [List.map_cons, loop_nx (ρ' := [some (.scr ns), some x1, some x2, some (.lst (c1.map encD)), some (.int j), none, none, none]) (M' := []) (by
        simp [evalX, evalA, evalS, evalB, runD, fin_same, o_add_i, o_add_s, o_add_l, o_add_t, o_sub, o_mul, o_rep, o_div, o_mod, c_lt, c_le, c_gt, c_ge, c_eq, c_ne, c_is_non, c_isn_non, c_is_bl, c_isn_bl, c_is_int, c_isn_int, c_is_str, c_isn_str, c_is_tup, c_isn_tup, c_is_lst, c_isn_lst, c_mem_s, c_nmem_s, c_mem_t, c_nmem_t, c_mem_l, c_nmem_l, fl_non, isi_tuple_non, isi_str_non, isi_int_non, isi_bool_non, fl_bl, isi_tuple_bl, isi_str_bl, isi_int_bl, isi_bool_bl, fl_int, isi_tuple_int, isi_str_int, isi_int_int, isi_bool_int, fl_str, isi_tuple_str, isi_str_str, isi_int_str, isi_bool_str, fl_tup, isi_tuple_tup, isi_str_tup, isi_int_tup, isi_bool_tup, fl_lst, isi_tuple_lst, isi_str_lst, isi_int_lst, isi_bool_lst, eqv_non_non, eqv_non_bl, eqv_non_int, eqv_non_str, eqv_non_tup, eqv_non_lst, eqv_bl_non, eqv_bl_bl, eqv_bl_int, eqv_bl_str, eqv_bl_tup, eqv_bl_lst, eqv_int_non, eqv_int_bl, eqv_int_int, eqv_int_str, eqv_int_tup, eqv_int_lst, eqv_str_non, eqv_str_bl, eqv_str_int, eqv_str_str, eqv_str_tup, eqv_str_lst, eqv_tup_non, eqv_tup_bl, eqv_tup_int, eqv_tup_str, eqv_tup_tup, eqv_tup_lst, eqv_lst_non, eqv_lst_bl, eqv_lst_int, eqv_lst_str, eqv_lst_tup, eqv_lst_lst, eqvL_nn, eqvL_cc, eqvL_nc, eqvL_cn, ok_tup, ok_lst, ok_tup50, ok_lst50, ok_tup49, ok_non, ok_bl, ok_int, ok_str, it_tup, it_lst, it_ref, ix_str, ix_scr, ix_tup, ix_lst, ix_ref, sl_str, sl_tup, sl_lst, ln_str, ln_scr, ln_tup, ln_lst, ln_ref, in_int, in_bl, u_neg, u_len, u_isi, u_int, u_abs, u_tup, u_lst_t, u_lst_l, u_range, u_str, u_sorted, u_sortedr, u_sset, u_find, b_max, b_starts, b_index, w_str, w_tup, w_lst, a_bl, a_int, r_tup, at_ref, at_0, at_1, at_2, at_3, at_4, lb_law_0, mx, e1, encD_ok])]
      exact e
theorem encR_ok (o : Option (Row × Row)) : (encR o).ok 50 = true := by
  cases o with
  | none => rfl
  | some s => simp [encR, D.ok, encH_ok]
theorem encR_is (o : Option (Row × Row)) : (encR o = .non) ↔ o = none := by cases o <;> simp [encR]
def lawDepth : Nat := 40
theorem law_holds (ns : List Int) (h : ns.length ≤ 63) : ∃ M, callF prog lawDepth f_law [.scr ns] [] = some (.bl true, M) := by
  refine ⟨[], ?_⟩
  have mx := fun k hk hk2 => Lmixed_eq (n := 39) (by decide) ns (k := k) hk hk2 []
  obtain ⟨t, tc, tg, e0⟩ := Ldrawn_tree_ex (n := 39) (by decide) (mixed ns 0) []
  obtain ⟨p, hp, p0, p1⟩ : ∃ p : Nat, 2 + mixed ns 1 % 7 = (p : Int) ∧ 2 ≤ p ∧ p ≤ 8 := by
    have a := Int.emod_nonneg (mixed ns 1) (show (7 : Int) ≠ 0 by decide)
    have b := Int.emod_lt_of_pos (mixed ns 1) (show (0 : Int) < 7 by decide)
    exact ⟨(2 + mixed ns 1 % 7).toNat, by omega, by omega, by omega⟩
  obtain ⟨j, hj, j0⟩ : ∃ j : Nat, mixed ns 3 % 4 = (j : Int) ∧ j ≤ 3 := by
    have a := Int.emod_nonneg (mixed ns 3) (show (4 : Int) ≠ 0 by decide)
    have b := Int.emod_lt_of_pos (mixed ns 3) (show (0 : Int) < 4 by decide)
    exact ⟨(mixed ns 3 % 4).toNat, by omega, by omega⟩
  have td := t.dep_lt
  rw [show lawDepth = 39 + 1 from rfl, call1 at_law]
  suffices H : evalB (callF prog 39) pb_law [some (.scr ns), none, none, none, none, none, none, none] [] = some (.rt (.bl true) []) by
    simp [runD, df_law, H]
  rw [pb_law]
  rw [evB_nx (ρ' := [some (.scr ns), some (enc t), none, none, none, none, none, none]) (M' := []) (by simp [evalX, evalA, evalS, evalB, runD, fin_same, o_add_i, o_add_s, o_add_l, o_add_t, o_sub, o_mul, o_rep, o_div, o_mod, c_lt, c_le, c_gt, c_ge, c_eq, c_ne, c_is_non, c_isn_non, c_is_bl, c_isn_bl, c_is_int, c_isn_int, c_is_str, c_isn_str, c_is_tup, c_isn_tup, c_is_lst, c_isn_lst, c_mem_s, c_nmem_s, c_mem_t, c_nmem_t, c_mem_l, c_nmem_l, fl_non, isi_tuple_non, isi_str_non, isi_int_non, isi_bool_non, fl_bl, isi_tuple_bl, isi_str_bl, isi_int_bl, isi_bool_bl, fl_int, isi_tuple_int, isi_str_int, isi_int_int, isi_bool_int, fl_str, isi_tuple_str, isi_str_str, isi_int_str, isi_bool_str, fl_tup, isi_tuple_tup, isi_str_tup, isi_int_tup, isi_bool_tup, fl_lst, isi_tuple_lst, isi_str_lst, isi_int_lst, isi_bool_lst, eqv_non_non, eqv_non_bl, eqv_non_int, eqv_non_str, eqv_non_tup, eqv_non_lst, eqv_bl_non, eqv_bl_bl, eqv_bl_int, eqv_bl_str, eqv_bl_tup, eqv_bl_lst, eqv_int_non, eqv_int_bl, eqv_int_int, eqv_int_str, eqv_int_tup, eqv_int_lst, eqv_str_non, eqv_str_bl, eqv_str_int, eqv_str_str, eqv_str_tup, eqv_str_lst, eqv_tup_non, eqv_tup_bl, eqv_tup_int, eqv_tup_str, eqv_tup_tup, eqv_tup_lst, eqv_lst_non, eqv_lst_bl, eqv_lst_int, eqv_lst_str, eqv_lst_tup, eqv_lst_lst, eqvL_nn, eqvL_cc, eqvL_nc, eqvL_cn, ok_tup, ok_lst, ok_tup50, ok_lst50, ok_tup49, ok_non, ok_bl, ok_int, ok_str, it_tup, it_lst, it_ref, ix_str, ix_scr, ix_tup, ix_lst, ix_ref, sl_str, sl_tup, sl_lst, ln_str, ln_scr, ln_tup, ln_lst, ln_ref, in_int, in_bl, u_neg, u_len, u_isi, u_int, u_abs, u_tup, u_lst_t, u_lst_l, u_range, u_str, u_sorted, u_sortedr, u_sset, u_find, b_max, b_starts, b_index, w_str, w_tup, w_lst, a_bl, a_int, r_tup, at_ref, at_0, at_1, at_2, at_3, at_4, sb_law_0, mx, e0])]
  rw [evB_nx (ρ' := [some (.scr ns), some (enc t), some (.int p), none, none, none, none, none]) (M' := []) (by simp [evalX, evalA, evalS, evalB, runD, fin_same, o_add_i, o_add_s, o_add_l, o_add_t, o_sub, o_mul, o_rep, o_div, o_mod, c_lt, c_le, c_gt, c_ge, c_eq, c_ne, c_is_non, c_isn_non, c_is_bl, c_isn_bl, c_is_int, c_isn_int, c_is_str, c_isn_str, c_is_tup, c_isn_tup, c_is_lst, c_isn_lst, c_mem_s, c_nmem_s, c_mem_t, c_nmem_t, c_mem_l, c_nmem_l, fl_non, isi_tuple_non, isi_str_non, isi_int_non, isi_bool_non, fl_bl, isi_tuple_bl, isi_str_bl, isi_int_bl, isi_bool_bl, fl_int, isi_tuple_int, isi_str_int, isi_int_int, isi_bool_int, fl_str, isi_tuple_str, isi_str_str, isi_int_str, isi_bool_str, fl_tup, isi_tuple_tup, isi_str_tup, isi_int_tup, isi_bool_tup, fl_lst, isi_tuple_lst, isi_str_lst, isi_int_lst, isi_bool_lst, eqv_non_non, eqv_non_bl, eqv_non_int, eqv_non_str, eqv_non_tup, eqv_non_lst, eqv_bl_non, eqv_bl_bl, eqv_bl_int, eqv_bl_str, eqv_bl_tup, eqv_bl_lst, eqv_int_non, eqv_int_bl, eqv_int_int, eqv_int_str, eqv_int_tup, eqv_int_lst, eqv_str_non, eqv_str_bl, eqv_str_int, eqv_str_str, eqv_str_tup, eqv_str_lst, eqv_tup_non, eqv_tup_bl, eqv_tup_int, eqv_tup_str, eqv_tup_tup, eqv_tup_lst, eqv_lst_non, eqv_lst_bl, eqv_lst_int, eqv_lst_str, eqv_lst_tup, eqv_lst_lst, eqvL_nn, eqvL_cc, eqvL_nc, eqvL_cn, ok_tup, ok_lst, ok_tup50, ok_lst50, ok_tup49, ok_non, ok_bl, ok_int, ok_str, it_tup, it_lst, it_ref, ix_str, ix_scr, ix_tup, ix_lst, ix_ref, sl_str, sl_tup, sl_lst, ln_str, ln_scr, ln_tup, ln_lst, ln_ref, in_int, in_bl, u_neg, u_len, u_isi, u_int, u_abs, u_tup, u_lst_t, u_lst_l, u_range, u_str, u_sorted, u_sortedr, u_sset, u_find, b_max, b_starts, b_index, w_str, w_tup, w_lst, a_bl, a_int, r_tup, at_ref, at_0, at_1, at_2, at_3, at_4, sb_law_1, mx, hp])]
  obtain ⟨c0, c0l, c0a, c01, ec⟩ := Lcode_al t tc (n := 39) (by decide) (mixed ns 2) p p0 p1 []
  rw [evB_nx (ρ' := [some (.scr ns), some (enc t), some (.int p), some (.lst (c0.map encD)), none, none, none, none]) (M' := []) (by simp [evalX, evalA, evalS, evalB, runD, fin_same, o_add_i, o_add_s, o_add_l, o_add_t, o_sub, o_mul, o_rep, o_div, o_mod, c_lt, c_le, c_gt, c_ge, c_eq, c_ne, c_is_non, c_isn_non, c_is_bl, c_isn_bl, c_is_int, c_isn_int, c_is_str, c_isn_str, c_is_tup, c_isn_tup, c_is_lst, c_isn_lst, c_mem_s, c_nmem_s, c_mem_t, c_nmem_t, c_mem_l, c_nmem_l, fl_non, isi_tuple_non, isi_str_non, isi_int_non, isi_bool_non, fl_bl, isi_tuple_bl, isi_str_bl, isi_int_bl, isi_bool_bl, fl_int, isi_tuple_int, isi_str_int, isi_int_int, isi_bool_int, fl_str, isi_tuple_str, isi_str_str, isi_int_str, isi_bool_str, fl_tup, isi_tuple_tup, isi_str_tup, isi_int_tup, isi_bool_tup, fl_lst, isi_tuple_lst, isi_str_lst, isi_int_lst, isi_bool_lst, eqv_non_non, eqv_non_bl, eqv_non_int, eqv_non_str, eqv_non_tup, eqv_non_lst, eqv_bl_non, eqv_bl_bl, eqv_bl_int, eqv_bl_str, eqv_bl_tup, eqv_bl_lst, eqv_int_non, eqv_int_bl, eqv_int_int, eqv_int_str, eqv_int_tup, eqv_int_lst, eqv_str_non, eqv_str_bl, eqv_str_int, eqv_str_str, eqv_str_tup, eqv_str_lst, eqv_tup_non, eqv_tup_bl, eqv_tup_int, eqv_tup_str, eqv_tup_tup, eqv_tup_lst, eqv_lst_non, eqv_lst_bl, eqv_lst_int, eqv_lst_str, eqv_lst_tup, eqv_lst_lst, eqvL_nn, eqvL_cc, eqvL_nc, eqvL_cn, ok_tup, ok_lst, ok_tup50, ok_lst50, ok_tup49, ok_non, ok_bl, ok_int, ok_str, it_tup, it_lst, it_ref, ix_str, ix_scr, ix_tup, ix_lst, ix_ref, sl_str, sl_tup, sl_lst, ln_str, ln_scr, ln_tup, ln_lst, ln_ref, in_int, in_bl, u_neg, u_len, u_isi, u_int, u_abs, u_tup, u_lst_t, u_lst_l, u_range, u_str, u_sorted, u_sortedr, u_sset, u_find, b_max, b_starts, b_index, w_str, w_tup, w_lst, a_bl, a_int, r_tup, at_ref, at_0, at_1, at_2, at_3, at_4, sb_law_2, mx, ec])]
  obtain ⟨code, y4, el, cl, ca⟩ := chg_loop ns (enc t) (.int p) (List.range j) c0 300 900 none c0l (by simp; omega) c0a (by simp; omega) (fun i hi => by simp at hi; omega)
  rw [evB_nx (ρ' := [some (.scr ns), some (enc t), some (.int p), some (.lst (code.map encD)), y4, none, none, none]) (M' := []) (by
    have j1 : (j : Int) ≤ 1000 := by omega
    simp [evalX, evalA, evalS, evalB, runD, fin_same, o_add_i, o_add_s, o_add_l, o_add_t, o_sub, o_mul, o_rep, o_div, o_mod, c_lt, c_le, c_gt, c_ge, c_eq, c_ne, c_is_non, c_isn_non, c_is_bl, c_isn_bl, c_is_int, c_isn_int, c_is_str, c_isn_str, c_is_tup, c_isn_tup, c_is_lst, c_isn_lst, c_mem_s, c_nmem_s, c_mem_t, c_nmem_t, c_mem_l, c_nmem_l, fl_non, isi_tuple_non, isi_str_non, isi_int_non, isi_bool_non, fl_bl, isi_tuple_bl, isi_str_bl, isi_int_bl, isi_bool_bl, fl_int, isi_tuple_int, isi_str_int, isi_int_int, isi_bool_int, fl_str, isi_tuple_str, isi_str_str, isi_int_str, isi_bool_str, fl_tup, isi_tuple_tup, isi_str_tup, isi_int_tup, isi_bool_tup, fl_lst, isi_tuple_lst, isi_str_lst, isi_int_lst, isi_bool_lst, eqv_non_non, eqv_non_bl, eqv_non_int, eqv_non_str, eqv_non_tup, eqv_non_lst, eqv_bl_non, eqv_bl_bl, eqv_bl_int, eqv_bl_str, eqv_bl_tup, eqv_bl_lst, eqv_int_non, eqv_int_bl, eqv_int_int, eqv_int_str, eqv_int_tup, eqv_int_lst, eqv_str_non, eqv_str_bl, eqv_str_int, eqv_str_str, eqv_str_tup, eqv_str_lst, eqv_tup_non, eqv_tup_bl, eqv_tup_int, eqv_tup_str, eqv_tup_tup, eqv_tup_lst, eqv_lst_non, eqv_lst_bl, eqv_lst_int, eqv_lst_str, eqv_lst_tup, eqv_lst_lst, eqvL_nn, eqvL_cc, eqvL_nc, eqvL_cn, ok_tup, ok_lst, ok_tup50, ok_lst50, ok_tup49, ok_non, ok_bl, ok_int, ok_str, it_tup, it_lst, it_ref, ix_str, ix_scr, ix_tup, ix_lst, ix_ref, sl_str, sl_tup, sl_lst, ln_str, ln_scr, ln_tup, ln_lst, ln_ref, in_int, in_bl, u_neg, u_len, u_isi, u_int, u_abs, u_tup, u_lst_t, u_lst_l, u_range, u_str, u_sorted, u_sortedr, u_sset, u_find, b_max, b_starts, b_index, w_str, w_tup, w_lst, a_bl, a_int, r_tup, at_ref, at_0, at_1, at_2, at_3, at_4, sb_law_3, mx, hj, j1]
    exact el)]
  rw [List.length_range] at cl ca
  rw [evB_nx (ρ' := [some (.scr ns), some (enc t), some (.int p), some (.tup (code.map encD)), y4, none, none, none]) (M' := []) (by simp [evalX, evalA, evalS, evalB, runD, fin_same, o_add_i, o_add_s, o_add_l, o_add_t, o_sub, o_mul, o_rep, o_div, o_mod, c_lt, c_le, c_gt, c_ge, c_eq, c_ne, c_is_non, c_isn_non, c_is_bl, c_isn_bl, c_is_int, c_isn_int, c_is_str, c_isn_str, c_is_tup, c_isn_tup, c_is_lst, c_isn_lst, c_mem_s, c_nmem_s, c_mem_t, c_nmem_t, c_mem_l, c_nmem_l, fl_non, isi_tuple_non, isi_str_non, isi_int_non, isi_bool_non, fl_bl, isi_tuple_bl, isi_str_bl, isi_int_bl, isi_bool_bl, fl_int, isi_tuple_int, isi_str_int, isi_int_int, isi_bool_int, fl_str, isi_tuple_str, isi_str_str, isi_int_str, isi_bool_str, fl_tup, isi_tuple_tup, isi_str_tup, isi_int_tup, isi_bool_tup, fl_lst, isi_tuple_lst, isi_str_lst, isi_int_lst, isi_bool_lst, eqv_non_non, eqv_non_bl, eqv_non_int, eqv_non_str, eqv_non_tup, eqv_non_lst, eqv_bl_non, eqv_bl_bl, eqv_bl_int, eqv_bl_str, eqv_bl_tup, eqv_bl_lst, eqv_int_non, eqv_int_bl, eqv_int_int, eqv_int_str, eqv_int_tup, eqv_int_lst, eqv_str_non, eqv_str_bl, eqv_str_int, eqv_str_str, eqv_str_tup, eqv_str_lst, eqv_tup_non, eqv_tup_bl, eqv_tup_int, eqv_tup_str, eqv_tup_tup, eqv_tup_lst, eqv_lst_non, eqv_lst_bl, eqv_lst_int, eqv_lst_str, eqv_lst_tup, eqv_lst_lst, eqvL_nn, eqvL_cc, eqvL_nc, eqvL_cn, ok_tup, ok_lst, ok_tup50, ok_lst50, ok_tup49, ok_non, ok_bl, ok_int, ok_str, it_tup, it_lst, it_ref, ix_str, ix_scr, ix_tup, ix_lst, ix_ref, sl_str, sl_tup, sl_lst, ln_str, ln_scr, ln_tup, ln_lst, ln_ref, in_int, in_bl, u_neg, u_len, u_isi, u_int, u_abs, u_tup, u_lst_t, u_lst_l, u_range, u_str, u_sorted, u_sortedr, u_sset, u_find, b_max, b_starts, b_index, w_str, w_tup, w_lst, a_bl, a_int, r_tup, at_ref, at_0, at_1, at_2, at_3, at_4, sb_law_4])]
  have fit : ∀ d ∈ code, d.fit := fun d hd => al_fit (by have := ca d hd; omega)
  have re := run_eq (n := 39) (by decide) t code fit p (by omega)
  have lr := Lrun_eq (n := 39) (by decide) t code fit p (by omega)
  have wl2 : code.length ≤ lim := by rw [lim_eq]; omega
  obtain ⟨i, hi, i1⟩ : ∃ i : Nat, mixed ns 8 % ((code.length : Int) + 1) = (i : Int) ∧ i ≤ code.length := by
    have a := Int.emod_nonneg (mixed ns 8) (show (code.length : Int) + 1 ≠ 0 by omega)
    have b := Int.emod_lt_of_pos (mixed ns 8) (show (0 : Int) < (code.length : Int) + 1 by omega)
    exact ⟨(mixed ns 8 % ((code.length : Int) + 1)).toNat, by omega, by omega⟩
  have re2 := run_eq (n := 39) (by decide) t (code.take i) (fun d hd => fit d (List.mem_of_mem_take hd)) p (by omega)
  have mono : runR t (code.take i) p = none → runR t code p = none := fun z => by
    have : runR t code p = (runR t (code.take i) p).bind (runP t (code.drop i)) := by
      show runP t code _ = _
      rw [show runP t code (empty p, empty 41) = runP t (code.take i ++ code.drop i) (empty p, empty 41) by rw [List.take_append_drop], runP_app]
      rfl
    rw [this, z]; rfl
  have o1 := encR_ok (runR t code p)
  have o2 := eqv_refl 50 _ o1
  rw [evB_nx (ρ' := [some (.scr ns), some (enc t), some (.int p), some (.tup (code.map encD)), y4, some (encR (runR t code p)), none, none]) (M' := []) (by simp [evalX, evalA, evalS, evalB, runD, fin_same, o_add_i, o_add_s, o_add_l, o_add_t, o_sub, o_mul, o_rep, o_div, o_mod, c_lt, c_le, c_gt, c_ge, c_eq, c_ne, c_is_non, c_isn_non, c_is_bl, c_isn_bl, c_is_int, c_isn_int, c_is_str, c_isn_str, c_is_tup, c_isn_tup, c_is_lst, c_isn_lst, c_mem_s, c_nmem_s, c_mem_t, c_nmem_t, c_mem_l, c_nmem_l, fl_non, isi_tuple_non, isi_str_non, isi_int_non, isi_bool_non, fl_bl, isi_tuple_bl, isi_str_bl, isi_int_bl, isi_bool_bl, fl_int, isi_tuple_int, isi_str_int, isi_int_int, isi_bool_int, fl_str, isi_tuple_str, isi_str_str, isi_int_str, isi_bool_str, fl_tup, isi_tuple_tup, isi_str_tup, isi_int_tup, isi_bool_tup, fl_lst, isi_tuple_lst, isi_str_lst, isi_int_lst, isi_bool_lst, eqv_non_non, eqv_non_bl, eqv_non_int, eqv_non_str, eqv_non_tup, eqv_non_lst, eqv_bl_non, eqv_bl_bl, eqv_bl_int, eqv_bl_str, eqv_bl_tup, eqv_bl_lst, eqv_int_non, eqv_int_bl, eqv_int_int, eqv_int_str, eqv_int_tup, eqv_int_lst, eqv_str_non, eqv_str_bl, eqv_str_int, eqv_str_str, eqv_str_tup, eqv_str_lst, eqv_tup_non, eqv_tup_bl, eqv_tup_int, eqv_tup_str, eqv_tup_tup, eqv_tup_lst, eqv_lst_non, eqv_lst_bl, eqv_lst_int, eqv_lst_str, eqv_lst_tup, eqv_lst_lst, eqvL_nn, eqvL_cc, eqvL_nc, eqvL_cn, ok_tup, ok_lst, ok_tup50, ok_lst50, ok_tup49, ok_non, ok_bl, ok_int, ok_str, it_tup, it_lst, it_ref, ix_str, ix_scr, ix_tup, ix_lst, ix_ref, sl_str, sl_tup, sl_lst, ln_str, ln_scr, ln_tup, ln_lst, ln_ref, in_int, in_bl, u_neg, u_len, u_isi, u_int, u_abs, u_tup, u_lst_t, u_lst_l, u_range, u_str, u_sorted, u_sortedr, u_sset, u_find, b_max, b_starts, b_index, w_str, w_tup, w_lst, a_bl, a_int, r_tup, at_ref, at_0, at_1, at_2, at_3, at_4, sb_law_5, re])]
  have she := shelved_eq (n := 39) (by decide) code (by omega)
  have hfl : ∀ f : D → Option Bool, (∀ d, f (encD d) = some d.isSh) → filtD f (code.map encD) = some ((code.filter Deed.isSh).map encD) := fun f hf => filtD_map encD (g := Deed.isSh) (fun d _ => hf d)
  rw [evB_nx (ρ' := [some (.scr ns), some (enc t), some (.int p), some (.tup (code.map encD)), y4, some (encR (runR t code p)), none, none]) (M' := []) (by
    simp only [sb_law_6, evalB, evalS, evalX]
    simp [evalX, evalA, evalS, evalB, runD, fin_same, o_add_i, o_add_s, o_add_l, o_add_t, o_sub, o_mul, o_rep, o_div, o_mod, c_lt, c_le, c_gt, c_ge, c_eq, c_ne, c_is_non, c_isn_non, c_is_bl, c_isn_bl, c_is_int, c_isn_int, c_is_str, c_isn_str, c_is_tup, c_isn_tup, c_is_lst, c_isn_lst, c_mem_s, c_nmem_s, c_mem_t, c_nmem_t, c_mem_l, c_nmem_l, fl_non, isi_tuple_non, isi_str_non, isi_int_non, isi_bool_non, fl_bl, isi_tuple_bl, isi_str_bl, isi_int_bl, isi_bool_bl, fl_int, isi_tuple_int, isi_str_int, isi_int_int, isi_bool_int, fl_str, isi_tuple_str, isi_str_str, isi_int_str, isi_bool_str, fl_tup, isi_tuple_tup, isi_str_tup, isi_int_tup, isi_bool_tup, fl_lst, isi_tuple_lst, isi_str_lst, isi_int_lst, isi_bool_lst, eqv_non_non, eqv_non_bl, eqv_non_int, eqv_non_str, eqv_non_tup, eqv_non_lst, eqv_bl_non, eqv_bl_bl, eqv_bl_int, eqv_bl_str, eqv_bl_tup, eqv_bl_lst, eqv_int_non, eqv_int_bl, eqv_int_int, eqv_int_str, eqv_int_tup, eqv_int_lst, eqv_str_non, eqv_str_bl, eqv_str_int, eqv_str_str, eqv_str_tup, eqv_str_lst, eqv_tup_non, eqv_tup_bl, eqv_tup_int, eqv_tup_str, eqv_tup_tup, eqv_tup_lst, eqv_lst_non, eqv_lst_bl, eqv_lst_int, eqv_lst_str, eqv_lst_tup, eqv_lst_lst, eqvL_nn, eqvL_cc, eqvL_nc, eqvL_cn, ok_tup, ok_lst, ok_tup50, ok_lst50, ok_tup49, ok_non, ok_bl, ok_int, ok_str, it_tup, it_lst, it_ref, ix_str, ix_scr, ix_tup, ix_lst, ix_ref, sl_str, sl_tup, sl_lst, ln_str, ln_scr, ln_tup, ln_lst, ln_ref, in_int, in_bl, u_neg, u_len, u_isi, u_int, u_abs, u_tup, u_lst_t, u_lst_l, u_range, u_str, u_sorted, u_sortedr, u_sset, u_find, b_max, b_starts, b_index, w_str, w_tup, w_lst, a_bl, a_int, r_tup, at_ref, at_0, at_1, at_2, at_3, at_4, lr, o1, o2, she, wl2]
    rw [hfl _ (fun d => by cases d <;> simp [evalX, evalA, evalS, evalB, runD, fin_same, o_add_i, o_add_s, o_add_l, o_add_t, o_sub, o_mul, o_rep, o_div, o_mod, c_lt, c_le, c_gt, c_ge, c_eq, c_ne, c_is_non, c_isn_non, c_is_bl, c_isn_bl, c_is_int, c_isn_int, c_is_str, c_isn_str, c_is_tup, c_isn_tup, c_is_lst, c_isn_lst, c_mem_s, c_nmem_s, c_mem_t, c_nmem_t, c_mem_l, c_nmem_l, fl_non, isi_tuple_non, isi_str_non, isi_int_non, isi_bool_non, fl_bl, isi_tuple_bl, isi_str_bl, isi_int_bl, isi_bool_bl, fl_int, isi_tuple_int, isi_str_int, isi_int_int, isi_bool_int, fl_str, isi_tuple_str, isi_str_str, isi_int_str, isi_bool_str, fl_tup, isi_tuple_tup, isi_str_tup, isi_int_tup, isi_bool_tup, fl_lst, isi_tuple_lst, isi_str_lst, isi_int_lst, isi_bool_lst, eqv_non_non, eqv_non_bl, eqv_non_int, eqv_non_str, eqv_non_tup, eqv_non_lst, eqv_bl_non, eqv_bl_bl, eqv_bl_int, eqv_bl_str, eqv_bl_tup, eqv_bl_lst, eqv_int_non, eqv_int_bl, eqv_int_int, eqv_int_str, eqv_int_tup, eqv_int_lst, eqv_str_non, eqv_str_bl, eqv_str_int, eqv_str_str, eqv_str_tup, eqv_str_lst, eqv_tup_non, eqv_tup_bl, eqv_tup_int, eqv_tup_str, eqv_tup_tup, eqv_tup_lst, eqv_lst_non, eqv_lst_bl, eqv_lst_int, eqv_lst_str, eqv_lst_tup, eqv_lst_lst, eqvL_nn, eqvL_cc, eqvL_nc, eqvL_cn, ok_tup, ok_lst, ok_tup50, ok_lst50, ok_tup49, ok_non, ok_bl, ok_int, ok_str, it_tup, it_lst, it_ref, ix_str, ix_scr, ix_tup, ix_lst, ix_ref, sl_str, sl_tup, sl_lst, ln_str, ln_scr, ln_tup, ln_lst, ln_ref, in_int, in_bl, u_neg, u_len, u_isi, u_int, u_abs, u_tup, u_lst_t, u_lst_l, u_range, u_str, u_sorted, u_sortedr, u_sset, u_find, b_max, b_starts, b_index, w_str, w_tup, w_lst, a_bl, a_int, r_tup, at_ref, at_0, at_1, at_2, at_3, at_4, encD, Deed.isSh])]
    simp [evalX, evalA, evalS, evalB, runD, fin_same, o_add_i, o_add_s, o_add_l, o_add_t, o_sub, o_mul, o_rep, o_div, o_mod, c_lt, c_le, c_gt, c_ge, c_eq, c_ne, c_is_non, c_isn_non, c_is_bl, c_isn_bl, c_is_int, c_isn_int, c_is_str, c_isn_str, c_is_tup, c_isn_tup, c_is_lst, c_isn_lst, c_mem_s, c_nmem_s, c_mem_t, c_nmem_t, c_mem_l, c_nmem_l, fl_non, isi_tuple_non, isi_str_non, isi_int_non, isi_bool_non, fl_bl, isi_tuple_bl, isi_str_bl, isi_int_bl, isi_bool_bl, fl_int, isi_tuple_int, isi_str_int, isi_int_int, isi_bool_int, fl_str, isi_tuple_str, isi_str_str, isi_int_str, isi_bool_str, fl_tup, isi_tuple_tup, isi_str_tup, isi_int_tup, isi_bool_tup, fl_lst, isi_tuple_lst, isi_str_lst, isi_int_lst, isi_bool_lst, eqv_non_non, eqv_non_bl, eqv_non_int, eqv_non_str, eqv_non_tup, eqv_non_lst, eqv_bl_non, eqv_bl_bl, eqv_bl_int, eqv_bl_str, eqv_bl_tup, eqv_bl_lst, eqv_int_non, eqv_int_bl, eqv_int_int, eqv_int_str, eqv_int_tup, eqv_int_lst, eqv_str_non, eqv_str_bl, eqv_str_int, eqv_str_str, eqv_str_tup, eqv_str_lst, eqv_tup_non, eqv_tup_bl, eqv_tup_int, eqv_tup_str, eqv_tup_tup, eqv_tup_lst, eqv_lst_non, eqv_lst_bl, eqv_lst_int, eqv_lst_str, eqv_lst_tup, eqv_lst_lst, eqvL_nn, eqvL_cc, eqvL_nc, eqvL_cn, ok_tup, ok_lst, ok_tup50, ok_lst50, ok_tup49, ok_non, ok_bl, ok_int, ok_str, it_tup, it_lst, it_ref, ix_str, ix_scr, ix_tup, ix_lst, ix_ref, sl_str, sl_tup, sl_lst, ln_str, ln_scr, ln_tup, ln_lst, ln_ref, in_int, in_bl, u_neg, u_len, u_isi, u_int, u_abs, u_tup, u_lst_t, u_lst_l, u_range, u_str, u_sorted, u_sortedr, u_sset, u_find, b_max, b_starts, b_index, w_str, w_tup, w_lst, a_bl, a_int, r_tup, at_ref, at_0, at_1, at_2, at_3, at_4])]
  rw [evB_nx (ρ' := [some (.scr ns), some (enc t), some (.int p), some (.tup (code.map encD)), y4, some (encR (runR t code p)), none, some (encR (runR t (code.take i) p))]) (M' := []) (by
    have g1 : (0 : Int) < (code.length : Int) + 1 := by omega
    have c1 := cut_to (code.map encD) (i := (i : Int)) (by omega)
    rw [show (i : Int).toNat = i by omega] at c1
    rw [List.map_take] at re2
    simp [evalX, evalA, evalS, evalB, runD, fin_same, o_add_i, o_add_s, o_add_l, o_add_t, o_sub, o_mul, o_rep, o_div, o_mod, c_lt, c_le, c_gt, c_ge, c_eq, c_ne, c_is_non, c_isn_non, c_is_bl, c_isn_bl, c_is_int, c_isn_int, c_is_str, c_isn_str, c_is_tup, c_isn_tup, c_is_lst, c_isn_lst, c_mem_s, c_nmem_s, c_mem_t, c_nmem_t, c_mem_l, c_nmem_l, fl_non, isi_tuple_non, isi_str_non, isi_int_non, isi_bool_non, fl_bl, isi_tuple_bl, isi_str_bl, isi_int_bl, isi_bool_bl, fl_int, isi_tuple_int, isi_str_int, isi_int_int, isi_bool_int, fl_str, isi_tuple_str, isi_str_str, isi_int_str, isi_bool_str, fl_tup, isi_tuple_tup, isi_str_tup, isi_int_tup, isi_bool_tup, fl_lst, isi_tuple_lst, isi_str_lst, isi_int_lst, isi_bool_lst, eqv_non_non, eqv_non_bl, eqv_non_int, eqv_non_str, eqv_non_tup, eqv_non_lst, eqv_bl_non, eqv_bl_bl, eqv_bl_int, eqv_bl_str, eqv_bl_tup, eqv_bl_lst, eqv_int_non, eqv_int_bl, eqv_int_int, eqv_int_str, eqv_int_tup, eqv_int_lst, eqv_str_non, eqv_str_bl, eqv_str_int, eqv_str_str, eqv_str_tup, eqv_str_lst, eqv_tup_non, eqv_tup_bl, eqv_tup_int, eqv_tup_str, eqv_tup_tup, eqv_tup_lst, eqv_lst_non, eqv_lst_bl, eqv_lst_int, eqv_lst_str, eqv_lst_tup, eqv_lst_lst, eqvL_nn, eqvL_cc, eqvL_nc, eqvL_cn, ok_tup, ok_lst, ok_tup50, ok_lst50, ok_tup49, ok_non, ok_bl, ok_int, ok_str, it_tup, it_lst, it_ref, ix_str, ix_scr, ix_tup, ix_lst, ix_ref, sl_str, sl_tup, sl_lst, ln_str, ln_scr, ln_tup, ln_lst, ln_ref, in_int, in_bl, u_neg, u_len, u_isi, u_int, u_abs, u_tup, u_lst_t, u_lst_l, u_range, u_str, u_sorted, u_sortedr, u_sset, u_find, b_max, b_starts, b_index, w_str, w_tup, w_lst, a_bl, a_int, r_tup, at_ref, at_0, at_1, at_2, at_3, at_4, sb_law_7, mx, g1, hi, c1, re2])]
  refine evB_rt ?_
  cases e1 : runR t (code.take i) p with
  | some s => simp [evalX, evalA, evalS, evalB, runD, fin_same, o_add_i, o_add_s, o_add_l, o_add_t, o_sub, o_mul, o_rep, o_div, o_mod, c_lt, c_le, c_gt, c_ge, c_eq, c_ne, c_is_non, c_isn_non, c_is_bl, c_isn_bl, c_is_int, c_isn_int, c_is_str, c_isn_str, c_is_tup, c_isn_tup, c_is_lst, c_isn_lst, c_mem_s, c_nmem_s, c_mem_t, c_nmem_t, c_mem_l, c_nmem_l, fl_non, isi_tuple_non, isi_str_non, isi_int_non, isi_bool_non, fl_bl, isi_tuple_bl, isi_str_bl, isi_int_bl, isi_bool_bl, fl_int, isi_tuple_int, isi_str_int, isi_int_int, isi_bool_int, fl_str, isi_tuple_str, isi_str_str, isi_int_str, isi_bool_str, fl_tup, isi_tuple_tup, isi_str_tup, isi_int_tup, isi_bool_tup, fl_lst, isi_tuple_lst, isi_str_lst, isi_int_lst, isi_bool_lst, eqv_non_non, eqv_non_bl, eqv_non_int, eqv_non_str, eqv_non_tup, eqv_non_lst, eqv_bl_non, eqv_bl_bl, eqv_bl_int, eqv_bl_str, eqv_bl_tup, eqv_bl_lst, eqv_int_non, eqv_int_bl, eqv_int_int, eqv_int_str, eqv_int_tup, eqv_int_lst, eqv_str_non, eqv_str_bl, eqv_str_int, eqv_str_str, eqv_str_tup, eqv_str_lst, eqv_tup_non, eqv_tup_bl, eqv_tup_int, eqv_tup_str, eqv_tup_tup, eqv_tup_lst, eqv_lst_non, eqv_lst_bl, eqv_lst_int, eqv_lst_str, eqv_lst_tup, eqv_lst_lst, eqvL_nn, eqvL_cc, eqvL_nc, eqvL_cn, ok_tup, ok_lst, ok_tup50, ok_lst50, ok_tup49, ok_non, ok_bl, ok_int, ok_str, it_tup, it_lst, it_ref, ix_str, ix_scr, ix_tup, ix_lst, ix_ref, sl_str, sl_tup, sl_lst, ln_str, ln_scr, ln_tup, ln_lst, ln_ref, in_int, in_bl, u_neg, u_len, u_isi, u_int, u_abs, u_tup, u_lst_t, u_lst_l, u_range, u_str, u_sorted, u_sortedr, u_sset, u_find, b_max, b_starts, b_index, w_str, w_tup, w_lst, a_bl, a_int, r_tup, at_ref, at_0, at_1, at_2, at_3, at_4, sb_law_8, encR]
  | none => simp [evalX, evalA, evalS, evalB, runD, fin_same, o_add_i, o_add_s, o_add_l, o_add_t, o_sub, o_mul, o_rep, o_div, o_mod, c_lt, c_le, c_gt, c_ge, c_eq, c_ne, c_is_non, c_isn_non, c_is_bl, c_isn_bl, c_is_int, c_isn_int, c_is_str, c_isn_str, c_is_tup, c_isn_tup, c_is_lst, c_isn_lst, c_mem_s, c_nmem_s, c_mem_t, c_nmem_t, c_mem_l, c_nmem_l, fl_non, isi_tuple_non, isi_str_non, isi_int_non, isi_bool_non, fl_bl, isi_tuple_bl, isi_str_bl, isi_int_bl, isi_bool_bl, fl_int, isi_tuple_int, isi_str_int, isi_int_int, isi_bool_int, fl_str, isi_tuple_str, isi_str_str, isi_int_str, isi_bool_str, fl_tup, isi_tuple_tup, isi_str_tup, isi_int_tup, isi_bool_tup, fl_lst, isi_tuple_lst, isi_str_lst, isi_int_lst, isi_bool_lst, eqv_non_non, eqv_non_bl, eqv_non_int, eqv_non_str, eqv_non_tup, eqv_non_lst, eqv_bl_non, eqv_bl_bl, eqv_bl_int, eqv_bl_str, eqv_bl_tup, eqv_bl_lst, eqv_int_non, eqv_int_bl, eqv_int_int, eqv_int_str, eqv_int_tup, eqv_int_lst, eqv_str_non, eqv_str_bl, eqv_str_int, eqv_str_str, eqv_str_tup, eqv_str_lst, eqv_tup_non, eqv_tup_bl, eqv_tup_int, eqv_tup_str, eqv_tup_tup, eqv_tup_lst, eqv_lst_non, eqv_lst_bl, eqv_lst_int, eqv_lst_str, eqv_lst_tup, eqv_lst_lst, eqvL_nn, eqvL_cc, eqvL_nc, eqvL_cn, ok_tup, ok_lst, ok_tup50, ok_lst50, ok_tup49, ok_non, ok_bl, ok_int, ok_str, it_tup, it_lst, it_ref, ix_str, ix_scr, ix_tup, ix_lst, ix_ref, sl_str, sl_tup, sl_lst, ln_str, ln_scr, ln_tup, ln_lst, ln_ref, in_int, in_bl, u_neg, u_len, u_isi, u_int, u_abs, u_tup, u_lst_t, u_lst_l, u_range, u_str, u_sorted, u_sortedr, u_sset, u_find, b_max, b_starts, b_index, w_str, w_tup, w_lst, a_bl, a_int, r_tup, at_ref, at_0, at_1, at_2, at_3, at_4, sb_law_8, encR, mono e1]

end Fp

set_option linter.all false
set_option maxRecDepth 100000
set_option maxHeartbeats 8000000
/-! What the top leaves; the end (printed by gen.py). -/
namespace Wk
open PySem PySem.Spec PyProof.Rows L2 Fp FpS

def spLaw (K : PySem.W.Frag) : Sp := fun vs H Q _ => ∃ (a : Addr) (ns : List Int), vs = [.ref a] ∧ SqL K H a (ns.map V.int) ∧ ns.length ≤ 63 ∧ ∀ H', Q (.bl true) H'
theorem law_end {P : Program} {w : World} {K : PySem.W.Frag} {mg : Str → Option Value} {base : Heap} {cl : Nat → Addr} {k : Nat} {f : Addr} {fd : FuncData} {x : Str} (F : FnOk P w K mg base CX0 k f fd [x] (spF K cl 1 (callF prog lawDepth 22))) : FnOk P w K mg base CX0 k f fd [x] (spLaw K) := by
  refine F.imp fun vs H Q E h => ?_
  obtain ⟨a, ns, rfl, hS, hl, k⟩ := h
  obtain ⟨M', hM⟩ := law_holds ns hl
  refine ⟨rfl, [], [], [.scr ns], .bl true, M', Rel.nil H, .cons (.scr ?_) .nil, hM, fun L' v H' _ _ _ hv => ?_⟩
  · rcases hS with h | h
    · exact .inl ⟨h, by simp⟩
    · exact .inr h
  · cases hv
    exact k H'
set_option linter.unusedVariables false in
theorem all_mk {l : PySem.W.OpenLaw} {w : World} {K : PySem.W.Frag} {h : Heap} {mg : Str → Option Value} {fz : Addr}
    {f0 f1 f2 f3 f4 f5 f6 f7 f8 f9 f10 f11 f12 f13 f14 f15 f16 f17 f18 f19 f20 f21 f22 C0 : Addr}
    {od0 an0 od1 an1 od2 an2 od3 an3 od4 an4 od5 an5 od6 an6 od7 an7 od8 an8 od9 an9 od10 an10 od11 an11 od12 an12 od13 an13 od14 an14 od15 an15 od16 an16 od17 an17 od18 an18 od19 an19 od20 an20 od21 an21 od22 an22 : Option Addr} {sl0 sl1 sl2 sl3 sl4 sl5 sl6 sl7 sl8 sl9 sl10 sl11 sl12 sl13 sl14 sl15 sl16 sl17 sl18 sl19 sl20 sl21 sl22 : Array (Option Value)} {oc0 kV0 dc0 pm0 cd0 ct0 oc1 kV1 dc1 pm1 cd1 ct1 oc2 kV2 dc2 pm2 cd2 ct2 oc3 kV3 dc3 pm3 cd3 ct3 oc4 kV4 dc4 pm4 cd4 ct4 oc5 kV5 dc5 pm5 cd5 ct5 oc6 kV6 dc6 pm6 cd6 ct6 oc7 kV7 dc7 pm7 cd7 ct7 oc8 kV8 dc8 pm8 cd8 ct8 oc9 kV9 dc9 pm9 cd9 ct9 oc10 kV10 dc10 pm10 cd10 ct10 oc11 kV11 dc11 pm11 cd11 ct11 oc12 kV12 dc12 pm12 cd12 ct12 oc13 kV13 dc13 pm13 cd13 ct13 oc14 kV14 dc14 pm14 cd14 ct14 oc15 kV15 dc15 pm15 cd15 ct15 oc16 kV16 dc16 pm16 cd16 ct16 oc17 kV17 dc17 pm17 cd17 ct17 oc18 kV18 dc18 pm18 cd18 ct18 oc19 kV19 dc19 pm19 cd19 ct19 oc20 kV20 dc20 pm20 cd20 ct20 oc21 kV21 dc21 pm21 cd21 ct21 oc22 kV22 dc22 pm22 cd22 ct22 : Value}
    {tkPLACES : Tok}
    {adJOINS : Addr} {ddJOINS : Option Addr} {nnJOINS : Nat} {ssJOINS : Array (Option Value)} {tkJOINS0 tkJOINS1 tkJOINS2 : Tok} (X : K.In h) (G : h.Ns mainGlobals mg) (hfa : mg "law" = some (.ref fz))
    (cA0 : PySem.W.nsIn K mainGlobals "Kitchen" = some (some (.ref C0)))
    (a0 : PySem.W.nsIn K mainGlobals "part_at" = some (some (.ref f0)))
    (l0 : K.lookup f0 = some ⟨oc0, od0, .func (PySem.W.fnOf "part_at" "part_at" (defArgs st0) (defBody st0) (defScope st0) .none kV0 dc0 pm0 an0 cd0 ct0), sl0⟩)
    (c0 : PySem.W.codeIn K cd0 "part_at" = true)
    (k0 : PySem.W.keepIn K (.ref f0) = true)
    (a1 : PySem.W.findIn K (.ref C0) "__init__" = some (some (.ref f1)))
    (i1 : PySem.W.isFn K (.ref f1) = true)
    (l1 : K.lookup f1 = some ⟨oc1, od1, .func (PySem.W.fnOf "__init__" "Kitchen.__init__" (defArgs st1) (defBody st1) (defScope st1) .none kV1 dc1 pm1 an1 cd1 ct1), sl1⟩)
    (c1 : PySem.W.codeIn K cd1 "Kitchen.__init__" = true)
    (k1 : PySem.W.keepIn K (.ref f1) = true)
    (a2 : PySem.W.findIn K (.ref C0) "holds" = some (some (.ref f2)))
    (i2 : PySem.W.isFn K (.ref f2) = true)
    (l2 : K.lookup f2 = some ⟨oc2, od2, .func (PySem.W.fnOf "holds" "Kitchen.holds" (defArgs st2) (defBody st2) (defScope st2) .none kV2 dc2 pm2 an2 cd2 ct2), sl2⟩)
    (c2 : PySem.W.codeIn K cd2 "Kitchen.holds" = true)
    (k2 : PySem.W.keepIn K (.ref f2) = true)
    (a3 : PySem.W.findIn K (.ref C0) "is_pan" = some (some (.ref f3)))
    (i3 : PySem.W.isFn K (.ref f3) = true)
    (l3 : K.lookup f3 = some ⟨oc3, od3, .func (PySem.W.fnOf "is_pan" "Kitchen.is_pan" (defArgs st3) (defBody st3) (defScope st3) .none kV3 dc3 pm3 an3 cd3 ct3), sl3⟩)
    (c3 : PySem.W.codeIn K cd3 "Kitchen.is_pan" = true)
    (k3 : PySem.W.keepIn K (.ref f3) = true)
    (a4 : PySem.W.findIn K (.ref C0) "word_at" = some (some (.ref f4)))
    (i4 : PySem.W.isFn K (.ref f4) = true)
    (l4 : K.lookup f4 = some ⟨oc4, od4, .func (PySem.W.fnOf "word_at" "Kitchen.word_at" (defArgs st4) (defBody st4) (defScope st4) .none kV4 dc4 pm4 an4 cd4 ct4), sl4⟩)
    (c4 : PySem.W.codeIn K cd4 "Kitchen.word_at" = true)
    (k4 : PySem.W.keepIn K (.ref f4) = true)
    (a5 : PySem.W.findIn K (.ref C0) "found" = some (some (.ref f5)))
    (i5 : PySem.W.isFn K (.ref f5) = true)
    (l5 : K.lookup f5 = some ⟨oc5, od5, .func (PySem.W.fnOf "found" "Kitchen.found" (defArgs st5) (defBody st5) (defScope st5) .none kV5 dc5 pm5 an5 cd5 ct5), sl5⟩)
    (c5 : PySem.W.codeIn K cd5 "Kitchen.found" = true)
    (k5 : PySem.W.keepIn K (.ref f5) = true)
    (a6 : PySem.W.findIn K (.ref C0) "do" = some (some (.ref f6)))
    (i6 : PySem.W.isFn K (.ref f6) = true)
    (l6 : K.lookup f6 = some ⟨oc6, od6, .func (PySem.W.fnOf "do" "Kitchen.do" (defArgs st6) (defBody st6) (defScope st6) .none kV6 dc6 pm6 an6 cd6 ct6), sl6⟩)
    (c6 : PySem.W.codeIn K cd6 "Kitchen.do" = true)
    (k6 : PySem.W.keepIn K (.ref f6) = true)
    (a7 : PySem.W.nsIn K mainGlobals "run" = some (some (.ref f7)))
    (l7 : K.lookup f7 = some ⟨oc7, od7, .func (PySem.W.fnOf "run" "run" (defArgs st7) (defBody st7) (defScope st7) .none kV7 dc7 pm7 an7 cd7 ct7), sl7⟩)
    (c7 : PySem.W.codeIn K cd7 "run" = true)
    (k7 : PySem.W.keepIn K (.ref f7) = true)
    (a8 : PySem.W.nsIn K mainGlobals "shelved" = some (some (.ref f8)))
    (l8 : K.lookup f8 = some ⟨oc8, od8, .func (PySem.W.fnOf "shelved" "shelved" (defArgs st8) (defBody st8) (defScope st8) .none kV8 dc8 pm8 an8 cd8 ct8), sl8⟩)
    (c8 : PySem.W.codeIn K cd8 "shelved" = true)
    (k8 : PySem.W.keepIn K (.ref f8) = true)
    (a9 : PySem.W.nsIn K mainGlobals "_law_cell_at" = some (some (.ref f9)))
    (l9 : K.lookup f9 = some ⟨oc9, od9, .func (PySem.W.fnOf "_law_cell_at" "_law_cell_at" (defArgs st9) (defBody st9) (defScope st9) .none kV9 dc9 pm9 an9 cd9 ct9), sl9⟩)
    (c9 : PySem.W.codeIn K cd9 "_law_cell_at" = true)
    (k9 : PySem.W.keepIn K (.ref f9) = true)
    (a10 : PySem.W.nsIn K mainGlobals "_law_mixed" = some (some (.ref f10)))
    (l10 : K.lookup f10 = some ⟨oc10, od10, .func (PySem.W.fnOf "_law_mixed" "_law_mixed" (defArgs st10) (defBody st10) (defScope st10) .none kV10 dc10 pm10 an10 cd10 ct10), sl10⟩)
    (c10 : PySem.W.codeIn K cd10 "_law_mixed" = true)
    (k10 : PySem.W.keepIn K (.ref f10) = true)
    (a11 : PySem.W.nsIn K mainGlobals "_law_drawn" = some (some (.ref f11)))
    (l11 : K.lookup f11 = some ⟨oc11, od11, .func (PySem.W.fnOf "_law_drawn" "_law_drawn" (defArgs st11) (defBody st11) (defScope st11) .none kV11 dc11 pm11 an11 cd11 ct11), sl11⟩)
    (c11 : PySem.W.codeIn K cd11 "_law_drawn" = true)
    (k11 : PySem.W.keepIn K (.ref f11) = true)
    (a12 : PySem.W.nsIn K mainGlobals "_law_tree" = some (some (.ref f12)))
    (l12 : K.lookup f12 = some ⟨oc12, od12, .func (PySem.W.fnOf "_law_tree" "_law_tree" (defArgs st12) (defBody st12) (defScope st12) .none kV12 dc12 pm12 an12 cd12 ct12), sl12⟩)
    (c12 : PySem.W.codeIn K cd12 "_law_tree" = true)
    (k12 : PySem.W.keepIn K (.ref f12) = true)
    (a13 : PySem.W.nsIn K mainGlobals "_law_drawn_tree" = some (some (.ref f13)))
    (l13 : K.lookup f13 = some ⟨oc13, od13, .func (PySem.W.fnOf "_law_drawn_tree" "_law_drawn_tree" (defArgs st13) (defBody st13) (defScope st13) .none kV13 dc13 pm13 an13 cd13 ct13), sl13⟩)
    (c13 : PySem.W.codeIn K cd13 "_law_drawn_tree" = true)
    (k13 : PySem.W.keepIn K (.ref f13) = true)
    (a14 : PySem.W.nsIn K mainGlobals "_law_part" = some (some (.ref f14)))
    (l14 : K.lookup f14 = some ⟨oc14, od14, .func (PySem.W.fnOf "_law_part" "_law_part" (defArgs st14) (defBody st14) (defScope st14) .none kV14 dc14 pm14 an14 cd14 ct14), sl14⟩)
    (c14 : PySem.W.codeIn K cd14 "_law_part" = true)
    (k14 : PySem.W.keepIn K (.ref f14) = true)
    (a15 : PySem.W.nsIn K mainGlobals "_law_addresses" = some (some (.ref f15)))
    (l15 : K.lookup f15 = some ⟨oc15, od15, .func (PySem.W.fnOf "_law_addresses" "_law_addresses" (defArgs st15) (defBody st15) (defScope st15) .none kV15 dc15 pm15 an15 cd15 ct15), sl15⟩)
    (c15 : PySem.W.codeIn K cd15 "_law_addresses" = true)
    (k15 : PySem.W.keepIn K (.ref f15) = true)
    (a16 : PySem.W.nsIn K mainGlobals "_law_held" = some (some (.ref f16)))
    (l16 : K.lookup f16 = some ⟨oc16, od16, .func (PySem.W.fnOf "_law_held" "_law_held" (defArgs st16) (defBody st16) (defScope st16) .none kV16 dc16 pm16 an16 cd16 ct16), sl16⟩)
    (c16 : PySem.W.codeIn K cd16 "_law_held" = true)
    (k16 : PySem.W.keepIn K (.ref f16) = true)
    (a17 : PySem.W.nsIn K mainGlobals "_law_brings" = some (some (.ref f17)))
    (l17 : K.lookup f17 = some ⟨oc17, od17, .func (PySem.W.fnOf "_law_brings" "_law_brings" (defArgs st17) (defBody st17) (defScope st17) .none kV17 dc17 pm17 an17 cd17 ct17), sl17⟩)
    (c17 : PySem.W.codeIn K cd17 "_law_brings" = true)
    (k17 : PySem.W.keepIn K (.ref f17) = true)
    (a18 : PySem.W.nsIn K mainGlobals "_law_run" = some (some (.ref f18)))
    (l18 : K.lookup f18 = some ⟨oc18, od18, .func (PySem.W.fnOf "_law_run" "_law_run" (defArgs st18) (defBody st18) (defScope st18) .none kV18 dc18 pm18 an18 cd18 ct18), sl18⟩)
    (c18 : PySem.W.codeIn K cd18 "_law_run" = true)
    (k18 : PySem.W.keepIn K (.ref f18) = true)
    (a19 : PySem.W.nsIn K mainGlobals "_law_work" = some (some (.ref f19)))
    (l19 : K.lookup f19 = some ⟨oc19, od19, .func (PySem.W.fnOf "_law_work" "_law_work" (defArgs st19) (defBody st19) (defScope st19) .none kV19 dc19 pm19 an19 cd19 ct19), sl19⟩)
    (c19 : PySem.W.codeIn K cd19 "_law_work" = true)
    (k19 : PySem.W.keepIn K (.ref f19) = true)
    (a20 : PySem.W.nsIn K mainGlobals "_law_code" = some (some (.ref f20)))
    (l20 : K.lookup f20 = some ⟨oc20, od20, .func (PySem.W.fnOf "_law_code" "_law_code" (defArgs st20) (defBody st20) (defScope st20) .none kV20 dc20 pm20 an20 cd20 ct20), sl20⟩)
    (c20 : PySem.W.codeIn K cd20 "_law_code" = true)
    (k20 : PySem.W.keepIn K (.ref f20) = true)
    (a21 : PySem.W.nsIn K mainGlobals "_law_changed" = some (some (.ref f21)))
    (l21 : K.lookup f21 = some ⟨oc21, od21, .func (PySem.W.fnOf "_law_changed" "_law_changed" (defArgs st21) (defBody st21) (defScope st21) .none kV21 dc21 pm21 an21 cd21 ct21), sl21⟩)
    (c21 : PySem.W.codeIn K cd21 "_law_changed" = true)
    (k21 : PySem.W.keepIn K (.ref f21) = true)
    (a22 : PySem.W.nsIn K mainGlobals "law" = some (some (.ref f22)))
    (l22 : K.lookup f22 = some ⟨oc22, od22, .func (PySem.W.fnOf "law" "law" (defArgs st22) (defBody st22) (defScope st22) .none kV22 dc22 pm22 an22 cd22 ct22), sl22⟩)
    (c22 : PySem.W.codeIn K cd22 "law" = true)
    (k22 : PySem.W.keepIn K (.ref f22) = true)
    (pg0 : PySem.W.plainGet K C0 Str.empty = true)
    (hd0 : PySem.W.hasDictIn K C0 = true)
    (po0 : PySem.W.plainOver K C0 = true)
    (sa0 : PySem.W.findIn K (.ref C0) "__setattr__" = some (some (.builtin "object.__setattr__")))
    (mk0 : PySem.W.makesIn K C0 = true)
    (kc0 : PySem.W.keepIn K (.ref C0) = true)
    (npans0 : PySem.W.findIn K (.ref C0) "pans" = some none)
    (nshelf0 : PySem.W.findIn K (.ref C0) "shelf" = some none)
    (ntree0 : PySem.W.findIn K (.ref C0) "tree" = some none)
    (zint : PySem.W.nsIn K mainGlobals "int" = some none)
    (zisinstance : PySem.W.nsIn K mainGlobals "isinstance" = some none)
    (zlen : PySem.W.nsIn K mainGlobals "len" = some none)
    (zlist : PySem.W.nsIn K mainGlobals "list" = some none)
    (zrange : PySem.W.nsIn K mainGlobals "range" = some none)
    (zstr : PySem.W.nsIn K mainGlobals "str" = some none)
    (ztuple : PySem.W.nsIn K mainGlobals "tuple" = some none)
    (vPLACES : PySem.W.nsIn K mainGlobals "PLACES" = some (some (.int 41 tkPLACES)))
    (vJOINS : PySem.W.nsIn K mainGlobals "JOINS" = some (some (.ref adJOINS)))
    (tJOINS : K.lookup adJOINS = some ⟨.type "tuple", ddJOINS, .seq #[.str "plus" tkJOINS0, .str "less" tkJOINS1, .str "times" tkJOINS2] nnJOINS, ssJOINS⟩)
    : ∃ fd : FuncData, (∀ (s : Shared) (v : Value), BindsTo s fd ⟨[v], []⟩ [("_law_script", v)]) ∧ ∀ base : Heap, K.In base → base.Ns mainGlobals mg → FnOk l.prog w K mg base CX0 (2 * lawDepth) fz fd ["_law_script"] (spLaw K) := by
  have ez : fz = f22 := Value.ref.inj (Option.some.inj (hfa.symm.trans (PySem.W.mg_of X G a22)))
  rw [ez]
  let cl : Nat → Addr := fun (_ : Nat) => C0
  let fa : Nat → Addr := fun (j : Nat) => match j with | 0 => f0 | 1 => f1 | 2 => f2 | 3 => f3 | 4 => f4 | 5 => f5 | 6 => f6 | 7 => f7 | 8 => f8 | 9 => f9 | 10 => f10 | 11 => f11 | 12 => f12 | 13 => f13 | 14 => f14 | 15 => f15 | 16 => f16 | 17 => f17 | 18 => f18 | 19 => f19 | 20 => f20 | 21 => f21 | 22 => f22 | _ => f0
  let fd : Nat → FuncData := fun (j : Nat) => match j with | 0 => PySem.W.fnOf "part_at" "part_at" (defArgs st0) (defBody st0) (defScope st0) .none kV0 dc0 pm0 an0 cd0 ct0 | 1 => PySem.W.fnOf "__init__" "Kitchen.__init__" (defArgs st1) (defBody st1) (defScope st1) .none kV1 dc1 pm1 an1 cd1 ct1 | 2 => PySem.W.fnOf "holds" "Kitchen.holds" (defArgs st2) (defBody st2) (defScope st2) .none kV2 dc2 pm2 an2 cd2 ct2 | 3 => PySem.W.fnOf "is_pan" "Kitchen.is_pan" (defArgs st3) (defBody st3) (defScope st3) .none kV3 dc3 pm3 an3 cd3 ct3 | 4 => PySem.W.fnOf "word_at" "Kitchen.word_at" (defArgs st4) (defBody st4) (defScope st4) .none kV4 dc4 pm4 an4 cd4 ct4 | 5 => PySem.W.fnOf "found" "Kitchen.found" (defArgs st5) (defBody st5) (defScope st5) .none kV5 dc5 pm5 an5 cd5 ct5 | 6 => PySem.W.fnOf "do" "Kitchen.do" (defArgs st6) (defBody st6) (defScope st6) .none kV6 dc6 pm6 an6 cd6 ct6 | 7 => PySem.W.fnOf "run" "run" (defArgs st7) (defBody st7) (defScope st7) .none kV7 dc7 pm7 an7 cd7 ct7 | 8 => PySem.W.fnOf "shelved" "shelved" (defArgs st8) (defBody st8) (defScope st8) .none kV8 dc8 pm8 an8 cd8 ct8 | 9 => PySem.W.fnOf "_law_cell_at" "_law_cell_at" (defArgs st9) (defBody st9) (defScope st9) .none kV9 dc9 pm9 an9 cd9 ct9 | 10 => PySem.W.fnOf "_law_mixed" "_law_mixed" (defArgs st10) (defBody st10) (defScope st10) .none kV10 dc10 pm10 an10 cd10 ct10 | 11 => PySem.W.fnOf "_law_drawn" "_law_drawn" (defArgs st11) (defBody st11) (defScope st11) .none kV11 dc11 pm11 an11 cd11 ct11 | 12 => PySem.W.fnOf "_law_tree" "_law_tree" (defArgs st12) (defBody st12) (defScope st12) .none kV12 dc12 pm12 an12 cd12 ct12 | 13 => PySem.W.fnOf "_law_drawn_tree" "_law_drawn_tree" (defArgs st13) (defBody st13) (defScope st13) .none kV13 dc13 pm13 an13 cd13 ct13 | 14 => PySem.W.fnOf "_law_part" "_law_part" (defArgs st14) (defBody st14) (defScope st14) .none kV14 dc14 pm14 an14 cd14 ct14 | 15 => PySem.W.fnOf "_law_addresses" "_law_addresses" (defArgs st15) (defBody st15) (defScope st15) .none kV15 dc15 pm15 an15 cd15 ct15 | 16 => PySem.W.fnOf "_law_held" "_law_held" (defArgs st16) (defBody st16) (defScope st16) .none kV16 dc16 pm16 an16 cd16 ct16 | 17 => PySem.W.fnOf "_law_brings" "_law_brings" (defArgs st17) (defBody st17) (defScope st17) .none kV17 dc17 pm17 an17 cd17 ct17 | 18 => PySem.W.fnOf "_law_run" "_law_run" (defArgs st18) (defBody st18) (defScope st18) .none kV18 dc18 pm18 an18 cd18 ct18 | 19 => PySem.W.fnOf "_law_work" "_law_work" (defArgs st19) (defBody st19) (defScope st19) .none kV19 dc19 pm19 an19 cd19 ct19 | 20 => PySem.W.fnOf "_law_code" "_law_code" (defArgs st20) (defBody st20) (defScope st20) .none kV20 dc20 pm20 an20 cd20 ct20 | 21 => PySem.W.fnOf "_law_changed" "_law_changed" (defArgs st21) (defBody st21) (defScope st21) .none kV21 dc21 pm21 an21 cd21 ct21 | 22 => PySem.W.fnOf "law" "law" (defArgs st22) (defBody st22) (defScope st22) .none kV22 dc22 pm22 an22 cd22 ct22 | _ => PySem.W.fnOf "part_at" "part_at" (defArgs st0) (defBody st0) (defScope st0) .none kV0 dc0 pm0 an0 cd0 ct0
  have hc0 : Cls K C0 := ⟨pg0, hd0, po0, sa0⟩
  have F0 : Fun K "part_at" "part_at" st0 f0 (PySem.W.fnOf "part_at" "part_at" (defArgs st0) (defBody st0) (defScope st0) .none kV0 dc0 pm0 an0 cd0 ct0) := fun_mk (st := st0) l0 c0 k0
  have b0 : Binds K (PySem.W.fnOf "part_at" "part_at" (defArgs st0) (defBody st0) (defScope st0) .none kV0 dc0 pm0 an0 cd0 ct0) psn0 [] := F0.binds (ps := psn0) fun _ _ _ _ _ _ us hl => match us, hl with | [_, _], _ => rfl
  have F1 : Fun K "__init__" "Kitchen.__init__" st1 f1 (PySem.W.fnOf "__init__" "Kitchen.__init__" (defArgs st1) (defBody st1) (defScope st1) .none kV1 dc1 pm1 an1 cd1 ct1) := fun_mk (st := st1) l1 c1 k1
  have b1 : Binds K (PySem.W.fnOf "__init__" "Kitchen.__init__" (defArgs st1) (defBody st1) (defScope st1) .none kV1 dc1 pm1 an1 cd1 ct1) psn1 [] := F1.binds (ps := psn1) fun _ _ _ _ _ _ us hl => match us, hl with | [_, _, _], _ => rfl
  have F2 : Fun K "holds" "Kitchen.holds" st2 f2 (PySem.W.fnOf "holds" "Kitchen.holds" (defArgs st2) (defBody st2) (defScope st2) .none kV2 dc2 pm2 an2 cd2 ct2) := fun_mk (st := st2) l2 c2 k2
  have b2 : Binds K (PySem.W.fnOf "holds" "Kitchen.holds" (defArgs st2) (defBody st2) (defScope st2) .none kV2 dc2 pm2 an2 cd2 ct2) psn2 [] := F2.binds (ps := psn2) fun _ _ _ _ _ _ us hl => match us, hl with | [_, _, _], _ => rfl
  have F3 : Fun K "is_pan" "Kitchen.is_pan" st3 f3 (PySem.W.fnOf "is_pan" "Kitchen.is_pan" (defArgs st3) (defBody st3) (defScope st3) .none kV3 dc3 pm3 an3 cd3 ct3) := fun_mk (st := st3) l3 c3 k3
  have b3 : Binds K (PySem.W.fnOf "is_pan" "Kitchen.is_pan" (defArgs st3) (defBody st3) (defScope st3) .none kV3 dc3 pm3 an3 cd3 ct3) psn3 [] := F3.binds (ps := psn3) fun _ _ _ _ _ _ us hl => match us, hl with | [_, _], _ => rfl
  have F4 : Fun K "word_at" "Kitchen.word_at" st4 f4 (PySem.W.fnOf "word_at" "Kitchen.word_at" (defArgs st4) (defBody st4) (defScope st4) .none kV4 dc4 pm4 an4 cd4 ct4) := fun_mk (st := st4) l4 c4 k4
  have b4 : Binds K (PySem.W.fnOf "word_at" "Kitchen.word_at" (defArgs st4) (defBody st4) (defScope st4) .none kV4 dc4 pm4 an4 cd4 ct4) psn4 [] := F4.binds (ps := psn4) fun _ _ _ _ _ _ us hl => match us, hl with | [_, _], _ => rfl
  have F5 : Fun K "found" "Kitchen.found" st5 f5 (PySem.W.fnOf "found" "Kitchen.found" (defArgs st5) (defBody st5) (defScope st5) .none kV5 dc5 pm5 an5 cd5 ct5) := fun_mk (st := st5) l5 c5 k5
  have b5 : Binds K (PySem.W.fnOf "found" "Kitchen.found" (defArgs st5) (defBody st5) (defScope st5) .none kV5 dc5 pm5 an5 cd5 ct5) psn5 [] := F5.binds (ps := psn5) fun _ _ _ _ _ _ us hl => match us, hl with | [_, _], _ => rfl
  have F6 : Fun K "do" "Kitchen.do" st6 f6 (PySem.W.fnOf "do" "Kitchen.do" (defArgs st6) (defBody st6) (defScope st6) .none kV6 dc6 pm6 an6 cd6 ct6) := fun_mk (st := st6) l6 c6 k6
  have b6 : Binds K (PySem.W.fnOf "do" "Kitchen.do" (defArgs st6) (defBody st6) (defScope st6) .none kV6 dc6 pm6 an6 cd6 ct6) psn6 [] := F6.binds (ps := psn6) fun _ _ _ _ _ _ us hl => match us, hl with | [_, _], _ => rfl
  have F7 : Fun K "run" "run" st7 f7 (PySem.W.fnOf "run" "run" (defArgs st7) (defBody st7) (defScope st7) .none kV7 dc7 pm7 an7 cd7 ct7) := fun_mk (st := st7) l7 c7 k7
  have b7 : Binds K (PySem.W.fnOf "run" "run" (defArgs st7) (defBody st7) (defScope st7) .none kV7 dc7 pm7 an7 cd7 ct7) psn7 [] := F7.binds (ps := psn7) fun _ _ _ _ _ _ us hl => match us, hl with | [_, _, _], _ => rfl
  have F8 : Fun K "shelved" "shelved" st8 f8 (PySem.W.fnOf "shelved" "shelved" (defArgs st8) (defBody st8) (defScope st8) .none kV8 dc8 pm8 an8 cd8 ct8) := fun_mk (st := st8) l8 c8 k8
  have b8 : Binds K (PySem.W.fnOf "shelved" "shelved" (defArgs st8) (defBody st8) (defScope st8) .none kV8 dc8 pm8 an8 cd8 ct8) psn8 [] := F8.binds (ps := psn8) fun _ _ _ _ _ _ us hl => match us, hl with | [_], _ => rfl
  have F9 : Fun K "_law_cell_at" "_law_cell_at" st9 f9 (PySem.W.fnOf "_law_cell_at" "_law_cell_at" (defArgs st9) (defBody st9) (defScope st9) .none kV9 dc9 pm9 an9 cd9 ct9) := fun_mk (st := st9) l9 c9 k9
  have b9 : Binds K (PySem.W.fnOf "_law_cell_at" "_law_cell_at" (defArgs st9) (defBody st9) (defScope st9) .none kV9 dc9 pm9 an9 cd9 ct9) psn9 [] := F9.binds (ps := psn9) fun _ _ _ _ _ _ us hl => match us, hl with | [_, _], _ => rfl
  have F10 : Fun K "_law_mixed" "_law_mixed" st10 f10 (PySem.W.fnOf "_law_mixed" "_law_mixed" (defArgs st10) (defBody st10) (defScope st10) .none kV10 dc10 pm10 an10 cd10 ct10) := fun_mk (st := st10) l10 c10 k10
  have b10 : Binds K (PySem.W.fnOf "_law_mixed" "_law_mixed" (defArgs st10) (defBody st10) (defScope st10) .none kV10 dc10 pm10 an10 cd10 ct10) psn10 [] := F10.binds (ps := psn10) fun _ _ _ _ _ _ us hl => match us, hl with | [_, _], _ => rfl
  have F11 : Fun K "_law_drawn" "_law_drawn" st11 f11 (PySem.W.fnOf "_law_drawn" "_law_drawn" (defArgs st11) (defBody st11) (defScope st11) .none kV11 dc11 pm11 an11 cd11 ct11) := fun_mk (st := st11) l11 c11 k11
  have b11 : Binds K (PySem.W.fnOf "_law_drawn" "_law_drawn" (defArgs st11) (defBody st11) (defScope st11) .none kV11 dc11 pm11 an11 cd11 ct11) psn11 [] := F11.binds (ps := psn11) fun _ _ _ _ _ _ us hl => match us, hl with | [_, _], _ => rfl
  have F12 : Fun K "_law_tree" "_law_tree" st12 f12 (PySem.W.fnOf "_law_tree" "_law_tree" (defArgs st12) (defBody st12) (defScope st12) .none kV12 dc12 pm12 an12 cd12 ct12) := fun_mk (st := st12) l12 c12 k12
  have b12 : Binds K (PySem.W.fnOf "_law_tree" "_law_tree" (defArgs st12) (defBody st12) (defScope st12) .none kV12 dc12 pm12 an12 cd12 ct12) psn12 [] := F12.binds (ps := psn12) fun _ _ _ _ _ _ us hl => match us, hl with | [_, _, _], _ => rfl
  have F13 : Fun K "_law_drawn_tree" "_law_drawn_tree" st13 f13 (PySem.W.fnOf "_law_drawn_tree" "_law_drawn_tree" (defArgs st13) (defBody st13) (defScope st13) .none kV13 dc13 pm13 an13 cd13 ct13) := fun_mk (st := st13) l13 c13 k13
  have b13 : Binds K (PySem.W.fnOf "_law_drawn_tree" "_law_drawn_tree" (defArgs st13) (defBody st13) (defScope st13) .none kV13 dc13 pm13 an13 cd13 ct13) psn13 [] := F13.binds (ps := psn13) fun _ _ _ _ _ _ us hl => match us, hl with | [_], _ => rfl
  have F14 : Fun K "_law_part" "_law_part" st14 f14 (PySem.W.fnOf "_law_part" "_law_part" (defArgs st14) (defBody st14) (defScope st14) .none kV14 dc14 pm14 an14 cd14 ct14) := fun_mk (st := st14) l14 c14 k14
  have b14 : Binds K (PySem.W.fnOf "_law_part" "_law_part" (defArgs st14) (defBody st14) (defScope st14) .none kV14 dc14 pm14 an14 cd14 ct14) psn14 [] := F14.binds (ps := psn14) fun _ _ _ _ _ _ us hl => match us, hl with | [_, _], _ => rfl
  have F15 : Fun K "_law_addresses" "_law_addresses" st15 f15 (PySem.W.fnOf "_law_addresses" "_law_addresses" (defArgs st15) (defBody st15) (defScope st15) .none kV15 dc15 pm15 an15 cd15 ct15) := fun_mk (st := st15) l15 c15 k15
  have b15 : Binds K (PySem.W.fnOf "_law_addresses" "_law_addresses" (defArgs st15) (defBody st15) (defScope st15) .none kV15 dc15 pm15 an15 cd15 ct15) psn15 [] := F15.binds (ps := psn15) fun _ _ _ _ _ _ us hl => match us, hl with | [_, _], _ => rfl
  have F16 : Fun K "_law_held" "_law_held" st16 f16 (PySem.W.fnOf "_law_held" "_law_held" (defArgs st16) (defBody st16) (defScope st16) .none kV16 dc16 pm16 an16 cd16 ct16) := fun_mk (st := st16) l16 c16 k16
  have b16 : Binds K (PySem.W.fnOf "_law_held" "_law_held" (defArgs st16) (defBody st16) (defScope st16) .none kV16 dc16 pm16 an16 cd16 ct16) psn16 [] := F16.binds (ps := psn16) fun _ _ _ _ _ _ us hl => match us, hl with | [_, _], _ => rfl
  have F17 : Fun K "_law_brings" "_law_brings" st17 f17 (PySem.W.fnOf "_law_brings" "_law_brings" (defArgs st17) (defBody st17) (defScope st17) .none kV17 dc17 pm17 an17 cd17 ct17) := fun_mk (st := st17) l17 c17 k17
  have b17 : Binds K (PySem.W.fnOf "_law_brings" "_law_brings" (defArgs st17) (defBody st17) (defScope st17) .none kV17 dc17 pm17 an17 cd17 ct17) psn17 [] := F17.binds (ps := psn17) fun _ _ _ _ _ _ us hl => match us, hl with | [_, _, _, _], _ => rfl
  have F18 : Fun K "_law_run" "_law_run" st18 f18 (PySem.W.fnOf "_law_run" "_law_run" (defArgs st18) (defBody st18) (defScope st18) .none kV18 dc18 pm18 an18 cd18 ct18) := fun_mk (st := st18) l18 c18 k18
  have b18 : Binds K (PySem.W.fnOf "_law_run" "_law_run" (defArgs st18) (defBody st18) (defScope st18) .none kV18 dc18 pm18 an18 cd18 ct18) psn18 [] := F18.binds (ps := psn18) fun _ _ _ _ _ _ us hl => match us, hl with | [_, _, _], _ => rfl
  have F19 : Fun K "_law_work" "_law_work" st19 f19 (PySem.W.fnOf "_law_work" "_law_work" (defArgs st19) (defBody st19) (defScope st19) .none kV19 dc19 pm19 an19 cd19 ct19) := fun_mk (st := st19) l19 c19 k19
  have b19 : Binds K (PySem.W.fnOf "_law_work" "_law_work" (defArgs st19) (defBody st19) (defScope st19) .none kV19 dc19 pm19 an19 cd19 ct19) psn19 [] := F19.binds (ps := psn19) fun _ _ _ _ _ _ us hl => match us, hl with | [_, _, _, _, _], _ => rfl
  have F20 : Fun K "_law_code" "_law_code" st20 f20 (PySem.W.fnOf "_law_code" "_law_code" (defArgs st20) (defBody st20) (defScope st20) .none kV20 dc20 pm20 an20 cd20 ct20) := fun_mk (st := st20) l20 c20 k20
  have b20 : Binds K (PySem.W.fnOf "_law_code" "_law_code" (defArgs st20) (defBody st20) (defScope st20) .none kV20 dc20 pm20 an20 cd20 ct20) psn20 [] := F20.binds (ps := psn20) fun _ _ _ _ _ _ us hl => match us, hl with | [_, _, _], _ => rfl
  have F21 : Fun K "_law_changed" "_law_changed" st21 f21 (PySem.W.fnOf "_law_changed" "_law_changed" (defArgs st21) (defBody st21) (defScope st21) .none kV21 dc21 pm21 an21 cd21 ct21) := fun_mk (st := st21) l21 c21 k21
  have b21 : Binds K (PySem.W.fnOf "_law_changed" "_law_changed" (defArgs st21) (defBody st21) (defScope st21) .none kV21 dc21 pm21 an21 cd21 ct21) psn21 [] := F21.binds (ps := psn21) fun _ _ _ _ _ _ us hl => match us, hl with | [_, _], _ => rfl
  have F22 : Fun K "law" "law" st22 f22 (PySem.W.fnOf "law" "law" (defArgs st22) (defBody st22) (defScope st22) .none kV22 dc22 pm22 an22 cd22 ct22) := fun_mk (st := st22) l22 c22 k22
  have b22 : Binds K (PySem.W.fnOf "law" "law" (defArgs st22) (defBody st22) (defScope st22) .none kV22 dc22 pm22 an22 cd22 ct22) psn22 [] := F22.binds (ps := psn22) fun _ _ _ _ _ _ us hl => match us, hl with | [_], _ => rfl
  have T : Facts K mg fa fd cl := { F0 := F0, b0 := b0, m0 := PySem.W.mg_of X G a0, F1 := F1, b1 := b1, F2 := F2, b2 := b2, me2 := ⟨a2, i2, k2⟩, F3 := F3, b3 := b3, me3 := ⟨a3, i3, k3⟩, F4 := F4, b4 := b4, me4 := ⟨a4, i4, k4⟩, F5 := F5, b5 := b5, me5 := ⟨a5, i5, k5⟩, F6 := F6, b6 := b6, me6 := ⟨a6, i6, k6⟩, F7 := F7, b7 := b7, m7 := PySem.W.mg_of X G a7, F8 := F8, b8 := b8, m8 := PySem.W.mg_of X G a8, F9 := F9, b9 := b9, m9 := PySem.W.mg_of X G a9, F10 := F10, b10 := b10, m10 := PySem.W.mg_of X G a10, F11 := F11, b11 := b11, m11 := PySem.W.mg_of X G a11, F12 := F12, b12 := b12, m12 := PySem.W.mg_of X G a12, F13 := F13, b13 := b13, m13 := PySem.W.mg_of X G a13, F14 := F14, b14 := b14, m14 := PySem.W.mg_of X G a14, F15 := F15, b15 := b15, m15 := PySem.W.mg_of X G a15, F16 := F16, b16 := b16, m16 := PySem.W.mg_of X G a16, F17 := F17, b17 := b17, m17 := PySem.W.mg_of X G a17, F18 := F18, b18 := b18, m18 := PySem.W.mg_of X G a18, F19 := F19, b19 := b19, m19 := PySem.W.mg_of X G a19, F20 := F20, b20 := b20, m20 := PySem.W.mg_of X G a20, F21 := F21, b21 := b21, m21 := PySem.W.mg_of X G a21, F22 := F22, b22 := b22, m22 := PySem.W.mg_of X G a22, zint := PySem.W.mg_none_of X G zint, zisinstance := PySem.W.mg_none_of X G zisinstance, zlen := PySem.W.mg_none_of X G zlen, zlist := PySem.W.mg_none_of X G zlist, zrange := PySem.W.mg_none_of X G zrange, zstr := PySem.W.mg_none_of X G zstr, ztuple := PySem.W.mg_none_of X G ztuple, gPLACES := ⟨tkPLACES, PySem.W.mg_of X G vPLACES⟩, gJOINS := ⟨adJOINS, PySem.W.mg_of X G vJOINS, ⟨_, _, _, tJOINS, rfl, rfl, (by show 3 ≤ sizeLine; decide), .cons ⟨_, rfl⟩ (.cons ⟨_, rfl⟩ (.cons ⟨_, rfl⟩ (.nil)))⟩⟩, mgKitchen := PySem.W.mg_of X G cA0, cl0 := hc0, mk0 := ⟨mk0, a1, i1, kc0⟩, at_pans := fun _ => ⟨hc0, npans0⟩, at_shelf := fun _ => ⟨hc0, nshelf0⟩, at_tree := fun _ => ⟨hc0, ntree0⟩ }
  refine ⟨fd 22, fun s v => .of_eq rfl, fun base _ _ => ?_⟩
  exact law_end (cl := cl) (good_all (P := l.prog) (w := w) (base := base) T lawDepth).g22
theorem walk {l : PySem.W.OpenLaw} {q : Program} {loose : List Str} {XP : (Str → Option Value) → Heap → Prop} {YP : World → Heap → Prop} {d : DefRec} {K : Params → PySem.W.Frag} (hn : l.most = some 63) (hdf : d.params.defaults = [])
    (hY : ∀ (w : World) (h : Heap), YP w h → (K w.params).In h)
    (F : ∀ (w : World) (mg : Str → Option Value) (fa : Addr) (h : Heap), (K w.params).In h → h.Ns mainGlobals mg → mg d.name = some (.ref fa) →
      ∃ fd : FuncData, (∀ (s : Shared) (u : Value), BindsTo s fd ⟨[u], []⟩ [("_law_script", u)]) ∧ ∀ base : Heap, (K w.params).In base → base.Ns mainGlobals mg → FnOk l.prog w (K w.params) mg base CX0 (2 * lawDepth) fa fd ["_law_script"] (spLaw (K w.params))) :
    PySem.W.WalkO q loose XP YP l.row.toRowW d [] (fun f vs => PySem.call f vs) :=
  L2.walk_of (n := 63) (k := 2 * lawDepth) (x := "_law_script") (CX := fun _ => CX0) (sp := fun w => spLaw (K w.params)) hn (by decide) hdf ⟨rfl, by decide, by decide⟩ hY F (fun _ _ a ns hl _ hS => ⟨a, ns, rfl, hS, hl, fun _ => rfl⟩) fun _ _ _ _ _ z => z
end Wk
open PySem PySem.W PyProof.Rows in
set_option maxRecDepth 100000 in
set_option maxHeartbeats 0 in
theorem PySem.Challenge.cw_fewpans_k10_codes_run_holds : PySem.Challenge.rw_fewpans_k10_codes_run.Holds := by
  w_on; o_law; k_head; (case hw => w_witness2)
  k_fill
  refine Wk.walk (l := PySem.Challenge.rw_fewpans_k10_codes_run) rfl rfl (fun w h Y => PySem.W.kIn_of Y) ?F
  case F =>
    intro w mg fa h KX G hmg
    refine' Wk.all_mk KX G hmg ?cA0 ?a0 ?l0 ?c0 ?k0 ?a1 ?i1 ?l1 ?c1 ?k1 ?a2 ?i2 ?l2 ?c2 ?k2 ?a3 ?i3 ?l3 ?c3 ?k3 ?a4 ?i4 ?l4 ?c4 ?k4 ?a5 ?i5 ?l5 ?c5 ?k5 ?a6 ?i6 ?l6 ?c6 ?k6 ?a7 ?l7 ?c7 ?k7 ?a8 ?l8 ?c8 ?k8 ?a9 ?l9 ?c9 ?k9 ?a10 ?l10 ?c10 ?k10 ?a11 ?l11 ?c11 ?k11 ?a12 ?l12 ?c12 ?k12 ?a13 ?l13 ?c13 ?k13 ?a14 ?l14 ?c14 ?k14 ?a15 ?l15 ?c15 ?k15 ?a16 ?l16 ?c16 ?k16 ?a17 ?l17 ?c17 ?k17 ?a18 ?l18 ?c18 ?k18 ?a19 ?l19 ?c19 ?k19 ?a20 ?l20 ?c20 ?k20 ?a21 ?l21 ?c21 ?k21 ?a22 ?l22 ?c22 ?k22 ?pg0 ?hd0 ?po0 ?sa0 ?mk0 ?kc0 ?npans0 ?nshelf0 ?ntree0 ?zint ?zisinstance ?zlen ?zlist ?zrange ?zstr ?ztuple ?vPLACES ?vJOINS ?tJOINS
    (case cA0 => k_is)
    (case a0 => k_is)
    (case l0 => k_is)
    (case c0 => k_is)
    (case k0 => k_is)
    (case a1 => k_is)
    (case i1 => k_is)
    (case l1 => k_is)
    (case c1 => k_is)
    (case k1 => k_is)
    (case a2 => k_is)
    (case i2 => k_is)
    (case l2 => k_is)
    (case c2 => k_is)
    (case k2 => k_is)
    (case a3 => k_is)
    (case i3 => k_is)
    (case l3 => k_is)
    (case c3 => k_is)
    (case k3 => k_is)
    (case a4 => k_is)
    (case i4 => k_is)
    (case l4 => k_is)
    (case c4 => k_is)
    (case k4 => k_is)
    (case a5 => k_is)
    (case i5 => k_is)
    (case l5 => k_is)
    (case c5 => k_is)
    (case k5 => k_is)
    (case a6 => k_is)
    (case i6 => k_is)
    (case l6 => k_is)
    (case c6 => k_is)
    (case k6 => k_is)
    (case a7 => k_is)
    (case l7 => k_is)
    (case c7 => k_is)
    (case k7 => k_is)
    (case a8 => k_is)
    (case l8 => k_is)
    (case c8 => k_is)
    (case k8 => k_is)
    (case a9 => k_is)
    (case l9 => k_is)
    (case c9 => k_is)
    (case k9 => k_is)
    (case a10 => k_is)
    (case l10 => k_is)
    (case c10 => k_is)
    (case k10 => k_is)
    (case a11 => k_is)
    (case l11 => k_is)
    (case c11 => k_is)
    (case k11 => k_is)
    (case a12 => k_is)
    (case l12 => k_is)
    (case c12 => k_is)
    (case k12 => k_is)
    (case a13 => k_is)
    (case l13 => k_is)
    (case c13 => k_is)
    (case k13 => k_is)
    (case a14 => k_is)
    (case l14 => k_is)
    (case c14 => k_is)
    (case k14 => k_is)
    (case a15 => k_is)
    (case l15 => k_is)
    (case c15 => k_is)
    (case k15 => k_is)
    (case a16 => k_is)
    (case l16 => k_is)
    (case c16 => k_is)
    (case k16 => k_is)
    (case a17 => k_is)
    (case l17 => k_is)
    (case c17 => k_is)
    (case k17 => k_is)
    (case a18 => k_is)
    (case l18 => k_is)
    (case c18 => k_is)
    (case k18 => k_is)
    (case a19 => k_is)
    (case l19 => k_is)
    (case c19 => k_is)
    (case k19 => k_is)
    (case a20 => k_is)
    (case l20 => k_is)
    (case c20 => k_is)
    (case k20 => k_is)
    (case a21 => k_is)
    (case l21 => k_is)
    (case c21 => k_is)
    (case k21 => k_is)
    (case a22 => k_is)
    (case l22 => k_is)
    (case c22 => k_is)
    (case k22 => k_is)
    (case pg0 => k_is)
    (case hd0 => k_is)
    (case po0 => k_is)
    (case sa0 => k_is)
    (case mk0 => k_is)
    (case kc0 => k_is)
    (case npans0 => k_is)
    (case nshelf0 => k_is)
    (case ntree0 => k_is)
    (case zint => k_is)
    (case zisinstance => k_is)
    (case zlen => k_is)
    (case zlist => k_is)
    (case zrange => k_is)
    (case zstr => k_is)
    (case ztuple => k_is)
    (case vPLACES => k_is)
    (case vJOINS => k_is)
    (case tJOINS => k_is)

