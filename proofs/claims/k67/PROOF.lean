import PyProof.Rows.All
import Wide.All
import OpenK.AllK
import Wide.FinOn
import HandS.ForMost
import HandS.IsInst
import HandS.Walk
import HandS.TupAny
import HandS.Wide
import HandS.Defaults
import HandS.HeadHook2
import HandS.HeadHook4
import HandS.Head2
import HandS.HeadEnd
import HandS.Style
import HandS.NoneIn
import HandS.RaiseMore
import KE.KStateDown
import Lean
import HandS.Exc
import HandS.Head0
import HandS.Head1
import HandS.HeadHook1
import PySem.Challenge.RW_enoughsaid_k67_books_read
set_option Elab.async false
set_option linter.all false
set_option maxRecDepth 100000
set_option maxHeartbeats 1000000
namespace EV
open PySem PySem.Spec PyProof.Rows L2

/-! data -/
inductive D where
  | non | bl (b : Bool) | int (i : Int) | str (s : Str)
  | lst (xs : List D) | tup (xs : List D)
  | dct (t : Bool) (kvs : List (D × D))
  | obj (c : Nat) (xs : List D)
  | cell (n : Nat) | fn (f : Nat)
inductive Slot where
  | un | fz (d : D) | ow (d : D)
abbrev Rho := List Slot
abbrev Sto := List D
abbrev LIM : Nat := 16777216

/-! code -/
inductive Ty where
  | ty (n : String) | cls (c : Nat)
/-- built-in functions and methods, by what they make of data -/
inductive Bi where
  | len | all | any | sum | max | min | int | str | max2 | min2
mutual
inductive E where
  | k (d : D) | gl (g : Nat) | v (i : Nat)
  | bin (op : Operator) (a b : E) | neg (a : E) | not (a : E)
  | cmp (op : CmpOp) (a b : R) | chn (o1 o2 : CmpOp) (a b c : E)
  | and (a b : E) | or (a b : E)
  | tup (es : Es) | frz (o : O) | box (o : O)
  | sub (a : R) (i : E) | attr (a : E) (f : Nat)
  | call (f : Nat) (es : Es) | make (c : Nat) (es : Es)
  | join (s : E) (a : R) | str1 (a : E) | tupl (a : R)
  | bi (b : Bi) (a : R) | b2 (b : Bi) (x y : E) | isi (a : E) (t : Ty)
/-- what is only read: an expression, or a container that a slot owns -/
inductive R where
  | e (a : E) | own (i : Nat)
/-- a new container -/
inductive O where
  | lst (es : Es) | lc (el : E) (tg : Tg) (it : It) (c : Eo) | cat (a b : R) | call (f : Nat) (es : Es)
  | slc (a : R) (lo hi : Eo) | lst1 (a : R) | rev (a : R) | rep (i : Nat) (k : E) | split (s t : E)
inductive Eo where
  | no | so (e : E)
inductive Es where
  | nil | cons (e : E) (es : Es)
inductive Tg where
  | v (i : Nat) | tup (l : List Nat)
inductive It where
  | lst (a : R) | tup (a : E) | str (a : E) | rng (a : E) | enum (a : E) | zip (a b : E)
end
mutual
inductive S where
  | set (i : Nat) (e : E) | setO (i : Nat) (o : O) | frz (i : Nat) | setT (l : List Nat) (e : E)
  | setA (i : Nat) (f : Nat) (e : E)
  | setIx (a k e : E)
  | app (i : Nat) (e : E)
  | ex (e : E)
  | ret (e : E) | retO (o : O) | retS (i : Nat) | ret0
  | iff (c : E) (a b : Ss)
  | for (tg : Tg) (it : It) (b : Ss)
  | pas | bad
inductive Ss where
  | nil | cons (s : S) (b : Ss)
end

/-! what the text has -/
structure Fn where
  d : He.DefD
  N : List Str
  ps : List Str
  code : Ss
  /-- the __init__ of a class whose instances never change -/
  ini : Bool
structure Cl where
  name : Str
  fields : List Nat
  init : Nat
  mu : Bool
  /-- the classes that it is, itself among them -/
  isa : List Nat
structure Tab where
  fns : List Fn
  cls : List Cl
  names : List Str
  con : List (Str × D)

/-! operations on data -/
mutual
def D.py : D → PyData
  | .non => .none
  | .bl b => .bool b
  | .int i => .int i
  | .str s => .str s
  | .lst xs => .list (D.pys xs)
  | .tup xs => .tuple (D.pys xs)
  | _ => .dict []
def D.pys : List D → List PyData
  | [] => []
  | x :: xs => D.py x :: D.pys xs
end
mutual
def D.dat : D → Bool
  | .non => true
  | .bl _ => true
  | .int _ => true
  | .str _ => true
  | .lst xs => D.dats xs
  | .tup xs => D.dats xs
  | _ => false
def D.dats : List D → Bool
  | [] => true
  | x :: xs => D.dat x && D.dats xs
end
def D.flat : D → Bool
  | .non => true
  | .bl _ => true
  | .int _ => true
  | .str _ => true
  | _ => false
def sok (s : Str) : Bool := PyData.strOk s && decide (s.length ≤ LIM)
def D.top (μ : Sto) : D → Option D
  | .cell n => μ[n]?
  | d => some d
def eqD (x y : D) : Option Bool := if (x.dat && y.dat && decide (min x.py.depth y.py.depth ≤ 64)) = true then some (PyData.eqv x.py y.py) else none
def inD (x : D) (xs : List D) : Option Bool := if (x.flat && xs.all D.flat) = true then some (xs.any fun y => PyData.eqv y.py x.py) else none
def asSeq : D → Option (List D)
  | .lst xs => some xs
  | .tup xs => some xs
  | _ => none
def asLst : D → Option (List D)
  | .lst xs => some xs
  | _ => none
def asInts : List D → Option (List Int)
  | [] => some []
  | .int i :: r => (asInts r).bind fun l => some (i :: l)
  | _ => none
def asStrs : List D → Option (List Str)
  | [] => some []
  | .str i :: r => (asStrs r).bind fun l => some (i :: l)
  | _ => none
def asBls : List D → Option (List Bool)
  | [] => some []
  | .bl i :: r => (asBls r).bind fun l => some (i :: l)
  | _ => none
def binD (op : Operator) (x y : D) : Option D := match op, x, y with
  | .Add, .int i, .int j => some (.int (i + j))
  | .Sub, .int i, .int j => some (.int (i - j))
  | .Mult, .int i, .int j => if (-(2 ^ 64) < i ∧ i < 2 ^ 64) ∨ (-(2 ^ 64) < j ∧ j < 2 ^ 64) then some (.int (i * j)) else none
  | .FloorDiv, .int i, .int j => if 0 < j ∧ j < 1073741824 then some (.int (i / j)) else none
  | .Mod, .int i, .int j => if 0 < j then some (.int (i % j)) else none
  | .Pow, .int i, .int j => if 0 ≤ j ∧ j ≤ 1000000 ∧ i.natAbs < 2 ^ 64 then some (.int (i ^ j.toNat)) else none
  | .LShift, .int i, .int j => if 0 ≤ j ∧ j ≤ 1000000 ∧ i.natAbs < 2 ^ 64 then some (.int (i * 2 ^ j.toNat)) else none
  | .Add, .str a, .str b => if a.length + b.length ≤ LIM then some (.str (a ++ b)) else none
  | .Add, .tup a, .tup b => if a.length + b.length ≤ LIM then some (.tup (a ++ b)) else none
  | _, _, _ => none
def inA (x y : D) (μ : Sto) : Option Bool := match y with
  | .str s => (match x with | .str a => some (!(Builtin.Str.occurrences s a 0 s.length 1).isEmpty) | _ => none)
  | y => (y.top μ).bind fun y => (asSeq y).bind fun ys => inD x ys
def cmpD (op : CmpOp) (x y : D) (μ : Sto) : Option Bool := match op with
  | .Eq => (x.top μ).bind fun x => (y.top μ).bind fun y => eqD x y
  | .NotEq => (x.top μ).bind fun x => (y.top μ).bind fun y => (eqD x y).bind fun b => some (!b)
  | .Lt => match x, y with | .int i, .int j => some (decide (i < j)) | _, _ => none
  | .LtE => match x, y with | .int i, .int j => some (decide (i ≤ j)) | _, _ => none
  | .Gt => match x, y with | .int i, .int j => some (decide (j < i)) | _, _ => none
  | .GtE => match x, y with | .int i, .int j => some (decide (j ≤ i)) | _, _ => none
  | .Is => match y with | .non => some (match x with | .non => true | _ => false) | _ => none
  | .IsNot => match y with | .non => some (match x with | .non => false | _ => true) | _ => none
  | .In => inA x y μ
  | .NotIn => (inA x y μ).bind fun b => some (!b)
def subD (x y : D) (μ : Sto) : Option D := match y with
  | .int i => (match x with
    | .str s => (atI s.cps.toList i).bind fun c => some (.str ⟨#[c]⟩)
    | _ => (x.top μ).bind fun x => (asSeq x).bind fun xs => atI xs i)
  | _ => none
def maxI : List Int → Int → Int
  | [], m => m
  | x :: r, m => maxI r (if x > m then x else m)
def minI : List Int → Int → Int
  | [], m => m
  | x :: r, m => minI r (if x < m then x else m)
def biD (b : Bi) (x : D) (μ : Sto) : Option D := match b with
  | .len => (match x with
    | .str s => some (.int s.length)
    | _ => (x.top μ).bind fun x => (asSeq x).bind fun xs => some (.int xs.length))
  | .all => (x.top μ).bind fun x => (asLst x).bind fun xs => (asBls xs).bind fun bs => some (.bl (bs.all id))
  | .any => (x.top μ).bind fun x => (asLst x).bind fun xs => (asBls xs).bind fun bs => some (.bl (bs.any id))
  | .sum => (x.top μ).bind fun x => (asLst x).bind fun xs => (asInts xs).bind fun ns => some (.int ns.sum)
  | .max => (x.top μ).bind fun x => (asLst x).bind fun xs => (asInts xs).bind fun ns => (match ns with | [] => none | n :: r => some (.int (maxI r n)))
  | .min => (x.top μ).bind fun x => (asLst x).bind fun xs => (asInts xs).bind fun ns => (match ns with | [] => none | n :: r => some (.int (minI r n)))
  | .int => (match x with | .int i => some (.int i) | .bl b => some (.int (if b then 1 else 0)) | .str s => (PySem.intText? s).bind fun n => if s.length ≤ 640 then some (.int n) else none | _ => none)
  | _ => none
def b2D (b : Bi) (x y : D) : Option D := match b, x, y with
  | .max2, .int i, .int j => some (.int (if j > i then j else i))
  | .min2, .int i, .int j => some (.int (if j < i then j else i))
  | _, _, _ => none
def tyD (T : Tab) (x : D) (t : Ty) (μ : Sto) : Option Bool := match t with
  | .ty n => (x.top μ).bind fun x => (match x with
    | .non => some (decide (n = "NoneType"))
    | .bl _ => some (decide (n = "bool") || decide (n = "int"))
    | .int _ => some (decide (n = "int"))
    | .str _ => some (decide (n = "str"))
    | .lst _ => some (decide (n = "list"))
    | .tup _ => some (decide (n = "tuple"))
    | .dct _ _ => some (decide (n = "dict"))
    | .obj _ _ => some false
    | _ => none)
  | .cls c => (x.top μ).bind fun x => (match x with
    | .obj c' _ => (T.cls[c']?).bind fun k => some (k.isa.contains c)
    | .fn _ => none
    | .cell _ => none
    | _ => some false)
def fieldD (T : Tab) (x : D) (f : Nat) (μ : Sto) : Option D := (x.top μ).bind fun x => match x with
  | .obj c xs => (T.cls[c]?).bind fun k => ((k.fields.zip xs).lookup f)
  | _ => none
/-- the fields behind a store: f is one that is there, or the next one -/
def putD (T : Tab) (c : Nat) (xs : List D) (f : Nat) (x : D) : Option (List D) := (T.cls[c]?).bind fun k =>
  (k.fields.idxOf? f).bind fun j => if j < xs.length then some (xs.set j x) else if j = xs.length then some (xs ++ [x]) else none
def setAll : Rho → List Nat → List D → Option Rho
  | ρ, [], [] => some ρ
  | ρ, i :: l, d :: ds => if i < ρ.length then setAll (ρ.set i (.fz d)) l ds else none
  | _, _, _ => none
def bindTg (tg : Tg) (d : D) (ρ : Rho) : Option Rho := match tg with
  | .v i => if i < ρ.length then some (ρ.set i (.fz d)) else none
  | .tup l => match d with
    | .tup ds => setAll ρ l ds
    | _ => none
def Tg.slots : Tg → List Nat
  | .v i => [i]
  | .tup l => l
def wipeR (ρ : Rho) : List Nat → Rho
  | [] => ρ
  | v :: vs => (wipeR ρ vs).set v .un
abbrev Gd := Option (Nat × D)
open Classical in
noncomputable def stay (g : Gd) (μ : Sto) : Bool := match g with
  | none => true
  | some (n, d) => decide (μ[n]? = some d)
def seqGd (x : D) (μ : Sto) : Gd := match x with
  | .cell n => (μ[n]?).map fun d => (n, d)
  | _ => none
noncomputable def lcL (g : Gd) (f : D → Sto → Option (Option D × Sto)) : List D → Sto → Option (List D × Sto)
  | [], μ => if stay g μ = true then some ([], μ) else none
  | x :: xs, μ => if stay g μ = true then (f x μ).bind fun r => (lcL g f xs r.2).bind fun q => some (match r.1 with | some y => y :: q.1 | none => q.1, q.2) else none
inductive Out where
  | nx (ρ : Rho) (μ : Sto) | rt (o : Bool) (d : D) (μ : Sto)
noncomputable def forL (g : Gd) (f : D → Rho → Sto → Option Out) : List D → Rho → Sto → Option Out
  | [], ρ, μ => if stay g μ = true then some (.nx ρ μ) else none
  | x :: xs, ρ, μ => if stay g μ = true then (f x ρ μ).bind fun r => (match r with
    | .nx ρ' μ' => forL g f xs ρ' μ'
    | r => some r) else none
abbrev Cal := Nat → List D → Sto → Option ((Bool × D) × Sto)
abbrev Mak := Nat → List D → Sto → Option (D × Sto)

def cutD (xs : List D) (lo hi : Option Int) : List D := (xs.drop (HT.sIx xs.length 0 lo)).take (HT.sIx xs.length xs.length hi - HT.sIx xs.length 0 lo)
/-! the meaning -/
section
variable (T : Tab) (cal : Cal) (mak : Mak)
mutual
noncomputable def ev : E → Rho → Sto → Option (D × Sto)
  | .k d, _, μ => some (d, μ)
  | .gl g, _, μ => (T.con[g]?).bind fun q => some (q.2, μ)
  | .v i, ρ, μ => (match ρ[i]? with | some (.fz d) => some (d, μ) | _ => none)
  | .bin op a b, ρ, μ => (ev a ρ μ).bind fun x => (ev b ρ x.2).bind fun y => (binD op x.1 y.1).bind fun z => some (z, y.2)
  | .neg a, ρ, μ => (ev a ρ μ).bind fun x => (match x.1 with | .int i => some (.int (-i), x.2) | _ => none)
  | .not a, ρ, μ => (ev a ρ μ).bind fun x => (match x.1 with | .bl b => some (.bl (!b), x.2) | _ => none)
  | .cmp op a b, ρ, μ => (evR a ρ μ).bind fun x => (evR b ρ x.2).bind fun y => (cmpD op x.1 y.1 y.2).bind fun z => some (.bl z, y.2)
  | .chn o1 o2 a b c, ρ, μ => (ev a ρ μ).bind fun x => (ev b ρ x.2).bind fun y => (cmpD o1 x.1 y.1 y.2).bind fun z =>
      if z = true then (ev c ρ y.2).bind fun w => (cmpD o2 y.1 w.1 w.2).bind fun z => some (.bl z, w.2) else some (.bl false, y.2)
  | .and a b, ρ, μ => (ev a ρ μ).bind fun x => (match x.1 with | .bl true => ev b ρ x.2 | .bl false => some (.bl false, x.2) | _ => none)
  | .or a b, ρ, μ => (ev a ρ μ).bind fun x => (match x.1 with | .bl false => ev b ρ x.2 | .bl true => some (.bl true, x.2) | _ => none)
  | .tup es, ρ, μ => (evs es ρ μ).bind fun x => some (.tup x.1, x.2)
  | .frz o, ρ, μ => evO o ρ μ
  | .box o, ρ, μ => (evO o ρ μ).bind fun x => some (.cell x.2.length, x.2 ++ [x.1])
  | .sub a i, ρ, μ => (evR a ρ μ).bind fun x => (ev i ρ x.2).bind fun y => (subD x.1 y.1 y.2).bind fun z => some (z, y.2)
  | .attr a f, ρ, μ => (ev a ρ μ).bind fun x => (fieldD T x.1 f x.2).bind fun z => some (z, x.2)
  | .call f es, ρ, μ => (evs es ρ μ).bind fun x => (cal f x.1 x.2).bind fun r => some (r.1.2, r.2)
  | .make c es, ρ, μ => (evs es ρ μ).bind fun x => mak c x.1 x.2
  | .join s a, ρ, μ => (ev s ρ μ).bind fun x => (evR a ρ x.2).bind fun y => (y.1.top y.2).bind fun d => (asSeq d).bind fun xs => (asStrs xs).bind fun ys => (match x.1 with
    | .str z => if (ys.map (·.length)).sum + ys.length * z.length ≤ LIM ∧ sok (Txt.join z ys) = true then some (.str (Txt.join z ys), y.2) else none
    | _ => none)
  | .str1 a, ρ, μ => (ev a ρ μ).bind fun x => (match x.1 with
    | .int i => if i.natAbs.log2 < 1920 ∧ sok (Str.ofString (toString i)) = true then some (.str (Str.ofString (toString i)), x.2) else none
    | .str s => some (.str s, x.2)
    | _ => none)
  | .tupl a, ρ, μ => (evR a ρ μ).bind fun x => (x.1.top x.2).bind fun d => (asSeq d).bind fun xs => some (.tup xs, x.2)
  | .bi b a, ρ, μ => (evR a ρ μ).bind fun x => (biD b x.1 x.2).bind fun z => some (z, x.2)
  | .b2 b x y, ρ, μ => (ev x ρ μ).bind fun x => (ev y ρ x.2).bind fun y => (b2D b x.1 y.1).bind fun z => some (z, y.2)
  | .isi a t, ρ, μ => (ev a ρ μ).bind fun x => (tyD T x.1 t x.2).bind fun b => some (.bl b, x.2)
noncomputable def evR : R → Rho → Sto → Option (D × Sto)
  | .e a, ρ, μ => ev a ρ μ
  | .own i, ρ, μ => (match ρ[i]? with | some (.ow d) => some (d, μ) | _ => none)
noncomputable def evO : O → Rho → Sto → Option (D × Sto)
  | .lst es, ρ, μ => (evs es ρ μ).bind fun x => some (.lst x.1, x.2)
  | .lc el tg it c, ρ, μ => (evI it ρ μ).bind fun x => (lcL x.1.2 (fun d μ => (bindTg tg d (wipeR ρ tg.slots)).bind fun ρ' => (evC c ρ' μ).bind fun b =>
      if b.1 = true then (ev el ρ' b.2).bind fun y => some (some y.1, y.2) else some (none, b.2)) x.1.1 x.2).bind fun q => some (.lst q.1, q.2)
  | .cat a b, ρ, μ => (evR a ρ μ).bind fun x => (evR b ρ x.2).bind fun y => (x.1.top y.2).bind fun x => (y.1.top y.2).bind fun z => (asLst x).bind fun xs => (asLst z).bind fun zs =>
      if xs.length + zs.length ≤ LIM then some (.lst (xs ++ zs), y.2) else none
  | .call f es, ρ, μ => (evs es ρ μ).bind fun x => (cal f x.1 x.2).bind fun r => if r.1.1 = true then some (r.1.2, r.2) else none
  | .slc a lo hi, ρ, μ => (evR a ρ μ).bind fun x => (evX lo ρ x.2).bind fun l => (evX hi ρ l.2).bind fun h => (x.1.top h.2).bind fun d => (asLst d).bind fun xs => some (.lst (cutD xs l.1 h.1), h.2)
  | .lst1 a, ρ, μ => (evR a ρ μ).bind fun x => (x.1.top x.2).bind fun d => (asSeq d).bind fun xs => some (.lst xs, x.2)
  | .rev a, ρ, μ => (evR a ρ μ).bind fun x => (x.1.top x.2).bind fun d => (asLst d).bind fun xs => some (.lst xs.reverse, x.2)
  | .split s t, ρ, μ => (ev s ρ μ).bind fun x => (ev t ρ x.2).bind fun y => (match x.1, y.1 with
    | .str a, .str b => if (b.length == 0) = false ∧ a.length + 2 ≤ LIM ∧ (Txt.split a b).all sok = true ∧ (Txt.split a b).length ≤ LIM then some (.lst ((Txt.split a b).map D.str), y.2) else none
    | _, _ => none)
  | .rep i k, ρ, μ => (ev k ρ μ).bind fun y => (match ρ[i]?, y.1 with
    | some (.ow (.lst xs)), .int k => if -(2 ^ 63) ≤ k ∧ k < 2 ^ 63 ∧ xs.length * k.toNat ≤ LIM then some (.lst (List.replicate k.toNat xs).flatten, y.2) else none
    | _, _ => none)
noncomputable def evs : Es → Rho → Sto → Option (List D × Sto)
  | .nil, _, μ => some ([], μ)
  | .cons e es, ρ, μ => (ev e ρ μ).bind fun x => (evs es ρ x.2).bind fun xs => some (x.1 :: xs.1, xs.2)
noncomputable def evC : Eo → Rho → Sto → Option (Bool × Sto)
  | .no, _, μ => some (true, μ)
  | .so e, ρ, μ => (ev e ρ μ).bind fun x => (match x.1 with | .bl b => some (b, x.2) | _ => none)
noncomputable def evX : Eo → Rho → Sto → Option (Option Int × Sto)
  | .no, _, μ => some (none, μ)
  | .so e, ρ, μ => (ev e ρ μ).bind fun x => (match x.1 with | .int i => some (some i, x.2) | _ => none)
noncomputable def evI : It → Rho → Sto → Option ((List D × Gd) × Sto)
  | .lst a, ρ, μ => (evR a ρ μ).bind fun x => (x.1.top x.2).bind fun d => (asLst d).bind fun xs => some ((xs, seqGd x.1 x.2), x.2)
  | .tup a, ρ, μ => (ev a ρ μ).bind fun x => (match x.1 with | .tup xs => some ((xs, none), x.2) | _ => none)
  | .str a, ρ, μ => (ev a ρ μ).bind fun x => (match x.1 with | .str s => some ((s.cps.toList.map fun c => D.str ⟨#[c]⟩, none), x.2) | _ => none)
  | .enum a, ρ, μ => (ev a ρ μ).bind fun x => (x.1.top x.2).bind fun d => (asLst d).bind fun xs => some ((xs.zipIdx.map fun p => D.tup [.int (p.2 : Nat), p.1], seqGd x.1 x.2), x.2)
  | .zip a b, ρ, μ => (ev a ρ μ).bind fun x => (ev b ρ x.2).bind fun y => (x.1.top y.2).bind fun d => (asLst d).bind fun xs => (match y.1 with
    | .lst ys => some (((xs.zip ys).map fun p => D.tup [p.1, p.2], seqGd x.1 y.2), y.2)
    | _ => none)
  | .rng a, ρ, μ => (ev a ρ μ).bind fun x => (match x.1 with | .int n => if -1000000000 ≤ n ∧ n ≤ 16777216 then some (((List.range n.toNat).map fun (i : Nat) => D.int i, none), x.2) else none | _ => none)
end
mutual
noncomputable def ex : S → Rho → Sto → Option Out
  | .set i e, ρ, μ => (ev T cal mak e ρ μ).bind fun x => if i < ρ.length then some (.nx (ρ.set i (.fz x.1)) x.2) else none
  | .setO i o, ρ, μ => (evO T cal mak o ρ μ).bind fun x => if i < ρ.length then some (.nx (ρ.set i (.ow x.1)) x.2) else none
  | .setT l e, ρ, μ => (ev T cal mak e ρ μ).bind fun x => (x.1.top x.2).bind fun d => (asSeq d).bind fun xs => (setAll ρ l xs).bind fun ρ' => some (.nx ρ' x.2)
  | .frz i, ρ, μ => (match ρ[i]? with | some (.ow d) => some (.nx (ρ.set i (.fz d)) μ) | _ => none)
  | .setA i f e, ρ, μ => (ev T cal mak e ρ μ).bind fun x => (match ρ[i]? with
    | some (.ow (.obj c xs)) => (putD T c xs f x.1).bind fun ys => some (.nx (ρ.set i (.ow (.obj c ys))) x.2)
    | some (.fz (.cell n)) => (match x.2[n]? with
      | some (.obj c xs) => (putD T c xs f x.1).bind fun ys => some (.nx ρ (x.2.set n (.obj c ys)))
      | _ => none)
    | _ => none)
  | .setIx a k e, ρ, μ => (ev T cal mak e ρ μ).bind fun x => (ev T cal mak a ρ x.2).bind fun y => (ev T cal mak k ρ y.2).bind fun z => (match y.1, z.1 with
    | .cell n, .int i => (match z.2[n]? with
      | some (.lst xs) => (ixN xs.length i).bind fun j => some (.nx ρ (z.2.set n (.lst (xs.set j x.1))))
      | _ => none)
    | _, _ => none)
  | .app i e, ρ, μ => (ev T cal mak e ρ μ).bind fun x => (match ρ[i]? with
    | some (.ow (.lst xs)) => if xs.length < LIM then some (.nx (ρ.set i (.ow (.lst (xs ++ [x.1])))) x.2) else none
    | some (.fz (.cell n)) => (match μ[n]?, x.2[n]? with
      | some (.lst _), some (.lst xs) => if xs.length < LIM then some (.nx ρ (x.2.set n (.lst (xs ++ [x.1])))) else none
      | _, _ => none)
    | _ => none)
  | .ex e, ρ, μ => (ev T cal mak e ρ μ).bind fun x => some (.nx ρ x.2)
  | .ret e, ρ, μ => (ev T cal mak e ρ μ).bind fun x => some (.rt false x.1 x.2)
  | .retO o, ρ, μ => (evO T cal mak o ρ μ).bind fun x => some (.rt true x.1 x.2)
  | .retS i, ρ, μ => (match ρ[i]? with | some (.ow d) => some (.rt true d μ) | _ => none)
  | .ret0, ρ, μ => some (.rt false .non μ)
  | .iff c a b, ρ, μ => (ev T cal mak c ρ μ).bind fun x => (match x.1 with | .bl true => exs a ρ x.2 | .bl false => exs b ρ x.2 | _ => none)
  | .for tg it b, ρ, μ => (evI T cal mak it ρ μ).bind fun x => forL x.1.2 (fun d ρ μ => (bindTg tg d ρ).bind fun ρ' => exs b ρ' μ) x.1.1 ρ x.2
  | .pas, ρ, μ => some (.nx ρ μ)
  | .bad, _, _ => none
noncomputable def exs : Ss → Rho → Sto → Option Out
  | .nil, ρ, μ => some (.nx ρ μ)
  | .cons s b, ρ, μ => (ex s ρ μ).bind fun r => (match r with | .nx ρ' μ' => exs b ρ' μ' | r => some r)
end
def start (N : Nat) (ds : List D) : Rho := ds.map Slot.fz ++ List.replicate (N - ds.length) Slot.un
/-- a def called -/
noncomputable def runF (F : Fn) (ds : List D) (μ : Sto) : Option ((Bool × D) × Sto) :=
  if ds.length = F.ps.length ∧ F.ini = false then (exs T cal mak F.code (start F.N.length ds) μ).bind fun r => (match r with
    | .nx _ μ' => some ((false, .non), μ')
    | .rt o d μ' => some ((o, d), μ')) else none
/-- an __init__ of an instance that is to stay -/
noncomputable def runI (F : Fn) (c : Nat) (ds : List D) (μ : Sto) : Option (D × Sto) :=
  if ds.length + 1 = F.ps.length ∧ F.ini = true then (exs T cal mak F.code ((start F.N.length (.non :: ds)).set 0 (.ow (.obj c []))) μ).bind fun r => (match r with
    | .nx ρ μ' => (match (ρ[0]? : Option Slot) with
      | some (.ow d) => some (d, μ')
      | some (.fz d) => some (d, μ')
      | _ => none)
    | _ => none) else none
/-- C(..) -/
noncomputable def mkC (c : Nat) (ds : List D) (μ : Sto) : Option (D × Sto) := (T.cls[c]?).bind fun k => (T.fns[k.init]?).bind fun F => runI T cal mak F c ds μ
end
noncomputable def sem (T : Tab) : Nat → Cal × Mak
  | 0 => (fun _ _ _ => none, fun _ _ _ => none)
  | n + 1 => (fun f ds μ => (T.fns[f]?).bind fun F => runF T (sem T n).1 (sem T n).2 F ds μ, fun c ds μ => mkC T (sem T n).1 (sem T n).2 c ds μ)
end EV

set_option Elab.async false
set_option linter.all false
set_option maxRecDepth 100000
set_option maxHeartbeats 1000000
namespace EV
open PySem PySem.Spec PyProof.Rows L2

/-! where things stand -/
/-- addresses of defs, classes; the written part -/
structure Pl where
  K : PySem.W.Frag
  T : Tab
def Pl.fa (P : Pl) (f : Nat) : Addr := match P.T.fns[f]? with
  | some F => He.fAd P.K F.d.at_
  | none => 0
def Pl.ca (P : Pl) (c : Nat) : Addr := match P.T.cls[c]? with
  | some k => He.ga P.K k.name
  | none => 0
def Pl.nm (P : Pl) (f : Nat) : Str := P.T.names.getD f ""
def Pl.fld (P : Pl) (c : Nat) : List Str := match P.T.cls[c]? with
  | some k => k.fields.map P.nm
  | none => []

/-- a place in time: what will never change, the cells -/
structure Wo where
  F : Addr → Prop
  ι : List Addr
section
variable (P : Pl)
mutual
inductive Rep (W : Wo) (H : Hp) : V → D → Prop
  | non : Rep W H .non .non
  | bl (b) : Rep W H (.bl b) (.bl b)
  | int (i) : Rep W H (.int i) (.int i)
  | str (s) : sok s = true → Rep W H (.str s) (.str s)
  | fn (f) : Rep W H (.ref (P.fa f)) (.fn f)
  | cell {n a} : W.ι[n]? = some a → Rep W H (.ref a) (.cell n)
  | lst {a vs ds} : SqL P.K H a vs → (W.F a ∨ ∀ H', SqL P.K H' a vs) → vs.length ≤ LIM → RepL W H vs ds → Rep W H (.ref a) (.lst ds)
  | tup {a vs ds} : SqT P.K H a vs → (W.F a ∨ ∀ H', SqT P.K H' a vs) → vs.length ≤ LIM → RepL W H vs ds → Rep W H (.ref a) (.tup ds)
  | obj {a c dx vs ds} : (P.T.cls[c]?).isSome = true → H a = some (.ins (P.ca c) dx ((P.fld c).zip vs)) → W.F a → vs.length ≤ (P.fld c).length → RepL W H vs ds → Rep W H (.ref a) (.obj c ds)
inductive RepL (W : Wo) (H : Hp) : List V → List D → Prop
  | nil : RepL W H [] []
  | cons {v vs d ds} : Rep W H v d → RepL W H vs ds → RepL W H (v :: vs) (d :: ds)
end
/-- a container that may be changed -/
inductive Cell (W : Wo) (H : Hp) (a : Addr) : D → Prop
  | lst {vs ds} : H a = some (.lst vs) → vs.length ≤ LIM → RepL P W H vs ds → Cell W H a (.lst ds)
  | obj {c dx vs ds} : (P.T.cls[c]?).isSome = true → H a = some (.ins (P.ca c) dx ((P.fld c).zip vs)) → vs.length ≤ (P.fld c).length → RepL P W H vs ds → Cell W H a (.obj c ds)
/-- from one place in time to a later one -/
structure Ext (W : Wo) (H : Hp) (W' : Wo) (H' : Hp) : Prop where
  fz : ∀ a, W.F a → W'.F a
  fresh : ∀ a, W'.F a → W.F a ∨ H a = none
  old : ∀ a o, H a = some o → a ∉ W.ι → H' a = some o
  pre : ∃ l, W'.ι = W.ι ++ l
  newc : ∀ a ∈ W'.ι, a ∈ W.ι ∨ H a = none
/-- all is in order -/
structure Wd (W : Wo) (H : Hp) (μ : Sto) : Prop where
  len : W.ι.length = μ.length
  nd : W.ι.Nodup
  nf : ∀ a ∈ W.ι, ¬ W.F a
  tr : ∀ a, W.F a → H a ≠ none
  cell : ∀ (n : Nat) (a : Addr) (d : D), W.ι[n]? = some a → μ[n]? = some d → Cell P W H a d
/-- an owned container -/
structure Own (W : Wo) (H : Hp) (a : Addr) (d : D) : Prop where
  c : Cell P W H a d
  nf : ¬ W.F a
  nc : a ∉ W.ι
structure En (W : Wo) (H : Hp) (σ : L2.St) (ρ : Rho) : Prop where
  len : σ.length = ρ.length
  fz : ∀ (i : Nat) (d : D), ρ[i]? = some (.fz d) → ∃ v, σ[i]? = some (some v) ∧ Rep P W H v d
  ow : ∀ (i : Nat) (d : D), ρ[i]? = some (.ow d) → ∃ a, σ[i]? = some (some (.ref a)) ∧ Own P W H a d
  ne : ∀ (i j : Nat) (d e : D) (a : Addr), ρ[i]? = some (.ow d) → ρ[j]? = some (.ow e) → σ[i]? = some (some (.ref a)) → σ[j]? = some (some (.ref a)) → i = j
end
section
variable {P : Pl} {W W' W'' : Wo} {H H' H'' : Hp} {μ μ' : Sto} {σ : L2.St} {ρ : Rho}
theorem RepL.len : ∀ {vs ds}, RepL P W H vs ds → vs.length = ds.length
  | _, _, .nil => rfl
  | _, _, .cons _ t => congrArg Nat.succ (RepL.len t)
theorem RepL.get : ∀ {vs ds} {i : Nat} {d : D}, RepL P W H vs ds → ds[i]? = some d → ∃ v, vs[i]? = some v ∧ Rep P W H v d
  | _, _, _, _, .nil, e => by simp at e
  | _, _, 0, _, .cons r _, e => by simp at e; subst e; exact ⟨_, rfl, r⟩
  | _, _, i + 1, d, .cons _ t, e => by simpa using RepL.get (i := i) (d := d) t (by simpa using e)
theorem RepL.append : ∀ {vs ds ws es}, RepL P W H vs ds → RepL P W H ws es → RepL P W H (vs ++ ws) (ds ++ es)
  | _, _, _, _, .nil, t => t
  | _, _, _, _, .cons r s, t => .cons r (RepL.append s t)
theorem RepL.set : ∀ {vs ds} (i : Nat) {v d}, RepL P W H vs ds → Rep P W H v d → RepL P W H (vs.set i v) (ds.set i d)
  | _, _, _, _, _, .nil, _ => .nil
  | _, _, 0, _, _, .cons _ t, q => .cons q t
  | _, _, i + 1, _, _, .cons r t, q => .cons r (RepL.set i t q)
theorem SqL_rd {K : PySem.W.Frag} {a : Addr} {vs : List V} (h : SqL K H a vs) (k : (∀ o, H a = some o → H' a = some o)) : SqL K H' a vs := by
  rcases h with (h | ⟨o, h⟩) | h
  · exact .inl (.inl (k _ h))
  · exact .inl (.inr ⟨o, k _ h⟩)
  · exact .inr h
theorem SqT_rd {K : PySem.W.Frag} {a : Addr} {vs : List V} (h : SqT K H a vs) (k : (∀ o, H a = some o → H' a = some o)) : SqT K H' a vs := by
  rcases h with (h | ⟨o, h⟩) | h
  · exact .inl (.inl (k _ h))
  · exact .inl (.inr ⟨o, k _ h⟩)
  · exact .inr h
/-- what the frozen part and the cells' places say carries over -/
structure Keep (W : Wo) (H : Hp) (W' : Wo) (H' : Hp) : Prop where
  fz : ∀ a, W.F a → W'.F a
  rd : ∀ a o, W.F a → H a = some o → H' a = some o
  pre : ∃ l, W'.ι = W.ι ++ l
mutual
theorem Rep.keep (k : Keep W H W' H') : ∀ {v : V} {d : D}, Rep P W H v d → Rep P W' H' v d
  | _, _, .non => .non
  | _, _, .bl b => .bl b
  | _, _, .int i => .int i
  | _, _, .str s h => .str s h
  | _, _, .fn f => .fn f
  | _, _, .cell (n := n) h => by
    obtain ⟨l, e⟩ := k.pre
    refine .cell (n := n) ?_
    rw [e, List.getElem?_append_left (List.getElem?_eq_some_iff.mp h).1]
    exact h
  | _, _, .lst h f z r => by
    refine .lst (vs := _) ?_ (f.imp (k.fz _) id) z (RepL.keep k r)
    rcases f with f | f
    · exact SqL_rd h fun o q => k.rd _ o f q
    · exact f H'
  | _, _, .tup h f z r => by
    refine .tup (vs := _) ?_ (f.imp (k.fz _) id) z (RepL.keep k r)
    rcases f with f | f
    · exact SqT_rd h fun o q => k.rd _ o f q
    · exact f H'
  | _, _, .obj hc h f z r => .obj hc (k.rd _ _ f h) (k.fz _ f) z (RepL.keep k r)
theorem RepL.keep (k : Keep W H W' H') : ∀ {vs : List V} {ds : List D}, RepL P W H vs ds → RepL P W' H' vs ds
  | _, _, .nil => .nil
  | _, _, .cons r t => .cons (Rep.keep k r) (RepL.keep k t)
end
theorem Ext.keep (x : Ext W H W' H') (w : Wd P W H μ) : Keep W H W' H' := ⟨x.fz, fun a o f h => x.old a o h fun z => w.nf a z f, x.pre⟩
theorem Rep.ext (x : Ext W H W' H') (w : Wd P W H μ) {v : V} {d : D} (r : Rep P W H v d) : Rep P W' H' v d := r.keep (x.keep w)
theorem RepL.ext (x : Ext W H W' H') (w : Wd P W H μ) {v : List V} {d : List D} (r : RepL P W H v d) : RepL P W' H' v d := r.keep (x.keep w)
theorem Cell.keep {a : Addr} {d : D} (k : Keep W H W' H') (e : ∀ o, H a = some o → H' a = some o) (c : Cell P W H a d) : Cell P W' H' a d := by
  cases c with
  | lst h z r => exact .lst (e _ h) z (r.keep k)
  | obj hc h z r => exact .obj hc (e _ h) z (r.keep k)
theorem Cell.some {a : Addr} {d : D} (c : Cell P W H a d) : ∃ o, H a = Option.some o := by
  cases c with
  | lst h _ _ => exact ⟨_, h⟩
  | obj _ h _ _ => exact ⟨_, h⟩
theorem Own.ext {a : Addr} {d : D} (x : Ext W H W' H') (w : Wd P W H μ) (c : Own P W H a d) : Own P W' H' a d := by
  obtain ⟨o, ho⟩ := c.c.some
  refine ⟨c.c.keep (x.keep w) fun o q => x.old a o q c.nc, fun z => ?_, fun z => ?_⟩
  · rcases x.fresh a z with h | h
    · exact c.nf h
    · rw [ho] at h; cases h
  · rcases x.newc a z with h | h
    · exact c.nc h
    · rw [ho] at h; cases h
theorem En.ext (x : Ext W H W' H') (w : Wd P W H μ) (e : En P W H σ ρ) : En P W' H' σ ρ := by
  refine ⟨e.len, fun i d h => ?_, fun i d h => ?_, e.ne⟩
  · obtain ⟨v, a, b⟩ := e.fz i d h
    exact ⟨v, a, b.ext x w⟩
  · obtain ⟨v, a, b⟩ := e.ow i d h
    exact ⟨v, a, b.ext x w⟩
theorem Ext.refl : Ext W H W H := ⟨fun _ h => h, fun _ h => .inl h, fun _ _ h _ => h, ⟨[], by simp⟩, fun _ h => .inl h⟩
theorem Ext.tr (x : Ext W H W' H') (y : Ext W' H' W'' H'') (w' : Wd P W' H' μ') : Ext W H W'' H'' := by
  have up : ∀ a, H' a = none → a ∉ W.ι → H a = none := fun a h hn => by
    cases q : H a with
    | none => rfl
    | some o => rw [x.old a o q hn] at h; cases h
  have inι : ∀ a, a ∈ W.ι → a ∈ W'.ι := fun a h => by
    obtain ⟨l, e⟩ := x.pre
    rw [e]; exact List.mem_append_left _ h
  have ci : ∀ a, a ∈ W.ι → H' a ≠ none := fun a h => by
    have h' := inι a h
    obtain ⟨n, hn⟩ := List.getElem?_of_mem h'
    have hl : n < μ'.length := by rw [← w'.len]; exact (List.getElem?_eq_some_iff.mp hn).1
    obtain ⟨o, ho⟩ := (w'.cell n a _ hn (List.getElem?_eq_getElem hl)).some
    rw [ho]; exact fun z => nomatch z
  refine ⟨fun a h => y.fz a (x.fz a h), fun a h => ?_, fun a o h hn => ?_, ?_, fun a h => ?_⟩
  · rcases y.fresh a h with q | q
    · exact x.fresh a q
    · exact .inr (up a q fun z => ci a z q)
  · refine y.old a o (x.old a o h hn) fun z => ?_
    rcases x.newc a z with q | q
    · exact hn q
    · rw [h] at q; cases q
  · obtain ⟨l, e⟩ := x.pre
    obtain ⟨m, e'⟩ := y.pre
    exact ⟨l ++ m, by rw [e', e, List.append_assoc]⟩
  · rcases y.newc a h with q | q
    · exact x.newc a q
    · by_cases hn : a ∈ W.ι
      · exact .inl hn
      · exact .inr (up a q hn)
theorem Ext.trans (x : Ext W H W' H') (y : Ext W' H' W'' H'') (w : Wd P W H μ) (w' : Wd P W' H' μ') : Ext W H W'' H'' := x.tr y w'
/-! new things -/
def Wo.add (W : Wo) (p : Addr) : Wo := ⟨fun a => W.F a ∨ a = p, W.ι⟩
/-- the same container, from now on never changed -/
theorem Own.freeze {a : Addr} {d : D} (w : Wd P W H μ) (o : Own P W H a d) : Wd P (W.add a) H μ ∧ Rep P (W.add a) H (.ref a) d ∧ (∀ b, ¬ (W.add a).F b ↔ ¬ W.F b ∧ b ≠ a) := by
  have k : Keep W H (W.add a) H := ⟨fun _ h => .inl h, fun _ _ _ h => h, [], by simp [Wo.add]⟩
  refine ⟨⟨w.len, w.nd, fun b hb z => ?_, fun b hb => ?_, fun n b d h1 h2 => (w.cell n b d h1 h2).keep k fun _ h => h⟩, ?_, fun b => ?_⟩
  · rcases z with z | z
    · exact w.nf b hb z
    · exact o.nc (z ▸ hb)
  · rcases hb with z | z
    · exact w.tr b z
    · obtain ⟨u, hu⟩ := o.c.some
      rw [z, hu]; exact fun z => nomatch z
  · cases o.c with
    | lst h z r => exact .lst (.of h) (.inl (.inr rfl)) z (r.keep k)
    | obj hc h z r => exact .obj hc h (.inr rfl) z (r.keep k)
  · show ¬ (W.F b ∨ b = a) ↔ _
    exact ⟨fun h => ⟨fun z => h (.inl z), fun z => h (.inr z)⟩, fun h z => z.elim h.1 h.2⟩
end
end EV

set_option Elab.async false
set_option linter.all false
set_option maxRecDepth 100000
set_option maxHeartbeats 1000000
namespace EV
open PySem PySem.Spec PyProof.Rows L2
theorem lim_eq : (LIM : Nat) = sizeLine := by rw [sizeLine_eq]
section
variable {P : Pl} {W W' W'' : Wo} {H H' H'' : Hp} {μ μ' : Sto} {σ : L2.St} {ρ : Rho}
theorem bind_some' {α β : Type} {x : Option α} {f : α → Option β} {b : β} (h : x.bind f = some b) : ∃ a, x = some a ∧ f a = some b := Option.bind_eq_some_iff.mp h
theorem keep_upd {p : Addr} {o : HO} (w : Wd P W H μ) (hp : H p = none) {G : Addr → Prop} (hG : ∀ a, W.F a → G a) : Keep W H ⟨G, W.ι⟩ (upd H p o) :=
  ⟨hG, fun a u _ h => by rw [upd_ne (ne_of_none h hp)]; exact h, [], by simp⟩
theorem Wd.notp {p : Addr} (w : Wd P W H μ) (hp : H p = none) : ¬ W.F p ∧ p ∉ W.ι := by
  refine ⟨fun z => w.tr p z hp, fun z => ?_⟩
  obtain ⟨n, hn⟩ := List.getElem?_of_mem z
  have hl : n < μ.length := by rw [← w.len]; exact (List.getElem?_eq_some_iff.mp hn).1
  obtain ⟨o, ho⟩ := (w.cell n p _ hn (List.getElem?_eq_getElem hl)).some
  rw [hp] at ho; cases ho
/-- a new object, frozen at once -/
theorem addF {p : Addr} {o : HO} (w : Wd P W H μ) (hp : H p = none) : Ext W H (W.add p) (upd H p o) ∧ Wd P (W.add p) (upd H p o) μ := by
  have k : Keep W H (W.add p) (upd H p o) := keep_upd w hp fun a h => .inl h
  obtain ⟨nF, nι⟩ := w.notp hp
  refine ⟨⟨fun _ h => .inl h, fun a h => ?_, fun a u h _ => ?_, ⟨[], by simp [Wo.add]⟩, fun _ h => .inl h⟩, ⟨w.len, w.nd, fun a h z => ?_, fun a h => ?_, fun n a d h1 h2 => (w.cell n a d h1 h2).keep k fun u h => ?_⟩⟩
  · rcases h with h | h
    · exact .inl h
    · subst h; exact .inr hp
  · rw [upd_ne (ne_of_none h hp)]; exact h
  · rcases z with z | z
    · exact w.nf a h z
    · subst z; exact nι h
  · rcases h with h | h
    · rw [upd_ne (show a ≠ p from fun z => nF (z ▸ h))]; exact w.tr a h
    · subst h; rw [upd_same]; exact fun z => nomatch z
  · rw [upd_ne (ne_of_none h hp)]; exact h
/-- a new object, owned -/
theorem addO {p : Addr} {o : HO} (w : Wd P W H μ) (hp : H p = none) : Ext W H W (upd H p o) ∧ Wd P W (upd H p o) μ := by
  have k : Keep W H W (upd H p o) := keep_upd w hp fun a h => h
  obtain ⟨nF, nι⟩ := w.notp hp
  refine ⟨⟨fun _ h => h, fun a h => .inl h, fun a u h _ => ?_, ⟨[], by simp⟩, fun _ h => .inl h⟩, ⟨w.len, w.nd, w.nf, fun a h => ?_, fun n a d h1 h2 => (w.cell n a d h1 h2).keep k fun u h => ?_⟩⟩
  · rw [upd_ne (ne_of_none h hp)]; exact h
  · rw [upd_ne (show a ≠ p from fun z => nF (z ▸ h))]; exact w.tr a h
  · rw [upd_ne (ne_of_none h hp)]; exact h
/-- what is free behind was free ahead -/
theorem Ext.free {a : Addr} (x : Ext W H W' H') (w' : Wd P W' H' μ) (h : H' a = none) : H a = none := by
  cases q : H a with
  | none => rfl
  | some o =>
    by_cases hn : a ∈ W.ι
    · obtain ⟨l, e⟩ := x.pre
      exact absurd (show a ∈ W'.ι by rw [e]; exact List.mem_append_left _ hn) (w'.notp h).2
    · rw [x.old a o q hn] at h; cases h
theorem Ext.addF {a : Addr} (x : Ext W H W' H') (ha : H a = none) : Ext W H (W'.add a) H' := by
  refine ⟨fun b h => .inl (x.fz b h), fun b h => ?_, x.old, x.pre, x.newc⟩
  rcases h with h | h
  · exact x.fresh b h
  · subst h; exact .inr ha
/-- a new cell -/
def Wo.addC (W : Wo) (a : Addr) : Wo := ⟨W.F, W.ι ++ [a]⟩
theorem Ext.addC {a : Addr} (x : Ext W H W' H') (ha : H a = none) : Ext W H (W'.addC a) H' := by
  refine ⟨x.fz, x.fresh, x.old, ?_, fun b h => ?_⟩
  · obtain ⟨l, e⟩ := x.pre
    exact ⟨l ++ [a], by show W'.ι ++ [a] = _; rw [e, List.append_assoc]⟩
  · rcases List.mem_append.mp h with h | h
    · exact x.newc b h
    · have e : b = a := by simpa using h
      subst e; exact .inr ha
theorem Own.box {a : Addr} {d : D} (w : Wd P W H μ) (o : Own P W H a d) : Wd P (W.addC a) H (μ ++ [d]) ∧ Rep P (W.addC a) H (.ref a) (.cell μ.length) := by
  have k : Keep W H (W.addC a) H := ⟨fun _ h => h, fun _ _ _ h => h, [a], rfl⟩
  have hl := w.len
  refine ⟨⟨by simp [Wo.addC, hl], ?_, fun b h => ?_, w.tr, fun n b e h1 h2 => ?_⟩, .cell (n := μ.length) ?_⟩
  · show (W.ι ++ [a]).Nodup
    rw [List.nodup_append]
    refine ⟨w.nd, by simp, fun x hx y hy => ?_⟩
    have e : y = a := by simpa using hy
    rintro rfl
    exact o.nc (e ▸ hx)
  · rcases List.mem_append.mp h with h | h
    · exact w.nf b h
    · have e : b = a := by simpa using h
      subst e; exact o.nf
  · have h1 : (W.ι ++ [a])[n]? = some b := h1
    by_cases hn : n < μ.length
    · rw [List.getElem?_append_left (by omega)] at h1
      rw [List.getElem?_append_left hn] at h2
      exact (w.cell n b e h1 h2).keep k fun _ h => h
    · have hn2 : n = μ.length := by
        have := (List.getElem?_eq_some_iff.mp h2).1
        simp at this; omega
      subst hn2
      rw [← hl] at h1
      simp at h1 h2
      subst h1 h2
      exact o.c.keep k fun _ h => h
  · show (W.ι ++ [a])[μ.length]? = some a
    rw [← hl]; simp
/-- a cell is written -/
theorem Wd.write {n : Nat} {a : Addr} {d : D} {o : HO} (w : Wd P W H μ) (hn : W.ι[n]? = some a) (c : Cell P W (upd H a o) a d) : Ext W H W (upd H a o) ∧ Wd P W (upd H a o) (μ.set n d) := by
  have ha : a ∈ W.ι := List.mem_of_getElem? hn
  have k : Keep W H W (upd H a o) := ⟨fun _ h => h, fun b u f h => by rw [upd_ne (show b ≠ a from fun z => w.nf a ha (z ▸ f))]; exact h, [], by simp⟩
  refine ⟨⟨fun _ h => h, fun _ h => .inl h, fun b u h hb => by rw [upd_ne (show b ≠ a from fun z => hb (z ▸ ha))]; exact h, ⟨[], by simp⟩, fun _ h => .inl h⟩, ⟨by simp [w.len], w.nd, w.nf, fun b h => ?_, fun m b e h1 h2 => ?_⟩⟩
  · rw [upd_ne (show b ≠ a from fun z => w.nf a ha (z ▸ h))]; exact w.tr b h
  · by_cases hm : m = n
    · subst hm
      rw [hn] at h1; cases h1
      have hl : m < μ.length := by rw [← w.len]; exact (List.getElem?_eq_some_iff.mp hn).1
      rw [List.getElem?_set_self hl] at h2; cases h2
      exact c
    · rw [List.getElem?_set_ne (Ne.symm hm)] at h2
      have hb : b ≠ a := fun z => by
        subst z
        exact hm ((List.getElem?_inj (List.getElem?_eq_some_iff.mp h1).1 w.nd).mp (by rw [h1, hn]))
      exact (w.cell m b e h1 h2).keep k fun u h => by rw [upd_ne hb]; exact h
/-! what may be read -/
def RRep (P : Pl) (W : Wo) (H : Hp) (v : V) (d : D) : Prop := Rep P W H v d ∨ ∃ a, v = .ref a ∧ Own P W H a d
theorem RRep.ext (x : Ext W H W' H') (w : Wd P W H μ) {v : V} {d : D} (r : RRep P W H v d) : RRep P W' H' v d := by
  rcases r with r | ⟨a, e, o⟩
  · exact .inl (r.ext x w)
  · exact .inr ⟨a, e, o.ext x w⟩
/-- a list that may be read -/
theorem RRep.lst {v : V} {d : D} {xs : List D} (w : Wd P W H μ) (r : RRep P W H v d) (h : (d.top μ).bind asLst = some xs) : ∃ a vs, v = .ref a ∧ SqL P.K H a vs ∧ RepL P W H vs xs ∧ vs.length ≤ LIM := by
  obtain ⟨e, h1, h2⟩ := bind_some' h
  have key : ∀ {a : Addr}, Cell P W H a e → ∃ vs, SqL P.K H a vs ∧ RepL P W H vs xs ∧ vs.length ≤ LIM := fun {a} c => by
    cases c with
    | lst hh z rr => cases h2; exact ⟨_, .of hh, rr, z⟩
    | obj => cases h2
  cases d with
  | cell n =>
    rcases r with r | ⟨a, _, o⟩
    · cases r with
      | @cell _ a hn =>
        obtain ⟨vs, q1, q2, q3⟩ := key (w.cell n a e hn h1)
        exact ⟨a, vs, rfl, q1, q2, q3⟩
    · cases o.c
  | lst ys =>
    cases h1
    cases h2
    rcases r with r | ⟨a, ea, o⟩
    · cases r with
      | lst q f z rr => exact ⟨_, _, rfl, q, rr, z⟩
    · obtain ⟨vs, q1, q2, q3⟩ := key o.c
      exact ⟨a, vs, ea, q1, q2, q3⟩
  | _ => cases h1; cases h2
theorem RRep.seq {v : V} {d : D} {xs : List D} (w : Wd P W H μ) (r : RRep P W H v d) (h : (d.top μ).bind asSeq = some xs) : ∃ a vs, v = .ref a ∧ (SqL P.K H a vs ∨ SqT P.K H a vs) ∧ RepL P W H vs xs ∧ vs.length ≤ LIM := by
  cases d with
  | tup ys =>
    cases h
    rcases r with r | ⟨a, ea, o⟩
    · cases r with
      | tup q f z rr => exact ⟨_, _, rfl, .inr q, rr, z⟩
    · cases o.c
  | cell n =>
    rcases r with r | ⟨a, _, o⟩
    · cases r with
      | @cell _ a hn =>
        obtain ⟨e, h1, h2⟩ := bind_some' h
        cases w.cell n a e hn h1 with
        | lst hh z rr => cases h2; exact ⟨a, _, rfl, .inl (.of hh), rr, z⟩
        | obj => cases h2
    · cases o.c
  | lst ys =>
    obtain ⟨a, vs, q0, q1, q2, q3⟩ := r.lst (xs := ys) w rfl
    cases h
    exact ⟨a, vs, q0, .inl q1, q2, q3⟩
  | _ => cases h
theorem RRep.obj {v : V} {d : D} {c : Nat} {xs : List D} (w : Wd P W H μ) (r : RRep P W H v d) (h : d.top μ = some (.obj c xs)) : ∃ a dx vs, v = .ref a ∧ (P.T.cls[c]?).isSome = true ∧ H a = some (.ins (P.ca c) dx ((P.fld c).zip vs)) ∧ RepL P W H vs xs ∧ vs.length ≤ (P.fld c).length := by
  cases d with
  | cell n =>
    rcases r with r | ⟨a, _, o⟩
    · cases r with
      | @cell _ a hn =>
        cases w.cell n a _ hn h with
        | obj hc hh z rr => exact ⟨a, _, _, rfl, hc, hh, rr, z⟩
    · cases o.c
  | obj c' ys =>
    cases h
    rcases r with r | ⟨a, ea, o⟩
    · cases r with
      | obj hc q f z rr => exact ⟨_, _, _, rfl, hc, q, rr, z⟩
    · cases o.c with
      | obj hc hh z rr => exact ⟨a, _, _, ea, hc, hh, rr, z⟩
  | _ => cases h
/-! flat things, data -/
theorem Rep.flat {v : V} {d : D} (r : Rep P W H v d) (h : d.flat = true) : flatV v = true := by
  cases r <;> first | rfl | cases h
theorem RepL.flat : ∀ {vs : List V} {ds : List D}, RepL P W H vs ds → ds.all D.flat = true → vs.all flatV = true
  | _, _, .nil, _ => rfl
  | _, _, .cons r t, h => by
    rw [List.all_cons, Bool.and_eq_true] at h ⊢
    exact ⟨r.flat h.1, t.flat h.2⟩
theorem eqV_py {v w : V} {d e : D} (r : Rep P W H v d) (q : Rep P W H w e) (hd : d.flat = true) (he : e.flat = true) : eqV v w = PyData.eqv d.py e.py := by
  cases r <;> first
    | (cases hd; done)
    | (cases q <;> first | (cases he; done) | (simp [eqV, D.py, PyData.eqv]; done) | rfl)
theorem inV_py {w : V} {e : D} (q : Rep P W H w e) (he : e.flat = true) : ∀ {vs : List V} {ds : List D}, RepL P W H vs ds → ds.all D.flat = true → inV w vs = ds.any fun y => PyData.eqv y.py e.py
  | _, _, .nil, _ => rfl
  | _, _, .cons r t, h => by
    rw [List.all_cons, Bool.and_eq_true] at h
    unfold inV
    rw [List.any_cons, List.any_cons, eqV_py r q h.1 he]
    exact congrArg _ (inV_py q he t h.2)
mutual
theorem Rep.dp : ∀ {v : V} {d : D}, Rep P W H v d → d.dat = true → Dp P.K H v d.py ∧ d.py.canLay0 = true
  | _, _, .non, _ => ⟨.non, rfl⟩
  | _, _, .bl b, _ => ⟨.bl b, rfl⟩
  | _, _, .int i, _ => ⟨.int i, rfl⟩
  | _, _, .str s h, _ => ⟨.str s, (Bool.and_eq_true_iff.mp h).1⟩
  | _, _, .fn f, h => nomatch h
  | _, _, .cell _, h => nomatch h
  | _, _, .lst q f z r, h => let ⟨a, b⟩ := RepL.dp r h; ⟨.lst q a, b⟩
  | _, _, .tup q f z r, h => let ⟨a, b⟩ := RepL.dp r h; ⟨.tup q a, b⟩
  | _, _, .obj _ _ _ _ _, h => nomatch h
theorem RepL.dp : ∀ {vs : List V} {ds : List D}, RepL P W H vs ds → D.dats ds = true → DpAll P.K H vs (D.pys ds) ∧ PyData.canLayAll0 (D.pys ds) = true
  | _, _, .nil, _ => ⟨.nil, rfl⟩
  | _, _, .cons r t, h => by
    have h : (D.dat _ && D.dats _) = true := h
    rw [Bool.and_eq_true] at h
    obtain ⟨a, b⟩ := Rep.dp r h.1
    obtain ⟨c, d⟩ := RepL.dp t h.2
    exact ⟨.cons a c, by show (PyData.canLay0 _ && PyData.canLayAll0 _) = true; rw [b, d]; rfl⟩
end
theorem RRep.dp {v : V} {d e : D} (w : Wd P W H μ) (r : RRep P W H v d) (h : d.top μ = some e) (hd : e.dat = true) : Dp P.K H v e.py ∧ e.py.canLay0 = true := by
  have key : ∀ {a : Addr}, Cell P W H a e → Dp P.K H (.ref a) e.py ∧ e.py.canLay0 = true := fun {a} c => by
    cases c with
    | lst hh z rr => obtain ⟨a, b⟩ := rr.dp hd; exact ⟨.lst (.of hh) a, b⟩
    | obj => cases hd
  cases d with
  | cell n =>
    rcases r with r | ⟨a, _, o⟩
    · cases r with
      | cell hn => exact key (w.cell n _ e hn h)
    · cases o.c
  | _ =>
    cases h
    rcases r with r | ⟨a, ea, o⟩
    · exact r.dp hd
    · subst ea; exact key o.c
end
def ownR : R → Bool
  | .own _ => true
  | _ => false
/-! readings -/
section
variable (P : Pl) (cal : Cal) (mak : Mak)
def Post (W : Wo) (H : Hp) (d : D) (μ' : Sto) (Q : VK) : Prop := ∀ v W' H', Ext W H W' H' → Wd P W' H' μ' → Rep P W' H' v d → Q v H'
def tE (e : E) : TE := fun σ H Q => ∃ (W : Wo) (ρ : Rho) (μ : Sto) (d : D) (μ' : Sto), Wd P W H μ ∧ En P W H σ ρ ∧ ev P.T cal mak e ρ μ = some (d, μ') ∧ Post P W H d μ' Q
def tT (e : E) : TT := fun σ H Q => ∃ (W : Wo) (ρ : Rho) (μ : Sto) (b : Bool) (μ' : Sto), Wd P W H μ ∧ En P W H σ ρ ∧ ev P.T cal mak e ρ μ = some (.bl b, μ') ∧ ∀ W' H', Ext W H W' H' → Wd P W' H' μ' → Q b H'
def tR (r : R) : TE := fun σ H Q => ∃ (W : Wo) (ρ : Rho) (μ : Sto) (d : D) (μ' : Sto), Wd P W H μ ∧ En P W H σ ρ ∧ evR P.T cal mak r ρ μ = some (d, μ') ∧ ∀ v W' H', Ext W H W' H' → Wd P W' H' μ' → RRep P W' H' v d → (ownR r = false → Rep P W' H' v d) → Q v H'
def PostO (W : Wo) (H : Hp) (d : D) (μ' : Sto) (Q : VK) : Prop := ∀ a W' H', Ext W H W' H' → Wd P W' H' μ' → Own P W' H' a d → H a = none → Q (.ref a) H'
def tO (o : O) : TE := fun σ H Q => ∃ (W : Wo) (ρ : Rho) (μ : Sto) (d : D) (μ' : Sto), Wd P W H μ ∧ En P W H σ ρ ∧ evO P.T cal mak o ρ μ = some (d, μ') ∧ PostO P W H d μ' Q
def tA' (es : Es) : TA := fun σ H Q => ∃ (W : Wo) (ρ : Rho) (μ : Sto) (d : List D) (μ' : Sto), Wd P W H μ ∧ En P W H σ ρ ∧ evs P.T cal mak es ρ μ = some (d, μ') ∧ ∀ v W' H', Ext W H W' H' → Wd P W' H' μ' → RepL P W' H' v d → Q v H'
/-- two values in hand -/
def rD2 (f : D → D → Sto → Option D) : R2 := fun x y H Q => ∃ (W : Wo) (μ : Sto) (dx dy d : D), Wd P W H μ ∧ RRep P W H x dx ∧ RRep P W H y dy ∧ f dx dy μ = some d ∧ Post P W H d μ Q
def rD2e (f : D → D → Sto → Option D) : R2 := fun x y H Q => ∃ (W : Wo) (μ : Sto) (dx dy d : D), Wd P W H μ ∧ Rep P W H x dx ∧ Rep P W H y dy ∧ f dx dy μ = some d ∧ Post P W H d μ Q
end
end EV

set_option Elab.async false
set_option linter.all false
set_option maxRecDepth 100000
set_option maxHeartbeats 1000000
namespace EV
open PySem PySem.Spec PyProof.Rows L2
abbrev tyNames : List String := ["NoneType", "bool", "int", "str", "list", "tuple", "dict"]
/-- what the head tells of the text -/
structure Facts (P : Pl) (mg : Str → Option Value) : Prop where
  fn : ∀ (f : Nat) (F : Fn), P.T.fns[f]? = some F → ∃ fd, L2.FunD P.K F.d.name F.d.qual F.d.params F.d.body F.d.scope [] [] (P.fa f) fd
  fg : ∀ (f : Nat) (F : Fn) (x : Str), P.T.fns[f]? = some F → F.d.at_ = (x, none) → mg x = some (.ref (P.fa f))
  cg : ∀ (c : Nat) (k : Cl), P.T.cls[c]? = some k → mg k.name = some (.ref (P.ca c))
  cl : ∀ (c : Nat) (k : Cl), P.T.cls[c]? = some k → Cls P.K (P.ca c)
  na : ∀ (c : Nat) (k : Cl) (f : Nat), P.T.cls[c]? = some k → f ∈ k.fields → NoAttr P.K (P.ca c) (P.nm f)
  nd : ∀ (c : Nat) (k : Cl), P.T.cls[c]? = some k → (P.fld c).Nodup ∧ (P.fld c).length ≤ 100
  mkr : ∀ (c : Nat) (k : Cl), P.T.cls[c]? = some k → Mk P.K (P.ca c) (P.fa k.init)
  tyo : ∀ (c : Nat) (k : Cl), P.T.cls[c]? = some k → PySem.W.findIn P.K (.ref (P.ca c)) "__class__" = some (some (.builtin "object.__class__")) ∧ PySem.W.mroIn P.K (P.ca c) (.type "object") = some true ∧
    PySem.W.specialIn P.K (.builtin "object.__class__") "__get__" = some (some (.builtin "getset_descriptor.__get__")) ∧ PySem.W.takesIn P.K (.builtin "object.__class__") = some true
  oo : ∀ (c c' : Nat) (k k' : Cl), P.T.cls[c]? = some k → P.T.cls[c']? = some k' → PySem.W.kitOne P.K (.ref (P.ca c)) (.ref (P.ca c')) = some (k.isa.contains c')
  bo : ∀ (c : Nat) (k : Cl) (n : String), P.T.cls[c]? = some k → n ∈ tyNames → PySem.W.kitOne P.K (.type n) (.ref (P.ca c)) = some false
  ob : ∀ (c : Nat) (k : Cl) (n : String), P.T.cls[c]? = some k → n ∈ tyNames → PySem.W.kitOne P.K (.ref (P.ca c)) (.type n) = some false
  con : ∀ (g : Nat) (x : Str) (d : D), P.T.con[g]? = some (x, d) → ∃ v u, mg x = some u ∧ RelV v u ∧ ∀ W H, Rep P W H v d
section
variable {P : Pl} {W W' : Wo} {H : Hp} {μ : Sto} {X : Cx}
theorem op_bin (hK : X.K = P.K) (op : Operator) : OpR X (binaryOp op) (rD2e P fun x y _ => binD op x y) := by
  intro pins s σ H x y v u Q I rx ry ⟨W, μ, dx, dy, d, w, r1, r2, hd, k⟩
  replace hd : binD op dx dy = some d := hd
  unfold binD at hd
  have ki : ∀ z : Int, d = .int z → Q (.int z) H := fun z e => k _ W H .refl w (e ▸ .int z)
  split at hd
  · cases hd; cases r1; cases r2
    exact op_add pins s σ H _ _ v u Q I rx ry ⟨_, _, rfl, rfl, ki _ rfl⟩
  · cases hd; cases r1; cases r2
    exact op_sub pins s σ H _ _ v u Q I rx ry ⟨_, _, rfl, rfl, ki _ rfl⟩
  · split at hd
    · rename_i hc
      cases hd; cases r1; cases r2
      exact op_mul pins s σ H _ _ v u Q I rx ry ⟨_, _, rfl, rfl, hc, ki _ rfl⟩
    · cases hd
  · split at hd
    · rename_i hc
      cases hd; cases r1; cases r2
      exact op_fdiv pins s σ H _ _ v u Q I rx ry ⟨_, _, rfl, rfl, hc, ki _ rfl⟩
    · cases hd
  · split at hd
    · rename_i hc
      cases hd; cases r1; cases r2
      exact op_mod pins s σ H _ _ v u Q I rx ry ⟨_, _, rfl, rfl, hc, ki _ rfl⟩
    · cases hd
  · split at hd
    · rename_i hc
      cases hd; cases r1; cases r2
      exact op_pow pins s σ H _ _ v u Q I rx ry ⟨_, _, rfl, rfl, hc, ki _ rfl⟩
    · cases hd
  · split at hd
    · rename_i hc
      cases hd; cases r1; cases r2
      exact op_shl pins s σ H _ _ v u Q I rx ry ⟨_, _, rfl, rfl, hc, ki _ rfl⟩
    · cases hd
  · split at hd
    · rename_i a b hc
      cases hd
      cases r1 with
      | str _ h1 =>
        cases r2 with
        | str _ h2 =>
          refine op_add_str pins s σ H _ _ v u Q I rx ry ⟨_, _, rfl, rfl, by rw [← lim_eq]; exact hc, k _ W H .refl w (.str _ ?_)⟩
          unfold sok at h1 h2 ⊢
          rw [Bool.and_eq_true] at h1 h2 ⊢
          refine ⟨?_, decide_eq_true (by show (a.cps ++ b.cps).size ≤ _; rw [Array.size_append]; exact hc)⟩
          have e1 := h1.1
          have e2 := h2.1
          unfold PyData.strOk at e1 e2 ⊢
          show (a.cps ++ b.cps).all _ = true
          rw [Array.all_append, e1, e2]; rfl
    · cases hd
  · split at hd
    · rename_i hc
      cases hd
      cases r1 with
      | tup q1 f1 z1 l1 =>
        cases r2 with
        | tup q2 f2 z2 l2 =>
          rename_i xs ys a vs b ws
          have n1 := l1.len
          have n2 := l2.len
          refine op_catA pins s σ H _ _ v u Q I rx ry ⟨_, _, _, _, rfl, rfl, hK ▸ q1, hK ▸ q2, by rw [← lim_eq]; omega, fun e => ?_, fun _ e => ?_, fun _ _ p hp => ?_⟩
          · subst e
            cases l1
            exact k _ W H .refl w (.tup q2 f2 z2 l2)
          · subst e
            cases l2
            rw [List.append_nil] at k
            exact k _ W H .refl w (.tup q1 f1 z1 l1)
          · obtain ⟨x', w'⟩ := addF (o := .tup (vs ++ ws)) w hp
            refine k _ _ _ x' w' (.tup (.of upd_same) (.inl (.inr rfl)) (by rw [List.length_append]; omega) ((l1.ext x' w).append (l2.ext x' w)))
    · cases hd
  · cases hd

/-- a comparison of two values in hand -/
def rCmp (P : Pl) (op : CmpOp) : R2 := fun x y H Q => ∃ (W : Wo) (μ : Sto) (dx dy : D) (b : Bool), Wd P W H μ ∧ RRep P W H x dx ∧ RRep P W H y dy ∧ cmpD op dx dy μ = some b ∧ Q (.bl b) H
theorem eqD_some {x y : D} {b : Bool} (h : eqD x y = some b) : x.dat = true ∧ y.dat = true ∧ min x.py.depth y.py.depth ≤ 64 ∧ b = PyData.eqv x.py y.py := by
  unfold eqD at h
  split at h
  · rename_i hc
    rw [Bool.and_eq_true, Bool.and_eq_true] at hc
    cases h
    exact ⟨hc.1.1, hc.1.2, of_decide_eq_true hc.2, rfl⟩
  · cases h
theorem inD_some {x : D} {xs : List D} {b : Bool} (h : inD x xs = some b) : x.flat = true ∧ xs.all D.flat = true ∧ b = xs.any fun y => PyData.eqv y.py x.py := by
  unfold inD at h
  split at h
  · rename_i hc
    rw [Bool.and_eq_true] at hc
    cases h
    exact ⟨hc.1, hc.2, rfl⟩
  · cases h
theorem RRep.int {v : V} {i : Int} (r : RRep P W H v (.int i)) : v = .int i := by
  rcases r with r | ⟨a, e, o⟩
  · cases r; rfl
  · cases o.c
theorem RRep.bl {v : V} {i : Bool} (r : RRep P W H v (.bl i)) : v = .bl i := by
  rcases r with r | ⟨a, e, o⟩
  · cases r; rfl
  · cases o.c
theorem RRep.str {v : V} {i : Str} (r : RRep P W H v (.str i)) : v = .str i ∧ sok i = true := by
  rcases r with r | ⟨a, e, o⟩
  · cases r with
    | str _ h => exact ⟨rfl, h⟩
  · cases o.c
theorem RRep.non {v : V} (r : RRep P W H v .non) : v = .non := by
  rcases r with r | ⟨a, e, o⟩
  · cases r; rfl
  · cases o.c
theorem RRep.flat {v : V} {d : D} (r : RRep P W H v d) (h : d.flat = true) : Rep P W H v d := by
  rcases r with r | ⟨a, e, o⟩
  · exact r
  · cases o.c <;> cases h
def D.isN : D → Bool
  | .non => true
  | _ => false
theorem isN {v : V} {d : D} (r : RRep P W H v d) : (decide (v = .non)) = d.isN := by
  rcases r with r | ⟨a, e, o⟩
  · cases r <;> rfl
  · subst e
    cases o.c <;> rfl
theorem op_cmp (hK : X.K = P.K) (hu : X.A.units + 64 < cLine) (op : CmpOp) : OpR X (compareOp op) (rCmp P op) := by
  intro pins s σ H x y v u Q I rx ry ⟨W, μ, dx, dy, b, w, r1, r2, hd, k⟩
  have eqs : ∀ {b : Bool}, ((dx.top μ).bind fun x => (dy.top μ).bind fun y => eqD x y) = some b → ∃ d e as bs, Reads s.heap v d as ∧ Reads s.heap u e bs ∧ d.canLay0 = true ∧ e.canLay0 = true ∧ X.A.units + min d.depth e.depth < cLine ∧ b = PyData.eqv d e := fun {b} h => by
    obtain ⟨e1, t1, h⟩ := bind_some' h
    obtain ⟨e2, t2, h⟩ := bind_some' h
    obtain ⟨q1, q2, q3, q4⟩ := eqD_some h
    obtain ⟨p1, l1⟩ := r1.dp w t1 q1
    obtain ⟨p2, l2⟩ := r2.dp w t2 q2
    obtain ⟨as, z1⟩ := Dp.reads I _ _ v (hK ▸ p1) rx
    obtain ⟨bs, z2⟩ := Dp.reads I _ _ u (hK ▸ p2) ry
    exact ⟨_, _, as, bs, z1, z2, l1, l2, by omega, q4⟩
  have ins : ∀ {b : Bool} {dy : D} {y : V}, RRep P W H y dy → ((dy.top μ).bind fun y => (asSeq y).bind fun ys => inD dx ys) = some b → ∃ p xs, y = .ref p ∧ (SqL X.K H p xs ∨ SqT X.K H p xs) ∧ flatV x = true ∧ xs.all flatV = true ∧ inV x xs = b := fun {b dy y} r2 h => by
    obtain ⟨e1, t1, h⟩ := bind_some' h
    obtain ⟨ys, t2, h⟩ := bind_some' h
    obtain ⟨q1, q2, q3⟩ := inD_some h
    obtain ⟨a, vs, ea, sq, rl, _⟩ := r2.seq (xs := ys) w (by rw [t1]; exact t2)
    have rx' := r1.flat q1
    exact ⟨a, vs, ea, hK ▸ sq, rx'.flat q1, rl.flat q2, by rw [q3]; exact inV_py rx' q1 rl q2⟩
  have inAs : ∀ {b : Bool}, inA dx dy μ = some b → (∃ i j, x = .str i ∧ y = .str j ∧ b = !(Builtin.Str.occurrences j i 0 j.length 1).isEmpty) ∨ ∃ p xs, y = .ref p ∧ (SqL X.K H p xs ∨ SqT X.K H p xs) ∧ flatV x = true ∧ xs.all flatV = true ∧ inV x xs = b := fun {b} h => by
    unfold inA at h
    split at h
    · split at h
      · cases h
        exact .inl ⟨_, _, r1.str.1, r2.str.1, rfl⟩
      · cases h
    · exact .inr (ins r2 h)
  cases op with
  | Eq =>
    obtain ⟨d, e, as, bs, z1, z2, l1, l2, z, q⟩ := eqs hd
    subst q
    exact SeqAt.compareEq_reads z1 z2 l1 l2 z ⟨.bl _, H, I, rfl, k⟩
  | NotEq =>
    obtain ⟨e1, t1, h⟩ := bind_some' (show ((dx.top μ).bind fun x => (dy.top μ).bind fun y => (eqD x y).bind fun b => some (!b)) = some b from hd)
    obtain ⟨e2, t2, h⟩ := bind_some' h
    obtain ⟨c, t3, h⟩ := bind_some' h
    obtain ⟨d, e, as, bs, z1, z2, l1, l2, z, q⟩ := eqs (b := c) (by rw [t1, Option.bind_some, t2]; exact t3)
    cases h
    subst q
    exact SeqAt.compareNe_reads z1 z2 l1 l2 z ⟨.bl _, H, I, rfl, k⟩
  | Lt =>
    unfold cmpD at hd
    simp only at hd
    split at hd
    · cases hd; cases r1.int; cases r2.int
      exact op_lt pins s σ H _ _ v u Q I rx ry ⟨_, _, rfl, rfl, k⟩
    · cases hd
  | LtE =>
    unfold cmpD at hd
    simp only at hd
    split at hd
    · cases hd; cases r1.int; cases r2.int
      exact op_le pins s σ H _ _ v u Q I rx ry ⟨_, _, rfl, rfl, k⟩
    · cases hd
  | Gt =>
    unfold cmpD at hd
    simp only at hd
    split at hd
    · cases hd; cases r1.int; cases r2.int
      exact op_gt pins s σ H _ _ v u Q I rx ry ⟨_, _, rfl, rfl, k⟩
    · cases hd
  | GtE =>
    unfold cmpD at hd
    simp only at hd
    split at hd
    · cases hd; cases r1.int; cases r2.int
      exact op_ge pins s σ H _ _ v u Q I rx ry ⟨_, _, rfl, rfl, k⟩
    · cases hd
  | Is =>
    cases dy <;> first | (cases hd; done) | skip
    cases hd
    exact op_isN pins s σ H _ _ v u Q I rx ry ⟨r2.non, by rw [isN r1]; cases dx <;> exact k⟩
  | IsNot =>
    cases dy <;> first | (cases hd; done) | skip
    cases hd
    refine op_notN pins s σ H _ _ v u Q I rx ry ⟨r2.non, ?_⟩
    rw [isN r1]
    cases dx <;> exact k
  | In =>
    rcases inAs hd with ⟨i, j, e1, e2, e3⟩ | ⟨p, xs, e, h1, h2, h3, h4⟩
    · subst e3
      exact op_in_str pins s σ H _ _ v u Q I rx ry ⟨_, _, e1, e2, k⟩
    · subst h4
      exact op_in_seq pins s σ H _ _ v u Q I rx ry ⟨p, xs, e, h1, h2, h3, k⟩
  | NotIn =>
    obtain ⟨c, hc, h⟩ := bind_some' (show ((inA dx dy μ).bind fun b => some (!b)) = some b from hd)
    cases h
    rcases inAs hc with ⟨i, j, e1, e2, e3⟩ | ⟨p, xs, e, h1, h2, h3, h4⟩
    · subst e3
      exact op_notIn_str pins s σ H _ _ v u Q I rx ry ⟨_, _, e1, e2, k⟩
    · subst h4
      exact op_notIn_seq pins s σ H _ _ v u Q I rx ry ⟨p, xs, e, h1, h2, h3, k⟩
/-! items -/
theorem atI_idx {α : Type} {xs : List α} {i : Int} {x : α} (h : atI xs i = some x) : ∃ j, ixN xs.length i = some j ∧ xs[j]? = some x := bind_some' h
theorem sok_char {s : Str} (h : sok s = true) {j : Nat} {c : Nat} (e : s.cps.toList[j]? = some c) : sok ⟨#[c]⟩ = true := by
  unfold sok PyData.strOk at h ⊢
  rw [Bool.and_eq_true] at h ⊢
  refine ⟨?_, by show decide ((1 : Nat) ≤ LIM) = true; decide⟩
  have h1 := h.1
  rw [Array.all_eq_true'] at h1
  have := h1 c (by rw [Array.mem_def]; exact List.mem_of_getElem? e)
  simpa using this
theorem ix_sub (hK : X.K = P.K) : IxR X (rD2 P subD) := by
  intro value slice pins s σ H x y v u Q I rx ry ⟨W, μ, dx, dy, d, w, r1, r2, hd, k⟩ hs
  refine ix_seq value slice pins s σ H x y v u Q I rx ry ?_ hs
  unfold subD at hd
  split at hd
  · rename_i i
    cases r2.int
    split at hd
    · rename_i z
      obtain ⟨c, h1, h2⟩ := bind_some' hd
      cases h2
      obtain ⟨rfl, hz⟩ := r1.str
      obtain ⟨j, _, hj⟩ := atI_idx h1
      refine .inr (.inr ⟨z, i, c, rfl, rfl, ?_, h1, k _ W H .refl w (.str _ (sok_char hz hj))⟩)
      have := (Bool.and_eq_true_iff.mp hz).2
      rw [← lim_eq]
      exact of_decide_eq_true this
    · obtain ⟨e1, t1, h⟩ := bind_some' hd
      obtain ⟨xs, t2, h⟩ := bind_some' h
      obtain ⟨a, vs, ea, sq, rl, _⟩ := r1.seq (xs := xs) w (by rw [t1]; exact t2)
      obtain ⟨j, h1, h2⟩ := atI_idx h
      obtain ⟨z, hz, rz⟩ := rl.get h2
      have e : atI vs i = some z := by unfold atI; rw [rl.len, h1]; exact hz
      rcases sq with sq | sq
      · exact .inl ⟨a, vs, i, z, ea, rfl, hK ▸ sq, e, k _ W H .refl w rz⟩
      · exact .inr (.inl ⟨a, vs, i, z, ea, rfl, hK ▸ sq, e, k _ W H .refl w rz⟩)
  · cases hd
/-! built-ins -/
theorem ints_of {vs : List V} {ds : List D} : ∀ {ns : List Int}, RepL P W H vs ds → asInts ds = some ns → vs = ns.map V.int := by
  induction ds generalizing vs with
  | nil => intro ns r h; cases r; cases h; rfl
  | cons d ds ih =>
    intro ns r h
    cases r with
    | cons r t =>
      cases d <;> first | (cases h; done) | skip
      obtain ⟨l, h1, h2⟩ := bind_some' h
      cases h2
      cases r
      rw [ih t h1]; rfl
theorem bls_of {vs : List V} {ds : List D} : ∀ {ns : List Bool}, RepL P W H vs ds → asBls ds = some ns → vs = ns.map V.bl := by
  induction ds generalizing vs with
  | nil => intro ns r h; cases r; cases h; rfl
  | cons d ds ih =>
    intro ns r h
    cases r with
    | cons r t =>
      cases d <;> first | (cases h; done) | skip
      obtain ⟨l, h1, h2⟩ := bind_some' h
      cases h2
      cases r
      rw [ih t h1]; rfl
theorem maxI_is : ∀ (l : List Int) (m : Int), m ≤ maxI l m ∧ (∀ x, x ∈ l → x ≤ maxI l m) ∧ (maxI l m = m ∨ maxI l m ∈ l)
  | [], m => ⟨Int.le_refl _, (fun _ h => nomatch h), .inl rfl⟩
  | x :: r, m => by
    have e : maxI (x :: r) m = maxI r (if x > m then x else m) := rfl
    obtain ⟨h1, h2, h3⟩ := maxI_is r (if x > m then x else m)
    rw [e]
    generalize maxI r (if x > m then x else m) = M at h1 h2 h3 ⊢
    by_cases hc : x > m
    · rw [if_pos hc] at h1 h3
      refine ⟨by omega, fun y hy => ?_, .inr ?_⟩
      · rcases List.mem_cons.mp hy with e | e
        · omega
        · exact h2 y e
      · rcases h3 with e | e
        · rw [e]; exact List.mem_cons_self
        · exact List.mem_cons_of_mem _ e
    · rw [if_neg hc] at h1 h3
      refine ⟨by omega, fun y hy => ?_, ?_⟩
      · rcases List.mem_cons.mp hy with e | e
        · omega
        · exact h2 y e
      · rcases h3 with e | e
        · exact .inl e
        · exact .inr (List.mem_cons_of_mem _ e)
theorem minI_is : ∀ (l : List Int) (m : Int), minI l m ≤ m ∧ (∀ x, x ∈ l → minI l m ≤ x) ∧ (minI l m = m ∨ minI l m ∈ l)
  | [], m => ⟨Int.le_refl _, (fun _ h => nomatch h), .inl rfl⟩
  | x :: r, m => by
    have e : minI (x :: r) m = minI r (if x < m then x else m) := rfl
    obtain ⟨h1, h2, h3⟩ := minI_is r (if x < m then x else m)
    rw [e]
    generalize minI r (if x < m then x else m) = M at h1 h2 h3 ⊢
    by_cases hc : x < m
    · rw [if_pos hc] at h1 h3
      refine ⟨by omega, fun y hy => ?_, .inr ?_⟩
      · rcases List.mem_cons.mp hy with e | e
        · omega
        · exact h2 y e
      · rcases h3 with e | e
        · rw [e]; exact List.mem_cons_self
        · exact List.mem_cons_of_mem _ e
    · rw [if_neg hc] at h1 h3
      refine ⟨by omega, fun y hy => ?_, ?_⟩
      · rcases List.mem_cons.mp hy with e | e
        · omega
        · exact h2 y e
      · rcases h3 with e | e
        · exact .inl e
        · exact .inr (List.mem_cons_of_mem _ e)
/-- a built-in of one argument -/
def Bi.val : Bi → Option Value
  | .len => some (.builtin "len")
  | .all => some (.builtin "all")
  | .any => some (.builtin "any")
  | .sum => some (.builtin "sum")
  | .max => some (.builtin "max")
  | .min => some (.builtin "min")
  | .int => some (.type "int")
  | .str => some (.type "str")
  | _ => none
def rB1 (P : Pl) (b : Bi) : List V → Hp → VK → Prop := fun vs H Q => ∃ (W : Wo) (μ : Sto) (v : V) (x d : D), vs = [v] ∧ Wd P W H μ ∧ RRep P W H v x ∧ biD b x μ = some d ∧ Post P W H d μ Q
theorem call_bi (hK : X.K = P.K) (hc : X.calm = true) {b : Bi} {f : Value} (hf : b.val = some f) : CallR X f (rB1 P b) := by
  intro pins s σ H xs us Q I rx ⟨W, μ, v, x, d, ev, w, r, hd, k⟩
  subst ev
  have lst : ∀ {g : List D → Option D}, ((x.top μ).bind fun x => (asLst x).bind fun xs => g xs) = some d → ∃ a vs ds, v = .ref a ∧ SqL X.K H a vs ∧ RepL P W H vs ds ∧ g ds = some d := fun {g} h => by
    obtain ⟨e1, t1, h⟩ := bind_some' h
    obtain ⟨xs, t2, h⟩ := bind_some' h
    obtain ⟨a, vs, ea, sq, rl, _⟩ := r.lst (xs := xs) w (by rw [t1]; exact t2)
    exact ⟨a, vs, xs, ea, hK ▸ sq, rl, h⟩
  have ki : ∀ z : Int, d = .int z → Q (.int z) H := fun z e => k _ W H .refl w (e ▸ .int z)
  have kb : ∀ z : Bool, d = .bl z → Q (.bl z) H := fun z e => k _ W H .refl w (e ▸ .bl z)
  cases b <;> cases hf
  case len =>
    unfold biD at hd
    simp only at hd
    split at hd
    · cases hd
      obtain ⟨rfl, hz⟩ := r.str
      refine call_len pins s σ H _ us Q I rx ⟨.str _, _, rfl, ⟨?_, rfl⟩, ki _ rfl⟩
      have := (Bool.and_eq_true_iff.mp hz).2
      rw [← lim_eq]
      exact of_decide_eq_true this
    · obtain ⟨e1, t1, h⟩ := bind_some' hd
      obtain ⟨xs, t2, h⟩ := bind_some' h
      obtain ⟨a, vs, ea, sq, rl, _⟩ := r.seq (xs := xs) w (by rw [t1]; exact t2)
      subst ea
      cases h
      have := ki _ rfl
      rw [← rl.len] at this
      exact call_len_seq pins s σ H _ us Q I rx ⟨a, vs, rfl, hK ▸ sq, this⟩
  case all =>
    obtain ⟨a, vs, ds, ea, sq, rl, h⟩ := lst (g := fun xs => (asBls xs).bind fun bs => some (.bl (bs.all id))) hd
    obtain ⟨bs, h1, h2⟩ := bind_some' h
    cases h2
    subst ea
    exact cr_all hc pins s σ H _ us Q I rx ⟨a, bs, rfl, bls_of rl h1 ▸ sq, kb _ rfl⟩
  case any =>
    obtain ⟨a, vs, ds, ea, sq, rl, h⟩ := lst (g := fun xs => (asBls xs).bind fun bs => some (.bl (bs.any id))) hd
    obtain ⟨bs, h1, h2⟩ := bind_some' h
    cases h2
    subst ea
    exact cr_any hc pins s σ H _ us Q I rx ⟨a, bs, rfl, bls_of rl h1 ▸ sq, kb _ rfl⟩
  case sum =>
    obtain ⟨a, vs, ds, ea, sq, rl, h⟩ := lst (g := fun xs => (asInts xs).bind fun bs => some (.int bs.sum)) hd
    obtain ⟨bs, h1, h2⟩ := bind_some' h
    cases h2
    subst ea
    exact cr_sum hc pins s σ H _ us Q I rx ⟨a, bs, rfl, ints_of rl h1 ▸ sq, ki _ rfl⟩
  case max =>
    obtain ⟨a, vs, ds, ea, sq, rl, h⟩ := lst (g := fun xs => (asInts xs).bind fun ns => (match ns with | [] => none | n :: r => some (.int (maxI r n)))) hd
    obtain ⟨bs, h1, h2⟩ := bind_some' h
    cases bs with
    | nil => cases h2
    | cons n r' =>
      cases h2
      subst ea
      refine cr_max hc pins s σ H _ us Q I rx ⟨a, n :: r', rfl, ints_of rl h1 ▸ sq, by simp, fun m hm hl => ?_⟩
      obtain ⟨q1, q2, q3⟩ := maxI_is r' n
      have e : m = maxI r' n := by
        have a1 : m ≤ maxI r' n := by
          rcases List.mem_cons.mp hm with e | e
          · omega
          · exact q2 m e
        have a2 : maxI r' n ≤ m := by
          rcases q3 with e | e
          · rw [e]; exact hl n List.mem_cons_self
          · exact hl _ (List.mem_cons_of_mem _ e)
        omega
      rw [e]
      exact ki _ rfl
  case min =>
    obtain ⟨a, vs, ds, ea, sq, rl, h⟩ := lst (g := fun xs => (asInts xs).bind fun ns => (match ns with | [] => none | n :: r => some (.int (minI r n)))) hd
    obtain ⟨bs, h1, h2⟩ := bind_some' h
    cases bs with
    | nil => cases h2
    | cons n r' =>
      cases h2
      subst ea
      refine cr_min hc pins s σ H _ us Q I rx ⟨a, n :: r', rfl, ints_of rl h1 ▸ sq, by simp, fun m hm hl => ?_⟩
      obtain ⟨q1, q2, q3⟩ := minI_is r' n
      have e : m = minI r' n := by
        have a1 : minI r' n ≤ m := by
          rcases List.mem_cons.mp hm with e | e
          · omega
          · exact q2 m e
        have a2 : m ≤ minI r' n := by
          rcases q3 with e | e
          · rw [e]; exact hl n List.mem_cons_self
          · exact hl _ (List.mem_cons_of_mem _ e)
        omega
      rw [e]
      exact ki _ rfl
  case int =>
    cases x <;> first | (cases hd; done) | skip
    · cases hd
      cases r.bl
      exact call_int1 pins s σ H _ us Q I rx (.inr ⟨_, rfl, ki _ rfl⟩)
    · cases hd
      cases r.int
      exact call_int1 pins s σ H _ us Q I rx (.inl ⟨_, rfl, ki _ rfl⟩)
    · rename_i z
      obtain ⟨n, h1, h2⟩ := bind_some' (show (PySem.intText? z).bind (fun n => if z.length ≤ 640 then some (D.int n) else none) = some d from hd)
      split at h2
      · rename_i hz
        cases h2
        have ev : v = .str z := by
          rcases r with r | ⟨a, _, o⟩
          · cases r; rfl
          · cases o.c
        subst ev
        exact call_int_str pins s σ H _ us Q I rx ⟨z, n, rfl, h1, hz, ki _ rfl⟩
      · cases h2
  case str => cases hd
def rB2 (P : Pl) (b : Bi) : List V → Hp → VK → Prop := fun vs H Q => ∃ (W : Wo) (μ : Sto) (v v' : V) (x y d : D), vs = [v, v'] ∧ Wd P W H μ ∧ Rep P W H v x ∧ Rep P W H v' y ∧ b2D b x y = some d ∧ Post P W H d μ Q
theorem call_b2 (hc : X.calm = true) {b : Bi} {f : String} (hf : (b = .max2 ∧ f = "max") ∨ (b = .min2 ∧ f = "min")) : CallR X (.builtin f) (rB2 P b) := by
  intro pins s σ H xs us Q I rx ⟨W, μ, v, v', x, y, d, ev, w, r, r', hd, k⟩
  subst ev
  rcases hf with ⟨rfl, rfl⟩ | ⟨rfl, rfl⟩
  · unfold b2D at hd
    split at hd <;> first | (cases hd; done) | skip
    · rename_i h; cases h
      cases hd
      cases r; cases r'
      exact call_max2 hc pins s σ H _ us Q I rx ⟨_, _, rfl, k _ W H .refl w (.int _)⟩
    · rename_i h; cases h
  · unfold b2D at hd
    split at hd <;> first | (cases hd; done) | skip
    · rename_i h; cases h
    · rename_i h; cases h
      cases hd
      cases r; cases r'
      exact call_min2 hc pins s σ H _ us Q I rx ⟨_, _, rfl, k _ W H .refl w (.int _)⟩
/-! isinstance -/
def Ty.v (P : Pl) : Ty → V
  | .ty n => .ty n
  | .cls c => .ref (P.ca c)
def Ty.k (P : Pl) : Ty → Prop
  | .ty n => n ∈ tyNames
  | .cls c => (P.T.cls[c]?).isSome = true
def rTy (P : Pl) (t : Ty) : List V → Hp → VK → Prop := fun vs H Q => ∃ (W : Wo) (μ : Sto) (v : V) (x : D) (b : Bool), vs = [v, t.v P] ∧ t.k P ∧ Wd P W H μ ∧ Rep P W H v x ∧ tyD P.T x t μ = some b ∧ Q (.bl b) H
def D.tyn : D → Option String
  | .non => some "NoneType"
  | .bl _ => some "bool"
  | .int _ => some "int"
  | .str _ => some "str"
  | .lst _ => some "list"
  | .tup _ => some "tuple"
  | _ => none
theorem isi_type {mg : Str → Option Value} (Y : Facts P mg) {x d : D} {v : V} (w : Wd P W H μ) (r : Rep P W H v x) (h : x.top μ = some d) (hf : ∀ f, d ≠ .fn f) :
    (∃ n, n ∈ tyNames ∧ TyX P.K H v (.type n) ∧ d.tyn = some n) ∨ ∃ c k xs, d = .obj c xs ∧ P.T.cls[c]? = some k ∧ TyX P.K H v (.ref (P.ca c)) := by
  have lst : ∀ {a : Addr} {vs : List V}, SqL P.K H a vs → TyX P.K H (.ref a) (.type "list") := fun q => by
    rcases q with (q | ⟨o, q⟩) | ⟨o, its, n, q, qc, _⟩
    · exact .base (.lst q)
    · exact .base (.frz q)
    · exact .kList q qc
  have tup : ∀ {a : Addr} {vs : List V}, SqT P.K H a vs → TyX P.K H (.ref a) (.type "tuple") := fun q => by
    rcases q with (q | ⟨o, q⟩) | ⟨o, its, n, q, qc, _⟩
    · exact .base (.tup q)
    · exact .fTuple q
    · exact .kTuple q qc
  have obj : ∀ {a : Addr} {c : Nat} {dx : Addr} {vs : List V}, H a = some (.ins (P.ca c) dx ((P.fld c).zip vs)) → (P.T.cls[c]?).isSome = true → ∃ k, P.T.cls[c]? = some k ∧ TyX P.K H (.ref a) (.ref (P.ca c)) := fun {a c dx vs} q hk => by
    obtain ⟨k, hk⟩ := Option.isSome_iff_exists.mp hk
    obtain ⟨t1, t2, t3, t4⟩ := Y.tyo c k hk
    exact ⟨k, hk, .base (.ins q (Y.cl c k hk) t1 t3 t4 t2)⟩
  cases r with
  | non => cases h; exact .inl ⟨_, by decide, .base .non, rfl⟩
  | bl b => cases h; exact .inl ⟨_, by decide, .base (.bl b), rfl⟩
  | int i => cases h; exact .inl ⟨_, by decide, .base (.int i), rfl⟩
  | str z hz => cases h; exact .inl ⟨_, by decide, .base (.str z), rfl⟩
  | fn f => cases h; exact absurd rfl (hf f)
  | cell hn =>
    cases w.cell _ _ d hn h with
    | lst hh z rr => exact .inl ⟨_, by decide, .base (.lst hh), rfl⟩
    | obj hc hh z rr =>
      obtain ⟨k, hk, q⟩ := obj hh hc
      exact .inr ⟨_, k, _, rfl, hk, q⟩
  | lst q f z rr => cases h; exact .inl ⟨_, by decide, lst q, rfl⟩
  | tup q f z rr => cases h; exact .inl ⟨_, by decide, tup q, rfl⟩
  | obj hc q f z rr =>
    cases h
    obtain ⟨k, hk, q⟩ := obj q hc
    exact .inr ⟨_, k, _, rfl, hk, q⟩
theorem kit_all : ∀ a ∈ tyNames, ∀ b ∈ tyNames, kitB a b = some (decide (a = b) || (decide (a = "bool") && decide (b = "int"))) := by decide +kernel
theorem call_ty {mg : Str → Option Value} (Y : Facts P mg) (hK : X.K = P.K) (t : Ty) : CallR X (.builtin "isinstance") (rTy P t) := by
  intro pins s σ H xs us Q I rx ⟨W, μ, v, x, b, ev, ht, w, r, hd, k⟩
  subst ev
  have top : ∃ d, x.top μ = some d ∧ (∀ f, d ≠ .fn f) := by
    cases t with
    | ty n =>
      obtain ⟨d, h1, h2⟩ := bind_some' hd
      exact ⟨d, h1, fun f e => by subst e; cases h2⟩
    | cls c =>
      obtain ⟨d, h1, h2⟩ := bind_some' hd
      exact ⟨d, h1, fun f e => by subst e; cases h2⟩
  obtain ⟨d, hx, hf⟩ := top
  cases t with
  | ty n =>
    obtain ⟨d2, h1, hd⟩ := bind_some' hd
    rw [hx] at h1
    cases h1
    refine call_isi pins s σ H _ us Q I rx ?_
    rcases isi_type Y w r hx hf with ⟨m, hm, q, hn⟩ | ⟨c, kk, xs, e, hk, q⟩
    · refine ⟨v, .ty n, .type m, .type n, b, rfl, .ty n, hK ▸ q, kit_ty ?_, k⟩
      rw [kit_all m hm n ht]
      cases d <;> first | (cases hn; done) | skip
      all_goals (cases hn; cases hd; congr 1)
      all_goals first | (simp [eq_comm]; done) | skip
      all_goals (simp at ht; rcases ht with e | e | e | e | e | e | e <;> subst e <;> rfl)
    · subst e
      cases hd
      exact ⟨v, .ty n, .ref (P.ca c), .type n, false, rfl, .ty n, hK ▸ q, hK ▸ Y.ob c kk n hk ht, k⟩
  | cls c =>
    obtain ⟨k2, hk2⟩ := Option.isSome_iff_exists.mp ht
    obtain ⟨d2, h1, hd⟩ := bind_some' hd
    rw [hx] at h1
    cases h1
    refine call_isi pins s σ H _ us Q I rx ?_
    rcases isi_type Y w r hx hf with ⟨m, hm, q, hn⟩ | ⟨c', kk, xs, e, hk, q⟩
    · refine ⟨v, .ref (P.ca c), .type m, .ref (P.ca c), b, rfl, .own _, hK ▸ q, ?_, k⟩
      have e : b = false := by cases d <;> first | (cases hn; done) | (cases hd; rfl)
      subst e
      exact hK ▸ Y.bo c k2 m hk2 hm
    · subst e
      obtain ⟨k', h1, h2⟩ := bind_some' hd
      rw [hk] at h1; cases h1
      cases h2
      exact ⟨v, .ref (P.ca c), .ref (P.ca c'), .ref (P.ca c), _, rfl, .own _, hK ▸ q, hK ▸ Y.oo c' c kk k2 hk hk2, k⟩
end
end EV

set_option Elab.async false
set_option linter.all false
set_option maxRecDepth 100000
set_option maxHeartbeats 1000000
namespace EV
open PySem PySem.Spec PyProof.Rows L2
/-! the text -/
structure Ga where
  T : Tab
  N : List Str
  sc : Scope
  w : Str → Bool
def visB (sc : Scope) (x : Str) : Bool := match sc.names.lookup x with
  | some .local => true
  | some .cell => true
  | some .free => true
  | _ => false
def locB (sc : Scope) (x : Str) : Bool := match sc.names.lookup x with
  | some .local => true
  | some .cell => true
  | _ => false
def glB (sc : Scope) (x : Str) : Bool := match sc.names.lookup x with
  | some .globalImplicit => true
  | _ => false
def starB : Expr → Bool
  | .Starred _ _ => false
  | _ => true
/-- no display of a set, no comprehension, no call of super -/
def plnB : Expr → Bool
  | .Set _ _ _ => false
  | .Slice _ _ _ _ => false
  | .Call (.Name _ _) [] [] _ => false
  | _ => true
def notLc : Expr → Bool
  | .ListComp _ _ _ _ => false
  | .SetComp _ _ _ _ => false
  | .DictComp _ _ _ _ _ => false
  | _ => true
def nmOk (x : Str) : Bool := !(x == ("__debug__" : Str)) && (!(x == ("__classdict__" : Str)) && !(x == ("__name__" : Str)))
def constB : D → Const → Bool
  | .non, .none => true
  | .bl b, .bool c => b == c
  | .int i, .int j => i == j
  | .str s, .str t => decide (s = t) && sok s
  | _, _ => false
def Bi.nm : Bi → Str
  | .len => "len" | .all => "all" | .any => "any" | .sum => "sum" | .max => "max" | .min => "min" | .int => "int" | .str => "str" | .max2 => "max" | .min2 => "min"
def Bi.one : Bi → Bool
  | .max2 => false
  | .min2 => false
  | .str => false
  | _ => true
def Bi.two : Bi → Bool
  | .max2 => true
  | .min2 => true
  | _ => false
def bltNames : List Str := ["len", "all", "any", "sum", "max", "min", "int", "str", "bool", "list", "tuple", "dict", "isinstance", "range", "set", "sorted", "enumerate", "zip"]
def tyB : Ty → Expr → Bool
  | .ty n, .Name x _ => decide (x = Str.ofString n) && (tyNames.contains n && decide (n ≠ "NoneType"))
  | .cls _, .Name _ _ => true
  | _, _ => false
def Es.len : Es → Nat
  | .nil => 0
  | .cons _ es => es.len + 1
def chkCall (G : Ga) (f : Nat) (x : Str) : Bool := (match G.T.fns[f]? with
  | some F => (match F.d.at_ with | (y, none) => decide (y = x) | _ => false) && !F.ini
  | none => false) && (glB G.sc x && nmOk x)
def ownOf (N : List Str) (l : List Nat) : List (Str × Nat) := l.map fun i => (N.getD i "", i)
def blkG (G : Ga) (scope : Scope) : Ga := { G with sc := relS scope G.sc, w := fun x => (match scope.names.lookup x with | some .cell => true | _ => false) || (match (relS scope G.sc).names.lookup x with | some .local => true | _ => false) }
def chkTs (G : Ga) : List Nat → List Expr → Bool
  | [], ts => (match ts with
    | [] => true
    | _ => false)
  | i :: l, ts => (match ts with
    | .Name x _ :: r => decide (G.N[i]? = some x) && (locB G.sc x && (G.w x && chkTs G l r))
    | _ => false)
def chkT (G : Ga) : Tg → Expr → Bool
  | .v i, e => (match e with
    | .Name x _ => decide (G.N[i]? = some x) && (locB G.sc x && G.w x)
    | _ => false)
  | .tup l, e => (match e with
    | .Tuple ts _ _ => chkTs G l ts
    | _ => false)
def tgOk : It → Expr → Bool
  | .enum _, .Tuple _ _ _ => true
  | .enum _, _ => false
  | .zip _ _, .Tuple _ _ _ => true
  | .zip _ _, _ => false
  | _, _ => true
mutual
def chkE (G : Ga) : E → Expr → Bool
  | .k d, e => (match e with
    | .Constant c _ _ => constB d c
    | _ => false)
  | .gl g, e => (match e with
    | .Name x _ => glB G.sc x && (nmOk x && (match G.T.con[g]? with | some q => decide (q.1 = x) | none => false))
    | _ => false)
  | .v i, e => (match e with
    | .Name x _ => decide (G.N[i]? = some x) && (visB G.sc x && nmOk x)
    | _ => false)
  | .bin op a b, e => (match e with
    | .BinOp l op' r _ => decide (op = op') && (chkE G a l && chkE G b r)
    | _ => false)
  | .neg a, e => (match e with
    | .UnaryOp .USub x _ => chkE G a x
    | _ => false)
  | .not a, e => (match e with
    | .UnaryOp .Not x _ => chkE G a x
    | _ => false)
  | .cmp op a b, e => (match e with
    | .Compare l [op'] [r] _ => decide (op = op') && (plnB r && (chkR G a l && chkR G b r))
    | _ => false)
  | .chn o1 o2 a b c, e => (match e with
    | .Compare l [p1, p2] [m, r] _ => decide (o1 = p1) && (decide (o2 = p2) && (plnB r && (chkE G a l && (chkE G b m && chkE G c r))))
    | _ => false)
  | .and a b, e => (match e with
    | .BoolOp .And [x, y] _ => chkE G a x && chkE G b y
    | .BoolOp .And (x :: y :: z :: r) pos => chkE G a x && chkE G b (.BoolOp .And (y :: z :: r) pos)
    | _ => false)
  | .or a b, e => (match e with
    | .BoolOp .Or [x, y] _ => chkE G a x && chkE G b y
    | .BoolOp .Or (x :: y :: z :: r) pos => chkE G a x && chkE G b (.BoolOp .Or (y :: z :: r) pos)
    | _ => false)
  | .tup es, e => (match e with
    | .Tuple xs _ _ => chkEs G es xs && decide (xs.length ≤ 100)
    | _ => false)
  | .frz o, e => chkO G o e
  | .box o, e => chkO G o e
  | .sub a i, e => (match e with
    | .Subscript x y _ => plnB y && (chkR G a x && chkE G i y)
    | _ => false)
  | .attr a f, e => (match e with
    | .Attribute x nm _ => decide (G.T.names[f]? = some nm) && (plnB x && chkE G a x)
    | _ => false)
  | .call f es, e => (match e with
    | .Call (.Name x _) xs [] _ => chkCall G f x && (xs.all starB && chkEs G es xs)
    | _ => false)
  | .make c es, e => (match e with
    | .Call (.Name x _) xs [] _ => (match G.T.cls[c]? with | some k => decide (k.name = x) && (!k.mu && (G.T.fns[k.init]?).isSome) | none => false) && (glB G.sc x && (nmOk x && (xs.all starB && chkEs G es xs)))
    | _ => false)
  | .join s a, e => (match e with
    | .Call (.Attribute so nm ap) [y] [] cp => decide (nm = "join") && (plnB so && (starB y && ((ap.endLine == cp.line) && (chkE G s so && chkR G a y))))
    | _ => false)
  | .str1 a, e => (match e with
    | .Call (.Name x _) [y] [] _ => decide (x = "str") && (glB G.sc x && (starB y && chkE G a y))
    | _ => false)
  | .tupl a, e => (match e with
    | .Call (.Name x _) [y] [] _ => decide (x = "tuple") && (glB G.sc x && (starB y && chkR G a y))
    | _ => false)
  | .bi b a, e => (match e with
    | .Call (.Name x _) [y] [] _ => b.one && (decide (b.nm = x) && (glB G.sc x && (starB y && chkR G a y)))
    | _ => false)
  | .b2 b a c, e => (match e with
    | .Call (.Name x _) [y, z] [] _ => b.two && (decide (b.nm = x) && (glB G.sc x && (starB y && (starB z && (chkE G a y && chkE G c z)))))
    | _ => false)
  | .isi a t, e => (match e with
    | .Call (.Name x _) [y, .Name z p] [] _ => decide (x = "isinstance") && (glB G.sc x && (starB y && (chkE G a y && (tyB t (.Name z p) && (glB G.sc z && (nmOk z &&
      (match t with | .ty _ => true | .cls c => (match G.T.cls[c]? with | some k => decide (k.name = z) | none => false))))))))
    | _ => false)
def chkR (G : Ga) : R → Expr → Bool
  | .e a, e => chkE G a e
  | .own i, e => (match e with
    | .Name x _ => decide (G.N[i]? = some x) && (visB G.sc x && nmOk x)
    | _ => false)
def chkO (G : Ga) : O → Expr → Bool
  | .lst es, e => (match e with
    | .List xs _ => chkEs G es xs && decide (xs.length ≤ 100)
    | _ => false)
  | .lc el tg it c, e => (match e with
    | .ListComp elt [⟨t, iter, ifs, 0⟩] scope _ => plnB iter && ((tgOk it t && chkI G it iter) && (blkC G.N G.sc scope (ownOf G.N tg.slots) && (decide ((ownOf G.N tg.slots).map (·.2) = tg.slots) &&
      (chkT (blkG G scope) tg t && (chkC (blkG G scope) c ifs && chkE (blkG G scope) el elt)))))
    | _ => false)
  | .cat a b, e => (match e with
    | .BinOp l .Add r _ => chkR G a l && chkR G b r
    | _ => false)
  | .call f es, e => (match e with
    | .Call (.Name x _) xs [] _ => chkCall G f x && (xs.all starB && chkEs G es xs)
    | _ => false)
  | .slc a lo hi, e => (match e with
    | .Subscript x (.Slice l h none _) _ => chkR G a x && (chkX G lo l && chkX G hi h)
    | _ => false)
  | .lst1 a, e => (match e with
    | .Call (.Name x _) [y] [] _ => decide (x = "list") && (glB G.sc x && (starB y && chkR G a y))
    | _ => false)
  | .rev a, e => (match e with
    | .Subscript x (.Slice none none (some (.UnaryOp .USub (.Constant (.int 1) _ _) _)) _) _ => chkR G a x
    | _ => false)
  | .split s t, e => (match e with
    | .Call (.Attribute so nm ap) [y] [] cp => decide (nm = "split") && (plnB so && (starB y && ((ap.endLine == cp.line) && (chkE G s so && chkE G t y))))
    | _ => false)
  | .rep i k, e => (match e with
    | .BinOp (.Name x _) .Mult r _ => decide (G.N[i]? = some x) && (visB G.sc x && (nmOk x && chkE G k r))
    | _ => false)
def chkX (G : Ga) : Eo → Option Expr → Bool
  | .no, e => (match e with
    | none => true
    | _ => false)
  | .so c, e => (match e with
    | some e => chkE G c e
    | _ => false)
def chkEs (G : Ga) : Es → List Expr → Bool
  | .nil, xs => (match xs with
    | [] => true
    | _ => false)
  | .cons e es, xs => (match xs with
    | x :: r => starB x && (chkE G e x && chkEs G es r)
    | _ => false)
def chkC (G : Ga) : Eo → List Expr → Bool
  | .no, xs => (match xs with
    | [] => true
    | _ => false)
  | .so e, xs => (match xs with
    | [x] => chkE G e x
    | _ => false)
def chkI (G : Ga) : It → Expr → Bool
  | .lst a, e => chkR G a e
  | .tup a, e => chkE G a e
  | .str a, e => chkE G a e
  | .enum a, e => (match e with
    | .Call (.Name x _) [y] [] _ => decide (x = "enumerate") && (glB G.sc x && (starB y && chkE G a y))
    | _ => false)
  | .zip a b, e => (match e with
    | .Call (.Name x _) [y, z] [] _ => decide (x = "zip") && (glB G.sc x && (starB y && (starB z && (chkE G a y && chkE G b z))))
    | _ => false)
  | .rng a, e => (match e with
    | .Call (.Name x _) [y] [] _ => decide (x = "range") && (glB G.sc x && (starB y && chkE G a y))
    | _ => false)
end
end EV

set_option Elab.async false
set_option linter.all false
set_option maxRecDepth 100000
set_option maxHeartbeats 1000000
namespace EV
open PySem PySem.Spec PyProof.Rows L2
/-! promises -/
section
variable (P : Pl)
def RetRep (W0 : Wo) (H0 : Hp) (W : Wo) (H : Hp) (o : Bool) (v : V) (d : D) : Prop := if o = true then ∃ a, v = .ref a ∧ Own P W H a d ∧ H0 a = none else Rep P W H v d
def spF (n : Nat) (cal : Cal) (f : Nat) : Sp := fun vs H Q _ => ∃ (W : Wo) (μ : Sto) (ds : List D) (r : (Bool × D) × Sto), vs.length = n ∧ Wd P W H μ ∧ RepL P W H vs ds ∧ cal f ds μ = some r ∧
  ∀ v W' H', Ext W H W' H' → Wd P W' H' r.2 → RetRep P W H W' H' r.1.1 v r.1.2 → Q v H'
def spM (n : Nat) (mak : Mak) (c : Nat) : Sp := fun vs H Q _ => ∃ (W : Wo) (μ : Sto) (ds : List D) (d : D) (μ' : Sto) (x dx : Addr) (args : List V) (H0 : Hp), vs = .ref x :: args ∧ vs.length = n ∧
  H = upd (upd H0 dx (.own x)) x (.ins (P.ca c) dx []) ∧ H0 x = none ∧ H0 dx = none ∧ dx ≠ x ∧ Wd P W H0 μ ∧ RepL P W H0 args ds ∧ mak c ds μ = some (d, μ') ∧
  ∀ W' H', Ext W H0 W' H' → Wd P W' H' μ' → Rep P W' H' (.ref x) d → Q .non H'
end
structure GX (P : Pl) (n : Nat) (cal : Cal) (mak : Mak) (G : Ga) (X : Cx) : Prop where
  K : X.K = P.K
  T : G.T = P.T
  N : X.N = G.N
  nd : G.N.Nodup
  sc : X.env.scope = G.sc
  kind : G.sc.kind = .function
  calm : X.calm = true
  xe : X.xe = fun _ _ => False
  room : Room (n + 1) X.A
  Y : Facts P X.mg
  fr : ∀ x ∈ bltNames, X.mg x = none
  st : ∀ x, G.w x = true → X.fn x = true ∨ X.env.scope.names.lookup x = some .local
  hcal : ∀ (f : Nat) (F : Fn), P.T.fns[f]? = some F → F.ini = false → ∃ fd, FnOk X.prog X.w X.K X.mg X.base CX0 n (P.fa f) fd F.ps (spF P F.ps.length cal f) ∧ Binds X.K fd F.ps []
  hmak : ∀ (c : Nat) (k : Cl) (F : Fn), P.T.cls[c]? = some k → k.mu = false → P.T.fns[k.init]? = some F → ∃ fd, FnOk X.prog X.w X.K X.mg X.base CX0 n (P.fa k.init) fd F.ps (spM P F.ps.length mak c) ∧ Binds X.K fd F.ps []
  calL : ∀ (f : Nat) (F : Fn) (ds : List D) (μ : Sto) (r : (Bool × D) × Sto), P.T.fns[f]? = some F → cal f ds μ = some r → ds.length = F.ps.length
  makL : ∀ (c : Nat) (k : Cl) (F : Fn) (ds : List D) (μ : Sto) (r : D × Sto), P.T.cls[c]? = some k → P.T.fns[k.init]? = some F → mak c ds μ = some r → ds.length + 1 = F.ps.length
theorem peI {X : Cx} {e : Expr} {t t' : TE} (h : PE X e t) (k : ∀ σ H Q, t' σ H Q → t σ H Q) : PE X e t' := ⟨fun pins s σ H Q I q => h.run pins s σ H Q I (k σ H Q q)⟩
theorem ptI {X : Cx} {e : Expr} {t t' : TT} (h : PT X e t) (k : ∀ σ H Q, t' σ H Q → t σ H Q) : PT X e t' := ⟨fun pins s σ H Q I q => h.run pins s σ H Q I (k σ H Q q)⟩
theorem pwI {X : Cx} {e : Expr} {t t' : TT} (h : PW X e t) (k : ∀ σ H Q, t' σ H Q → t σ H Q) : PW X e t' := ⟨fun wh pins s σ H Q I q => h.run wh pins s σ H Q I (k σ H Q q)⟩
theorem paI {X : Cx} {e : List Expr} {t t' : TA} (h : PA X e t) (k : ∀ σ H Q, t' σ H Q → t σ H Q) : PA X e t' := ⟨fun pos pins s σ H Q I q => h.run pos pins s σ H Q I (k σ H Q q)⟩
theorem piI {X : Cx} {g e : Expr} {t t' : TI} (h : PI X g e t) (k : ∀ σ H Q, t' σ H Q → t σ H Q) : PI X g e t' := ⟨fun pins s σ H Q I q => h.run pins s σ H Q I (k σ H Q q)⟩
theorem ptsI {X : Cx} {e : List Expr} {t t' : TT} (h : PTs X e t) (k : ∀ σ H Q, t' σ H Q → t σ H Q) : PTs X e t' := ⟨fun pins s σ H Q I q => h.run pins s σ H Q I (k σ H Q q)⟩
structure Snd (P : Pl) (cal : Cal) (mak : Mak) (X : Cx) (e : Expr) (c : E) : Prop where
  pe : PE X e (tE P cal mak c)
  pt : PT X e (tT P cal mak c)
  pw : ∀ op vs pos, e = .BoolOp op vs pos → PW X e (tT P cal mak c)
section
variable {P : Pl} {n : Nat} {cal : Cal} {mak : Mak} {G : Ga} {X : Cx} {e : Expr} {c : E}
theorem ba {a b : Bool} (h : (a && b) = true) : a = true ∧ b = true := Bool.and_eq_true_iff.mp h
theorem vis_of {sc : Scope} {x : Str} (h : visB sc x = true) : Vis sc x := by
  unfold visB at h
  split at h
  · exact .inl (by assumption)
  · exact .inr (.inl (by assumption))
  · exact .inr (.inr (by assumption))
  · cases h
theorem loc_of {sc : Scope} {x : Str} (h : locB sc x = true) : Loc sc x := by
  unfold locB at h
  split at h
  · exact .inl (by assumption)
  · exact .inr (by assumption)
  · cases h
theorem gl_of {sc : Scope} {x : Str} (h : glB sc x = true) : sc.names.lookup x = some .globalImplicit := by
  unfold glB at h
  split at h
  · assumption
  · cases h
theorem GX.gl (g : GX P n cal mak G X) {x : Str} (h : glB G.sc x = true) : Gl X x := by
  have := gl_of h
  rw [← g.sc] at this
  exact this
theorem GX.vis (g : GX P n cal mak G X) {x : Str} (h : visB G.sc x = true) : Vis X.env.scope x := by rw [g.sc]; exact vis_of h
theorem GX.loc (g : GX P n cal mak G X) {x : Str} (h : locB G.sc x = true) : Loc X.env.scope x := by rw [g.sc]; exact loc_of h
theorem nmOk_of {x : Str} (h : nmOk x = true) : (x == ("__debug__" : Str)) = false ∧ (x == ("__classdict__" : Str)) = false ∧ x ≠ "__name__" := by
  unfold nmOk at h
  obtain ⟨h1, h⟩ := ba h
  obtain ⟨h2, h3⟩ := ba h
  refine ⟨by simpa using h1, by simpa using h2, by simpa using h3⟩
theorem star_cons {e : Expr} {es : List Expr} {env : PySem.Env} (h : starB e = true) : starEach (e :: es) env = (false, eval e env) :: starEach es env := by
  cases e <;> first | rfl | cases h
theorem star_any {pos : Pos} {env : PySem.Env} : ∀ {es : List Expr}, es.all starB = true → (backTo pos (starEach es env)).any (·.1) = false
  | [], _ => rfl
  | e :: es, h => by
    rw [List.all_cons, Bool.and_eq_true] at h
    rw [star_cons h.1]
    exact star_any h.2
theorem plain_ix {e : Expr} (h : plnB e = true) : PlainIx e := by
  intro o i
  cases e <;> first | rfl | cases h
theorem plain_mark {e : Expr} {op : CmpOp} (h : plnB e = true) : behindInMarks op e = false := by
  cases e <;> first | rfl | cases h
theorem plain_attr {e : Expr} {f : Str} {env : PySem.Env} {w : Sem Value} (h : plnB e = true) : attributeBase e f env w = w := by
  cases e <;> first | rfl | skip
  rename_i f' args kws p
  cases f' <;> first | rfl | skip
  cases args <;> first | rfl | skip
  cases kws <;> first | rfl | cases h
theorem plain_fold {e : Expr} {env : PySem.Env} (h : plnB e = true) : ∀ x, foldedSetIterable e env x = pure x := by
  intro x
  cases e <;> first | rfl | cases h
theorem lc_swap {e : Expr} {t : Option Expr} {l : Nat} {env : PySem.Env} (h : notLc e = true) : swapsWith e t l env = pure false := by
  cases e <;> first | rfl | cases h
theorem snd_plain (h : PE X e (tE P cal mak c)) (he : ∀ whole, isTrue e X.env whole = (do let v ← whole; standAt e.pos; holding [v] (truthy v))) (hb : ∀ op vs pos, e ≠ .BoolOp op vs pos) : Snd P cal mak X e c := by
  refine ⟨h, ptI (pt_val h he) fun σ H Q ⟨W, ρ, μ, b, μ', w, en, ee, k⟩ => ?_, fun op vs pos q => absurd q (hb op vs pos)⟩
  exact ⟨W, ρ, μ, .bl b, μ', w, en, ee, fun v W' H' x w' r => by cases r; exact ⟨b, rfl, k W' H' x w'⟩⟩
theorem En.getV {W : Wo} {H : Hp} {σ : L2.St} {ρ : Rho} {i : Nat} {d : D} (en : En P W H σ ρ) (h : ρ[i]? = some (.fz d)) : ∃ v, σ[i]? = some (some v) ∧ Rep P W H v d := en.fz i d h
theorem const_rep {d : D} {k : Const} {j : Nat} {pos : Pos} (h : constB d k = true) : ∃ v, PE X (.Constant k j pos) (tC v) ∧ ∀ W H, Rep P W H v d := by
  cases d <;> cases k <;> first | (cases h; done) | skip
  · exact ⟨.non, pe_non, fun _ _ => .non⟩
  · have e := eq_of_beq (show (_ == _) = true from h)
    subst e
    exact ⟨_, pe_bl, fun _ _ => .bl _⟩
  · have e := eq_of_beq (show (_ == _) = true from h)
    subst e
    exact ⟨_, pe_int, fun _ _ => .int _⟩
  · obtain ⟨h1, h2⟩ := ba h
    have e := of_decide_eq_true h1
    subst e
    exact ⟨_, pe_str, fun _ _ => .str _ h2⟩
end
end EV

set_option Elab.async false
set_option linter.all false
set_option maxRecDepth 100000
set_option maxHeartbeats 1000000
namespace EV
open PySem PySem.Spec PyProof.Rows L2
section
variable {P : Pl} {n : Nat} {cal : Cal} {mak : Mak} {G : Ga} {X : Cx}
/-! each construct, over its parts -/
theorem g_var (g : GX P n cal mak G X) {i : Nat} {x : Str} {pos : Pos} (h1 : G.N[i]? = some x) (h2 : visB G.sc x = true) (h3 : nmOk x = true) : PE X (.Name x pos) (tE P cal mak (.v i)) := by
  obtain ⟨d1, d2, _⟩ := nmOk_of h3
  refine peI (pe_var (i := i) (by rw [g.N]; exact h1) (g.vis h2) d1 d2) fun σ H Q ⟨W, ρ, μ, d, μ', w, en, ee, k⟩ => ?_
  unfold ev at ee
  split at ee
  · rename_i d' he
    cases ee
    obtain ⟨v, hv, r⟩ := en.fz i d he
    exact ⟨v, hv, k v W H .refl w r⟩
  · cases ee
theorem g_own (g : GX P n cal mak G X) {i : Nat} {x : Str} {pos : Pos} (h1 : G.N[i]? = some x) (h2 : visB G.sc x = true) (h3 : nmOk x = true) : PE X (.Name x pos) (tR P cal mak (.own i)) := by
  obtain ⟨d1, d2, _⟩ := nmOk_of h3
  refine peI (pe_var (i := i) (by rw [g.N]; exact h1) (g.vis h2) d1 d2) fun σ H Q ⟨W, ρ, μ, d, μ', w, en, ee, k⟩ => ?_
  unfold evR at ee
  split at ee
  · rename_i d' he
    cases ee
    obtain ⟨a, hv, r⟩ := en.ow i d he
    exact ⟨.ref a, hv, k _ W H .refl w (.inr ⟨a, rfl, r⟩) (fun h => nomatch h)⟩
  · cases ee
theorem g_glob (g : GX P n cal mak G X) {j : Nat} {x : Str} {pos : Pos} {d : D} (h1 : G.T.con[j]? = some (x, d)) (h2 : glB G.sc x = true) (h3 : nmOk x = true) : PE X (.Name x pos) (tE P cal mak (.gl j)) := by
  obtain ⟨d1, d2, _⟩ := nmOk_of h3
  rw [g.T] at h1
  obtain ⟨v, u, hm, r, rep⟩ := g.Y.con j x d h1
  refine peI (pe_glob (g.gl h2) hm r d1) fun σ H Q ⟨W, ρ, μ, d', μ', w, en, ee, k⟩ => ?_
  unfold ev at ee
  rw [h1] at ee
  cases ee
  exact k v W H .refl w (rep W H)
theorem g_e {e : Expr} {c : E} (h : PE X e (tE P cal mak c)) : PE X e (tR P cal mak (.e c)) := by
  refine peI h fun σ H Q ⟨W, ρ, μ, d, μ', w, en, ee, k⟩ => ?_
  unfold evR at ee
  exact ⟨W, ρ, μ, d, μ', w, en, ee, fun v W' H' x w' r => k v W' H' x w' (.inl r) fun _ => r⟩
theorem g_bin (g : GX P n cal mak G X) {op : Operator} {a b : Expr} {ca cb : E} {pos : Pos} (ha : PE X a (tE P cal mak ca)) (hb : PE X b (tE P cal mak cb)) : PE X (.BinOp a op b pos) (tE P cal mak (.bin op ca cb)) := by
  refine peI (pe_op (op_bin g.K op) ha hb) fun σ H Q ⟨W, ρ, μ, d, μ', w, en, ee, k⟩ => ?_
  unfold ev at ee
  obtain ⟨x, e1, ee⟩ := bind_some' ee
  obtain ⟨y, e2, ee⟩ := bind_some' ee
  obtain ⟨z, e3, ee⟩ := bind_some' ee
  cases ee
  exact ⟨W, ρ, μ, x.1, x.2, w, en, e1, fun v1 W1 H1 x1 w1 r1 => ⟨W1, ρ, x.2, y.1, y.2, w1, en.ext x1 w, e2, fun v2 W2 H2 x2 w2 r2 =>
    ⟨W2, y.2, x.1, y.1, d, w2, r1.ext x2 w1, r2, e3, fun v W' H' x' w' r' => k v W' H' ((x1.trans x2 w w1).trans x' w w2) w' r'⟩⟩⟩
theorem g_neg {a : Expr} {ca : E} {pos : Pos} (ha : PE X a (tE P cal mak ca)) : PE X (.UnaryOp .USub a pos) (tE P cal mak (.neg ca)) := by
  refine peI (pe_un un_neg ha) fun σ H Q ⟨W, ρ, μ, d, μ', w, en, ee, k⟩ => ?_
  unfold ev at ee
  obtain ⟨x, e1, ee⟩ := bind_some' ee
  split at ee
  · rename_i i hi
    cases ee
    refine ⟨W, ρ, μ, x.1, x.2, w, en, e1, fun v1 W1 H1 x1 w1 r1 => ?_⟩
    rw [hi] at r1
    cases r1
    exact ⟨i, rfl, k _ W1 H1 x1 w1 (.int _)⟩
  · cases ee
theorem t_bl {c : E} {σ : L2.St} {H : Hp} {Q : Bool → Hp → Prop} {W : Wo} {ρ : Rho} {μ : Sto} {b : Bool} {μ' : Sto} (w : Wd P W H μ) (en : En P W H σ ρ) (ee : ev P.T cal mak c ρ μ = some (.bl b, μ'))
    (k : ∀ W' H', Ext W H W' H' → Wd P W' H' μ' → Q b H') : tT P cal mak c σ H Q := ⟨W, ρ, μ, b, μ', w, en, ee, k⟩
theorem v_bl {c : E} {σ : L2.St} {H : Hp} {Q : Bool → VK} {W : Wo} {ρ : Rho} {μ : Sto} {x : D × Sto} {b : Bool} (w : Wd P W H μ) (en : En P W H σ ρ) (ee : ev P.T cal mak c ρ μ = some x) (hb : x.1 = .bl b)
    (k : ∀ W' H', Ext W H W' H' → Wd P W' H' x.2 → Q b (.bl b) H') : tE P cal mak c σ H fun v H1 => ∃ b, v = .bl b ∧ Q b v H1 := by
  refine ⟨W, ρ, μ, x.1, x.2, w, en, ee, fun v W' H' x' w' r => ?_⟩
  rw [hb] at r
  cases r
  exact ⟨b, rfl, k W' H' x' w'⟩
theorem g_not {a : Expr} {ca : E} {pos : Pos} (ha : Snd P cal mak X a ca) : Snd P cal mak X (.UnaryOp .Not a pos) (.not ca) := by
  refine ⟨peI (pe_not ha.pe) fun σ H Q ⟨W, ρ, μ, d, μ', w, en, ee, k⟩ => ?_, ptI (pt_not ha.pt) fun σ H Q ⟨W, ρ, μ, d, μ', w, en, ee, k⟩ => ?_, fun _ _ _ q => nomatch q⟩
  · unfold ev at ee
    obtain ⟨x, e1, ee⟩ := bind_some' ee
    split at ee
    · rename_i b hb
      cases ee
      refine ⟨W, ρ, μ, x.1, x.2, w, en, e1, fun v W' H' x' w' r => ?_⟩
      rw [hb] at r
      cases r
      exact ⟨b, rfl, k _ W' H' x' w' (.bl _)⟩
    · cases ee
  · unfold ev at ee
    obtain ⟨⟨x, y⟩, e1, ee⟩ := bind_some' ee
    split at ee
    · rename_i b hb
      cases ee
      simp only at hb
      subst hb
      exact ⟨W, ρ, μ, _, _, w, en, e1, fun W' H' x' w' => k W' H' x' w'⟩
    · cases ee
theorem hu_of' {A : Around} {k : Nat} (hr : Room k A) : A.units + 64 < cLine := hr.units
theorem r_cmp {op : CmpOp} {ca cb : R} {σ : L2.St} {H : Hp} {W : Wo} {ρ : Rho} {μ μ' : Sto} {b : Bool} {Q : VK} (w : Wd P W H μ) (en : En P W H σ ρ) (ee : ev P.T cal mak (.cmp op ca cb) ρ μ = some (.bl b, μ'))
    (k : ∀ W' H', Ext W H W' H' → Wd P W' H' μ' → Q (.bl b) H') : tOp (rCmp P op) (tR P cal mak ca) (tR P cal mak cb) σ H Q := by
  unfold ev at ee
  obtain ⟨x, e1, ee⟩ := bind_some' ee
  obtain ⟨y, e2, ee⟩ := bind_some' ee
  obtain ⟨z, e3, ee⟩ := bind_some' ee
  cases ee
  exact ⟨W, ρ, μ, x.1, x.2, w, en, e1, fun v1 W1 H1 x1 w1 r1 _ => ⟨W1, ρ, x.2, y.1, y.2, w1, en.ext x1 w, e2, fun v2 W2 H2 x2 w2 r2 _ =>
    ⟨W2, y.2, x.1, y.1, b, w2, r1.ext x2 w1, r2, e3, k W2 H2 (x1.trans x2 w w1) w2⟩⟩⟩
theorem ev_cmp_bl {op : CmpOp} {ca cb : R} {ρ : Rho} {μ μ' : Sto} {d : D} (ee : ev P.T cal mak (.cmp op ca cb) ρ μ = some (d, μ')) : ∃ b, d = .bl b := by
  unfold ev at ee
  obtain ⟨x, e1, ee⟩ := bind_some' ee
  obtain ⟨y, e2, ee⟩ := bind_some' ee
  obtain ⟨z, e3, ee⟩ := bind_some' ee
  cases ee
  exact ⟨z, rfl⟩
theorem g_cmp (g : GX P n cal mak G X) {op : CmpOp} {a b : Expr} {ca cb : R} {pos : Pos} (hp : plnB b = true) (ha : PE X a (tR P cal mak ca)) (hb : PE X b (tR P cal mak cb)) : Snd P cal mak X (.Compare a [op] [b] pos) (.cmp op ca cb) := by
  have ho := op_cmp (X := X) g.K (hu_of' g.room) op
  refine ⟨peI (pe_cmpR ho ha hb (plain_mark hp)) fun σ H Q ⟨W, ρ, μ, d, μ', w, en, ee, k⟩ => ?_, ptI (pt_cmpR ho ha hb (plain_mark hp)) fun σ H Q ⟨W, ρ, μ, b, μ', w, en, ee, k⟩ => ?_, fun _ _ _ q => nomatch q⟩
  · obtain ⟨b, rfl⟩ := ev_cmp_bl ee
    exact r_cmp w en ee fun W' H' x' w' => k _ W' H' x' w' (.bl b)
  · exact r_cmp w en ee fun W' H' x' w' => ⟨b, rfl, k W' H' x' w'⟩
theorem ev_chn_bl {o1 o2 : CmpOp} {ca cb cc : E} {ρ : Rho} {μ μ' : Sto} {d : D} (ee : ev P.T cal mak (.chn o1 o2 ca cb cc) ρ μ = some (d, μ')) : ∃ b, d = .bl b := by
  unfold ev at ee
  obtain ⟨x, e1, ee⟩ := bind_some' ee
  obtain ⟨y, e2, ee⟩ := bind_some' ee
  obtain ⟨z, e3, ee⟩ := bind_some' ee
  split at ee
  · obtain ⟨x, e1, ee⟩ := bind_some' ee
    obtain ⟨y, e2, ee⟩ := bind_some' ee
    cases ee
    exact ⟨_, rfl⟩
  · cases ee
    exact ⟨_, rfl⟩
theorem r_chn {o1 o2 : CmpOp} {ca cb cc : E} {σ : L2.St} {H : Hp} {W : Wo} {ρ : Rho} {μ μ' : Sto} {b : Bool} {Q : VK} (w : Wd P W H μ) (en : En P W H σ ρ) (ee : ev P.T cal mak (.chn o1 o2 ca cb cc) ρ μ = some (.bl b, μ'))
    (k : ∀ W' H', Ext W H W' H' → Wd P W' H' μ' → Q (.bl b) H') : tChain (rCmp P o1) (rCmp P o2) (tE P cal mak ca) (tE P cal mak cb) (tE P cal mak cc) σ H Q := by
  unfold ev at ee
  obtain ⟨x, e1, ee⟩ := bind_some' ee
  obtain ⟨y, e2, ee⟩ := bind_some' ee
  obtain ⟨z, e3, ee⟩ := bind_some' ee
  refine ⟨W, ρ, μ, x.1, x.2, w, en, e1, fun v1 W1 H1 x1 w1 r1 => ⟨W1, ρ, x.2, y.1, y.2, w1, en.ext x1 w, e2, fun v2 W2 H2 x2 w2 r2 =>
    ⟨W2, y.2, x.1, y.1, z, w2, .inl (r1.ext x2 w1), .inl r2, e3, z, rfl, ?_⟩⟩⟩
  have x12 := x1.trans x2 w w1
  split at ee
  · rename_i hz
    rw [if_pos hz]
    obtain ⟨u, e4, ee⟩ := bind_some' ee
    obtain ⟨z2, e5, ee⟩ := bind_some' ee
    cases ee
    exact ⟨W2, ρ, y.2, u.1, u.2, w2, en.ext x12 w, e4, fun v3 W3 H3 x3 w3 r3 => ⟨W3, u.2, y.1, u.1, b, w3, .inl (r2.ext x3 w2), .inl r3, e5, k W3 H3 (x12.trans x3 w w2) w3⟩⟩
  · rename_i hz
    rw [if_neg hz]
    cases ee
    exact k W2 H2 x12 w2
theorem g_chn (g : GX P n cal mak G X) {o1 o2 : CmpOp} {a b c : Expr} {ca cb cc : E} {pos : Pos} (hp : plnB c = true) (ha : PE X a (tE P cal mak ca)) (hb : PE X b (tE P cal mak cb)) (hc : PE X c (tE P cal mak cc)) : Snd P cal mak X (.Compare a [o1, o2] [b, c] pos) (.chn o1 o2 ca cb cc) := by
  have h1 := op_cmp (X := X) g.K (hu_of' g.room) o1
  have h2 := op_cmp (X := X) g.K (hu_of' g.room) o2
  have hm : lastMarks [o1, o2] [b, c] = false := by
    show lastMarks [o2] [c] = false
    exact plain_mark hp
  refine ⟨peI (pe_chain h1 h2 ha hb hc hm) fun σ H Q ⟨W, ρ, μ, d, μ', w, en, ee, k⟩ => ?_, ptI (pt_chain h1 h2 ha hb hc hm) fun σ H Q ⟨W, ρ, μ, b, μ', w, en, ee, k⟩ => ?_, fun _ _ _ q => nomatch q⟩
  · obtain ⟨b, rfl⟩ := ev_chn_bl ee
    exact r_chn w en ee fun W' H' x' w' => k _ W' H' x' w' (.bl b)
  · exact r_chn w en ee fun W' H' x' w' => ⟨b, rfl, k W' H' x' w'⟩
theorem g_and {a b : Expr} {r : List Expr} {ca cb : E} {pos : Pos} (ha : Snd P cal mak X a ca) (pe : PE X (.BoolOp .And (b :: r) pos) (tE P cal mak cb)) (pw : PW X (.BoolOp .And (b :: r) pos) (tT P cal mak cb)) : Snd P cal mak X (.BoolOp .And (a :: b :: r) pos) (.and ca cb) := by
  have hw : PW X (.BoolOp .And (a :: b :: r) pos) (tT P cal mak (.and ca cb)) := by
    refine pwI (pw_and ha.pt pw) fun σ H Q ⟨W, ρ, μ, d, μ', w, en, ee, k⟩ => ?_
    unfold ev at ee
    obtain ⟨⟨x, y⟩, e1, ee⟩ := bind_some' ee
    split at ee
    · rename_i hx
      simp only at hx ee
      subst hx
      refine ⟨W, ρ, μ, true, y, w, en, e1, fun W1 H1 x1 w1 => ?_⟩
      refine iteT ?_
      exact ⟨W1, ρ, y, d, μ', w1, en.ext x1 w, ee, fun W' H' x' w' => k W' H' (x1.trans x' w w1) w'⟩
    · rename_i hx
      simp only at hx ee
      subst hx
      cases ee
      refine ⟨W, ρ, μ, false, _, w, en, e1, fun W1 H1 x1 w1 => ?_⟩
      refine iteF ?_
      exact k W1 H1 x1 w1
    · cases ee
  refine ⟨peI (pe_and ha.pe pe) fun σ H Q ⟨W, ρ, μ, d, μ', w, en, ee, k⟩ => ?_, hw.pt, fun op vs pos q => by cases q; exact hw⟩
  unfold ev at ee
  obtain ⟨x, e1, ee⟩ := bind_some' ee
  refine ⟨W, ρ, μ, x.1, x.2, w, en, e1, fun v1 W1 H1 x1 w1 r1 => ?_⟩
  split at ee
  · rename_i hx
    rw [hx] at r1
    cases r1
    refine ⟨true, rfl, ?_⟩
    refine iteT ?_
    exact ⟨W1, ρ, x.2, d, μ', w1, en.ext x1 w, ee, fun v W' H' x' w' => k v W' H' (x1.trans x' w w1) w'⟩
  · rename_i hx
    rw [hx] at r1
    cases r1
    cases ee
    refine ⟨false, rfl, ?_⟩
    refine iteF ?_
    exact k _ W1 H1 x1 w1 (.bl false)
  · cases ee
theorem g_or {a b : Expr} {r : List Expr} {ca cb : E} {pos : Pos} (ha : Snd P cal mak X a ca) (pe : PE X (.BoolOp .Or (b :: r) pos) (tE P cal mak cb)) (pw : PW X (.BoolOp .Or (b :: r) pos) (tT P cal mak cb)) : Snd P cal mak X (.BoolOp .Or (a :: b :: r) pos) (.or ca cb) := by
  have hw : PW X (.BoolOp .Or (a :: b :: r) pos) (tT P cal mak (.or ca cb)) := by
    refine pwI (pw_or ha.pt pw) fun σ H Q ⟨W, ρ, μ, d, μ', w, en, ee, k⟩ => ?_
    unfold ev at ee
    obtain ⟨⟨x, y⟩, e1, ee⟩ := bind_some' ee
    split at ee
    · rename_i hx
      simp only at hx ee
      subst hx
      refine ⟨W, ρ, μ, false, y, w, en, e1, fun W1 H1 x1 w1 => ?_⟩
      refine iteF ?_
      exact ⟨W1, ρ, y, d, μ', w1, en.ext x1 w, ee, fun W' H' x' w' => k W' H' (x1.trans x' w w1) w'⟩
    · rename_i hx
      simp only at hx ee
      subst hx
      cases ee
      refine ⟨W, ρ, μ, true, _, w, en, e1, fun W1 H1 x1 w1 => ?_⟩
      refine iteT ?_
      exact k W1 H1 x1 w1
    · cases ee
  refine ⟨peI (pe_or ha.pe pe) fun σ H Q ⟨W, ρ, μ, d, μ', w, en, ee, k⟩ => ?_, hw.pt, fun op vs pos q => by cases q; exact hw⟩
  unfold ev at ee
  obtain ⟨x, e1, ee⟩ := bind_some' ee
  refine ⟨W, ρ, μ, x.1, x.2, w, en, e1, fun v1 W1 H1 x1 w1 r1 => ?_⟩
  split at ee
  · rename_i hx
    rw [hx] at r1
    cases r1
    refine ⟨false, rfl, ?_⟩
    refine iteF ?_
    exact ⟨W1, ρ, x.2, d, μ', w1, en.ext x1 w, ee, fun v W' H' x' w' => k v W' H' (x1.trans x' w w1) w'⟩
  · rename_i hx
    rw [hx] at r1
    cases r1
    cases ee
    refine ⟨true, rfl, ?_⟩
    refine iteT ?_
    exact k _ W1 H1 x1 w1 (.bl true)
  · cases ee
theorem g_tup {xs : List Expr} {es : Es} {j : Nat} {pos : Pos} (hl : xs.length ≤ 100) (hes : ∀ ds ρ μ μ', evs P.T cal mak es ρ μ = some (ds, μ') → ds.length = xs.length) (ha : PA X xs (tA' P cal mak es)) : PE X (.Tuple xs j pos) (tE P cal mak (.tup es)) := by
  refine peI (pe_tup ha) fun σ H Q ⟨W, ρ, μ, d, μ', w, en, ee, k⟩ => ?_
  unfold ev at ee
  obtain ⟨x, e1, ee⟩ := bind_some' ee
  cases ee
  refine ⟨W, ρ, μ, x.1, x.2, w, en, e1, fun vs W1 H1 x1 w1 r1 => ?_⟩
  have hv : vs.length ≤ 100 := by rw [r1.len, hes _ _ _ _ e1]; exact hl
  refine ⟨by rw [← lim_eq]; show vs.length ≤ 16777216; omega, fun p hp => ?_⟩
  obtain ⟨x2, w2⟩ := addF (o := .tup vs) w1 hp
  exact k _ _ _ (x1.trans x2 w w1) w2 (.tup (.of upd_same) (.inl (.inr rfl)) (by show vs.length ≤ 16777216; omega) (r1.ext x2 w1))
theorem g_lst {xs : List Expr} {es : Es} {pos : Pos} (hl : xs.length ≤ 100) (hes : ∀ ds ρ μ μ', evs P.T cal mak es ρ μ = some (ds, μ') → ds.length = xs.length) (ha : PA X xs (tA' P cal mak es)) : PE X (.List xs pos) (tO P cal mak (.lst es)) := by
  refine peI (pe_lst ha) fun σ H Q ⟨W, ρ, μ, d, μ', w, en, ee, k⟩ => ?_
  unfold evO at ee
  obtain ⟨x, e1, ee⟩ := bind_some' ee
  cases ee
  refine ⟨W, ρ, μ, x.1, x.2, w, en, e1, fun vs W1 H1 x1 w1 r1 => ?_⟩
  have hv : vs.length ≤ 100 := by rw [r1.len, hes _ _ _ _ e1]; exact hl
  refine ⟨by rw [← lim_eq]; show vs.length ≤ 16777216; omega, fun p hp => ?_⟩
  obtain ⟨x2, w2⟩ := addO (o := .lst vs) w1 hp
  obtain ⟨nF, nι⟩ := w1.notp hp
  have hn : H p = none := (x1.free w1 hp)
  exact k p _ _ (x1.trans x2 w w1) w2 ⟨.lst upd_same (by show vs.length ≤ 16777216; omega) (r1.ext x2 w1), nF, nι⟩ hn
theorem g_frz {e : Expr} {o : O} (h : PE X e (tO P cal mak o)) : PE X e (tE P cal mak (.frz o)) := by
  refine peI h fun σ H Q ⟨W, ρ, μ, d, μ', w, en, ee, k⟩ => ?_
  unfold ev at ee
  refine ⟨W, ρ, μ, d, μ', w, en, ee, fun a W1 H1 x1 w1 o1 hn => ?_⟩
  obtain ⟨w2, r2, _⟩ := o1.freeze w1
  exact k _ _ _ (x1.addF hn) w2 r2
theorem g_box {e : Expr} {o : O} (h : PE X e (tO P cal mak o)) : PE X e (tE P cal mak (.box o)) := by
  refine peI h fun σ H Q ⟨W, ρ, μ, d, μ', w, en, ee, k⟩ => ?_
  unfold ev at ee
  obtain ⟨x, e1, ee⟩ := bind_some' ee
  cases ee
  refine ⟨W, ρ, μ, x.1, x.2, w, en, e1, fun a W1 H1 x1 w1 o1 hn => ?_⟩
  obtain ⟨w2, r2⟩ := o1.box w1
  exact k _ _ _ (x1.addC hn) w2 r2
theorem g_sub (g : GX P n cal mak G X) {a b : Expr} {ca : R} {cb : E} {pos : Pos} (hp : plnB b = true) (ha : PE X a (tR P cal mak ca)) (hb : PE X b (tE P cal mak cb)) : PE X (.Subscript a b pos) (tE P cal mak (.sub ca cb)) := by
  refine peI (pe_ix (ix_sub g.K) ha hb (plain_ix hp)) fun σ H Q ⟨W, ρ, μ, d, μ', w, en, ee, k⟩ => ?_
  unfold ev at ee
  obtain ⟨x, e1, ee⟩ := bind_some' ee
  obtain ⟨y, e2, ee⟩ := bind_some' ee
  obtain ⟨z, e3, ee⟩ := bind_some' ee
  cases ee
  exact ⟨W, ρ, μ, x.1, x.2, w, en, e1, fun v1 W1 H1 x1 w1 r1 _ => ⟨W1, ρ, x.2, y.1, y.2, w1, en.ext x1 w, e2, fun v2 W2 H2 x2 w2 r2 =>
    ⟨W2, y.2, x.1, y.1, d, w2, r1.ext x2 w1, .inl r2, e3, fun v W' H' x' w' r' => k v W' H' ((x1.trans x2 w w1).trans x' w w2) w' r'⟩⟩⟩
end
end EV

set_option Elab.async false
set_option linter.all false
set_option maxRecDepth 100000
set_option maxHeartbeats 1000000
namespace EV
open PySem PySem.Spec PyProof.Rows L2
theorem zip_lookup {N : List Str} : ∀ {vs : List V} {x : Str} {v : V}, N.Nodup → (∃ j : Nat, N[j]? = some x ∧ vs[j]? = some v) → (N.zip vs).lookup x = some v := by
  induction N with
  | nil => intro vs x v _ ⟨j, h, _⟩; simp at h
  | cons m N ih =>
    intro vs x v nd ⟨j, h1, h2⟩
    cases vs with
    | nil => simp at h2
    | cons u vs =>
      rw [List.zip_cons_cons, List.lookup_cons]
      cases j with
      | zero =>
        simp at h1 h2
        subst h1 h2
        simp
      | succ j =>
        simp at h1 h2
        have hne : x ≠ m := fun z => (List.nodup_cons.mp nd).1 (z ▸ List.mem_of_getElem? h1)
        have : (x == m) = false := beq_eq_false_iff_ne.mpr hne
        rw [this]
        exact ih (List.nodup_cons.mp nd).2 ⟨j, h1, h2⟩
theorem zipD_lookup {N : List Nat} : ∀ {ds : List D} {x : Nat} {d : D}, (N.zip ds).lookup x = some d → ∃ j : Nat, N[j]? = some x ∧ ds[j]? = some d := by
  induction N with
  | nil => intro ds x d h; simp at h
  | cons m N ih =>
    intro ds x d h
    cases ds with
    | nil => simp at h
    | cons u ds =>
      rw [List.zip_cons_cons, List.lookup_cons] at h
      split at h
      · rename_i hx
        have e := eq_of_beq hx
        cases h
        exact ⟨0, by simp [e], by simp⟩
      · obtain ⟨j, h1, h2⟩ := ih h
        exact ⟨j + 1, by simpa using h1, by simpa using h2⟩
theorem Pl.fld_of (P : Pl) {c : Nat} {k : Cl} (h : P.T.cls[c]? = some k) : P.fld c = k.fields.map P.nm := by
  unfold Pl.fld
  rw [h]
section
variable {P : Pl} {n : Nat} {cal : Cal} {mak : Mak} {G : Ga} {X : Cx}
theorem g_attr (g : GX P n cal mak G X) {a : Expr} {ca : E} {f : Nat} {nm : Str} {pos : Pos} (hp : plnB a = true) (hn : G.T.names[f]? = some nm) (ha : PE X a (tE P cal mak ca)) : PE X (.Attribute a nm pos) (tE P cal mak (.attr ca f)) := by
  rw [g.T] at hn
  have hnm : P.nm f = nm := by unfold Pl.nm; rw [List.getD_eq_getElem?_getD, hn]; rfl
  refine peI (pe_fld ha (plain_attr hp)) fun σ H Q ⟨W, ρ, μ, d, μ', w, en, ee, k⟩ => ?_
  unfold ev at ee
  obtain ⟨x, e1, ee⟩ := bind_some' ee
  obtain ⟨z, e2, ee⟩ := bind_some' ee
  cases ee
  refine ⟨W, ρ, μ, x.1, x.2, w, en, e1, fun v1 W1 H1 x1 w1 r1 => ?_⟩
  obtain ⟨ob, t1, t2⟩ := bind_some' e2
  cases ob <;> first | (cases t2; done) | skip
  rename_i c xs
  obtain ⟨kk, t3, t4⟩ := bind_some' t2
  obtain ⟨j, q1, q2⟩ := zipD_lookup t4
  obtain ⟨ad, dx, vs, rfl, hc, hH, rl, hl⟩ := RRep.obj w1 (.inl r1) t1
  obtain ⟨v, hv, rv⟩ := rl.get q2
  refine ⟨ad, P.ca c, dx, _, v, rfl, hH, g.K ▸ g.Y.cl c kk t3, ?_, ?_, k v W1 H1 x1 w1 rv⟩
  · have := g.Y.na c kk f t3 (List.mem_of_getElem? q1)
    rw [hnm] at this
    exact g.K ▸ this
  · refine zip_lookup (g.Y.nd c kk t3).1 ⟨j, ?_, hv⟩
    rw [P.fld_of t3, List.getElem?_map, q1, Option.map_some, hnm]
theorem g_args0 : PA X [] (tA' P cal mak .nil) := paI pa_nil fun σ H Q ⟨W, ρ, μ, d, μ', w, en, ee, k⟩ => by
  unfold evs at ee
  cases ee
  exact k [] W H .refl w .nil
theorem g_args {e : Expr} {es : List Expr} {c : E} {cs : Es} (hs : starB e = true) (he : PE X e (tE P cal mak c)) (hes : PA X es (tA' P cal mak cs)) : PA X (e :: es) (tA' P cal mak (.cons c cs)) :=
  paI (pa_cons he hes (star_cons hs)) fun σ H Q ⟨W, ρ, μ, d, μ', w, en, ee, k⟩ => by
    unfold evs at ee
    obtain ⟨x, e1, ee⟩ := bind_some' ee
    obtain ⟨y, e2, ee⟩ := bind_some' ee
    cases ee
    exact ⟨W, ρ, μ, x.1, x.2, w, en, e1, fun v1 W1 H1 x1 w1 r1 => ⟨W1, ρ, x.2, y.1, y.2, w1, en.ext x1 w, e2, fun vs W2 H2 x2 w2 r2 => k _ W2 H2 (x1.trans x2 w w1) w2 (.cons (r1.ext x2 w1) r2)⟩⟩
theorem call_of (g : GX P n cal mak G X) {f : Nat} {x : Str} (h : chkCall G f x = true) : ∃ F fd, P.T.fns[f]? = some F ∧ FnOk X.prog X.w X.K X.mg X.base CX0 n (P.fa f) fd F.ps (spF P F.ps.length cal f) ∧ Binds X.K fd F.ps [] ∧ Gl X x ∧ X.mg x = some (.ref (P.fa f)) ∧
    PySem.W.keepIn X.K (.ref (P.fa f)) = true ∧ (x == ("__debug__" : Str)) = false := by
  unfold chkCall at h
  obtain ⟨h1, h2⟩ := ba h
  obtain ⟨h2, h3⟩ := ba h2
  split at h1
  · rename_i F hF
    obtain ⟨h4, h5⟩ := ba h1
    rw [g.T] at hF
    obtain ⟨fd, F1, F2⟩ := g.hcal f F hF (by simpa using h5)
    obtain ⟨fd', FD⟩ := g.Y.fn f F hF
    split at h4
    · rename_i y hy
      have e := of_decide_eq_true h4
      subst e
      exact ⟨F, fd, hF, F1, F2, g.gl h2, g.Y.fg f F _ hF hy, g.K ▸ FD.kp, (nmOk_of h3).1⟩
    · cases h4
  · cases h1
theorem room_n (g : GX P n cal mak G X) : Room n X.A := g.room.mono (Nat.le_succ n)
theorem ret_back {W W1 W' : Wo} {H H1 H' : Hp} {o : Bool} {v : V} {d : D} {μ : Sto} (x1 : Ext W H W1 H1) (w1 : Wd P W1 H1 μ) (rr : RetRep P W1 H1 W' H' o v d) : RetRep P W H W' H' o v d := by
  unfold RetRep at rr ⊢
  split at rr
  · rename_i ho
    rw [if_pos ho]
    obtain ⟨a, e, o, hn⟩ := rr
    exact ⟨a, e, o, x1.free w1 hn⟩
  · rename_i ho
    rw [if_neg ho]
    exact rr
def tCal (P : Pl) (cal : Cal) (mak : Mak) (f : Nat) (cs : Es) : TE := fun σ H Q => ∃ (W : Wo) (ρ : Rho) (μ : Sto) (y : List D × Sto) (r : (Bool × D) × Sto), Wd P W H μ ∧ En P W H σ ρ ∧ evs P.T cal mak cs ρ μ = some y ∧ cal f y.1 y.2 = some r ∧
      ∀ v W' H', Ext W H W' H' → Wd P W' H' r.2 → RetRep P W H W' H' r.1.1 v r.1.2 → Q v H'
theorem g_callT (g : GX P n cal mak G X) {f : Nat} {x : Str} {es : List Expr} {cs : Es} {p pos : Pos} (h : chkCall G f x = true) (hs : es.all starB = true) (hnil : es = [] → cs = .nil) (ha : PA X es (tA' P cal mak cs)) :
    PE X (.Call (.Name x p) es [] pos) (tCal P cal mak f cs) := by
  obtain ⟨F, fd, hF, F1, F2, gl, hm, hk, hd⟩ := call_of g h
  cases es with
  | nil =>
    cases hnil rfl
    refine peI (pe_call0 F1 (room_n g) gl hm hk F2 .nil pass0 hd) fun σ H Q ⟨W, ρ, μ, y, r, w, en, e1, e2, k⟩ => ?_
    unfold evs at e1
    cases e1
    exact ⟨W, μ, [], r, g.calL f F _ _ _ hF e2, w, .nil, e2, k⟩
  | cons e es =>
    rw [List.all_cons, Bool.and_eq_true] at hs
    refine peI (pe_call F1 (room_n g) gl hm hk F2 .nil pass0 ha hd (star_cons hs.1) (star_any hs.2)) fun σ H Q ⟨W, ρ, μ, y, r, w, en, e1, e2, k⟩ => ?_
    refine ⟨W, ρ, μ, y.1, y.2, w, en, e1, fun vs W1 H1 x1 w1 r1 => ?_⟩
    show spF P F.ps.length cal f (vs ++ []) H1 Q E0
    rw [List.append_nil]
    exact ⟨W1, y.2, y.1, r, by rw [r1.len]; exact g.calL f F _ _ _ hF e2, w1, r1, e2, fun v W' H' x' w' rr => k v W' H' (x1.trans x' w w1) w' (ret_back x1 w1 rr)⟩
theorem g_call {f : Nat} {cs : Es} {e : Expr} (h : PE X e (tCal P cal mak f cs)) : PE X e (tE P cal mak (.call f cs)) := by
  refine peI h fun σ H Q ⟨W, ρ, μ, d, μ', w, en, ee, k⟩ => ?_
  unfold ev at ee
  obtain ⟨y, e1, ee⟩ := bind_some' ee
  obtain ⟨r, e2, ee⟩ := bind_some' ee
  cases ee
  refine ⟨W, ρ, μ, y, r, w, en, e1, e2, fun v W' H' x' w' rr => ?_⟩
  unfold RetRep at rr
  split at rr
  · obtain ⟨a, rfl, o, hn⟩ := rr
    obtain ⟨w2, r2, _⟩ := o.freeze w'
    exact k _ _ _ (x'.addF hn) w2 r2
  · exact k v W' H' x' w' rr
theorem g_callO {f : Nat} {cs : Es} {e : Expr} (h : PE X e (tCal P cal mak f cs)) : PE X e (tO P cal mak (.call f cs)) := by
  refine peI h fun σ H Q ⟨W, ρ, μ, d, μ', w, en, ee, k⟩ => ?_
  unfold evO at ee
  obtain ⟨y, e1, ee⟩ := bind_some' ee
  obtain ⟨r, e2, ee⟩ := bind_some' ee
  split at ee
  · rename_i ho
    cases ee
    refine ⟨W, ρ, μ, y, r, w, en, e1, e2, fun v W' H' x' w' rr => ?_⟩
    unfold RetRep at rr
    rw [if_pos ho] at rr
    obtain ⟨a, rfl, o, hn⟩ := rr
    exact k a W' H' x' w' o hn
  · cases ee
theorem g_make (g : GX P n cal mak G X) {c : Nat} {kk : Cl} {F : Fn} {x : Str} {es : List Expr} {cs : Es} {p pos : Pos} (h1 : P.T.cls[c]? = some kk) (h2 : kk.mu = false) (h3 : P.T.fns[kk.init]? = some F) (h4 : kk.name = x) (gl : Gl X x) (hd : (x == ("__debug__" : Str)) = false)
    (hs : es.all starB = true) (hnil : es = [] → cs = .nil) (ha : PA X es (tA' P cal mak cs)) : PE X (.Call (.Name x p) es [] pos) (tE P cal mak (.make c cs)) := by
  obtain ⟨fd, F1, F2⟩ := g.hmak c kk F h1 h2 h3
  have hm := g.Y.cg c kk h1
  rw [h4] at hm
  have M : Mk X.K (P.ca c) (P.fa kk.init) := g.K ▸ g.Y.mkr c kk h1
  have fin : ∀ {H : Hp} {Q : VK} {W : Wo} {μ : Sto} {ds : List D} {d : D} {μ' : Sto} {vs : List V}, Wd P W H μ → RepL P W H vs ds → mak c ds μ = some (d, μ') → Post P W H d μ' Q →
      ∀ y dx, H y = none → H dx = none → dx ≠ y → spM P F.ps.length mak c (.ref y :: (vs ++ [])) (upd (upd H dx (.own y)) y (.ins (P.ca c) dx [])) (fun v H2 => v = .non ∧ Q (.ref y) H2) E0 := fun {H Q W μ ds d μ' vs} w r e k y dx hy hdx ne => by
    rw [List.append_nil]
    refine ⟨W, μ, ds, d, μ', y, dx, vs, H, rfl, ?_, rfl, hy, hdx, ne, w, r, e, fun W' H' x' w' r' => ⟨rfl, k _ W' H' x' w' r'⟩⟩
    rw [List.length_cons, r.len]
    exact g.makL c kk F ds μ _ h1 h3 e
  cases es with
  | nil =>
    cases hnil rfl
    refine peI (pe_make0 M F1 g.room gl hm F2 .nil pass0 hd) fun σ H Q ⟨W, ρ, μ, d, μ', w, en, ee, k⟩ => ?_
    unfold ev evs at ee
    exact fin w .nil (show mak c [] μ = some (d, μ') from ee) k
  | cons e es =>
    rw [List.all_cons, Bool.and_eq_true] at hs
    refine peI (pe_make M F1 g.room gl hm F2 .nil pass0 ha hd (star_cons hs.1) (star_any hs.2)) fun σ H Q ⟨W, ρ, μ, d, μ', w, en, ee, k⟩ => ?_
    unfold ev at ee
    obtain ⟨y, e1, ee⟩ := bind_some' ee
    exact ⟨W, ρ, μ, y.1, y.2, w, en, e1, fun vs W1 H1 x1 w1 r1 => fin w1 r1 ee fun v W' H' x' w' r' => k v W' H' (x1.trans x' w w1) w' r'⟩
theorem blt_bi (b : Bi) (h : b.one = true) : b.nm ∈ bltNames ∧ b.nm ≠ "__name__" ∧ (b.nm == ("__debug__" : Str)) = false ∧ ((∃ id, b.val = some (.builtin id) ∧ bootBuiltins b.nm = some (.builtin id)) ∨ ∃ id, b.val = some (.type id) ∧ bootBuiltins b.nm = some (.type id)) := by
  cases b <;> first | (cases h; done) | skip
  all_goals refine ⟨by decide +kernel, by decide +kernel, by decide +kernel, ?_⟩
  all_goals first | exact .inl ⟨_, rfl, by decide +kernel⟩ | exact .inr ⟨_, rfl, by decide +kernel⟩
theorem g_bi (g : GX P n cal mak G X) {b : Bi} {x : Str} {y : Expr} {cy : R} {p pos : Pos} (h1 : b.one = true) (h2 : b.nm = x) (gl : Gl X x) (hs : starB y = true) (hy : PE X y (tR P cal mak cy)) : PE X (.Call (.Name x p) [y] [] pos) (tE P cal mak (.bi b cy)) := by
  subst h2
  obtain ⟨m1, m2, m3, m4⟩ := blt_bi b h1
  have hm := g.fr _ m1
  have rd : ∀ σ H Q, tE P cal mak (.bi b cy) σ H Q → tCB (rB1 P b) (tCons (tR P cal mak cy) tNil) σ H Q := fun σ H Q ⟨W, ρ, μ, d, μ', w, en, ee, k⟩ => by
    unfold ev at ee
    obtain ⟨z, e1, ee⟩ := bind_some' ee
    obtain ⟨u, e2, ee⟩ := bind_some' ee
    cases ee
    exact ⟨W, ρ, μ, z.1, z.2, w, en, e1, fun v W1 H1 x1 w1 r1 _ => ⟨W1, z.2, v, z.1, d, rfl, w1, r1, e2, fun v' W' H' x' w' r' => k v' W' H' (x1.trans x' w w1) w' r'⟩⟩
  rcases m4 with ⟨id, q1, q2⟩ | ⟨id, q1, q2⟩
  · exact peI (pe_callB (call_bi g.K g.calm q1) gl hm q2 (pa_cons hy pa_nil (star_cons hs)) m2 m3 (star_cons hs) rfl) rd
  · exact peI (pe_callTy (call_bi g.K g.calm q1) gl hm q2 (pa_cons hy pa_nil (star_cons hs)) m2 m3 (star_cons hs) rfl) rd
theorem g_b2 (g : GX P n cal mak G X) {b : Bi} {x : Str} {y z : Expr} {cy cz : E} {p pos : Pos} (h1 : b.two = true) (h2 : b.nm = x) (gl : Gl X x) (hs : starB y = true) (hs2 : starB z = true) (hy : PE X y (tE P cal mak cy)) (hz : PE X z (tE P cal mak cz)) : PE X (.Call (.Name x p) [y, z] [] pos) (tE P cal mak (.b2 b cy cz)) := by
  have rd : ∀ σ H Q, tE P cal mak (.b2 b cy cz) σ H Q → tCB (rB2 P b) (tCons (tE P cal mak cy) (tCons (tE P cal mak cz) tNil)) σ H Q := fun σ H Q ⟨W, ρ, μ, d, μ', w, en, ee, k⟩ => by
    unfold ev at ee
    obtain ⟨u, e1, ee⟩ := bind_some' ee
    obtain ⟨u2, e2, ee⟩ := bind_some' ee
    obtain ⟨u3, e3, ee⟩ := bind_some' ee
    cases ee
    exact ⟨W, ρ, μ, u.1, u.2, w, en, e1, fun v W1 H1 x1 w1 r1 => ⟨W1, ρ, u.2, u2.1, u2.2, w1, en.ext x1 w, e2, fun v2 W2 H2 x2 w2 r2 =>
      ⟨W2, u2.2, v, v2, u.1, u2.1, d, rfl, w2, r1.ext x2 w1, r2, e3, fun v' W' H' x' w' r' => k v' W' H' ((x1.trans x2 w w1).trans x' w w2) w' r'⟩⟩⟩
  have pa := pa_cons hy (pa_cons hz pa_nil (star_cons hs2)) (star_cons hs)
  have pl : (backTo pos (starEach [z] X.env)).any (·.1) = false := by rw [star_cons hs2]; rfl
  subst h2
  cases b <;> first | (cases h1; done) | skip
  · exact peI (pe_callB (id := "max") (call_b2 g.calm (.inl ⟨rfl, rfl⟩)) gl (g.fr _ (by decide +kernel)) (by decide +kernel) pa (by decide +kernel) (by decide +kernel) (star_cons hs) pl) rd
  · exact peI (pe_callB (id := "min") (call_b2 g.calm (.inr ⟨rfl, rfl⟩)) gl (g.fr _ (by decide +kernel)) (by decide +kernel) pa (by decide +kernel) (by decide +kernel) (star_cons hs) pl) rd
theorem ty_blt {n : String} (h : tyNames.contains n = true) (h2 : n ≠ "NoneType") : Str.ofString n ∈ bltNames ∧ bootBuiltins (Str.ofString n) = some (.type n) ∧ Str.ofString n ≠ "__name__" ∧ (Str.ofString n == ("__debug__" : Str)) = false := by
  simp only [tyNames, List.contains_cons, List.contains_nil, Bool.or_false, Bool.or_eq_true, beq_iff_eq] at h
  rcases h with h | h | h | h | h | h | h <;> subst h <;> first | exact absurd rfl h2 | exact ⟨by decide +kernel, by decide +kernel, by decide +kernel, by decide +kernel⟩
theorem g_isi (g : GX P n cal mak G X) {a : E} {t : Ty} {x z : Str} {y : Expr} {p p' pos : Pos} (hx : x = "isinstance") (gl : Gl X x) (hs : starB y = true) (hy : PE X y (tE P cal mak a)) (ht : tyB t (.Name z p') = true) (gz : Gl X z) (hz : nmOk z = true)
    (hc : ∀ c, t = .cls c → ∃ k, P.T.cls[c]? = some k ∧ k.name = z) : PE X (.Call (.Name x p) [y, .Name z p'] [] pos) (tE P cal mak (.isi a t)) := by
  have pn : PE X (.Name z p') (tC (t.v P)) := by
    cases t with
    | ty n =>
      obtain ⟨h1, h2⟩ := ba (show (decide (z = Str.ofString n) && (tyNames.contains n && decide (n ≠ "NoneType"))) = true from ht)
      obtain ⟨h2, h3⟩ := ba h2
      have e := of_decide_eq_true h1
      subst e
      obtain ⟨q1, q2, q3, q4⟩ := ty_blt h2 (of_decide_eq_true h3)
      exact pe_bltn gz (g.fr _ q1) q2 rfl q3 q4
    | cls c =>
      obtain ⟨k, h1, h2⟩ := hc c rfl
      subst h2
      exact pe_glob gz (g.Y.cg c k h1) rfl (nmOk_of hz).1
  have hin : t.k P := by
    cases t with
    | ty n =>
      obtain ⟨h1, h2⟩ := ba (show (decide (z = Str.ofString n) && (tyNames.contains n && decide (n ≠ "NoneType"))) = true from ht)
      exact List.contains_iff_mem.mp (ba h2).1
    | cls c =>
      obtain ⟨k, h1, h2⟩ := hc c rfl
      show (P.T.cls[c]?).isSome = true
      rw [h1]; rfl
  subst hx
  refine peI (pe_callB (id := "isinstance") (call_ty g.Y g.K t) gl (g.fr _ (by decide +kernel)) (by decide +kernel) (pa_cons hy (pa_cons pn pa_nil) (star_cons hs)) (by decide +kernel) (by decide +kernel) (star_cons hs) rfl) fun σ H Q ⟨W, ρ, μ, d, μ', w, en, ee, k⟩ => ?_
  unfold ev at ee
  obtain ⟨u, e1, ee⟩ := bind_some' ee
  obtain ⟨b, e2, ee⟩ := bind_some' ee
  cases ee
  exact ⟨W, ρ, μ, u.1, u.2, w, en, e1, fun v W1 H1 x1 w1 r1 => ⟨W1, u.2, v, u.1, b, rfl, hin, w1, r1, e2, k _ W1 H1 x1 w1 (.bl b)⟩⟩
end
end EV

set_option Elab.async false
set_option linter.all false
set_option maxRecDepth 100000
set_option maxHeartbeats 1000000
namespace EV
open PySem PySem.Spec PyProof.Rows L2
section
variable {P : Pl} {n : Nat} {cal : Cal} {mak : Mak} {G : Ga} {X : Cx} {W W' W'' : Wo} {H H' H'' : Hp} {μ μ' : Sto} {σ : L2.St} {ρ : Rho}
theorem Keep.refl : Keep W H W H := ⟨fun _ h => h, fun _ _ _ h => h, [], by simp⟩
theorem Keep.trans (a : Keep W H W' H') (b : Keep W' H' W'' H'') : Keep W H W'' H'' := by
  refine ⟨fun x h => b.fz x (a.fz x h), fun x o f h => b.rd x o (a.fz x f) (a.rd x o f h), ?_⟩
  obtain ⟨l, e⟩ := a.pre
  obtain ⟨m, e'⟩ := b.pre
  exact ⟨l ++ m, by rw [e', e, List.append_assoc]⟩
/-- a list + a list -/
theorem op_catL (hK : X.K = P.K) : OpR X (binaryOp .Add) (fun x y H Q => ∃ (W : Wo) (μ : Sto) (dx dy : D) (xs zs : List D), Wd P W H μ ∧ RRep P W H x dx ∧ RRep P W H y dy ∧ (dx.top μ).bind asLst = some xs ∧ (dy.top μ).bind asLst = some zs ∧ xs.length + zs.length ≤ LIM ∧ PostO P W H (.lst (xs ++ zs)) μ Q) := by
  intro pins s σ H x y v u Q I rx ry ⟨W, μ, dx, dy, xs, zs, w, r1, r2, h1, h2, hl, k⟩
  obtain ⟨a, vs, rfl, q1, l1, _⟩ := r1.lst w h1
  obtain ⟨b, ws, rfl, q2, l2, _⟩ := r2.lst w h2
  cases rx
  cases ry
  obtain ⟨its, v1, ⟨o, m, e, hc, hd, hdat⟩, z1⟩ := I.list (hK ▸ q1)
  obtain ⟨its2, v2, ⟨o2, m2, e2, hc2, hd2, hdat2⟩, z2⟩ := I.list (hK ▸ q2)
  have n1 := l1.len
  have n2 := l2.len
  have n3 := v1.length
  have n4 := v2.length
  have lim := lim_eq
  obtain ⟨oc, od, dt, sl⟩ := o
  obtain ⟨oc2, od2, dt2, sl2⟩ := o2
  simp only at hc hd hdat hc2 hd2 hdat2
  subst hc hd hdat hc2 hd2 hdat2
  have ea : its.toArray ++ its2.toArray = (its ++ its2).toArray := by simp
  refine concat_meets ⟨_, e, rfl⟩ ⟨_, e2, rfl⟩ noFill_list_add seq_list_add PySem.F.slot_list_add PySem.F.entry_list_add (PySem.F.args_list_add_2 _ _) (list_addW a b its.toArray its2.toArray m m2 none none sl sl2 (by rw [List.size_toArray, List.size_toArray]; omega)) ⟨e, e2, ?_⟩
  rw [ea]
  have hn : H s.heap.objs.size = none := I.hok.fresh (Nat.le_refl _)
  obtain ⟨x2, w2⟩ := addO (o := .lst (vs ++ ws)) w hn
  obtain ⟨nF, nι⟩ := w.notp hn
  exact ⟨.ref _, _, I.lnew (t' := s.toks) (v1.append v2) (by rw [List.length_append]; omega), rfl, k _ _ _ x2 w2 ⟨.lst upd_same (by rw [List.length_append]; omega) ((l1.ext x2 w).append (l2.ext x2 w)), nF, nι⟩ hn⟩
def Wk (P : Pl) (W1 : Wo) (H1 : Hp) (oa : List Addr) (g : Gd) (xs : List D) (J : L2.It) : Prop :=
  ∀ (i : Nat) (W : Wo) (H : Hp) (μ : Sto), Keep W1 H1 W H → (∀ a ∈ oa, ∀ o, H1 a = some o → H a = some o) → Wd P W H μ → stay g μ = true →
    (i < xs.length → J.go i H ∧ ∀ x H3, J.yld i H x H3 → ∃ W3 d, Ext W H W3 H3 ∧ Wd P W3 H3 μ ∧ xs[i]? = some d ∧ Rep P W3 H3 x d) ∧ (xs.length ≤ i → J.stop i H)
def ownI : It → Bool
  | .lst r => ownR r
  | _ => false
def tI (P : Pl) (cal : Cal) (mak : Mak) (it : It) : TI := fun σ H Rr => ∃ (W : Wo) (ρ : Rho) (μ : Sto) (xs : List D) (g : Gd) (μ' : Sto), Wd P W H μ ∧ En P W H σ ρ ∧ evI P.T cal mak it ρ μ = some ((xs, g), μ') ∧
  ∀ W1 H1 J oa, Ext W H W1 H1 → Wd P W1 H1 μ' → (ownI it = false → oa = []) → (∀ a ∈ oa, a ∉ W1.ι) → Wk P W1 H1 oa g xs J → xs.length ≤ LIM → Rr J H1
theorem stay_eq {m : Nat} {d : D} (h : stay (some (m, d)) μ = true) : μ[m]? = some d := by
  unfold stay at h
  simpa using h
theorem g_ilst (g : GX P n cal mak G X) {tg e : Expr} {r : R} (h : PE X e (tR P cal mak r)) : PI X tg e (tI P cal mak (.lst r)) := by
  refine piI (pi_list h) fun σ H Rr ⟨W, ρ, μ, xs, gd, μ', w, en, ee, k⟩ => ?_
  unfold evI at ee
  obtain ⟨x, e1, ee⟩ := bind_some' ee
  obtain ⟨d, e2, ee⟩ := bind_some' ee
  obtain ⟨ys, e3, ee⟩ := bind_some' ee
  cases ee
  refine ⟨W, ρ, μ, x.1, x.2, w, en, e1, fun v W1 H1 x1 w1 r1 rR => ?_⟩
  obtain ⟨a, vs, rfl, q1, l1, z1⟩ := r1.lst w1 (show (x.1.top x.2).bind asLst = some xs by rw [e2]; exact e3)
  have go : ∀ {oa : List Addr}, (∀ (W2 : Wo) (H2 : Hp) (μ2 : Sto), Keep W1 H1 W2 H2 → (∀ a ∈ oa, ∀ o, H1 a = some o → H2 a = some o) → Wd P W2 H2 μ2 → stay (seqGd x.1 x.2) μ2 = true → ∃ ws, SqL X.K H2 a ws ∧ RepL P W2 H2 ws xs) → Wk P W1 H1 oa (seqGd x.1 x.2) xs (Itl X.K a) := fun {oa} hh i W2 H2 μ2 kp oo w2 st => by
    obtain ⟨ws, hq, hr⟩ := hh W2 H2 μ2 kp oo w2 st
    have wl := walk_list (K := X.K) (a := a) (xs := ws)
    have hlen := hr.len
    refine ⟨fun hi => ⟨wl.goes i H2 (by omega) hq, fun y H3 hy => ?_⟩, fun hi => ⟨ws, hq, by omega⟩⟩
    obtain ⟨e4, e5⟩ := wl.yields i H2 y H3 (by omega) hq hy
    subst e4
    obtain ⟨d', hd'⟩ : ∃ d', xs[i]? = some d' := ⟨_, List.getElem?_eq_getElem hi⟩
    obtain ⟨v', hv', rv'⟩ := hr.get hd'
    rw [e5] at hv'
    cases hv'
    exact ⟨W2, d', .refl, w2, hd', rv'⟩
  have hz : xs.length ≤ LIM := by rw [← l1.len]; exact z1
  have ql : SqL X.K H1 a vs := g.K ▸ q1
  have r1' : Rep P W1 H1 (.ref a) x.1 ∨ ownR r = true ∧ ∃ a', V.ref a = .ref a' ∧ Own P W1 H1 a' x.1 := by
    cases ho : ownR r with
    | false => exact .inl (rR ho)
    | true => exact r1.imp id fun h => ⟨rfl, h⟩
  clear r1 rR
  rcases r1' with r1 | ⟨ho, a', ea, o⟩
  · generalize hx : x.1 = dx at *
    cases dx with
    | cell m =>
      cases r1 with
      | cell hm =>
        refine ⟨a, rfl, ⟨vs, ql⟩, k W1 H1 _ [] x1 w1 (fun _ => rfl) (fun _ h => nomatch h) (go fun W2 H2 μ2 kp _ w2 st => ?_) hz⟩
        have e2' : x.2[m]? = some d := e2
        have sg : seqGd (.cell m) x.2 = some (m, d) := by
          show (x.2[m]?).map (fun d => (m, d)) = _
          rw [e2']; rfl
        rw [sg] at st
        have st := stay_eq st
        obtain ⟨l, el⟩ := kp.pre
        have hm2 : W2.ι[m]? = some a := by
          rw [el, List.getElem?_append_left (List.getElem?_eq_some_iff.mp hm).1]
          exact hm
        cases w2.cell m a d hm2 st with
        | lst hh z rr =>
          cases e3
          exact ⟨_, .of hh, rr⟩
        | obj => cases e3
    | lst zs =>
      cases e2
      cases e3
      cases r1 with
      | lst q f z rr =>
        refine ⟨a, rfl, ⟨vs, ql⟩, k W1 H1 _ [] x1 w1 (fun _ => rfl) (fun _ h => nomatch h) (go fun W2 H2 μ2 kp _ w2 st => ?_) hz⟩
        refine ⟨_, ?_, rr.keep kp⟩
        rcases f with f | f
        · exact g.K ▸ SqL_rd q fun o hh => kp.rd _ o f hh
        · exact g.K ▸ f H2
    | _ => cases e2; cases e3
  · cases ea
    refine ⟨a, rfl, ⟨vs, ql⟩, k W1 H1 _ [a] x1 w1 (fun ho' => ?_) (fun b hb => ?_) (go fun W2 H2 μ2 kp oo w2 st => ?_) hz⟩
    · rw [show ownI (.lst r) = ownR r from rfl, ho] at ho'
      cases ho'
    · have : b = a := by simpa using hb
      subst this
      exact o.nc
    · have oc := o.c
      generalize hx : x.1 = dx at *
      cases oc with
      | lst hh z rr =>
        cases e2
        cases e3
        exact ⟨_, .of (oo a (by simp) _ hh), rr.keep kp⟩
      | obj => cases e2; cases e3
end
end EV

set_option Elab.async false
set_option linter.all false
set_option maxRecDepth 100000
set_option maxHeartbeats 1000000
namespace EV
open PySem PySem.Spec PyProof.Rows L2
section
variable {P : Pl} {n : Nat} {cal : Cal} {mak : Mak} {G : Ga} {X : Cx} {W W' W'' : Wo} {H H' H'' : Hp} {μ μ' : Sto} {σ : L2.St} {ρ : Rho}
theorem g_itup (g : GX P n cal mak G X) {tg e : Expr} {c : E} (h : PE X e (tE P cal mak c)) : PI X tg e (tI P cal mak (.tup c)) := by
  refine piI (pi_tup h) fun σ H Rr ⟨W, ρ, μ, xs, gd, μ', w, en, ee, k⟩ => ?_
  unfold evI at ee
  obtain ⟨x, e1, ee⟩ := bind_some' ee
  split at ee
  · rename_i ys hx
    cases ee
    refine ⟨W, ρ, μ, x.1, x.2, w, en, e1, fun v W1 H1 x1 w1 r1 => ?_⟩
    rw [hx] at r1
    cases r1 with
    | tup q f z rr =>
      rename_i a vs
      refine ⟨a, rfl, ⟨vs, g.K ▸ q⟩, k W1 H1 _ [] x1 w1 (fun _ => rfl) (fun _ h => nomatch h) (fun i W2 H2 μ2 kp _ w2 st => ?_) (by rw [← rr.len]; exact z)⟩
      have hq : SqT X.K H2 a vs := by
        rcases f with f | f
        · exact g.K ▸ SqT_rd q fun o hh => kp.rd _ o f hh
        · exact g.K ▸ f H2
      have hr := rr.keep kp
      have wl := walk_tup (K := X.K) (a := a) (xs := vs)
      have hlen := hr.len
      refine ⟨fun hi => ⟨wl.goes i H2 (by omega) hq, fun y H3 hy => ?_⟩, fun hi => ⟨vs, hq, by omega⟩⟩
      obtain ⟨e4, e5⟩ := wl.yields i H2 y H3 (by omega) hq hy
      subst e4
      obtain ⟨d', hd'⟩ : ∃ d', xs[i]? = some d' := ⟨_, List.getElem?_eq_getElem hi⟩
      obtain ⟨v', hv', rv'⟩ := hr.get hd'
      rw [e5] at hv'
      cases hv'
      exact ⟨W2, d', .refl, w2, hd', rv'⟩
  · cases ee
theorem g_istr (g : GX P n cal mak G X) {tg e : Expr} {c : E} (h : PE X e (tE P cal mak c)) : PI X tg e (tI P cal mak (.str c)) := by
  refine piI (pi_str h) fun σ H Rr ⟨W, ρ, μ, xs, gd, μ', w, en, ee, k⟩ => ?_
  unfold evI at ee
  obtain ⟨x, e1, ee⟩ := bind_some' ee
  split at ee
  · rename_i z hx
    cases ee
    refine ⟨W, ρ, μ, x.1, x.2, w, en, e1, fun v W1 H1 x1 w1 r1 => ?_⟩
    rw [hx] at r1
    cases r1 with
    | str _ hz =>
      have hz2 : z.length ≤ LIM := of_decide_eq_true (ba hz).2
      have hz3 : z.cps.size ≤ LIM := hz2
      refine ⟨z, rfl, k W1 H1 _ [] x1 w1 (fun _ => rfl) (fun _ h => nomatch h) (fun i W2 H2 μ2 kp _ w2 st => ?_) (by simpa using hz3)⟩
      have wl := walk_str (z := z)
      rw [List.length_map, Array.length_toList]
      refine ⟨fun hi => ⟨hi, fun y H3 hy => ?_⟩, fun hi => hi⟩
      obtain ⟨e4, ch, e5, e6⟩ := hy
      subst e4 e6
      have e5' : z.cps.toList[i]? = some ch := by rw [Array.getElem?_toList]; exact e5
      exact ⟨W2, _, .refl, w2, by rw [List.getElem?_map, e5']; rfl, .str _ (sok_char hz e5')⟩
  · cases ee
theorem g_irng (g : GX P n cal mak G X) {tg y : Expr} {c : E} {x : Str} {p pos : Pos} (hx : x = "range") (gl : Gl X x) (hs : starB y = true) (h : PE X y (tE P cal mak c)) : PI X tg (.Call (.Name x p) [y] [] pos) (tI P cal mak (.rng c)) := by
  subst hx
  refine piI (pi_range1 gl (g.fr _ (by decide +kernel)) (pa_cons h pa_nil (star_cons hs)) (star_cons hs)) fun σ H Rr ⟨W, ρ, μ, xs, gd, μ', w, en, ee, k⟩ => ?_
  unfold evI at ee
  obtain ⟨x, e1, ee⟩ := bind_some' ee
  split at ee
  · rename_i m hx
    split at ee
    · rename_i hm
      cases ee
      refine ⟨W, ρ, μ, x.1, x.2, w, en, e1, fun v W1 H1 x1 w1 r1 => ?_⟩
      rw [hx] at r1
      cases r1
      refine ⟨m, rfl, by omega, by omega, k W1 H1 _ [] x1 w1 (fun _ => rfl) (fun _ h => nomatch h) (fun i W2 H2 μ2 kp _ w2 st => ?_) (by rw [List.length_map, List.length_range]; show m.toNat ≤ 16777216; omega)⟩
      have wl := walk_range (lo := 0) (n := m.toNat)
      rw [List.length_map, List.length_range]
      refine ⟨fun hi => ⟨hi, fun y H3 hy => ?_⟩, fun hi => hi⟩
      obtain ⟨e4, e5⟩ := hy
      subst e4 e5
      refine ⟨W2, .int i, .refl, w2, by rw [List.getElem?_map, List.getElem?_range hi]; rfl, ?_⟩
      rw [Int.zero_add]
      exact .int _
    · cases ee
  · cases ee
/-! targets -/
def gL : List Nat → TGs
  | [] => gNil
  | i :: l => gCons (gName i) (gL l)
def gTg (K : PySem.W.Frag) : Tg → TG
  | .v i => gName i
  | .tup l => gTup K l.length (gL l)
theorem pg_tgs (g : GX P n cal mak G X) : ∀ {l : List Nat} {ts : List Expr}, chkTs G l ts = true → PGs X ts (gL l) ∧ (assignEach ts X.env).length = l.length ∧ (assignEach ts X.env).findIdx? (·.1) = none
  | [], ts, h => by
    cases ts with
    | nil => exact ⟨pgs_nil, rfl, rfl⟩
    | cons _ _ => cases h
  | i :: l, ts, h => by
    cases ts with
    | nil => cases h
    | cons t r =>
      cases t <;> first | (cases h; done) | skip
      rename_i x p
      obtain ⟨h1, h⟩ := ba h
      obtain ⟨h2, h⟩ := ba h
      obtain ⟨h3, h4⟩ := ba h
      obtain ⟨a, b, c⟩ := pg_tgs g h4
      have h1 := of_decide_eq_true h1
      refine ⟨pgs_cons (pg_name (i := i) (by rw [g.N]; exact g.nd) (by rw [g.N]; exact h1) (g.loc h2) (g.st x h3)) a rfl, ?_, ?_⟩
      · show (assignEach r X.env).length + 1 = l.length + 1
        rw [b]
      · show List.findIdx? _ ((false, assign (.Name x p) X.env) :: assignEach r X.env) = none
        rw [List.findIdx?_cons]
        simp only [Bool.false_eq_true, if_false]
        rw [c]; rfl
theorem pg_tg (g : GX P n cal mak G X) {tg : Tg} {t : Expr} (h : chkT G tg t = true) : PG X t (gTg P.K tg) := by
  cases tg with
  | v i =>
    cases t <;> first | (cases h; done) | skip
    rename_i x p
    obtain ⟨h1, h⟩ := ba h
    obtain ⟨h2, h3⟩ := ba h
    exact pg_name (i := i) (by rw [g.N]; exact g.nd) (by rw [g.N]; exact of_decide_eq_true h1) (g.loc h2) (g.st x h3)
  | tup l =>
    cases t <;> first | (cases h; done) | skip
    obtain ⟨a, b, c⟩ := pg_tgs g (show chkTs G l _ = true from h)
    have := pg_tup (n := l.length) (k := by assumption) (pos := by assumption) g.calm a b c
    rw [g.K] at this
    exact this
theorem En.setF {i : Nat} {v : V} {d : D} (en : En P W H σ ρ) (r : Rep P W H v d) : En P W H (σ.set i (some v)) (ρ.set i (.fz d)) := by
  refine ⟨by rw [List.length_set, List.length_set]; exact en.len, fun j e h => ?_, fun j e h => ?_, fun j j' d' e a h1 h2 h3 h4 => ?_⟩
  · by_cases hj : i = j
    · subst hj
      have hl : i < ρ.length := by
        have := (List.getElem?_eq_some_iff.mp h).1
        simpa using this
      rw [List.getElem?_set_self hl] at h
      cases h
      exact ⟨v, by rw [List.getElem?_set_self (by rw [en.len]; exact hl)], r⟩
    · rw [List.getElem?_set_ne hj] at h ⊢
      exact en.fz j e h
  · by_cases hj : i = j
    · subst hj
      have hl : i < ρ.length := by
        have := (List.getElem?_eq_some_iff.mp h).1
        simpa using this
      rw [List.getElem?_set_self hl] at h
      cases h
    · rw [List.getElem?_set_ne hj] at h ⊢
      exact en.ow j e h
  · have n1 : i ≠ j := fun z => by
      subst z
      have hl : i < ρ.length := by
        have := (List.getElem?_eq_some_iff.mp h1).1
        simpa using this
      rw [List.getElem?_set_self hl] at h1; cases h1
    have n2 : i ≠ j' := fun z => by
      subst z
      have hl : i < ρ.length := by
        have := (List.getElem?_eq_some_iff.mp h2).1
        simpa using this
      rw [List.getElem?_set_self hl] at h2; cases h2
    rw [List.getElem?_set_ne n1] at h1 h3
    rw [List.getElem?_set_ne n2] at h2 h4
    exact en.ne j j' d' e a h1 h2 h3 h4
theorem wipe_set {σ : L2.St} {x : Option V} {i : Nat} : ∀ {l : List Nat}, i ∈ l → wipe (σ.set i x) l = wipe σ l
  | v :: l, h => by
    show (wipe (σ.set i x) l).set v none = (wipe σ l).set v none
    by_cases hi : i ∈ l
    · rw [wipe_set hi]
    · have e : i = v := by
        rcases List.mem_cons.mp h with e | e
        · exact e
        · exact absurd e hi
      subst e
      have key : ∀ (l : List Nat), i ∉ l → wipe (σ.set i x) l = (wipe σ l).set i x := by
        intro l
        induction l with
        | nil => intro _; rfl
        | cons u l ih =>
          intro hu
          have h1 : i ≠ u := fun z => hu (z ▸ List.mem_cons_self)
          show (wipe (σ.set i x) l).set u none = ((wipe σ l).set u none).set i x
          rw [ih fun z => hu (List.mem_cons_of_mem _ z), List.set_comm _ _ h1]
      rw [key l hi, List.set_set]
/-- what is owned behind was owned ahead -/
def OwSame (ρ : Rho) (σ : L2.St) (ρ' : Rho) (σ' : L2.St) : Prop := ∀ (j : Nat) (d : D), ρ'[j]? = some (.ow d) → ρ[j]? = some (.ow d) ∧ σ'[j]? = σ[j]?
theorem owsame_set {i : Nat} {d : D} {x : Option V} {σ : L2.St} {ρ : Rho} : OwSame ρ σ (ρ.set i (.fz d)) (σ.set i x) := fun j e h => by
  by_cases hj : i = j
  · subst hj
    have hl : i < ρ.length := by
      have := (List.getElem?_eq_some_iff.mp h).1
      simpa using this
    rw [List.getElem?_set_self hl] at h; cases h
  · rw [List.getElem?_set_ne hj] at h
    exact ⟨h, List.getElem?_set_ne hj⟩
theorem OwSame.trans {ρ ρ' ρ'' : Rho} {σ σ' σ'' : L2.St} (a : OwSame ρ σ ρ' σ') (b : OwSame ρ' σ' ρ'' σ'') : OwSame ρ σ ρ'' σ'' := fun j d h => by
  obtain ⟨h1, h2⟩ := b j d h
  obtain ⟨h3, h4⟩ := a j d h1
  exact ⟨h3, h2.trans h4⟩
theorem set_all (l0 : List Nat) : ∀ {l : List Nat} {ds : List D} {vs : List V} {ρ ρ' : Rho} {σ : L2.St} {Q : L2.St → Hp → Prop}, (∀ i ∈ l, i ∈ l0) → setAll ρ l ds = some ρ' → RepL P W H vs ds → En P W H σ ρ →
    (∀ σ', En P W H σ' ρ' → wipe σ' l0 = wipe σ l0 → OwSame ρ σ ρ' σ' → Q σ' H) → gL l vs σ H Q
  | [], ds, vs, ρ, ρ', σ, Q, _, h, r, en, k => by
    cases ds with
    | nil => cases h; cases r; exact ⟨rfl, k σ en rfl fun _ _ h => ⟨h, rfl⟩⟩
    | cons _ _ => cases h
  | i :: l, ds, vs, ρ, ρ', σ, Q, hl, h, r, en, k => by
    cases ds with
    | nil => cases h
    | cons d ds =>
      cases r with
      | cons r1 r2 =>
        have h : (if i < ρ.length then setAll (ρ.set i (.fz d)) l ds else none) = some ρ' := h
        split at h
        · refine ⟨_, _, rfl, ?_⟩
          exact set_all l0 (fun j hj => hl j (List.mem_cons_of_mem _ hj)) h r2 (en.setF r1) fun σ' en' e os => k σ' en' (by rw [e, wipe_set (hl i List.mem_cons_self)]) (owsame_set.trans os)
        · cases h
theorem bind_ok {tg : Tg} {d : D} {v : V} {ρ' : Rho} {Q : L2.St → Hp → Prop} (h : bindTg tg d ρ = some ρ') (r : Rep P W H v d) (en : En P W H σ ρ)
    (k : ∀ σ', En P W H σ' ρ' → wipe σ' tg.slots = wipe σ tg.slots → OwSame ρ σ ρ' σ' → Q σ' H) : gTg P.K tg v σ H Q := by
  cases tg with
  | v i =>
    have h : (if i < ρ.length then some (ρ.set i (.fz d)) else none) = some ρ' := h
    split at h
    · cases h
      exact k _ (en.setF r) (wipe_set List.mem_cons_self) owsame_set
    · cases h
  | tup l =>
    cases d <;> first | (cases h; done) | skip
    rename_i ds
    cases r with
    | tup q f z rr =>
      have hl : ds.length = l.length := by
        have : ∀ (l : List Nat) (ds : List D) (ρ ρ' : Rho), setAll ρ l ds = some ρ' → ds.length = l.length := by
          intro l
          induction l with
          | nil => intro ds ρ ρ' h; cases ds with | nil => rfl | cons _ _ => cases h
          | cons i l ih =>
            intro ds ρ ρ' h
            cases ds with
            | nil => cases h
            | cons d ds =>
              have h : (if i < ρ.length then setAll (ρ.set i (.fz d)) l ds else none) = some ρ' := h
              split at h
              · exact congrArg Nat.succ (ih ds _ _ h)
              · cases h
        exact this l ds ρ ρ' h
      exact ⟨_, _, rfl, q, by rw [rr.len]; exact hl, set_all l (fun _ h => h) h rr en k⟩
theorem En.wipe (en : En P W H σ ρ) : ∀ (l : List Nat), En P W H (wipe σ l) (wipeR ρ l)
  | [] => en
  | v :: l => by
    have ih := En.wipe en l
    show En P W H ((L2.wipe σ l).set v none) ((wipeR ρ l).set v .un)
    have key : ∀ {j : Nat} {s : Slot}, ((wipeR ρ l).set v .un)[j]? = some s → s ≠ .un → j ≠ v ∧ (wipeR ρ l)[j]? = some s := fun {j s} h hs => by
      by_cases hj : v = j
      · subst hj
        have hl : v < (wipeR ρ l).length := by
          have := (List.getElem?_eq_some_iff.mp h).1
          simpa using this
        rw [List.getElem?_set_self hl] at h
        cases h
        exact absurd rfl hs
      · rw [List.getElem?_set_ne hj] at h
        exact ⟨fun z => hj z.symm, h⟩
    refine ⟨by rw [List.length_set, List.length_set]; exact ih.len, fun j e h => ?_, fun j e h => ?_, fun j j' d' e a h1 h2 h3 h4 => ?_⟩
    · obtain ⟨hj, h⟩ := key h (fun z => nomatch z)
      rw [List.getElem?_set_ne (Ne.symm hj)]
      exact ih.fz j e h
    · obtain ⟨hj, h⟩ := key h (fun z => nomatch z)
      rw [List.getElem?_set_ne (Ne.symm hj)]
      exact ih.ow j e h
    · obtain ⟨n1, h1⟩ := key h1 (fun z => nomatch z)
      obtain ⟨n2, h2⟩ := key h2 (fun z => nomatch z)
      rw [List.getElem?_set_ne (Ne.symm n1)] at h3
      rw [List.getElem?_set_ne (Ne.symm n2)] at h4
      exact ih.ne j j' d' e a h1 h2 h3 h4
end
end EV

set_option Elab.async false
set_option linter.all false
set_option maxRecDepth 100000
set_option maxHeartbeats 2000000
namespace EV
open PySem PySem.Spec PyProof.Rows L2
section
variable {P : Pl} {n : Nat} {cal : Cal} {mak : Mak} {G : Ga} {X : Cx} {W W' W'' : Wo} {H H' H'' : Hp} {μ μ' : Sto} {σ : L2.St} {ρ : Rho}
def tC' (P : Pl) (cal : Cal) (mak : Mak) (c : Eo) : TT := fun σ H Q => ∃ (W : Wo) (ρ : Rho) (μ : Sto) (b : Bool) (μ' : Sto), Wd P W H μ ∧ En P W H σ ρ ∧ evC P.T cal mak c ρ μ = some (b, μ') ∧ ∀ W' H', Ext W H W' H' → Wd P W' H' μ' → Q b H'
theorem g_cno : PTs X [] (tC' P cal mak .no) := ptsI pts_nil fun σ H Q ⟨W, ρ, μ, b, μ', w, en, ee, k⟩ => by
  unfold evC at ee
  cases ee
  exact k W H .refl w
theorem g_cso {e : Expr} {c : E} (h : PT X e (tT P cal mak c)) : PTs X [e] (tC' P cal mak (.so c)) := ptsI (pts_one h) fun σ H Q ⟨W, ρ, μ, b, μ', w, en, ee, k⟩ => by
  unfold evC at ee
  obtain ⟨⟨x, y⟩, e1, ee⟩ := bind_some' ee
  split at ee
  · rename_i b' hx
    simp only at hx ee
    subst hx
    cases ee
    exact ⟨W, ρ, μ, _, _, w, en, e1, k⟩
  · cases ee
theorem Ext.updNew {a : Addr} {o : HO} (x : Ext W H W' H') (ha : H a = none) : Ext W H W' (upd H' a o) :=
  ⟨x.fz, x.fresh, fun b u h hb => by rw [upd_ne (ne_of_none h ha)]; exact x.old b u h hb, x.pre, x.newc⟩
theorem Own.write {a : Addr} {d e : D} {o : HO} (w : Wd P W H μ) (own : Own P W H a d) (c : Cell P W (upd H a o) a e) : Wd P W (upd H a o) μ ∧ Own P W (upd H a o) a e ∧ Keep W H W (upd H a o) := by
  have k : Keep W H W (upd H a o) := ⟨fun _ h => h, fun b u f h => by rw [upd_ne (show b ≠ a from fun z => own.nf (z ▸ f))]; exact h, [], by simp⟩
  refine ⟨⟨w.len, w.nd, w.nf, fun b h => ?_, fun m b e h1 h2 => ?_⟩, ⟨c, own.nf, own.nc⟩, k⟩
  · rw [upd_ne (show b ≠ a from fun z => own.nf (z ▸ h))]; exact w.tr b h
  · have hb : b ≠ a := fun z => own.nc (z ▸ List.mem_of_getElem? h1)
    exact (w.cell m b e h1 h2).keep k fun u h => by rw [upd_ne hb]; exact h
theorem lcL_len {g : Gd} {f : D → Sto → Option (Option D × Sto)} : ∀ {xs : List D} {μ : Sto} {q : List D × Sto}, lcL g f xs μ = some q → q.1.length ≤ xs.length
  | [], μ, q, h => by
    unfold lcL at h
    split at h
    · cases h; exact Nat.le_refl _
    · cases h
  | x :: xs, μ, q, h => by
    unfold lcL at h
    split at h
    · obtain ⟨r, _, h⟩ := bind_some' h
      obtain ⟨q', h2, h⟩ := bind_some' h
      have ih := lcL_len h2
      cases h
      cases r.1 with
      | none => exact Nat.le_succ_of_le ih
      | some y => exact Nat.succ_le_succ ih
    · cases h
theorem wipe_none {σ : L2.St} : ∀ {l : List Nat} {i : Nat}, i ∈ l → (wipe σ l).set i none = wipe σ l
  | v :: l, i, h => by
    show ((wipe σ l).set v none).set i none = (wipe σ l).set v none
    by_cases e : i = v
    · subst e; rw [List.set_set]
    · have hi : i ∈ l := by
        rcases List.mem_cons.mp h with q | q
        · exact absurd q e
        · exact q
      rw [List.set_comm _ _ (Ne.symm e), wipe_none hi]
theorem wipe_wipe {σ : L2.St} : ∀ (l : List Nat), wipe (wipe σ l) l = wipe σ l := by
  have key : ∀ (m l : List Nat), (∀ i ∈ m, i ∈ l) → wipe (wipe σ l) m = wipe σ l := by
    intro m
    induction m with
    | nil => intro l _; rfl
    | cons v m ih =>
      intro l h
      show (wipe (wipe σ l) m).set v none = _
      rw [ih l fun i hi => h i (List.mem_cons_of_mem _ hi)]
      exact wipe_none (h v List.mem_cons_self)
  exact fun l => key l l fun _ h => h
/-- the turns of a comprehension -/
theorem g_lc {elt t iter : Expr} {ifs : List Expr} {scope : Scope} {pos : Pos} {el : E} {tg : Tg} {it : It} {c : Eo} (g : GX P n cal mak G X) (hp : plnB iter = true) (hi : PI X t iter (tI P cal mak it)) (ok : BlkOk X.N X.env.scope scope (ownOf G.N tg.slots)) (hsl : (ownOf G.N tg.slots).map (·.2) = tg.slots)
    (hb : ∀ (s : Shared) (H : Hp) (C : Addr) (cl : List (Str × Addr)) (fp : List Addr), PG (X.blk s H scope (compEnvC scope cl C X.env) fp) t (gTg P.K tg) ∧ PTs (X.blk s H scope (compEnvC scope cl C X.env) fp) ifs (tC' P cal mak c) ∧ PE (X.blk s H scope (compEnvC scope cl C X.env) fp) elt (tE P cal mak el)) :
    PE X (.ListComp elt [⟨t, iter, ifs, 0⟩] scope pos) (tO P cal mak (.lc el tg it c)) ∧
    ∀ (σ : L2.St) (H : Hp) (Q : VK), tO P cal mak (.lc el tg it c) σ H Q → tLc (tI P cal mak it) (gTg P.K tg) (tC' P cal mak c) (tE P cal mak el) ((ownOf G.N tg.slots).map (·.2)) σ H Q := by
  have rd : ∀ (σ : L2.St) (H : Hp) (Q : VK), tO P cal mak (.lc el tg it c) σ H Q → tLc (tI P cal mak it) (gTg P.K tg) (tC' P cal mak c) (tE P cal mak el) ((ownOf G.N tg.slots).map (·.2)) σ H Q := fun σ H Q ⟨W, ρ, μ, d, μ', w, en, ee, k⟩ => by
    rw [hsl]
    unfold evO at ee
    obtain ⟨⟨⟨xs, gd⟩, μ1⟩, e1, ee⟩ := bind_some' ee
    obtain ⟨⟨zs, μ2⟩, e2, ee⟩ := bind_some' ee
    cases ee
    simp only at e2
    refine ⟨W, ρ, μ, xs, gd, μ1, w, en, e1, fun W1 H1 J oa x1 w1 ho hoa wk hlim A0 hD => ?_⟩
    generalize hf : (fun (d : D) (μ : Sto) => (bindTg tg d (wipeR ρ tg.slots)).bind fun ρ' => (evC P.T cal mak c ρ' μ).bind fun b => if b.1 = true then (ev P.T cal mak el ρ' b.2).bind fun y => some (some y.1, y.2) else some (none, b.2)) = f at e2
    have hDn := w1.notp hD
    have en1 := en.ext x1 w
    refine ⟨fun i m H2 => m = xs.length - i ∧ ∃ (W2 : Wo) (μi : Sto) (vs : List V) (ys : List D) (q : List D × Sto), Ext W1 H1 W2 H2 ∧ Wd P W2 H2 μi ∧ H2 A0 = some (.lst vs) ∧ Own P W2 H2 A0 (.lst ys) ∧ RepL P W2 H2 vs ys ∧ i ≤ xs.length ∧ ys.length ≤ i ∧
      lcL gd f (xs.drop i) μi = some q ∧ ys ++ q.1 = zs ∧ q.2 = μ2, ⟨xs.length, by simp, ?_⟩, ?_⟩
    · obtain ⟨xa, wa⟩ := addO (o := .lst []) w1 hD
      exact ⟨W1, μ1, [], [], (zs, μ2), xa, wa, upd_same, ⟨.lst upd_same (Nat.zero_le _) .nil, hDn.1, hDn.2⟩, .nil, Nat.zero_le _, Nat.zero_le _, by simpa using e2, rfl, rfl⟩
    · rintro i m H2 ⟨rfl, W2, μi, vs, ys, q, x2, w2, hv, ow, rl, hi1, hi2, hq, hz, hm⟩
      have kp : Keep W1 H1 W2 H2 := x2.keep w1
      have oo : ∀ a ∈ oa, ∀ o, H1 a = some o → H2 a = some o := fun a ha o h => x2.old a o h (hoa a ha)
      by_cases hlt : i < xs.length
      · right
        rw [List.drop_eq_getElem_cons hlt] at hq
        unfold lcL at hq
        split at hq
        · rename_i st
          obtain ⟨go, yl⟩ := (wk i W2 H2 μi kp oo w2 st).1 hlt
          obtain ⟨r, hr, hq⟩ := bind_some' hq
          obtain ⟨q', hq', hq⟩ := bind_some' hq
          rw [← hf] at hr
          obtain ⟨ρ', hb1, hr⟩ := bind_some' hr
          obtain ⟨b, hb2, hr⟩ := bind_some' hr
          refine ⟨go, fun H3 => ∃ W3 μ3 vs' ys', Ext W1 H1 W3 H3 ∧ Wd P W3 H3 μ3 ∧ H3 A0 = some (.lst vs') ∧ Own P W3 H3 A0 (.lst ys') ∧ RepL P W3 H3 vs' ys' ∧ ys'.length ≤ i + 1 ∧ ∃ q, lcL gd f (xs.drop (i + 1)) μ3 = some q ∧ ys' ++ q.1 = zs ∧ q.2 = μ2, fun H3 ⟨W3, μ3, vs', ys', y1, y2, y3, y4, y5, y6, q3, y7, y8, y9⟩ => ?_, fun x H3 hy => ?_⟩
          · exact ⟨xs.length - (i + 1), by omega, rfl, W3, μ3, vs', ys', q3, y1, y2, y3, y4, y5, hlt, y6, y7, y8, y9⟩
          · obtain ⟨W3, d, x3, w3, hd, rx⟩ := yl x H3 hy
            rw [List.getElem?_eq_getElem hlt] at hd
            cases hd
            have x13 := x2.trans x3 w1 w2
            have enb := (en1.ext x13 w1).wipe tg.slots
            refine bind_ok hb1 rx enb fun σ2 en2 he _ => ⟨by rw [he, wipe_wipe], ?_⟩
            refine ⟨W3, ρ', μi, b.1, b.2, w3, en2, hb2, fun W4 H4 x4 w4 => ?_⟩
            have x14 := x13.trans x4 w1 w3
            refine ite2 (fun hbt => ?_) (fun hbt => ?_)
            · rw [if_pos hbt] at hr
              obtain ⟨y, hy1, hr⟩ := bind_some' hr
              cases hr
              refine ⟨W4, ρ', b.2, y.1, y.2, w4, en2.ext x4 w3, hy1, fun v W5 H5 x5 w5 rv => ?_⟩
              have x25 := (x3.trans x4 w2 w3).trans x5 w2 w4
              have x15 := x14.trans x5 w1 w4
              have hv5 : H5 A0 = some (.lst vs) := x25.old A0 _ hv ow.nc
              have ow5 := ow.ext x25 w2
              have rl5 := rl.ext x25 w2
              have hl := rl.len
              refine ⟨vs, hv5, ?_, ?_⟩
              · rw [← lim_eq]; omega
              · have kpw : Keep W5 H5 W5 (upd H5 A0 (.lst (vs ++ [v]))) := ⟨fun _ h => h, fun b u ff h => by rw [upd_ne (show b ≠ A0 from fun z => ow5.nf (z ▸ ff))]; exact h, [], by simp⟩
                have rl6 := (rl5.append (.cons rv .nil)).keep kpw
                obtain ⟨w6, ow6, _⟩ := ow5.write (o := .lst (vs ++ [v])) w5 (e := .lst (ys ++ [y.1])) (.lst upd_same (by rw [List.length_append]; show _ + 1 ≤ LIM; omega) rl6)
                refine ⟨W5, y.2, vs ++ [v], ys ++ [y.1], x15.updNew hD, w6, upd_same, ow6, rl6, by rw [List.length_append]; exact Nat.succ_le_succ hi2, q', ?_⟩
                cases hq
                exact ⟨hq', by rw [← hz]; simp, hm⟩
            · rw [if_neg hbt] at hr
              cases hr
              have x24 := x3.trans x4 w2 w3
              cases hq
              exact ⟨W4, b.2, vs, ys, x14, w4, x24.old A0 _ hv ow.nc, ow.ext x24 w2, rl.ext x24 w2, by omega, q', hq', hz, hm⟩
        · cases hq
      · left
        have e : i = xs.length := by omega
        subst e
        rw [List.drop_length] at hq
        unfold lcL at hq
        split at hq
        · rename_i st
          cases hq
          refine ⟨(wk _ W2 H2 μi kp oo w2 st).2 (Nat.le_refl _), ?_⟩
          have hz : ys = zs := by simpa using hz
          subst hz
          have hm : μi = μ2 := hm
          subst hm
          exact k A0 W2 H2 (x1.trans x2 w w1) w2 ow (x1.free w1 hD)
        · cases hq
  exact ⟨peI (pe_lc g.calm (by rw [g.N]; exact g.nd) hi ok (fun s H C cl fp => (hb s H C cl fp).1) (fun s H C cl fp => (hb s H C cl fp).2.1) (fun s H C cl fp => (hb s H C cl fp).2.2) (plain_fold hp)) rd, rd⟩
end
end EV

set_option Elab.async false
set_option linter.all false
set_option maxRecDepth 100000
set_option maxHeartbeats 2000000
namespace EV
open PySem PySem.Spec PyProof.Rows L2
section
variable {P : Pl} {n : Nat} {cal : Cal} {mak : Mak} {G : Ga} {X : Cx}
theorem g_cat (g : GX P n cal mak G X) {a b : Expr} {ca cb : R} {pos : Pos} (ha : PE X a (tR P cal mak ca)) (hb : PE X b (tR P cal mak cb)) : PE X (.BinOp a .Add b pos) (tO P cal mak (.cat ca cb)) := by
  refine peI (pe_op (op_catL g.K) ha hb) fun σ H Q ⟨W, ρ, μ, d, μ', w, en, ee, k⟩ => ?_
  unfold evO at ee
  obtain ⟨x, e1, ee⟩ := bind_some' ee
  obtain ⟨y, e2, ee⟩ := bind_some' ee
  obtain ⟨x', e3, ee⟩ := bind_some' ee
  obtain ⟨y', e4, ee⟩ := bind_some' ee
  obtain ⟨xs, e5, ee⟩ := bind_some' ee
  obtain ⟨zs, e6, ee⟩ := bind_some' ee
  split at ee
  · rename_i hl
    cases ee
    exact ⟨W, ρ, μ, x.1, x.2, w, en, e1, fun v1 W1 H1 x1 w1 r1 _ => ⟨W1, ρ, x.2, y.1, y.2, w1, en.ext x1 w, e2, fun v2 W2 H2 x2 w2 r2 _ =>
      ⟨W2, y.2, x.1, y.1, xs, zs, w2, r1.ext x2 w1, r2, by rw [e3]; exact e5, by rw [e4]; exact e6, hl, fun a W' H' x' w' o' hn => k a W' H' ((x1.trans x2 w w1).trans x' w w2) w' o' ((x1.trans x2 w w1).free w2 hn)⟩⟩⟩
  · cases ee
def tX (P : Pl) (cal : Cal) (mak : Mak) (c : Eo) : TO := fun σ H Q => ∃ (W : Wo) (ρ : Rho) (μ : Sto) (o : Option Int) (μ' : Sto), Wd P W H μ ∧ En P W H σ ρ ∧ evX P.T cal mak c ρ μ = some (o, μ') ∧ ∀ W' H', Ext W H W' H' → Wd P W' H' μ' → Q o H'
theorem poI {X : Cx} {e : Option Expr} {t t' : TO} (h : PO X e t) (k : ∀ σ H Q, t' σ H Q → t σ H Q) : PO X e t' := ⟨fun pins s σ H Q I q => h.run pins s σ H Q I (k σ H Q q)⟩
theorem g_xno : PO X none (tX P cal mak .no) := poI po_none fun σ H Q ⟨W, ρ, μ, o, μ', w, en, ee, k⟩ => by
  unfold evX at ee
  cases ee
  exact k _ _ .refl w
theorem g_xso {e : Expr} {c : E} (h : PE X e (tE P cal mak c)) : PO X (some e) (tX P cal mak (.so c)) := poI (po_some h) fun σ H Q ⟨W, ρ, μ, o, μ', w, en, ee, k⟩ => by
  unfold evX at ee
  obtain ⟨x, e1, ee⟩ := bind_some' ee
  split at ee
  · rename_i i hx
    cases ee
    refine ⟨W, ρ, μ, x.1, x.2, w, en, e1, fun v W1 H1 x1 w1 r1 => ?_⟩
    rw [hx] at r1
    cases r1
    exact ⟨i, rfl, k _ _ x1 w1⟩
  · cases ee
theorem RepL.drop {W : Wo} {H : Hp} : ∀ (n : Nat) {vs : List V} {ds : List D}, RepL P W H vs ds → RepL P W H (vs.drop n) (ds.drop n)
  | 0, _, _, h => h
  | _ + 1, _, _, .nil => .nil
  | n + 1, _, _, .cons _ t => RepL.drop n t
theorem RepL.take {W : Wo} {H : Hp} : ∀ (n : Nat) {vs : List V} {ds : List D}, RepL P W H vs ds → RepL P W H (vs.take n) (ds.take n)
  | 0, _, _, h => .nil
  | _ + 1, _, _, .nil => .nil
  | n + 1, _, _, .cons r t => .cons r (RepL.take n t)
theorem RepL.rev {W : Wo} {H : Hp} : ∀ {vs : List V} {ds : List D}, RepL P W H vs ds → RepL P W H vs.reverse ds.reverse
  | _, _, .nil => .nil
  | _, _, .cons r t => by
    rw [List.reverse_cons, List.reverse_cons]
    exact (RepL.rev t).append (.cons r .nil)
theorem new_lst {W W1 : Wo} {H H1 : Hp} {μ μ1 : Sto} {vs : List V} {ds : List D} {Q : VK} (w : Wd P W H μ) (x : Ext W H W1 H1) (w1 : Wd P W1 H1 μ1) (r : RepL P W1 H1 vs ds) (z : vs.length ≤ LIM) (k : PostO P W H (.lst ds) μ1 Q) : ∀ p, H1 p = none → Q (.ref p) (upd H1 p (.lst vs)) := fun p hp => by
  obtain ⟨x2, w2⟩ := addO (o := .lst vs) w1 hp
  obtain ⟨nF, nι⟩ := w1.notp hp
  exact k p _ _ (x.tr x2 w1) w2 ⟨.lst upd_same z (r.ext x2 w1), nF, nι⟩ (x.free w1 hp)
theorem g_slc (g : GX P n cal mak G X) {e : Expr} {a : R} {lo hi : Eo} {l h : Option Expr} {p2 pos : Pos} (he : PE X e (tR P cal mak a)) (hl : PO X l (tX P cal mak lo)) (hh : PO X h (tX P cal mak hi)) : PE X (.Subscript e (.Slice l h none p2) pos) (tO P cal mak (.slc a lo hi)) := by
  refine peI (pe_slice sl_list he hl hh) fun σ H Q ⟨W, ρ, μ, d, μ', w, en, ee, k⟩ => ?_
  unfold evO at ee
  obtain ⟨x, e1, ee⟩ := bind_some' ee
  obtain ⟨y, e2, ee⟩ := bind_some' ee
  obtain ⟨z, e3, ee⟩ := bind_some' ee
  obtain ⟨d', e4, ee⟩ := bind_some' ee
  obtain ⟨xs, e5, ee⟩ := bind_some' ee
  cases ee
  refine ⟨W, ρ, μ, x.1, x.2, w, en, e1, fun v W1 H1 x1 w1 r1 _ => ⟨W1, ρ, x.2, y.1, y.2, w1, en.ext x1 w, e2, fun W2 H2 x2 w2 => ⟨W2, ρ, y.2, z.1, z.2, w2, (en.ext x1 w).ext x2 w1, e3, fun W3 H3 x3 w3 => ?_⟩⟩⟩
  obtain ⟨b, vs, rfl, q1, l1, z1⟩ := ((r1.ext x2 w1).ext x3 w2).lst w3 (show (x.1.top z.2).bind asLst = some xs by rw [e4]; exact e5)
  have hlen := l1.len
  refine ⟨b, vs, rfl, g.K ▸ q1, new_lst w ((x1.tr x2 w1).tr x3 w2) w3 ?_ (Nat.le_trans (cutV_length vs y.1 z.1) z1) k⟩
  unfold cutV cutD
  rw [hlen]
  exact (l1.drop _).take _
theorem g_lst1 (g : GX P n cal mak G X) {x : Str} {y : Expr} {a : R} {p pos : Pos} (hx : x = "list") (gl : Gl X x) (hs : starB y = true) (hy : PE X y (tR P cal mak a)) : PE X (.Call (.Name x p) [y] [] pos) (tO P cal mak (.lst1 a)) := by
  subst hx
  refine peI (pe_callTy (T := "list") call_list_of gl (g.fr _ (by decide +kernel)) (by decide +kernel) (pa_cons hy pa_nil (star_cons hs)) (by decide +kernel) (by decide +kernel) (star_cons hs) rfl) fun σ H Q ⟨W, ρ, μ, d, μ', w, en, ee, k⟩ => ?_
  unfold evO at ee
  obtain ⟨x, e1, ee⟩ := bind_some' ee
  obtain ⟨d', e4, ee⟩ := bind_some' ee
  obtain ⟨xs, e5, ee⟩ := bind_some' ee
  cases ee
  refine ⟨W, ρ, μ, x.1, x.2, w, en, e1, fun v W1 H1 x1 w1 r1 _ => ?_⟩
  obtain ⟨b, vs, rfl, q1, l1, z1⟩ := r1.seq w1 (show (x.1.top x.2).bind asSeq = some xs by rw [e4]; exact e5)
  exact ⟨b, vs, rfl, g.K ▸ q1, new_lst w x1 w1 l1 z1 k⟩
theorem g_rev (g : GX P n cal mak G X) {e : Expr} {a : R} {k : Nat} {p1 p2 p3 pos : Pos} (he : PE X e (tR P cal mak a)) : PE X (.Subscript e (.Slice none none (some (.UnaryOp .USub (.Constant (.int 1) k p1) p2)) p3) pos) (tO P cal mak (.rev a)) := by
  refine peI (pe_revL he) fun σ H Q ⟨W, ρ, μ, d, μ', w, en, ee, k⟩ => ?_
  unfold evO at ee
  obtain ⟨x, e1, ee⟩ := bind_some' ee
  obtain ⟨d', e4, ee⟩ := bind_some' ee
  obtain ⟨xs, e5, ee⟩ := bind_some' ee
  cases ee
  refine ⟨W, ρ, μ, x.1, x.2, w, en, e1, fun v W1 H1 x1 w1 r1 _ => ?_⟩
  obtain ⟨b, vs, rfl, q1, l1, z1⟩ := r1.lst w1 (show (x.1.top x.2).bind asLst = some xs by rw [e4]; exact e5)
  exact ⟨b, vs, rfl, g.K ▸ q1, new_lst w x1 w1 l1.rev (by rw [List.length_reverse]; exact z1) k⟩
theorem RepL.strs {W : Wo} {H : Hp} : ∀ {vs : List V} {ds : List D} {ys : List Str}, RepL P W H vs ds → asStrs ds = some ys → vs = ys.map V.str
  | _, _, _, .nil, h => by cases h; rfl
  | _, _, _, .cons (d := d) r t, h => by
    cases d <;> first | (cases h; done) | skip
    obtain ⟨l, e1, e2⟩ := bind_some' (show (asStrs _).bind _ = some _ from h)
    cases e2
    cases r
    rw [RepL.strs t e1]
    rfl
theorem g_join (g : GX P n cal mak G X) {so y : Expr} {s : E} {a : R} {nm : Str} {ap cp : Pos} (hnm : nm = "join") (hp : plnB so = true) (hs : starB y = true) (hl : (ap.endLine == cp.line) = true) (h1 : PE X so (tE P cal mak s)) (h2 : PE X y (tR P cal mak a)) :
    PE X (.Call (.Attribute so nm ap) [y] [] cp) (tE P cal mak (.join s a)) := by
  subst hnm
  refine peI (pe_join h1 h2 (star_cons hs) (plain_attr hp) hl) fun σ H Q ⟨W, ρ, μ, d, μ', w, en, ee, k⟩ => ?_
  unfold ev at ee
  obtain ⟨x, e1, ee⟩ := bind_some' ee
  obtain ⟨z, e2, ee⟩ := bind_some' ee
  obtain ⟨d', e3, ee⟩ := bind_some' ee
  obtain ⟨xs, e4, ee⟩ := bind_some' ee
  obtain ⟨ys, e5, ee⟩ := bind_some' ee
  split at ee
  · rename_i sp hsp
    split at ee
    · rename_i hc
      cases ee
      refine ⟨W, ρ, μ, x.1, x.2, w, en, e1, fun v W1 H1 x1 w1 r1 => ?_⟩
      rw [hsp] at r1
      cases r1 with
      | str _ hv =>
        refine ⟨⟨_, rfl⟩, W1, ρ, x.2, z.1, z.2, w1, en.ext x1 w, e2, fun u W2 H2 x2 w2 r2 _ => ?_⟩
        obtain ⟨b, vs, rfl, q1, l1, z1⟩ := r2.seq w2 (show (z.1.top z.2).bind asSeq = some xs by rw [e3]; exact e4)
        have es := l1.strs e5
        subst es
        exact ⟨_, _, ys, rfl, rfl, g.K ▸ q1, hc.1, k _ _ _ (x1.trans x2 w w1) w2 (.str _ hc.2)⟩
    · cases ee
  · cases ee
theorem g_str1 (g : GX P n cal mak G X) {x : Str} {y : Expr} {a : E} {p pos : Pos} (hx : x = "str") (gl : Gl X x) (hs : starB y = true) (hy : PE X y (tE P cal mak a)) : PE X (.Call (.Name x p) [y] [] pos) (tE P cal mak (.str1 a)) := by
  subst hx
  have cr : CallR X (.type "str") (fun xs H Q => (∃ i, xs = [.int i] ∧ i.natAbs.log2 < 1920 ∧ Q (.str (toString i)) H) ∨ ∃ a, xs = [.str a] ∧ Q (.str a) H) := by
    intro pins s σ H xs us Q I r h
    rcases h with h | h
    · exact call_str_int pins s σ H xs us Q I r h
    · exact SkE.call_str_str pins s σ H xs us Q I r h
  refine peI (pe_callTy (T := "str") cr gl (g.fr _ (by decide +kernel)) (by decide +kernel) (pa_cons hy pa_nil (star_cons hs)) (by decide +kernel) (by decide +kernel) (star_cons hs) rfl) fun σ H Q ⟨W, ρ, μ, d, μ', w, en, ee, k⟩ => ?_
  unfold ev at ee
  obtain ⟨x, e1, ee⟩ := bind_some' ee
  refine ⟨W, ρ, μ, x.1, x.2, w, en, e1, fun v W1 H1 x1 w1 r1 => ?_⟩
  split at ee
  · rename_i i hx
    split at ee
    · rename_i hc
      cases ee
      rw [hx] at r1
      cases r1
      exact .inl ⟨i, rfl, hc.1, k _ _ _ x1 w1 (.str _ hc.2)⟩
    · cases ee
  · rename_i s hx
    cases ee
    rw [hx] at r1
    cases r1 with
    | str _ hv => exact .inr ⟨s, rfl, k _ _ _ x1 w1 (.str _ hv)⟩
  · cases ee
theorem g_tupl (g : GX P n cal mak G X) {x : Str} {y : Expr} {a : R} {p pos : Pos} (hx : x = "tuple") (gl : Gl X x) (hs : starB y = true) (hy : PE X y (tR P cal mak a)) : PE X (.Call (.Name x p) [y] [] pos) (tE P cal mak (.tupl a)) := by
  subst hx
  refine peI (pe_callTy (T := "tuple") call_tuple_of gl (g.fr _ (by decide +kernel)) (by decide +kernel) (pa_cons hy pa_nil (star_cons hs)) (by decide +kernel) (by decide +kernel) (star_cons hs) rfl) fun σ H Q ⟨W, ρ, μ, d, μ', w, en, ee, k⟩ => ?_
  unfold ev at ee
  obtain ⟨x, e1, ee⟩ := bind_some' ee
  obtain ⟨d', e4, ee⟩ := bind_some' ee
  obtain ⟨xs, e5, ee⟩ := bind_some' ee
  cases ee
  refine ⟨W, ρ, μ, x.1, x.2, w, en, e1, fun v W1 H1 x1 w1 r1 _ => ?_⟩
  have key : (∃ b vs, v = .ref b ∧ SqL P.K H1 b vs ∧ RepL P W1 H1 vs xs ∧ vs.length ≤ LIM) ∨ Rep P W1 H1 v (.tup xs) := by
    cases d' <;> first | (cases e5; done) | skip
    · exact .inl (r1.lst w1 (show (x.1.top x.2).bind asLst = some xs by rw [e4]; exact e5))
    · cases e5
      generalize x.1 = dx at e4 r1
      cases dx <;> first | (cases e4; done) | skip
      · cases e4
        rcases r1 with r1 | ⟨a', _, o⟩
        · exact .inr r1
        · cases o.c
      · rename_i m
        rcases r1 with r1 | ⟨a', _, o⟩
        · cases r1 with
          | cell hm => exact absurd (w1.cell m _ _ hm e4) fun c => by cases c
        · cases o.c
  rcases key with ⟨b, vs, rfl, q1, l1, z1⟩ | rt
  · exact ⟨b, vs, rfl, .inl ⟨g.K ▸ q1, fun p hp => by
      obtain ⟨x2, w2⟩ := addF (o := .tup vs) w1 hp
      exact k _ _ _ (x1.trans x2 w w1) w2 (.tup (.inl (.inl upd_same)) (.inl (.inr rfl)) z1 (l1.ext x2 w1))⟩⟩
  · cases rt with
    | tup q f z rr => exact ⟨_, _, rfl, .inr ⟨g.K ▸ q, k _ _ _ x1 w1 (.tup q f z rr)⟩⟩
theorem RepL.ofStrs {W : Wo} {H : Hp} : ∀ {ys : List Str}, ys.all sok = true → RepL P W H (ys.map V.str) (ys.map D.str)
  | [], _ => .nil
  | y :: ys, h => by
    rw [List.all_cons] at h
    exact .cons (.str _ (ba h).1) (RepL.ofStrs (ba h).2)
theorem g_split (g : GX P n cal mak G X) {so y : Expr} {s t : E} {nm : Str} {ap cp : Pos} (hnm : nm = "split") (hp : plnB so = true) (hs : starB y = true) (hl : (ap.endLine == cp.line) = true) (h1 : PE X so (tE P cal mak s)) (h2 : PE X y (tE P cal mak t)) :
    PE X (.Call (.Attribute so nm ap) [y] [] cp) (tO P cal mak (.split s t)) := by
  subst hnm
  refine peI (pe_split h1 h2 (star_cons hs) (plain_attr hp) hl) fun σ H Q ⟨W, ρ, μ, d, μ', w, en, ee, k⟩ => ?_
  unfold evO at ee
  obtain ⟨x, e1, ee⟩ := bind_some' ee
  obtain ⟨y, e2, ee⟩ := bind_some' ee
  split at ee
  · rename_i a b ha hb
    split at ee
    · rename_i hc
      cases ee
      refine ⟨W, ρ, μ, x.1, x.2, w, en, e1, fun v W1 H1 x1 w1 r1 => ?_⟩
      rw [ha] at r1
      cases r1 with
      | str _ hv =>
        refine ⟨⟨_, rfl⟩, W1, ρ, x.2, y.1, y.2, w1, en.ext x1 w, e2, fun u W2 H2 x2 w2 r2 => ?_⟩
        rw [hb] at r2
        cases r2 with
        | str _ hv2 => exact ⟨a, b, rfl, rfl, hc.1, by rw [← lim_eq]; exact hc.2.1, new_lst w (x1.tr x2 w1) w2 (.ofStrs hc.2.2.1) (by rw [List.length_map]; exact hc.2.2.2) k⟩
    · cases ee
  · cases ee
/-- a list that is only read lasts -/
theorem persist (hK : X.K = P.K) {W1 : Wo} {H1 : Hp} {v : V} {dx d : D} {μ1 : Sto} {xs : List D} (w1 : Wd P W1 H1 μ1) (r : Rep P W1 H1 v dx) (e2 : dx.top μ1 = some d) (e3 : asLst d = some xs) :
    ∃ a vs, v = .ref a ∧ SqL X.K H1 a vs ∧ xs.length ≤ LIM ∧ ∀ (W2 : Wo) (H2 : Hp) (μ2 : Sto), Keep W1 H1 W2 H2 → Wd P W2 H2 μ2 → stay (seqGd dx μ1) μ2 = true → ∃ ws, SqL X.K H2 a ws ∧ RepL P W2 H2 ws xs := by
  obtain ⟨a, vs, rfl, q1, l1, z1⟩ := RRep.lst w1 (.inl r) (show (dx.top μ1).bind asLst = some xs by rw [e2]; exact e3)
  refine ⟨a, vs, rfl, hK ▸ q1, by rw [← l1.len]; exact z1, fun W2 H2 μ2 kp w2 st => ?_⟩
  cases dx with
  | cell m =>
    cases r with
    | cell hm =>
      have e2' : μ1[m]? = some d := e2
      have sg : seqGd (.cell m) μ1 = some (m, d) := by
        show (μ1[m]?).map (fun d => (m, d)) = _
        rw [e2']; rfl
      rw [sg] at st
      have st := stay_eq st
      obtain ⟨l, el⟩ := kp.pre
      have hm2 : W2.ι[m]? = some a := by
        rw [el, List.getElem?_append_left (List.getElem?_eq_some_iff.mp hm).1]
        exact hm
      cases w2.cell m a d hm2 st with
      | lst hh z rr =>
        cases e3
        exact ⟨_, .of hh, rr⟩
      | obj => cases e3
  | lst zs =>
    cases e2
    cases e3
    cases r with
    | lst q f z rr =>
      refine ⟨_, ?_, rr.keep kp⟩
      rcases f with f | f
      · exact hK ▸ SqL_rd q fun o hh => kp.rd _ o f hh
      · exact hK ▸ f H2
  | _ => cases e2; cases e3
theorem g_ienum (g : GX P n cal mak G X) {elts : List Expr} {kk : Nat} {tp : Pos} {x : Str} {y : Expr} {a : E} {p pos : Pos} (hx : x = "enumerate") (gl : Gl X x) (hs : starB y = true) (hy : PE X y (tE P cal mak a)) :
    PI X (.Tuple elts kk tp) (.Call (.Name x p) [y] [] pos) (tI P cal mak (.enum a)) := by
  subst hx
  refine piI (pi_enum gl (g.fr _ (by decide +kernel)) (pa_cons hy pa_nil (star_cons hs)) (star_cons hs)) fun σ H Rr ⟨W, ρ, μ, xs, gd, μ', w, en, ee, k⟩ => ?_
  unfold evI at ee
  obtain ⟨x, e1, ee⟩ := bind_some' ee
  obtain ⟨d, e2, ee⟩ := bind_some' ee
  obtain ⟨ys, e3, ee⟩ := bind_some' ee
  cases ee
  refine ⟨W, ρ, μ, x.1, x.2, w, en, e1, fun v W1 H1 x1 w1 r1 => ?_⟩
  obtain ⟨b, vs, rfl, q, hz, ps⟩ := persist (X := X) g.K w1 r1 e2 e3
  refine ⟨b, vs, rfl, q, k W1 H1 _ [] x1 w1 (fun _ => rfl) (fun _ h => nomatch h) (fun i W2 H2 μ2 kp _ w2 st => ?_) (by rw [List.length_map, List.length_zipIdx]; exact hz)⟩
  obtain ⟨ws, q2, r2⟩ := ps W2 H2 μ2 kp w2 st
  have hlen := r2.len
  rw [List.length_map, List.length_zipIdx]
  refine ⟨fun hi => ⟨⟨ws, ws[i]'(by omega), q2, List.getElem?_eq_getElem (by omega)⟩, fun u H3 hy => ?_⟩, fun hi => ⟨ws, q2, by omega⟩⟩
  obtain ⟨Tt, z, rfl, hT, rfl, hall⟩ := hy
  have hz := hall ws q2
  obtain ⟨d', hd'⟩ : ∃ d', ys[i]? = some d' := ⟨_, List.getElem?_eq_getElem hi⟩
  obtain ⟨v', hv', rv'⟩ := r2.get hd'
  rw [hz] at hv'
  cases hv'
  obtain ⟨x3, w3⟩ := addF (o := .tup [.int (i : Nat), z]) w2 hT
  refine ⟨_, .tup [.int (i : Nat), d'], x3, w3, ?_, .tup (.inl (.inl upd_same)) (.inl (.inr rfl)) (show 2 ≤ LIM by decide) (.cons (.int _) (.cons (rv'.ext x3 w2) .nil))⟩
  rw [List.getElem?_map, List.getElem?_zipIdx, hd']
  simp
theorem g_izip (g : GX P n cal mak G X) {elts : List Expr} {kk : Nat} {tp : Pos} {x : Str} {y z : Expr} {a b : E} {p pos : Pos} (hx : x = "zip") (gl : Gl X x) (hs : starB y = true) (hs2 : starB z = true) (hy : PE X y (tE P cal mak a)) (hz : PE X z (tE P cal mak b)) :
    PI X (.Tuple elts kk tp) (.Call (.Name x p) [y, z] [] pos) (tI P cal mak (.zip a b)) := by
  subst hx
  have pl : (backTo pos (starEach [z] X.env)).any (·.1) = false := by rw [star_cons hs2]; rfl
  refine piI (pi_zip gl (g.fr _ (by decide +kernel)) (pa_cons hy (pa_cons hz pa_nil (star_cons hs2)) (star_cons hs)) (star_cons hs) pl) fun σ H Rr ⟨W, ρ, μ, xs, gd, μ', w, en, ee, k⟩ => ?_
  unfold evI at ee
  obtain ⟨x, e1, ee⟩ := bind_some' ee
  obtain ⟨y, e4, ee⟩ := bind_some' ee
  obtain ⟨d, e2, ee⟩ := bind_some' ee
  obtain ⟨ys, e3, ee⟩ := bind_some' ee
  split at ee
  · rename_i zs hzs
    cases ee
    refine ⟨W, ρ, μ, x.1, x.2, w, en, e1, fun v W1 H1 x1 w1 r1 => ⟨W1, ρ, x.2, y.1, y.2, w1, en.ext x1 w, e4, fun v2 W2 H2 x2 w2 r2 => ?_⟩⟩
    obtain ⟨b, vs, rfl, q, hz, ps⟩ := persist (X := X) g.K w2 (r1.ext x2 w1) e2 e3
    rw [hzs] at r2
    obtain ⟨c, us, rfl, q', hz', ps'⟩ := persist (X := X) (dx := .lst zs) (μ1 := y.2) g.K w2 r2 rfl rfl
    refine ⟨b, c, vs, us, rfl, q, q', k W2 H2 _ [] (x1.tr x2 w1) w2 (fun _ => rfl) (fun _ h => nomatch h) (fun i W3 H3 μ3 kp _ w3 st => ?_) (by rw [List.length_map, List.length_zip]; omega)⟩
    obtain ⟨ws, q2, r3⟩ := ps W3 H3 μ3 kp w3 st
    obtain ⟨ws', q2', r3'⟩ := ps' W3 H3 μ3 kp w3 (by show stay (seqGd (.lst zs) y.2) μ3 = true; rfl)
    have hlen := r3.len
    have hlen' := r3'.len
    rw [List.length_map, List.length_zip]
    refine ⟨fun hi => ⟨⟨ws, ws', ws[i]'(by omega), ws'[i]'(by omega), q2, q2', List.getElem?_eq_getElem (by omega), List.getElem?_eq_getElem (by omega)⟩, fun u H4 hy => ?_⟩, fun hi => ⟨ws, ws', q2, q2', by omega⟩⟩
    obtain ⟨Tt, z1, z2, rfl, hT, rfl, hall, hall'⟩ := hy
    have hz1 := hall ws q2
    have hz2 := hall' ws' q2'
    obtain ⟨d1, hd1⟩ : ∃ d', ys[i]? = some d' := ⟨_, List.getElem?_eq_getElem (by omega)⟩
    obtain ⟨d2, hd2⟩ : ∃ d', zs[i]? = some d' := ⟨_, List.getElem?_eq_getElem (by omega)⟩
    obtain ⟨v1, hv1, rv1⟩ := r3.get hd1
    obtain ⟨v2, hv2, rv2⟩ := r3'.get hd2
    rw [hz1] at hv1
    rw [hz2] at hv2
    cases hv1
    cases hv2
    obtain ⟨x4, w4⟩ := addF (o := .tup [z1, z2]) w3 hT
    refine ⟨_, .tup [d1, d2], x4, w4, ?_, .tup (.inl (.inl upd_same)) (.inl (.inr rfl)) (show 2 ≤ LIM by decide) (.cons (rv1.ext x4 w3) (.cons (rv2.ext x4 w3) .nil))⟩
    have hzip : (ys.zip zs)[i]? = some (d1, d2) := List.getElem?_zip_eq_some.mpr ⟨hd1, hd2⟩
    rw [List.getElem?_map, hzip]
    rfl
  · cases ee
theorem g_rep (g : GX P n cal mak G X) {i : Nat} {k : E} {x : Str} {r : Expr} {px pos : Pos} (h1 : G.N[i]? = some x) (h2 : visB G.sc x = true) (h3 : nmOk x = true) (hr : PE X r (tE P cal mak k)) : PE X (.BinOp (.Name x px) .Mult r pos) (tO P cal mak (.rep i k)) := by
  obtain ⟨d1, d2, _⟩ := nmOk_of h3
  refine peI (pe_op op_rep (pe_var (i := i) (by rw [g.N]; exact h1) (g.vis h2) d1 d2) hr) fun σ H Q ⟨W, ρ, μ, d, μ', w, en, ee, kk⟩ => ?_
  unfold evO at ee
  obtain ⟨y, e1, ee⟩ := bind_some' ee
  split at ee
  · rename_i xs kv hd hy
    split at ee
    · rename_i hc
      cases ee
      obtain ⟨a, ha, ow⟩ := en.ow i _ hd
      refine ⟨.ref a, ha, W, ρ, μ, y.1, y.2, w, en, e1, fun v W1 H1 x1 w1 r1 => ?_⟩
      rw [hy] at r1
      cases r1
      have ow1 := ow.ext x1 w
      cases ow1.c with
      | lst hh z rr =>
        rename_i vs
        have hlen := rr.len
        refine ⟨a, kv, vs, rfl, rfl, hh, hc.1, hc.2.1, by rw [← lim_eq, hlen]; exact hc.2.2, new_lst w x1 w1 ?_ ?_ kk⟩
        · have : ∀ m : Nat, RepL P W1 H1 (List.replicate m vs).flatten (List.replicate m xs).flatten := by
            intro m
            induction m with
            | zero => exact .nil
            | succ m ih =>
              rw [List.replicate_succ, List.replicate_succ, List.flatten_cons, List.flatten_cons]
              exact rr.append ih
          exact this _
        · have : ∀ m : Nat, (List.replicate m vs).flatten.length = vs.length * m := by
            intro m
            induction m with
            | zero => rfl
            | succ m ih => rw [List.replicate_succ, List.flatten_cons, List.length_append, ih, Nat.mul_succ]; omega
          rw [this, hlen]
          exact hc.2.2
    · cases ee
  · cases ee
theorem evs_len {T : Tab} : ∀ {es : Es} {ds : List D} {ρ : Rho} {μ μ' : Sto}, evs T cal mak es ρ μ = some (ds, μ') → ds.length = es.len
  | .nil, ds, ρ, μ, μ', h => by
    unfold evs at h
    cases h
    rfl
  | .cons e es, ds, ρ, μ, μ', h => by
    unfold evs at h
    obtain ⟨x, e1, h⟩ := bind_some' h
    obtain ⟨y, e2, h⟩ := bind_some' h
    have ih := evs_len (ds := y.1) (μ' := y.2) e2
    cases h
    exact congrArg Nat.succ ih
theorem chkEs_len : ∀ {es : Es} {xs : List Expr}, chkEs G es xs = true → es.len = xs.length
  | .nil, xs, h => by
    cases xs with
    | nil => rfl
    | cons _ _ => unfold chkEs at h; cases h
  | .cons e es, xs, h => by
    cases xs with
    | nil => unfold chkEs at h; cases h
    | cons x r =>
      unfold chkEs at h
      exact congrArg Nat.succ (chkEs_len (ba (ba h).2).2)
theorem chkEs_nil {es : Es} {xs : List Expr} (h : chkEs G es xs = true) (hx : xs = []) : es = .nil := by
  subst hx
  cases es with
  | nil => rfl
  | cons e es => unfold chkEs at h; cases h
theorem blk_gx (g : GX P n cal mak G X) {scope : Scope} (hk : (relS scope G.sc).kind = .function) (s : Shared) (H : Hp) (C : Addr) (cl : List (Str × Addr)) (fp : List Addr) : GX P n cal mak (blkG G scope) (X.blk s H scope (compEnvC scope cl C X.env) fp) := by
  have hsc : (X.blk s H scope (compEnvC scope cl C X.env) fp).env.scope = relS scope G.sc := by
    show relS scope X.env.scope = _
    rw [g.sc]
  refine ⟨g.K, g.T, g.N, g.nd, hsc, hk, g.calm, rfl, g.room, g.Y, g.fr, fun x hx => ?_, g.hcal, g.hmak, g.calL, g.makL⟩
  have hx : ((match scope.names.lookup x with | some .cell => true | _ => false) || (match (relS scope G.sc).names.lookup x with | some .local => true | _ => false)) = true := hx
  rw [Bool.or_eq_true] at hx
  rcases hx with hx | hx
  · left
    show (scope.names.lookup x == some .cell) = true
    split at hx
    · rename_i q; rw [q]; rfl
    · cases hx
  · right
    rw [hsc]
    split at hx
    · assumption
    · cases hx
def AsgO (P : Pl) (cal : Cal) (mak : Mak) (G : Ga) (X : Cx) (e : Expr) (o : O) : Prop := ∀ (i : Nat) (y : Str) (py spos : Pos), G.N[i]? = some y → locB G.sc y = true → G.w y = true → PS X (.Assign [.Name y py] e spos) (tAsg (tO P cal mak o) (gName i))
theorem asg_of (g : GX P n cal mak G X) {e : Expr} {te : TE} (h : PE X e te) {i : Nat} {y : Str} {py spos : Pos} (h1 : G.N[i]? = some y) (h2 : locB G.sc y = true) (h3 : G.w y = true) (hs : swapsWith e (some (.Name y py)) spos.line X.env = pure false) :
    PS X (.Assign [.Name y py] e spos) (tAsg te (gName i)) := ps_set (i := i) (by rw [g.N]; exact g.nd) (by rw [g.N]; exact h1) (g.loc h2) h hs (g.st y h3)
theorem sndO_pl (o : O) {e : Expr} {env : PySem.Env} (h : chkO G o e = true) : ∀ whole, isTrue e env whole = (do let v ← whole; standAt e.pos; holding [v] (truthy v)) := by
  intro whole
  cases e <;> first | rfl | skip
  all_goals (exfalso; cases o <;> first | (unfold chkO at h; cases h; done) | (unfold chkO at h; simp at h; done))
theorem sndO_bo (o : O) {e : Expr} (h : chkO G o e = true) : ∀ op vs pos, e ≠ .BoolOp op vs pos := by
  intro op vs pos q
  subst q
  cases o <;> first | (unfold chkO at h; cases h; done) | (unfold chkO at h; simp at h; done)
mutual
theorem sndE : ∀ (c : E) {G : Ga} {X : Cx} {e : Expr}, GX P n cal mak G X → chkE G c e = true → Snd P cal mak X e c
  | .k d, G, X, e, g, h => by
    unfold chkE at h
    cases e <;> first | (cases h; done) | skip
    obtain ⟨v, p, r⟩ := const_rep h
    exact snd_plain (peI p fun σ H Q ⟨W, ρ, μ, d', μ', w, en, ee, k⟩ => by unfold ev at ee; cases ee; exact k v W H .refl w (r W H)) (fun _ => rfl) (fun _ _ _ q => nomatch q)
  | .gl j, G, X, e, g, h => by
    unfold chkE at h
    cases e <;> first | (cases h; done) | skip
    obtain ⟨h1, h⟩ := ba h
    obtain ⟨h2, h3⟩ := ba h
    split at h3
    · rename_i q hq
      have e := of_decide_eq_true h3
      subst e
      exact snd_plain (g_glob g (d := q.2) hq h1 h2) (fun _ => rfl) (fun _ _ _ q => nomatch q)
    · cases h3
  | .v i, G, X, e, g, h => by
    unfold chkE at h
    cases e <;> first | (cases h; done) | skip
    obtain ⟨h1, h⟩ := ba h
    obtain ⟨h2, h3⟩ := ba h
    exact snd_plain (g_var g (of_decide_eq_true h1) h2 h3) (fun _ => rfl) (fun _ _ _ q => nomatch q)
  | .bin op a b, G, X, e, g, h => by
    unfold chkE at h
    cases e <;> first | (cases h; done) | skip
    obtain ⟨h1, h⟩ := ba h
    obtain ⟨h2, h3⟩ := ba h
    have e1 := of_decide_eq_true h1
    subst e1
    exact snd_plain (g_bin g (sndE a g h2).pe (sndE b g h3).pe) (fun _ => rfl) (fun _ _ _ q => nomatch q)
  | .neg a, G, X, e, g, h => by
    unfold chkE at h
    cases e <;> first | (cases h; done) | skip
    rename_i op x pos
    cases op <;> first | (cases h; done) | skip
    exact snd_plain (g_neg (sndE a g h).pe) (fun _ => rfl) (fun _ _ _ q => nomatch q)
  | .not a, G, X, e, g, h => by
    unfold chkE at h
    cases e <;> first | (cases h; done) | skip
    rename_i op x pos
    cases op <;> first | (cases h; done) | skip
    exact g_not (sndE a g h)
  | .cmp op a b, G, X, e, g, h => by
    unfold chkE at h
    split at h
    · obtain ⟨h1, h⟩ := ba h
      obtain ⟨h2, h⟩ := ba h
      obtain ⟨h3, h4⟩ := ba h
      have e1 := of_decide_eq_true h1
      subst e1
      exact g_cmp g h2 (sndR a g h3) (sndR b g h4)
    · cases h
  | .chn o1 o2 a b c, G, X, e, g, h => by
    unfold chkE at h
    split at h
    · obtain ⟨h1, h⟩ := ba h
      obtain ⟨h1', h⟩ := ba h
      obtain ⟨h2, h⟩ := ba h
      obtain ⟨h3, h⟩ := ba h
      obtain ⟨h4, h5⟩ := ba h
      have e1 := of_decide_eq_true h1
      subst e1
      have e2 := of_decide_eq_true h1'
      subst e2
      exact g_chn g h2 (sndE a g h3).pe (sndE b g h4).pe (sndE c g h5).pe
    · cases h
  | .and a b, G, X, e, g, h => by
    unfold chkE at h
    split at h
    · obtain ⟨h1, h2⟩ := ba h
      have hb := sndE b g h2
      exact g_and (sndE a g h1) (pe_one hb.pe) (pw_and1 hb.pt)
    · obtain ⟨h1, h2⟩ := ba h
      have hb := sndE b g h2
      exact g_and (sndE a g h1) hb.pe (hb.pw _ _ _ rfl)
    · cases h
  | .or a b, G, X, e, g, h => by
    unfold chkE at h
    split at h
    · obtain ⟨h1, h2⟩ := ba h
      have hb := sndE b g h2
      exact g_or (sndE a g h1) (pe_one hb.pe) (pw_or1 hb.pt)
    · obtain ⟨h1, h2⟩ := ba h
      have hb := sndE b g h2
      exact g_or (sndE a g h1) hb.pe (hb.pw _ _ _ rfl)
    · cases h
  | .tup es, G, X, e, g, h => by
    unfold chkE at h
    cases e <;> first | (cases h; done) | skip
    obtain ⟨h1, h2⟩ := ba h
    exact snd_plain (g_tup (of_decide_eq_true h2) (fun ds ρ μ μ' q => by rw [evs_len q, chkEs_len h1]) (sndEs es g h1)) (fun _ => rfl) (fun _ _ _ q => nomatch q)
  | .frz o, G, X, e, g, h => by
    unfold chkE at h
    have hp := g_frz (sndO o g h).1
    exact snd_plain hp (sndO_pl o h) (sndO_bo o h)
  | .box o, G, X, e, g, h => by
    unfold chkE at h
    have hp := g_box (sndO o g h).1
    exact snd_plain hp (sndO_pl o h) (sndO_bo o h)
  | .sub a i, G, X, e, g, h => by
    unfold chkE at h
    cases e <;> first | (cases h; done) | skip
    obtain ⟨h1, h⟩ := ba h
    obtain ⟨h2, h3⟩ := ba h
    exact snd_plain (g_sub g h1 (sndR a g h2) (sndE i g h3).pe) (fun _ => rfl) (fun _ _ _ q => nomatch q)
  | .attr a f, G, X, e, g, h => by
    unfold chkE at h
    cases e <;> first | (cases h; done) | skip
    obtain ⟨h1, h⟩ := ba h
    obtain ⟨h2, h3⟩ := ba h
    exact snd_plain (g_attr g h2 (of_decide_eq_true h1) (sndE a g h3).pe) (fun _ => rfl) (fun _ _ _ q => nomatch q)
  | .call f es, G, X, e, g, h => by
    unfold chkE at h
    split at h
    · obtain ⟨h1, h⟩ := ba h
      obtain ⟨h2, h3⟩ := ba h
      exact snd_plain (g_call (g_callT g h1 h2 (chkEs_nil h3) (sndEs es g h3))) (fun _ => rfl) (fun _ _ _ q => nomatch q)
    · cases h
  | .make c es, G, X, e, g, h => by
    unfold chkE at h
    split at h
    · obtain ⟨h1, h⟩ := ba h
      obtain ⟨h2, h⟩ := ba h
      obtain ⟨h3, h⟩ := ba h
      obtain ⟨h4, h5⟩ := ba h
      split at h1
      · rename_i k hk
        obtain ⟨h6, h7⟩ := ba h1
        obtain ⟨h7, h8⟩ := ba h7
        rw [g.T] at hk h8
        have mu : k.mu = false := by simpa using h7
        obtain ⟨F, hF⟩ := Option.isSome_iff_exists.mp h8
        exact snd_plain (g_make g hk mu hF (of_decide_eq_true h6) (g.gl h2) (nmOk_of h3).1 h4 (chkEs_nil h5) (sndEs es g h5)) (fun _ => rfl) (fun _ _ _ q => nomatch q)
      · cases h1
    · cases h
  | .join s a, G, X, e, g, h => by
    unfold chkE at h
    split at h
    · rename_i so nm ap y cp
      obtain ⟨h1, h⟩ := ba h
      obtain ⟨h2, h⟩ := ba h
      obtain ⟨h3, h⟩ := ba h
      obtain ⟨h4, h⟩ := ba h
      obtain ⟨h5, h6⟩ := ba h
      exact snd_plain (g_join g (of_decide_eq_true h1) h2 h3 h4 (sndE s g h5).pe (sndR a g h6)) (fun _ => rfl) (fun _ _ _ q => nomatch q)
    · cases h
  | .str1 a, G, X, e, g, h => by
    unfold chkE at h
    split at h
    · obtain ⟨h1, h⟩ := ba h
      obtain ⟨h2, h⟩ := ba h
      obtain ⟨h3, h4⟩ := ba h
      exact snd_plain (g_str1 g (of_decide_eq_true h1) (g.gl h2) h3 (sndE a g h4).pe) (fun _ => rfl) (fun _ _ _ q => nomatch q)
    · cases h
  | .tupl a, G, X, e, g, h => by
    unfold chkE at h
    split at h
    · obtain ⟨h1, h⟩ := ba h
      obtain ⟨h2, h⟩ := ba h
      obtain ⟨h3, h4⟩ := ba h
      exact snd_plain (g_tupl g (of_decide_eq_true h1) (g.gl h2) h3 (sndR a g h4)) (fun _ => rfl) (fun _ _ _ q => nomatch q)
    · cases h
  | .bi b a, G, X, e, g, h => by
    unfold chkE at h
    split at h
    · obtain ⟨h1, h⟩ := ba h
      obtain ⟨h2, h⟩ := ba h
      obtain ⟨h3, h⟩ := ba h
      obtain ⟨h4, h5⟩ := ba h
      exact snd_plain (g_bi g h1 (of_decide_eq_true h2) (g.gl h3) h4 (sndR a g h5)) (fun _ => rfl) (fun _ _ _ q => nomatch q)
    · cases h
  | .b2 b a c, G, X, e, g, h => by
    unfold chkE at h
    split at h
    · obtain ⟨h1, h⟩ := ba h
      obtain ⟨h2, h⟩ := ba h
      obtain ⟨h3, h⟩ := ba h
      obtain ⟨h4, h⟩ := ba h
      obtain ⟨h5, h⟩ := ba h
      obtain ⟨h6, h7⟩ := ba h
      exact snd_plain (g_b2 g h1 (of_decide_eq_true h2) (g.gl h3) h4 h5 (sndE a g h6).pe (sndE c g h7).pe) (fun _ => rfl) (fun _ _ _ q => nomatch q)
    · cases h
  | .isi a t, G, X, e, g, h => by
    unfold chkE at h
    split at h
    · obtain ⟨h1, h⟩ := ba h
      obtain ⟨h2, h⟩ := ba h
      obtain ⟨h3, h⟩ := ba h
      obtain ⟨h4, h⟩ := ba h
      obtain ⟨h5, h⟩ := ba h
      obtain ⟨h6, h⟩ := ba h
      obtain ⟨h7, h8⟩ := ba h
      refine snd_plain (g_isi g (of_decide_eq_true h1) (g.gl h2) h3 (sndE a g h4).pe h5 (g.gl h6) h7 fun c hc => ?_) (fun _ => rfl) (fun _ _ _ q => nomatch q)
      subst hc
      simp only at h8
      split at h8
      · rename_i k hk
        rw [g.T] at hk
        exact ⟨k, hk, of_decide_eq_true h8⟩
      · cases h8
    · cases h
theorem sndR : ∀ (r : R) {G : Ga} {X : Cx} {e : Expr}, GX P n cal mak G X → chkR G r e = true → PE X e (tR P cal mak r)
  | .e a, G, X, e, g, h => by
    unfold chkR at h
    exact g_e (sndE a g h).pe
  | .own i, G, X, e, g, h => by
    unfold chkR at h
    cases e <;> first | (cases h; done) | skip
    obtain ⟨h1, h⟩ := ba h
    obtain ⟨h2, h3⟩ := ba h
    exact g_own g (of_decide_eq_true h1) h2 h3
theorem sndO : ∀ (o : O) {G : Ga} {X : Cx} {e : Expr}, GX P n cal mak G X → chkO G o e = true → PE X e (tO P cal mak o) ∧ AsgO P cal mak G X e o
  | .lst es, G, X, e, g, h => by
    unfold chkO at h
    cases e <;> first | (cases h; done) | skip
    obtain ⟨h1, h2⟩ := ba h
    have p := g_lst (pos := by assumption) (of_decide_eq_true h2) (fun ds ρ μ μ' q => by rw [evs_len q, chkEs_len h1]) (sndEs es g h1)
    exact ⟨p, fun i y py spos a b c => asg_of g p a b c rfl⟩
  | .lc el tg it c, G, X, e, g, h => by
    unfold chkO at h
    split at h
    · rename_i elt t iter ifs scope pos
      obtain ⟨h1, h⟩ := ba h
      obtain ⟨h2, h⟩ := ba h
      obtain ⟨h3, h⟩ := ba h
      obtain ⟨h4, h⟩ := ba h
      obtain ⟨h5, h⟩ := ba h
      obtain ⟨h6, h7⟩ := ba h
      have bo : BlkOk G.N G.sc scope (ownOf G.N tg.slots) := blkOk_by h3
      have hk : (relS scope G.sc).kind = .function := bo.kind
      have bo' : BlkOk X.N X.env.scope scope (ownOf G.N tg.slots) := by rw [g.N, g.sc]; exact bo
      have gb := blk_gx g hk
      have pi := sndI it (tg := t) g (ba h2).1 (ba h2).2
      have hsl := of_decide_eq_true h4
      have pb := fun (s : Shared) (H : Hp) (C : Addr) (cl : List (Str × Addr)) (fp : List Addr) => And.intro (pg_tg (gb s H C cl fp) h5) (And.intro (sndC c (gb s H C cl fp) h6) (sndE el (gb s H C cl fp) h7).pe)
      obtain ⟨p, rd⟩ := g_lc (pos := pos) g h1 pi bo' hsl pb
      refine ⟨p, fun i y py spos a b cc => ?_⟩
      have nd : X.N.Nodup := by rw [g.N]; exact g.nd
      have a' : X.N[i]? = some y := by rw [g.N]; exact a
      have swe : swapsWith (.ListComp elt [⟨t, iter, ifs, 0⟩] scope pos) (some (.Name y py)) spos.line X.env = pure (X.env.blockKind == .function && X.env.kindOf y == some .local && py.line == pos.line && !(scope.names.any fun (n, k) => n == y && (k == .local || k == .cell))) := rfl
      cases hsw : (X.env.blockKind == .function && X.env.kindOf y == some .local && py.line == pos.line && !(scope.names.any fun (n, k) => n == y && (k == .local || k == .cell))) with
      | false =>
        rw [hsw] at swe
        exact asg_of g p a b cc swe
      | true =>
        rw [hsw] at swe
        rw [Bool.and_eq_true, Bool.and_eq_true, Bool.and_eq_true] at hsw
        have hl : X.env.scope.names.lookup y = some .local := eq_of_beq hsw.1.1.2
        have q := ps_setLc (pos := pos) (py := py) (spos := spos) g.calm nd a' hl swe pi bo' (fun s H C cl fp => (pb s H C cl fp).1) (fun s H C cl fp => (pb s H C cl fp).2.1) (fun s H C cl fp => (pb s H C cl fp).2.2) (plain_fold h1)
        exact ⟨fun pins s σ H D I hh => q.run pins s σ H D I (rd σ H _ hh)⟩
    · cases h
  | .cat a b, G, X, e, g, h => by
    unfold chkO at h
    split at h
    · obtain ⟨h1, h2⟩ := ba h
      have p := g_cat (pos := by assumption) g (sndR a g h1) (sndR b g h2)
      exact ⟨p, fun i y py spos a b c => asg_of g p a b c rfl⟩
    · cases h
  | .call f es, G, X, e, g, h => by
    unfold chkO at h
    split at h
    · rename_i x p0 xs pos
      obtain ⟨h1, h⟩ := ba h
      obtain ⟨h2, h3⟩ := ba h
      have p := g_callO (g_callT (p := p0) (pos := pos) g h1 h2 (chkEs_nil h3) (sndEs es g h3))
      exact ⟨p, fun i y py spos a b c => asg_of g p a b c rfl⟩
    · cases h
  | .slc a lo hi, G, X, e, g, h => by
    unfold chkO at h
    split at h
    · rename_i x0 l0 hh0 p2 pos
      obtain ⟨h1, h⟩ := ba h
      obtain ⟨h2, h3⟩ := ba h
      have p := g_slc (p2 := p2) (pos := pos) g (sndR a g h1) (sndX lo g h2) (sndX hi g h3)
      exact ⟨p, fun i y py spos a b c => asg_of g p a b c rfl⟩
    · cases h
  | .lst1 a, G, X, e, g, h => by
    unfold chkO at h
    split at h
    · rename_i x0 p0 y0 pos
      obtain ⟨h1, h⟩ := ba h
      obtain ⟨h2, h⟩ := ba h
      obtain ⟨h3, h4⟩ := ba h
      have p := g_lst1 (p := p0) (pos := pos) g (of_decide_eq_true h1) (g.gl h2) h3 (sndR a g h4)
      exact ⟨p, fun i y py spos a b c => asg_of g p a b c rfl⟩
    · cases h
  | .rev a, G, X, e, g, h => by
    unfold chkO at h
    split at h
    · rename_i x k p1 p2 p3 pos
      have p := g_rev (k := k) (p1 := p1) (p2 := p2) (p3 := p3) (pos := pos) g (sndR a g h)
      exact ⟨p, fun i y py spos a b c => asg_of g p a b c rfl⟩
    · cases h
  | .split s t, G, X, e, g, h => by
    unfold chkO at h
    split at h
    · rename_i so nm ap y cp
      obtain ⟨h1, h⟩ := ba h
      obtain ⟨h2, h⟩ := ba h
      obtain ⟨h3, h⟩ := ba h
      obtain ⟨h4, h⟩ := ba h
      obtain ⟨h5, h6⟩ := ba h
      have p := g_split g (of_decide_eq_true h1) h2 h3 h4 (sndE s g h5).pe (sndE t g h6).pe
      exact ⟨p, fun i y py spos a b c => asg_of g p a b c rfl⟩
    · cases h
  | .rep i k, G, X, e, g, h => by
    unfold chkO at h
    split at h
    · rename_i x px r pos
      obtain ⟨h1, h⟩ := ba h
      obtain ⟨h2, h⟩ := ba h
      obtain ⟨h3, h4⟩ := ba h
      have p := g_rep (px := px) (pos := pos) g (of_decide_eq_true h1) h2 h3 (sndE k g h4).pe
      exact ⟨p, fun i y py spos a b c => asg_of g p a b c rfl⟩
    · cases h
theorem sndX : ∀ (c : Eo) {G : Ga} {X : Cx} {e : Option Expr}, GX P n cal mak G X → chkX G c e = true → PO X e (tX P cal mak c)
  | .no, G, X, e, g, h => by
    unfold chkX at h
    split at h
    · exact g_xno
    · cases h
  | .so c, G, X, e, g, h => by
    unfold chkX at h
    split at h
    · exact g_xso (sndE c g h).pe
    · cases h
theorem sndEs : ∀ (es : Es) {G : Ga} {X : Cx} {xs : List Expr}, GX P n cal mak G X → chkEs G es xs = true → PA X xs (tA' P cal mak es)
  | .nil, G, X, xs, g, h => by
    unfold chkEs at h
    cases xs with
    | nil => exact g_args0
    | cons _ _ => cases h
  | .cons e es, G, X, xs, g, h => by
    unfold chkEs at h
    cases xs with
    | nil => cases h
    | cons x r =>
      obtain ⟨h1, h⟩ := ba h
      obtain ⟨h2, h3⟩ := ba h
      exact g_args h1 (sndE e g h2).pe (sndEs es g h3)
theorem sndC : ∀ (c : Eo) {G : Ga} {X : Cx} {xs : List Expr}, GX P n cal mak G X → chkC G c xs = true → PTs X xs (tC' P cal mak c)
  | .no, G, X, xs, g, h => by
    unfold chkC at h
    cases xs with
    | nil => exact g_cno
    | cons _ _ => cases h
  | .so e, G, X, xs, g, h => by
    unfold chkC at h
    split at h
    · exact g_cso (sndE e g h).pt
    · cases h
theorem sndI : ∀ (it : It) {G : Ga} {X : Cx} {tg e : Expr}, GX P n cal mak G X → tgOk it tg = true → chkI G it e = true → PI X tg e (tI P cal mak it)
  | .lst a, G, X, tg, e, g, ht, h => by
    unfold chkI at h
    exact g_ilst g (sndR a g h)
  | .tup a, G, X, tg, e, g, ht, h => by
    unfold chkI at h
    exact g_itup g (sndE a g h).pe
  | .str a, G, X, tg, e, g, ht, h => by
    unfold chkI at h
    exact g_istr g (sndE a g h).pe
  | .rng a, G, X, tg, e, g, ht, h => by
    unfold chkI at h
    split at h
    · obtain ⟨h1, h⟩ := ba h
      obtain ⟨h2, h⟩ := ba h
      obtain ⟨h3, h4⟩ := ba h
      exact g_irng g (of_decide_eq_true h1) (g.gl h2) h3 (sndE a g h4).pe
    · cases h
  | .enum a, G, X, tg, e, g, ht, h => by
    cases tg <;> first | (cases ht; done) | skip
    unfold chkI at h
    split at h
    · obtain ⟨h1, h⟩ := ba h
      obtain ⟨h2, h⟩ := ba h
      obtain ⟨h3, h4⟩ := ba h
      exact g_ienum g (of_decide_eq_true h1) (g.gl h2) h3 (sndE a g h4).pe
    · cases h
  | .zip a b, G, X, tg, e, g, ht, h => by
    cases tg <;> first | (cases ht; done) | skip
    unfold chkI at h
    split at h
    · obtain ⟨h1, h⟩ := ba h
      obtain ⟨h2, h⟩ := ba h
      obtain ⟨h3, h⟩ := ba h
      obtain ⟨h4, h⟩ := ba h
      obtain ⟨h5, h6⟩ := ba h
      exact g_izip g (of_decide_eq_true h1) (g.gl h2) h3 h4 (sndE a g h5).pe (sndE b g h6).pe
    · cases h
end
end
end EV

set_option Elab.async false
set_option linter.all false
set_option maxRecDepth 100000
set_option maxHeartbeats 2000000
namespace EV
open PySem PySem.Spec PyProof.Rows L2
def notTup : Expr → Bool
  | .Tuple _ _ _ => false
  | _ => true
theorem notTup_st {t v : Expr} {env : PySem.Env} (h : notTup v = true) : swappedStores [t] v env = pure none := by
  cases v <;> first | (cases t <;> rfl) | cases h
def ixB : Expr → Bool
  | .Name _ _ => true
  | .Constant _ _ _ => true
  | .BinOp _ _ _ _ => true
  | .Subscript _ _ _ => true
  | .Attribute _ _ _ => true
  | _ => false
theorem ix_asg {o i : Expr} {pos : Pos} {X : Cx} {v : Value} (h : ixB i = true) : assign (.Subscript o i pos) X.env v = (do
      let ov ← holding [v] (eval o X.env)
      let iv ← holding [v, ov] (eval i X.env)
      standAt pos
      holding [v, ov, iv] (setItem ov iv v)
      release [v, ov, iv] []) := by
  cases i <;> first | rfl | cases h
mutual
def chkS (G : Ga) : S → Stmt → Bool
  | .set i e, s => (match s with
    | .Assign [.Name y _] v _ => i != 0 && (decide (G.N[i]? = some y) && (locB G.sc y && (G.w y && (notLc v && chkE G e v))))
    | _ => false)
  | .setO i o, s => (match s with
    | .Assign [.Name y _] v _ => i != 0 && (decide (G.N[i]? = some y) && (locB G.sc y && (G.w y && chkO G o v)))
    | _ => false)
  | .setT l e, s => (match s with
    | .Assign [.Tuple ts _ _] v _ => !l.contains 0 && (notTup v && (notLc v && (chkTs G l ts && chkE G e v)))
    | _ => false)
  | .frz _, _ => false
  | .setA i f e, s => (match s with
    | .Assign [.Attribute (.Name x _) nm _] v _ => decide (G.N[i]? = some x) && (visB G.sc x && (nmOk x && (decide (G.T.names[f]? = some nm) && (notLc v && chkE G e v))))
    | _ => false)
  | .setIx a k e, s => (match s with
    | .Assign [.Subscript o ix _] v _ => notLc v && (ixB ix && (chkE G e v && (chkE G a o && chkE G k ix)))
    | _ => false)
  | .app i e, s => (match s with
    | .Expr (.Call (.Attribute (.Name x _) nm ap) [v] [] cp) _ => decide (nm = "append") && (decide (G.N[i]? = some x) && (visB G.sc x && (nmOk x && (starB v && ((ap.endLine == cp.line) && chkE G e v)))))
    | _ => false)
  | .ex e, s => (match s with
    | .Expr v _ => notLc v && chkE G e v
    | _ => false)
  | .ret e, s => (match s with
    | .Return (some v) _ => chkE G e v
    | _ => false)
  | .retO o, s => (match s with
    | .Return (some v) _ => chkO G o v
    | _ => false)
  | .retS i, s => (match s with
    | .Return (some (.Name x _)) _ => decide (G.N[i]? = some x) && (visB G.sc x && nmOk x)
    | _ => false)
  | .ret0, s => (match s with
    | .Return none _ => true
    | _ => false)
  | .iff c a b, s => (match s with
    | .If t x y _ => chkE G c t && (chkSs G a x && chkSs G b y)
    | _ => false)
  | .for tg it b, s => (match s with
    | .For t iter body [] _ => !tg.slots.contains 0 && (plnB iter && (!ownI it && ((tgOk it t && chkI G it iter) && (chkT G tg t && chkSs G b body))))
    | _ => false)
  | .pas, s => (match s with
    | .Pass _ => true
    | _ => false)
  | .bad, _ => true
def chkSs (G : Ga) : Ss → List Stmt → Bool
  | .nil, xs => (match xs with
    | [] => true
    | _ => false)
  | .cons s b, xs => (match s with
    | .frz _ => chkSs G b xs
    | s => (match xs with
      | x :: r => chkS G s x && chkSs G b r
      | [] => false))
end
section
variable (P : Pl)
structure EnS (H0 : Hp) (W : Wo) (H : Hp) (σ : L2.St) (ρ : Rho) : Prop where
  en : En P W H σ ρ
  fr : ∀ (i : Nat) (d : D) (a : Addr), ρ[i]? = some (.ow d) → σ[i]? = some (some (.ref a)) → H0 a = none
def PostS (W0 : Wo) (H0 : Hp) (W : Wo) (H : Hp) (σ : L2.St) (D : Ends) : Out → Prop
  | .nx ρ' μ' => ∀ σ' W' H', Ext W0 H0 W' H' → Keep W H W' H' → Wd P W' H' μ' → EnS P H0 W' H' σ' ρ' → σ'[0]? = σ[0]? → D.nx σ' H'
  | .rt o d μ' => ∀ v W' H', Ext W0 H0 W' H' → Wd P W' H' μ' → RetRep P W0 H0 W' H' o v d → D.rt v H'
variable (cal : Cal) (mak : Mak)
def tS (s : S) : TS := fun D σ H => ∃ (W0 : Wo) (H0 : Hp) (W : Wo) (ρ : Rho) (μ : Sto) (out : Out), Ext W0 H0 W H ∧ Wd P W H μ ∧ EnS P H0 W H σ ρ ∧ ex P.T cal mak s ρ μ = some out ∧ PostS P W0 H0 W H σ D out
def tSs (s : Ss) : TS := fun D σ H => ∃ (W0 : Wo) (H0 : Hp) (W : Wo) (ρ : Rho) (μ : Sto) (out : Out), Ext W0 H0 W H ∧ Wd P W H μ ∧ EnS P H0 W H σ ρ ∧ exs P.T cal mak s ρ μ = some out ∧ PostS P W0 H0 W H σ D out
end
theorem psI {X : Cx} {e : Stmt} {t t' : TS} (h : PS X e t) (k : ∀ D σ H, t' D σ H → t D σ H) : PS X e t' := ⟨fun pins s σ H D I q => h.run pins s σ H D I (k D σ H q)⟩
theorem pssI {X : Cx} {e : List Stmt} {t t' : TS} (h : PSs X e t) (k : ∀ D σ H, t' D σ H → t D σ H) : PSs X e t' := ⟨fun pins s σ H D I q => h.run pins s σ H D I (k D σ H q)⟩
section
variable {P : Pl} {n : Nat} {cal : Cal} {mak : Mak} {G : Ga} {X : Cx} {W0 W W' W'' : Wo} {H0 H H' H'' : Hp} {μ μ' : Sto} {σ : L2.St} {ρ : Rho}
theorem EnS.ext (x : Ext W H W' H') (w : Wd P W H μ) (e : EnS P H0 W H σ ρ) : EnS P H0 W' H' σ ρ := ⟨e.en.ext x w, e.fr⟩
theorem EnS.setF {i : Nat} {v : V} {d : D} (en : EnS P H0 W H σ ρ) (r : Rep P W H v d) : EnS P H0 W H (σ.set i (some v)) (ρ.set i (.fz d)) := by
  refine ⟨en.en.setF r, fun j e a h1 h2 => ?_⟩
  obtain ⟨h3, h4⟩ := owsame_set j e h1
  exact en.fr j e a h3 (h4 ▸ h2)
theorem set_cases {α : Type} {l : List α} {i j : Nat} {x y : α} (h : (l.set i x)[j]? = some y) : (i = j ∧ y = x ∧ i < l.length) ∨ (i ≠ j ∧ l[j]? = some y) := by
  by_cases hj : i = j
  · subst hj
    have hl : i < l.length := by
      have := (List.getElem?_eq_some_iff.mp h).1
      simpa using this
    rw [List.getElem?_set_self hl] at h
    cases h
    exact .inl ⟨rfl, rfl, hl⟩
  · rw [List.getElem?_set_ne hj] at h
    exact .inr ⟨hj, h⟩
theorem EnS.setO {i : Nat} {a : Addr} {d : D} (en : EnS P H0 W H σ ρ) (o : Own P W H a d) (h0 : H0 a = none) (hne : ∀ (j : Nat) (e : D), i ≠ j → ρ[j]? = some (.ow e) → σ[j]? ≠ some (some (.ref a))) : EnS P H0 W H (σ.set i (some (.ref a))) (ρ.set i (.ow d)) := by
  have gs : ∀ {j : Nat}, i ≠ j → (σ.set i (some (V.ref a)))[j]? = σ[j]? := fun hj => List.getElem?_set_ne hj
  refine ⟨⟨by rw [List.length_set, List.length_set]; exact en.en.len, fun j e h => ?_, fun j e h => ?_, fun j j' d' e b h1 h2 h3 h4 => ?_⟩, fun j e b h1 h2 => ?_⟩
  · rcases set_cases h with ⟨_, q, _⟩ | ⟨hj, h⟩
    · cases q
    · rw [gs hj]; exact en.en.fz j e h
  · rcases set_cases h with ⟨q1, q, hl⟩ | ⟨hj, h⟩
    · cases q
      subst q1
      exact ⟨a, List.getElem?_set_self (by rw [en.en.len]; exact hl), o⟩
    · rw [gs hj]; exact en.en.ow j e h
  · rcases set_cases h1 with ⟨q1, q, hl⟩ | ⟨hj, h1⟩
    · rcases set_cases h2 with ⟨q2, q', hl'⟩ | ⟨hj', h2⟩
      · exact q1.symm.trans q2
      · subst q1
        rw [List.getElem?_set_self (by rw [en.en.len]; exact hl)] at h3
        cases h3
        rw [gs hj'] at h4
        exact absurd h4 (hne j' e hj' h2)
    · rcases set_cases h2 with ⟨q2, q', hl'⟩ | ⟨hj', h2⟩
      · subst q2
        rw [List.getElem?_set_self (by rw [en.en.len]; exact hl')] at h4
        cases h4
        rw [gs hj] at h3
        exact absurd h3 (hne j d' hj h1)
      · rw [gs hj] at h3
        rw [gs hj'] at h4
        exact en.en.ne j j' d' e b h1 h2 h3 h4
  · rcases set_cases h1 with ⟨q1, q, hl⟩ | ⟨hj, h1⟩
    · subst q1
      rw [List.getElem?_set_self (by rw [en.en.len]; exact hl)] at h2
      cases h2
      exact h0
    · rw [gs hj] at h2
      exact en.fr j e b h1 h2
theorem s_set (g : GX P n cal mak G X) {i : Nat} {e : E} {y : Str} {py spos : Pos} {v : Expr} (hz : i ≠ 0) (h1 : G.N[i]? = some y) (h2 : locB G.sc y = true) (h3 : G.w y = true) (h4 : notLc v = true) (h : PE X v (tE P cal mak e)) : PS X (.Assign [.Name y py] v spos) (tS P cal mak (.set i e)) := by
  refine psI (asg_of g h h1 h2 h3 (lc_swap h4)) fun D σ H ⟨W0, H0, W, ρ, μ, out, x0, w, en, ee, k⟩ => ?_
  unfold ex at ee
  obtain ⟨x, e1, ee⟩ := bind_some' ee
  split at ee
  · cases ee
    exact ⟨W, ρ, μ, x.1, x.2, w, en.en, e1, fun v W1 H1 x1 w1 r1 => k _ W1 H1 (x0.tr x1 w) (x1.keep w) w1 ((en.ext x1 w).setF r1) (List.getElem?_set_ne hz)⟩
  · cases ee
theorem s_setO (g : GX P n cal mak G X) {i : Nat} {o : O} {y : Str} {py spos : Pos} {v : Expr} (hz : i ≠ 0) (h1 : G.N[i]? = some y) (h2 : locB G.sc y = true) (h3 : G.w y = true) (h : AsgO P cal mak G X v o) : PS X (.Assign [.Name y py] v spos) (tS P cal mak (.setO i o)) := by
  refine psI (h i y py spos h1 h2 h3) fun D σ H ⟨W0, H0, W, ρ, μ, out, x0, w, en, ee, k⟩ => ?_
  unfold ex at ee
  obtain ⟨x, e1, ee⟩ := bind_some' ee
  split at ee
  · cases ee
    refine ⟨W, ρ, μ, x.1, x.2, w, en.en, e1, fun a W1 H1 x1 w1 o1 hn => k _ W1 H1 (x0.tr x1 w) (x1.keep w) w1 ((en.ext x1 w).setO o1 (x0.free w hn) fun j e _ hj hs => ?_) (List.getElem?_set_ne hz)⟩
    obtain ⟨b, hb, ob⟩ := en.en.ow j e hj
    rw [hs] at hb
    cases hb
    obtain ⟨u, hu⟩ := ob.c.some
    rw [hn] at hu; cases hu
  · cases ee
theorem s_ex {e : E} {v : Expr} {pos : Pos} (h4 : notLc v = true) (h : PE X v (tE P cal mak e)) : PS X (.Expr v pos) (tS P cal mak (.ex e)) := by
  refine psI (ps_expr h (lc_swap h4)) fun D σ H ⟨W0, H0, W, ρ, μ, out, x0, w, en, ee, k⟩ => ?_
  unfold ex at ee
  obtain ⟨x, e1, ee⟩ := bind_some' ee
  cases ee
  exact ⟨W, ρ, μ, x.1, x.2, w, en.en, e1, fun v W1 H1 x1 w1 r1 => k _ W1 H1 (x0.tr x1 w) (x1.keep w) w1 (en.ext x1 w) rfl⟩
theorem s_ret {e : E} {v : Expr} {pos : Pos} (h : PE X v (tE P cal mak e)) : PS X (.Return (some v) pos) (tS P cal mak (.ret e)) := by
  refine psI (ps_ret h) fun D σ H ⟨W0, H0, W, ρ, μ, out, x0, w, en, ee, k⟩ => ?_
  unfold ex at ee
  obtain ⟨x, e1, ee⟩ := bind_some' ee
  cases ee
  exact ⟨W, ρ, μ, x.1, x.2, w, en.en, e1, fun v W1 H1 x1 w1 r1 => k v W1 H1 (x0.tr x1 w) w1 r1⟩
theorem s_retO {o : O} {v : Expr} {pos : Pos} (h : PE X v (tO P cal mak o)) : PS X (.Return (some v) pos) (tS P cal mak (.retO o)) := by
  refine psI (ps_ret h) fun D σ H ⟨W0, H0, W, ρ, μ, out, x0, w, en, ee, k⟩ => ?_
  unfold ex at ee
  obtain ⟨x, e1, ee⟩ := bind_some' ee
  cases ee
  exact ⟨W, ρ, μ, x.1, x.2, w, en.en, e1, fun a W1 H1 x1 w1 o1 hn => k _ W1 H1 (x0.tr x1 w) w1 ⟨a, rfl, o1, x0.free w hn⟩⟩
theorem s_retS (g : GX P n cal mak G X) {i : Nat} {x : Str} {pos pos' : Pos} (h1 : G.N[i]? = some x) (h2 : visB G.sc x = true) (h3 : nmOk x = true) : PS X (.Return (some (.Name x pos)) pos') (tS P cal mak (.retS i)) := by
  obtain ⟨d1, d2, _⟩ := nmOk_of h3
  refine psI (ps_ret (pe_var (i := i) (by rw [g.N]; exact h1) (g.vis h2) d1 d2)) fun D σ H ⟨W0, H0, W, ρ, μ, out, x0, w, en, ee, k⟩ => ?_
  unfold ex at ee
  split at ee
  · rename_i d hd
    cases ee
    obtain ⟨a, ha, o⟩ := en.en.ow i d hd
    exact ⟨.ref a, ha, k _ W H x0 w ⟨a, rfl, o, en.fr i d a hd ha⟩⟩
  · cases ee
theorem s_ret0 {pos : Pos} : PS X (.Return none pos) (tS P cal mak .ret0) := by
  refine psI ps_retN fun D σ H ⟨W0, H0, W, ρ, μ, out, x0, w, en, ee, k⟩ => ?_
  unfold ex at ee
  cases ee
  exact k _ W H x0 w .non
theorem s_pas {pos : Pos} : PS X (.Pass pos) (tS P cal mak .pas) := by
  refine psI ps_pass fun D σ H ⟨W0, H0, W, ρ, μ, out, x0, w, en, ee, k⟩ => ?_
  unfold ex at ee
  cases ee
  exact k _ W H x0 .refl w en rfl
theorem s_bad {st : Stmt} : PS X st (tS P cal mak .bad) := by
  refine psI ps_never fun D σ H ⟨W0, H0, W, ρ, μ, out, x0, w, en, ee, k⟩ => ?_
  unfold ex at ee
  cases ee
theorem PostS.mono {D : Ends} {out : Out} {σ1 : L2.St} (kp : Keep W H W' H') (e : σ1[0]? = σ[0]?) (k : PostS P W0 H0 W H σ D out) : PostS P W0 H0 W' H' σ1 D out := by
  cases out with
  | nx ρ μ => exact fun σ' W2 H2 x kp2 w en e2 => k σ' W2 H2 x (kp.trans kp2) w en (e2.trans e)
  | rt o d μ => exact k
theorem s_iff {c : E} {a b : Ss} {t : Expr} {x y : List Stmt} {pos : Pos} (hc : PT X t (tT P cal mak c)) (ha : PSs X x (tSs P cal mak a)) (hb : PSs X y (tSs P cal mak b)) : PS X (.If t x y pos) (tS P cal mak (.iff c a b)) := by
  refine psI (ps_if hc ha hb) fun D σ H ⟨W0, H0, W, ρ, μ, out, x0, w, en, ee, k⟩ => ?_
  unfold ex at ee
  obtain ⟨⟨x, z⟩, e1, ee⟩ := bind_some' ee
  split at ee
  · rename_i hx
    simp only at hx ee
    subst hx
    exact ⟨W, ρ, μ, true, z, w, en.en, e1, fun W1 H1 x1 w1 => iteT ⟨W0, H0, W1, ρ, z, out, x0.tr x1 w, w1, en.ext x1 w, ee, k.mono (x1.keep w) rfl⟩⟩
  · rename_i hx
    simp only at hx ee
    subst hx
    exact ⟨W, ρ, μ, false, z, w, en.en, e1, fun W1 H1 x1 w1 => iteF ⟨W0, H0, W1, ρ, z, out, x0.tr x1 w, w1, en.ext x1 w, ee, k.mono (x1.keep w) rfl⟩⟩
  · cases ee
theorem s_nil : PSs X [] (tSs P cal mak .nil) := by
  refine pssI pss_nil fun D σ H ⟨W0, H0, W, ρ, μ, out, x0, w, en, ee, k⟩ => ?_
  unfold exs at ee
  cases ee
  exact k _ W H x0 .refl w en rfl
theorem s_cons {st : Stmt} {r : List Stmt} {s : S} {b : Ss} (h1 : PS X st (tS P cal mak s)) (h2 : PSs X r (tSs P cal mak b)) : PSs X (st :: r) (tSs P cal mak (.cons s b)) := by
  refine pssI (pss_cons h1 h2) fun D σ H ⟨W0, H0, W, ρ, μ, out, x0, w, en, ee, k⟩ => ?_
  unfold exs at ee
  obtain ⟨o1, e1, ee⟩ := bind_some' ee
  cases o1 with
  | nx ρ' μ' => exact ⟨W0, H0, W, ρ, μ, _, x0, w, en, e1, fun σ' W1 H1 x1 kp w1 en1 e0 => ⟨W0, H0, W1, ρ', μ', out, x1, w1, en1, ee, k.mono kp e0⟩⟩
  | rt o d μ' =>
    cases ee
    exact ⟨W0, H0, W, ρ, μ, _, x0, w, en, e1, k⟩
theorem s_frz {xs : List Stmt} {i : Nat} {b : Ss} (h : PSs X xs (tSs P cal mak b)) : PSs X xs (tSs P cal mak (.cons (.frz i) b)) := by
  refine pssI h fun D σ H ⟨W0, H0, W, ρ, μ, out, x0, w, en, ee, k⟩ => ?_
  unfold exs at ee
  obtain ⟨o1, e1, ee⟩ := bind_some' ee
  unfold ex at e1
  split at e1
  · rename_i d hd
    cases e1
    obtain ⟨a, ha, o⟩ := en.en.ow i d hd
    obtain ⟨w2, r2, nf⟩ := o.freeze w
    have kp : Keep W H (W.add a) H := ⟨fun _ h => .inl h, fun _ _ _ h => h, [], by simp [Wo.add]⟩
    refine ⟨W0, H0, W.add a, ρ.set i (.fz d), μ, out, x0.addF (en.fr i d a hd ha), w2, ?_, ee, k.mono kp rfl⟩
    have en2 : EnS P H0 (W.add a) H (σ.set i (some (.ref a))) (ρ.set i (.fz d)) := by
      refine ⟨⟨by rw [List.length_set, List.length_set]; exact en.en.len, fun j e h => ?_, fun j e h => ?_, fun j j' d' e b h1 h2 h3 h4 => ?_⟩, fun j e b h1 h2 => ?_⟩
      · rcases set_cases h with ⟨q1, q, hl⟩ | ⟨hj, h⟩
        · cases q
          subst q1
          exact ⟨_, List.getElem?_set_self (by rw [en.en.len]; exact hl), r2⟩
        · rw [List.getElem?_set_ne hj]
          obtain ⟨v, q1, q2⟩ := en.en.fz j e h
          exact ⟨v, q1, q2.keep kp⟩
      · rcases set_cases h with ⟨q1, q, hl⟩ | ⟨hj, h⟩
        · cases q
        · rw [List.getElem?_set_ne hj]
          obtain ⟨c, q1, q2⟩ := en.en.ow j e h
          refine ⟨c, q1, q2.c.keep kp fun _ h => h, (nf c).mpr ⟨q2.nf, fun z => ?_⟩, q2.nc⟩
          subst z
          exact hj (en.en.ne i j d e c hd h ha q1)
      · obtain ⟨h1, e1⟩ := owsame_set (σ := σ) (x := some (.ref a)) j d' h1
        obtain ⟨h2, e2⟩ := owsame_set (σ := σ) (x := some (.ref a)) j' e h2
        exact en.en.ne j j' d' e b h1 h2 (e1 ▸ h3) (e2 ▸ h4)
      · obtain ⟨h1, e1⟩ := owsame_set (σ := σ) (x := some (.ref a)) j e h1
        exact en.fr j e b h1 (e1 ▸ h2)
    have hs : σ.set i (some (.ref a)) = σ := by
      apply List.ext_getElem?
      intro j
      by_cases hj : i = j
      · subst hj
        rw [List.getElem?_set_self (List.getElem?_eq_some_iff.mp ha).1, ha]
      · rw [List.getElem?_set_ne hj]
    rw [hs] at en2
    exact en2
  · cases e1
def gSeq (K : PySem.W.Frag) (n : Nat) (t : TGs) : TG := fun v σ H Q => gTup K n t v σ H Q ∨ gUnl K n t v σ H Q
theorem pg_seq {es : List Expr} {k : Nat} {pos : Pos} {t : TGs} {n' : Nat} (hc : X.calm = true) (h : PGs X es t) (hn : (assignEach es X.env).length = n') (hst : (assignEach es X.env).findIdx? (·.1) = none) : PG X (.Tuple es k pos) (gSeq X.K n' t) :=
  ⟨fun pins s σ H v u Q I r hw => by
    rcases hw with hw | hw
    · exact (pg_tup hc h hn hst).run pins s σ H v u Q I r hw
    · exact (pg_unl hc h hn hst).run pins s σ H v u Q I r hw⟩
theorem setAll_len : ∀ (l : List Nat) (ds : List D) (ρ ρ' : Rho), setAll ρ l ds = some ρ' → ds.length = l.length := by
  intro l
  induction l with
  | nil => intro ds ρ ρ' h; cases ds with | nil => rfl | cons _ _ => cases h
  | cons i l ih =>
    intro ds ρ ρ' h
    cases ds with
    | nil => cases h
    | cons d ds =>
      have h : (if i < ρ.length then setAll (ρ.set i (.fz d)) l ds else none) = some ρ' := h
      split at h
      · exact congrArg Nat.succ (ih ds _ _ h)
      · cases h
theorem wipe_get {i : Nat} : ∀ {l : List Nat} {σ : L2.St}, i ∉ l → (wipe σ l)[i]? = σ[i]?
  | [], _, _ => rfl
  | j :: l, σ, h => by
    show ((wipe σ l).set j none)[i]? = _
    have hj : j ≠ i := fun z => h (by rw [z]; exact List.mem_cons_self)
    rw [List.getElem?_set_ne hj, wipe_get fun z => h (List.mem_cons_of_mem _ z)]
theorem EnS.of (en : EnS P H0 W H σ ρ) {σ' : L2.St} {ρ' : Rho} (e : En P W H σ' ρ') (os : OwSame ρ σ ρ' σ') : EnS P H0 W H σ' ρ' :=
  ⟨e, fun i d a h1 h2 => by obtain ⟨h3, h4⟩ := os i d h1; exact en.fr i d a h3 (h4 ▸ h2)⟩
theorem s_setT (g : GX P n cal mak G X) {l : List Nat} {e : E} {ts : List Expr} {k' : Nat} {tp spos : Pos} {v : Expr} (hz : 0 ∉ l) (h1 : notTup v = true) (h2 : notLc v = true) (h3 : chkTs G l ts = true) (h : PE X v (tE P cal mak e)) : PS X (.Assign [.Tuple ts k' tp] v spos) (tS P cal mak (.setT l e)) := by
  obtain ⟨a, b, c⟩ := pg_tgs g h3
  refine psI (ps_asg h (pg_seq g.calm a b c) (lc_swap (t := some (.Tuple ts k' tp)) (l := spos.line) (env := X.env) h2) (notTup_st h1)) fun D σ H ⟨W0, H0, W, ρ, μ, out, x0, w, en, ee, k⟩ => ?_
  unfold ex at ee
  obtain ⟨x, e1, ee⟩ := bind_some' ee
  obtain ⟨d, e2, ee⟩ := bind_some' ee
  obtain ⟨xs, e3, ee⟩ := bind_some' ee
  obtain ⟨ρ', e4, ee⟩ := bind_some' ee
  cases ee
  refine ⟨W, ρ, μ, x.1, x.2, w, en.en, e1, fun u W1 H1 x1 w1 r1 => ?_⟩
  have en1 := en.ext x1 w
  obtain ⟨b', vs, rfl, q1, l1, z1⟩ := (show RRep P W1 H1 u x.1 from .inl r1).seq w1 (show (x.1.top x.2).bind asSeq = some xs by rw [e2]; exact e3)
  have hl : vs.length = l.length := by rw [l1.len]; exact setAll_len l xs _ _ e4
  have fin := set_all l (fun _ h => h) (Q := D.nx) e4 l1 en1.en fun σ' en' wp os => k σ' W1 H1 (x0.tr x1 w) (x1.keep w) w1 (en1.of en' os) (by rw [← wipe_get hz, wp, wipe_get hz])
  rw [← g.K] at q1
  rcases q1 with q1 | q1
  · exact .inr ⟨_, _, rfl, q1, hl, fin⟩
  · exact .inl ⟨_, _, rfl, q1, hl, fin⟩
theorem zip_put {N : List Str} : ∀ {vs : List V} {x : Str} {v : V} {j : Nat}, N.Nodup → N[j]? = some x → j ≤ vs.length → putF x v (N.zip vs) = N.zip (if j < vs.length then vs.set j v else vs ++ [v]) := by
  induction N with
  | nil => intro vs x v j _ h; simp at h
  | cons m N ih =>
    intro vs x v j nd h1 h2
    cases vs with
    | nil =>
      have hj : j = 0 := by simpa using h2
      subst hj
      simp at h1
      subst h1
      simp [putF]
    | cons u vs =>
      rw [List.zip_cons_cons]
      show (if m = x then (m, v) :: N.zip vs else (m, u) :: putF x v (N.zip vs)) = _
      cases j with
      | zero =>
        simp at h1
        subst h1
        simp
      | succ j =>
        simp at h1 h2
        have hne : m ≠ x := fun z => (List.nodup_cons.mp nd).1 (z ▸ List.mem_of_getElem? h1)
        rw [if_neg hne, ih (List.nodup_cons.mp nd).2 h1 h2]
        by_cases hl : j < vs.length
        · rw [if_pos hl, if_pos (by simpa using hl)]; simp
        · rw [if_neg hl, if_neg (by simpa using hl)]; simp
/-- a field of an object is stored -/
theorem put_ok (g : GX P n cal mak G X) {c f : Nat} {xs ys : List D} {d : D} {nm : Str} {vs : List V} {v : V} (hn : P.nm f = nm) (h : putD P.T c xs f d = some ys) (hl : vs.length = xs.length) (hz : vs.length ≤ (P.fld c).length) :
    ∃ (k : Cl) (vs' : List V), P.T.cls[c]? = some k ∧ f ∈ k.fields ∧ putF nm v ((P.fld c).zip vs) = (P.fld c).zip vs' ∧ vs'.length ≤ (P.fld c).length ∧ (∀ (W : Wo) (H : Hp), RepL P W H vs xs → Rep P W H v d → RepL P W H vs' ys) ∧ ((P.fld c).zip vs).length < 1000 := by
  obtain ⟨k, h1, h⟩ := bind_some' h
  obtain ⟨j, h2, h⟩ := bind_some' h
  have nd := g.Y.nd c k h1
  have hj : k.fields[j]? = some f := by
    rw [List.idxOf?_eq_some_iff] at h2
    obtain ⟨hj, e, _⟩ := h2
    rw [List.getElem?_eq_getElem hj]
    exact congrArg some (by simpa using e)
  have hjf : (P.fld c)[j]? = some nm := by rw [P.fld_of h1, List.getElem?_map, hj, Option.map_some, hn]
  have hjl : j < (P.fld c).length := (List.getElem?_eq_some_iff.mp hjf).1
  have h1000 : ((P.fld c).zip vs).length < 1000 := by
    rw [List.length_zip]
    have := nd.2
    omega
  split at h
  · rename_i hlt
    cases h
    refine ⟨k, vs.set j v, h1, List.mem_of_getElem? hj, ?_, ?_, fun W H r q => r.set j q, h1000⟩
    · rw [zip_put nd.1 hjf (by omega), if_pos (by omega)]
    · rw [List.length_set]
      exact hz
  · split at h
    · rename_i he
      cases h
      refine ⟨k, vs ++ [v], h1, List.mem_of_getElem? hj, ?_, ?_, fun W H r q => r.append (.cons q .nil), h1000⟩
      · rw [zip_put nd.1 hjf (by omega), if_neg (by omega)]
      · rw [List.length_append, List.length_singleton]; omega
    · cases h
theorem EnS.upd {i : Nat} {a : Addr} {d e : D} {o : HO} (en : EnS P H0 W H σ ρ) (w : Wd P W H μ) (hd : ρ[i]? = some (.ow d)) (ha : σ[i]? = some (some (.ref a))) (c : Cell P W (upd H a o) a e) :
    Wd P W (upd H a o) μ ∧ EnS P H0 W (upd H a o) σ (ρ.set i (.ow e)) ∧ Keep W H W (upd H a o) ∧ (∀ {W0 : Wo}, Ext W0 H0 W H → Ext W0 H0 W (upd H a o)) := by
  obtain ⟨b, hb, ow⟩ := en.en.ow i d hd
  rw [ha] at hb
  cases hb
  obtain ⟨w2, o2, kp⟩ := ow.write w c
  have h0 := en.fr i d a hd ha
  refine ⟨w2, ?_, kp, fun x => x.updNew h0⟩
  have hs : σ.set i (some (.ref a)) = σ := by
    apply List.ext_getElem?
    intro j
    by_cases hj : i = j
    · subst hj
      rw [List.getElem?_set_self (List.getElem?_eq_some_iff.mp ha).1, ha]
    · rw [List.getElem?_set_ne hj]
  have ne : ∀ (j : Nat) (e : D), i ≠ j → ρ[j]? = some (.ow e) → σ[j]? ≠ some (some (.ref a)) := fun j e hj h1 h2 => hj (en.en.ne i j d e a hd h1 ha h2)
  refine ⟨⟨by rw [List.length_set]; exact en.en.len, fun j e h => ?_, fun j e h => ?_, fun j j' d' e' b h1 h2 h3 h4 => ?_⟩, fun j e' b h1 h2 => ?_⟩
  · rcases set_cases h with ⟨_, q, _⟩ | ⟨hj, h⟩
    · cases q
    · obtain ⟨v, q1, q2⟩ := en.en.fz j e h
      exact ⟨v, q1, q2.keep kp⟩
  · rcases set_cases h with ⟨q1, q, hl⟩ | ⟨hj, h⟩
    · cases q
      subst q1
      exact ⟨a, ha, o2⟩
    · obtain ⟨b, q1, q2⟩ := en.en.ow j e h
      have hb : b ≠ a := fun z => ne j e hj h (z ▸ q1)
      exact ⟨b, q1, q2.c.keep kp fun u hu => by rw [upd_ne hb]; exact hu, q2.nf, q2.nc⟩
  · have key : ∀ {j : Nat} {d' : D}, (ρ.set i (.ow e))[j]? = some (.ow d') → ∃ d'', ρ[j]? = some (.ow d'') := fun h => by
      rcases set_cases h with ⟨q1, q, hl⟩ | ⟨hj, h⟩
      · subst q1; exact ⟨d, hd⟩
      · exact ⟨_, h⟩
    obtain ⟨e1, h1⟩ := key h1
    obtain ⟨e2, h2⟩ := key h2
    exact en.en.ne j j' e1 e2 b h1 h2 h3 h4
  · rcases set_cases h1 with ⟨q1, q, hl⟩ | ⟨hj, h1⟩
    · subst q1
      rw [ha] at h2
      cases h2
      exact h0
    · exact en.fr j e' b h1 h2
theorem s_setA (g : GX P n cal mak G X) {i f : Nat} {e : E} {x nm : Str} {p1 p2 p3 : Pos} {v : Expr} (h1 : G.N[i]? = some x) (h2 : visB G.sc x = true) (h3 : nmOk x = true) (h4 : G.T.names[f]? = some nm) (h5 : notLc v = true) (h : PE X v (tE P cal mak e)) :
    PS X (.Assign [.Attribute (.Name x p1) nm p2] v p3) (tS P cal mak (.setA i f e)) := by
  obtain ⟨d1, d2, _⟩ := nmOk_of h3
  rw [g.T] at h4
  have hnm : P.nm f = nm := by unfold Pl.nm; rw [List.getD_eq_getElem?_getD, h4]; rfl
  refine psI (ps_fld (pe_var (i := i) (by rw [g.N]; exact h1) (g.vis h2) d1 d2) h (lc_swap h5)) fun D σ H ⟨W0, H0, W, ρ, μ, out, x0, w, en, ee, k⟩ => ?_
  unfold ex at ee
  obtain ⟨y, e1, ee⟩ := bind_some' ee
  refine ⟨W, ρ, μ, y.1, y.2, w, en.en, e1, fun v W1 H1 x1 w1 r1 => ?_⟩
  have en1 := en.ext x1 w
  have x01 := x0.tr x1 w
  have kp1 := x1.keep w
  split at ee
  · rename_i c xs hd
    obtain ⟨ys, e2, ee⟩ := bind_some' ee
    cases ee
    obtain ⟨a, ha, ow⟩ := en1.en.ow i _ hd
    cases ow.c with
    | obj hc hh z rr =>
      rename_i dx vs
      obtain ⟨kk, vs', q1, q2, q3, q4, q5, q6⟩ := put_ok g (v := v) hnm e2 rr.len z
      refine ⟨.ref a, ha, a, P.ca c, dx, _, rfl, hh, g.K ▸ g.Y.cl c kk q1, g.K ▸ hnm ▸ g.Y.na c kk f q1 q2, q6, ?_⟩
      rw [q3]
      have kpw : Keep W1 H1 W1 (upd H1 a (.ins (P.ca c) dx ((P.fld c).zip vs'))) := ⟨fun _ h => h, fun b u ff h => by rw [upd_ne (show b ≠ a from fun z => ow.nf (z ▸ ff))]; exact h, [], by simp⟩
      obtain ⟨w2, en2, kp2, x2⟩ := en1.upd w1 hd ha (.obj hc upd_same q4 ((q5 _ _ (rr.keep kpw) (r1.keep kpw))))
      exact k _ _ _ (x2 x01) (kp1.trans kp2) w2 en2 rfl
  · rename_i m hd
    split at ee
    · rename_i c xs hc
      obtain ⟨ys, e2, ee⟩ := bind_some' ee
      cases ee
      obtain ⟨a', ha, ra⟩ := en1.en.fz i _ hd
      cases ra with
      | @cell _ a hm =>
        cases w1.cell m a _ hm hc with
        | obj hcc hh z rr =>
          rename_i dx vs
          obtain ⟨kk, vs', q1, q2, q3, q4, q5, q6⟩ := put_ok g (v := v) hnm e2 rr.len z
          refine ⟨.ref a, ha, a, P.ca c, dx, _, rfl, hh, g.K ▸ g.Y.cl c kk q1, g.K ▸ hnm ▸ g.Y.na c kk f q1 q2, q6, ?_⟩
          rw [q3]
          have nf : ¬ W1.F a := w1.nf a (List.mem_of_getElem? hm)
          have kpw : Keep W1 H1 W1 (upd H1 a (.ins (P.ca c) dx ((P.fld c).zip vs'))) := ⟨fun _ h => h, fun b u ff h => by rw [upd_ne (show b ≠ a from fun z => nf (z ▸ ff))]; exact h, [], by simp⟩
          obtain ⟨x2, w2⟩ := w1.write hm (.obj hcc upd_same q4 ((q5 _ _ (rr.keep kpw) (r1.keep kpw))))
          exact k _ _ _ (x01.tr x2 w1) (kp1.trans kpw) w2 (en1.ext x2 w1) rfl
    · cases ee
  · cases ee
theorem s_setIx (g : GX P n cal mak G X) {a kx e : E} {o ix v : Expr} {p1 p2 : Pos} (h4 : notLc v = true) (hix : ixB ix = true) (he : PE X v (tE P cal mak e)) (ha : PE X o (tE P cal mak a)) (hk : PE X ix (tE P cal mak kx)) : PS X (.Assign [.Subscript o ix p1] v p2) (tS P cal mak (.setIx a kx e)) := by
  refine psI (ps_asg he (pg_sub ha hk set_list (fun v => ix_asg hix)) (lc_swap (t := some (.Subscript o ix p1)) (l := p2.line) (env := X.env) h4)) fun D σ H ⟨W0, H0, W, ρ, μ, out, x0, w, en, ee, k⟩ => ?_
  unfold ex at ee
  obtain ⟨x, e1, ee⟩ := bind_some' ee
  obtain ⟨y, e2, ee⟩ := bind_some' ee
  obtain ⟨z, e3, ee⟩ := bind_some' ee
  refine ⟨W, ρ, μ, x.1, x.2, w, en.en, e1, fun v W1 H1 x1 w1 r1 => ⟨W1, ρ, x.2, y.1, y.2, w1, (en.ext x1 w).en, e2, fun u W2 H2 x2 w2 r2 => ⟨W2, ρ, y.2, z.1, z.2, w2, ((en.ext x1 w).ext x2 w1).en, e3, fun t W3 H3 x3 w3 r3 => ?_⟩⟩⟩
  have en3 := ((en.ext x1 w).ext x2 w1).ext x3 w2
  have x03 := ((x0.tr x1 w).tr x2 w1).tr x3 w2
  have kp3 := ((x1.keep w).trans (x2.keep w1)).trans (x3.keep w2)
  split at ee
  · rename_i m j hy hz
    rw [hz] at r3
    cases r3
    rw [hy] at r2
    cases r2 with
    | @cell _ b hm =>
      split at ee
      · rename_i xs hc
        obtain ⟨q, e4, ee⟩ := bind_some' ee
        cases ee
        have hm3 : W3.ι[m]? = some b := by
          obtain ⟨l, el⟩ := x3.pre
          rw [el, List.getElem?_append_left (List.getElem?_eq_some_iff.mp hm).1]
          exact hm
        cases w3.cell m b _ hm3 hc with
        | lst hh z rr =>
          rename_i vs
          refine ⟨b, vs, j, q, rfl, rfl, hh, by rw [rr.len]; exact e4, ?_⟩
          have nf : ¬ W3.F b := w3.nf b (List.mem_of_getElem? hm3)
          have kpw : Keep W3 H3 W3 (upd H3 b (.lst (vs.set q v))) := ⟨fun _ h => h, fun c u ff h => by rw [upd_ne (show c ≠ b from fun z => nf (z ▸ ff))]; exact h, [], by simp⟩
          have rv := ((r1.ext x2 w1).ext x3 w2)
          obtain ⟨x4, w4⟩ := w3.write hm3 (.lst upd_same (by rw [List.length_set]; exact z) ((rr.set q rv).keep kpw))
          exact k _ _ _ (x03.tr x4 w3) (kp3.trans kpw) w4 (en3.ext x4 w3) rfl
      · cases ee
  · cases ee
theorem s_app (g : GX P n cal mak G X) {i : Nat} {e : E} {x nm : Str} {ap cp p1 p2 : Pos} {v : Expr} (hnm : nm = "append") (h1 : G.N[i]? = some x) (h2 : visB G.sc x = true) (h3 : nmOk x = true) (hs : starB v = true) (hl : (ap.endLine == cp.line) = true) (h : PE X v (tE P cal mak e)) :
    PS X (.Expr (.Call (.Attribute (.Name x p1) nm ap) [v] [] cp) p2) (tS P cal mak (.app i e)) := by
  obtain ⟨d1, d2, _⟩ := nmOk_of h3
  subst hnm
  have few : ((backTo cp (starEach [v] X.env)).all (fun x => !x.1) && (backToKw cp (keywordEach [] X.env)).all (fun x => x.1.isSome) && decide ([v].length + ([] : List Keyword).length + (if ([] : List Keyword).isEmpty then 0 else 1) < 30)) = true := by
    rw [star_cons hs]; rfl
  refine psI (ps_expr (pe_bm PySem.F.plainAttrs_list PySem.F.slot_list_append PySem.F.type_list_append mt_append (pe_var (i := i) (pos := p1) (by rw [g.N]; exact h1) (g.vis h2) d1 d2) (pa_cons h pa_nil (star_cons hs)) rfl few hl (star_cons hs) rfl)) fun D σ H ⟨W0, H0, W, ρ, μ, out, x0, w, en, ee, k⟩ => ?_
  unfold ex at ee
  obtain ⟨y, e1, ee⟩ := bind_some' ee
  split at ee
  · rename_i xs hd
    split at ee
    · rename_i hlt
      cases ee
      obtain ⟨a, ha, ow⟩ := en.en.ow i _ hd
      refine ⟨.ref a, ha, ?_, W, ρ, μ, y.1, y.2, w, en.en, e1, fun v W1 H1 x1 w1 r1 => ?_⟩
      · cases ow.c with
        | lst hh z rr => exact .inl ⟨rfl, _, .of hh⟩
      · have en1 := en.ext x1 w
        have ow1 := ow.ext x1 w
        cases ow1.c with
        | lst hh z rr =>
          rename_i vs
          have hlen := rr.len
          refine ⟨a, vs, v, rfl, rfl, hh, by rw [← lim_eq]; omega, ?_⟩
          have kpw : Keep W1 H1 W1 (upd H1 a (.lst (vs ++ [v]))) := ⟨fun _ h => h, fun b u ff h => by rw [upd_ne (show b ≠ a from fun z => ow1.nf (z ▸ ff))]; exact h, [], by simp⟩
          obtain ⟨w2, en2, kp2, x2⟩ := en1.upd w1 hd ha (.lst (ds := xs ++ [y.1]) upd_same (by rw [List.length_append]; show vs.length + 1 ≤ LIM; omega) ((rr.append (.cons r1 .nil)).keep kpw))
          exact k _ _ _ (x2 (x0.tr x1 w)) ((x1.keep w).trans kp2) w2 en2 rfl
    · cases ee
  · rename_i m hd
    split at ee
    · rename_i xs0 xs hc0 hc
      split at ee
      · rename_i hlt
        cases ee
        obtain ⟨v0, ha, ra⟩ := en.en.fz i _ hd
        have ra0 := ra
        cases ra with
        | @cell _ a hm =>
          refine ⟨.ref a, ha, ?_, W, ρ, μ, y.1, y.2, w, en.en, e1, fun v W1 H1 x1 w1 r1 => ?_⟩
          · cases w.cell m a _ hm hc0 with
            | lst hh z rr => exact .inl ⟨rfl, _, .of hh⟩
          · have ra1 := ra0.ext x1 w
            cases ra1 with
            | @cell _ a hm =>
              cases w1.cell m a _ hm hc with
              | lst hh z rr =>
                rename_i vs
                have hlen := rr.len
                refine ⟨a, vs, v, rfl, rfl, hh, by rw [← lim_eq]; omega, ?_⟩
                have nf : ¬ W1.F a := w1.nf a (List.mem_of_getElem? hm)
                have kpw : Keep W1 H1 W1 (upd H1 a (.lst (vs ++ [v]))) := ⟨fun _ h => h, fun b u ff h => by rw [upd_ne (show b ≠ a from fun z => nf (z ▸ ff))]; exact h, [], by simp⟩
                obtain ⟨x4, w4⟩ := w1.write hm (.lst (ds := xs ++ [y.1]) upd_same (by rw [List.length_append]; show vs.length + 1 ≤ LIM; omega) ((rr.append (.cons r1 .nil)).keep kpw))
                exact k _ _ _ ((x0.tr x1 w).tr x4 w1) ((x1.keep w).trans kpw) w4 ((en.ext x1 w).ext x4 w1) rfl
      · cases ee
    · cases ee
  · cases ee
theorem s_for (g : GX P n cal mak G X) {tg : Tg} {it : It} {b : Ss} {t iter : Expr} {body : List Stmt} {pos : Pos} (hz : 0 ∉ tg.slots) (hp : plnB iter = true) (ho : ownI it = false) (hi : PI X t iter (tI P cal mak it)) (hg : PG X t (gTg P.K tg)) (hb : PSs X body (tSs P cal mak b)) :
    PS X (.For t iter body [] pos) (tS P cal mak (.for tg it b)) := by
  have hpass : PassesOwn (model X.prog X.w) X.A X.env X.xe := by rw [g.xe]; exact PassesOwn.never
  refine psI (ps_for hpass g.calm hi hg hb (plain_fold hp)) fun D σ H ⟨W0, H0, W, ρ, μ, out, x0, w, en, ee, k⟩ => ?_
  unfold ex at ee
  obtain ⟨⟨⟨xs, gd⟩, μ1⟩, e1, ee⟩ := bind_some' ee
  simp only at ee
  refine ⟨W, ρ, μ, xs, gd, μ1, w, en.en, e1, fun W1 H1 J oa x1 w1 hoa _ wk hlim => ?_⟩
  cases hoa ho
  generalize hf : (fun (d : EV.D) (ρ : Rho) (μ : Sto) => (bindTg tg d ρ).bind fun ρ' => exs P.T cal mak b ρ' μ) = f at ee
  refine ⟨fun i m σ2 H2 => m = xs.length - i ∧ i ≤ xs.length ∧ ∃ (W2 : Wo) (ρ2 : Rho) (μ2 : Sto), Ext W0 H0 W2 H2 ∧ Keep W1 H1 W2 H2 ∧ Wd P W2 H2 μ2 ∧ EnS P H0 W2 H2 σ2 ρ2 ∧ forL gd f (xs.drop i) ρ2 μ2 = some out ∧ σ2[0]? = σ[0]?,
    ⟨xs.length, by simp, Nat.zero_le _, W1, ρ, μ1, x0.tr x1 w, .refl, w1, en.ext x1 w, by simpa using ee, rfl⟩, ?_⟩
  rintro i m σ2 H2 ⟨rfl, hi1, W2, ρ2, μ2, x2, kp2, w2, en2, hq, z2⟩
  have kk : PostS P W0 H0 W2 H2 σ2 D out := k.mono ((x1.keep w).trans kp2) z2
  by_cases hlt : i < xs.length
  · right
    rw [List.drop_eq_getElem_cons hlt] at hq
    unfold forL at hq
    split at hq
    · rename_i st
      obtain ⟨go, yl⟩ := (wk i W2 H2 μ2 kp2 (fun _ h => nomatch h) w2 st).1 hlt
      obtain ⟨r, hr, hq⟩ := bind_some' hq
      rw [← hf] at hr
      obtain ⟨ρ', hb1, hr⟩ := bind_some' hr
      refine ⟨go, fun σ3 H3 => ∃ (W3 : Wo) (ρ3 : Rho) (μ3 : Sto), Ext W0 H0 W3 H3 ∧ Keep W1 H1 W3 H3 ∧ Wd P W3 H3 μ3 ∧ EnS P H0 W3 H3 σ3 ρ3 ∧ forL gd f (xs.drop (i + 1)) ρ3 μ3 = some out ∧ σ3[0]? = σ[0]?,
        fun σ3 H3 ⟨W3, ρ3, μ3, y1, y2, y3, y4, y5, y6⟩ => ⟨xs.length - (i + 1), by omega, rfl, hlt, W3, ρ3, μ3, y1, y2, y3, y4, y5, y6⟩, fun x H3 hy => ?_⟩
      obtain ⟨W3, d, x3, w3, hd, rx⟩ := yl x H3 hy
      rw [List.getElem?_eq_getElem hlt] at hd
      cases hd
      have en3 := en2.ext x3 w2
      refine bind_ok hb1 rx en3.en fun σ4 en4 wp os => ?_
      have z4 : σ4[0]? = σ2[0]? := by rw [← wipe_get hz, wp, wipe_get hz]
      have en4' := en3.of en4 os
      refine ⟨W0, H0, W3, ρ', μ2, r, x2.tr x3 w2, w3, en4', hr, ?_⟩
      have kp3 := kp2.trans (x3.keep w2)
      cases r with
      | nx ρ5 μ5 => exact fun σ5 W5 H5 x5 kp5 w5 en5 z5 => ⟨W5, ρ5, μ5, x5, kp3.trans kp5, w5, en5, hq, z5.trans (z4.trans z2)⟩
      | rt o d' μ5 =>
        cases hq
        exact kk
    · cases hq
  · left
    have e : i = xs.length := by omega
    subst e
    rw [List.drop_length] at hq
    unfold forL at hq
    split at hq
    · rename_i st
      cases hq
      exact ⟨(wk _ W2 H2 μ2 kp2 (fun _ h => nomatch h) w2 st).2 (Nat.le_refl _), kk σ2 W2 H2 x2 .refl w2 en2 rfl⟩
    · cases hq
mutual
theorem sndS : ∀ (s : S) {G : Ga} {X : Cx} {st : Stmt}, GX P n cal mak G X → chkS G s st = true → PS X st (tS P cal mak s)
  | .set i e, G, X, st, g, h => by
    unfold chkS at h
    split at h
    · obtain ⟨h0, h⟩ := ba h
      obtain ⟨h1, h⟩ := ba h
      obtain ⟨h2, h⟩ := ba h
      obtain ⟨h3, h⟩ := ba h
      obtain ⟨h4, h5⟩ := ba h
      exact s_set g (by simpa using h0) (of_decide_eq_true h1) h2 h3 h4 (sndE e g h5).pe
    · cases h
  | .setO i o, G, X, st, g, h => by
    unfold chkS at h
    split at h
    · obtain ⟨h0, h⟩ := ba h
      obtain ⟨h1, h⟩ := ba h
      obtain ⟨h2, h⟩ := ba h
      obtain ⟨h3, h4⟩ := ba h
      exact s_setO g (by simpa using h0) (of_decide_eq_true h1) h2 h3 (sndO o g h4).2
    · cases h
  | .setT l e, G, X, st, g, h => by
    unfold chkS at h
    split at h
    · obtain ⟨h0, h⟩ := ba h
      obtain ⟨h1, h⟩ := ba h
      obtain ⟨h2, h⟩ := ba h
      obtain ⟨h3, h4⟩ := ba h
      exact s_setT g (by simpa using h0) h1 h2 h3 (sndE e g h4).pe
    · cases h
  | .frz _, G, X, st, g, h => by
    unfold chkS at h
    cases h
  | .setA i f e, G, X, st, g, h => by
    unfold chkS at h
    split at h
    · obtain ⟨h1, h⟩ := ba h
      obtain ⟨h2, h⟩ := ba h
      obtain ⟨h3, h⟩ := ba h
      obtain ⟨h4, h⟩ := ba h
      obtain ⟨h5, h6⟩ := ba h
      exact s_setA g (of_decide_eq_true h1) h2 h3 (of_decide_eq_true h4) h5 (sndE e g h6).pe
    · cases h
  | .setIx a k e, G, X, st, g, h => by
    unfold chkS at h
    split at h
    · obtain ⟨h1, h⟩ := ba h
      obtain ⟨h0, h⟩ := ba h
      obtain ⟨h2, h⟩ := ba h
      obtain ⟨h3, h4⟩ := ba h
      exact s_setIx g h1 h0 (sndE e g h2).pe (sndE a g h3).pe (sndE k g h4).pe
    · cases h
  | .app i e, G, X, st, g, h => by
    unfold chkS at h
    split at h
    · obtain ⟨h0, h⟩ := ba h
      obtain ⟨h1, h⟩ := ba h
      obtain ⟨h2, h⟩ := ba h
      obtain ⟨h3, h⟩ := ba h
      obtain ⟨h4, h⟩ := ba h
      obtain ⟨h5, h6⟩ := ba h
      exact s_app g (of_decide_eq_true h0) (of_decide_eq_true h1) h2 h3 h4 h5 (sndE e g h6).pe
    · cases h
  | .ex e, G, X, st, g, h => by
    unfold chkS at h
    cases st <;> first | (cases h; done) | skip
    obtain ⟨h1, h2⟩ := ba h
    exact s_ex h1 (sndE e g h2).pe
  | .ret e, G, X, st, g, h => by
    unfold chkS at h
    split at h
    · exact s_ret (sndE e g h).pe
    · cases h
  | .retO o, G, X, st, g, h => by
    unfold chkS at h
    split at h
    · exact s_retO (sndO o g h).1
    · cases h
  | .retS i, G, X, st, g, h => by
    unfold chkS at h
    split at h
    · obtain ⟨h1, h⟩ := ba h
      obtain ⟨h2, h3⟩ := ba h
      exact s_retS g (of_decide_eq_true h1) h2 h3
    · cases h
  | .ret0, G, X, st, g, h => by
    unfold chkS at h
    split at h
    · exact s_ret0
    · cases h
  | .iff c a b, G, X, st, g, h => by
    unfold chkS at h
    cases st <;> first | (cases h; done) | skip
    obtain ⟨h1, h⟩ := ba h
    obtain ⟨h2, h3⟩ := ba h
    exact s_iff (sndE c g h1).pt (sndSs a g h2) (sndSs b g h3)
  | .for tg it b, G, X, st, g, h => by
    unfold chkS at h
    split at h
    · obtain ⟨h0, h⟩ := ba h
      obtain ⟨h1, h⟩ := ba h
      obtain ⟨h2, h⟩ := ba h
      obtain ⟨h3, h⟩ := ba h
      obtain ⟨h4, h5⟩ := ba h
      exact s_for g (by simpa using h0) h1 (by simpa using h2) (sndI it g (ba h3).1 (ba h3).2) (pg_tg g h4) (sndSs b g h5)
    · cases h
  | .pas, G, X, st, g, h => by
    unfold chkS at h
    cases st <;> first | (cases h; done) | skip
    exact s_pas
  | .bad, G, X, st, g, h => s_bad
theorem sndSs : ∀ (b : Ss) {G : Ga} {X : Cx} {xs : List Stmt}, GX P n cal mak G X → chkSs G b xs = true → PSs X xs (tSs P cal mak b)
  | .nil, G, X, xs, g, h => by
    unfold chkSs at h
    cases xs with
    | nil => exact s_nil
    | cons _ _ => cases h
  | .cons s b, G, X, xs, g, h => by
    unfold chkSs at h
    split at h
    · exact s_frz (sndSs b g h)
    · split at h
      · obtain ⟨h1, h2⟩ := ba h
        exact s_cons (sndS s g h1) (sndSs b g h2)
      · cases h
end
end
end EV

set_option Elab.async false
set_option linter.all false
set_option maxRecDepth 100000
set_option maxHeartbeats 1000000
namespace EV
open PySem PySem.Spec PyProof.Rows L2
/-! binding -/
theorem lk_zip {α : Type} : ∀ {ps : List Str} {us : List α} {i : Nat} {n : Str} {u : α}, ps.Nodup → ps[i]? = some n → us[i]? = some u → (ps.zip us).lookup n = some u
  | [], _, _, _, _, _, h, _ => by simp at h
  | _ :: _, [], _, _, _, _, _, h => by simp at h
  | p :: ps, v :: us, 0, n, u, nd, h1, h2 => by
    simp at h1 h2; subst h1; subst h2
    simp [List.lookup]
  | p :: ps, v :: us, i + 1, n, u, nd, h1, h2 => by
    simp at h1 h2
    have hne : n ≠ p := fun z => (List.nodup_cons.mp nd).1 (z ▸ List.mem_of_getElem? h1)
    rw [List.zip_cons_cons, List.lookup_cons]
    rw [show (n == p) = false from by simpa using hne]
    exact lk_zip (List.nodup_cons.mp nd).2 h1 h2
theorem lk_mem {α : Type} {ps : List Str} {us : List α} {n : Str} (nd : ps.Nodup) (hl : us.length = ps.length) (h : n ∈ ps) : ((ps.zip us).lookup n).isSome = true := by
  obtain ⟨i, hi⟩ := List.mem_iff_getElem?.mp h
  have : i < us.length := by rw [hl]; exact (List.getElem?_eq_some_iff.mp hi).1
  rw [lk_zip nd hi (List.getElem?_eq_getElem this)]
  rfl
theorem fm_zip {α : Type} {ps : List Str} {us : List α} (nd : ps.Nodup) (hl : us.length = ps.length) : (ps.filterMap fun n => ((ps.zip us).lookup n).map (n, ·)) = ps.zip us := by
  have key : ∀ (qs : List Str) (vs : List α) (full : List (Str × α)), vs.length = qs.length → (∀ (i : Nat) (n : Str) (u : α), qs[i]? = some n → vs[i]? = some u → full.lookup n = some u) → (qs.filterMap fun n => (full.lookup n).map (n, ·)) = qs.zip vs := by
    intro qs
    induction qs with
    | nil => intro vs full _ _; rfl
    | cons q qs ih =>
      intro vs full hl h
      cases vs with
      | nil => cases hl
      | cons v vs =>
        rw [List.filterMap_cons, h 0 q v rfl rfl]
        show (q, v) :: _ = (q, v) :: _
        rw [ih vs full (by simpa using hl) fun i n u h1 h2 => h (i + 1) n u h1 h2]
        rfl
  exact key ps us _ hl fun i n u h1 h2 => lk_zip nd h1 h2
theorem bind_plain {x qual : Str} {body : List Stmt} {sc : Scope} {kV doc pm cdv ct : Value} {an : Option Addr} {args : List Arg} {kd : List (Option Expr)} {df : List Expr} {us : List Value} (nd : (args.map (·.arg)).Nodup) (hl : us.length = (args.map (·.arg)).length) :
    bindArgs (PySem.W.fnOf x qual ⟨[], args, none, [], kd, none, df⟩ body sc .none kV doc pm an cdv ct) ⟨us, []⟩ = pure ((args.map (·.arg)).zip us) := by
  unfold bindArgs PySem.W.fnOf
  simp only [List.map_nil, List.nil_append]
  generalize args.map (·.arg) = ps at nd hl ⊢
  have e1 : (ps.filter fun n => ((ps.zip us).lookup n).isNone) = [] := by
    rw [List.filter_eq_nil_iff]
    intro a ha
    have := lk_mem nd hl ha
    cases h : (ps.zip us).lookup a with
    | none => rw [h] at this; cases this
    | some _ => simp
  have e2 := fm_zip nd hl
  have e3 : notAStandIn Value.none = pure () := rfl
  simp [seqItems?, hl, e1, e2, e3]

/-! a def -/
def okFn (T : Tab) (F : Fn) : Bool :=
  decide (F.d.scope.kind = .function) && (!F.d.scope.isCoroutine && (!F.d.scope.isGenerator && (decide F.N.Nodup && (decide (F.N.take F.ps.length = F.ps) && (F.ps.all (locB F.d.scope) && (F.d.scope.names.all (fun y => decide (y.2 ≠ .free)) &&
    ((match F.d.params with
      | ⟨[], args, none, [], _, none, _⟩ => decide (args.map (·.arg) = F.ps)
      | _ => false) && chkSs ⟨T, F.N, F.d.scope, fun _ => true⟩ F.code F.d.body)))))))
structure OkFn (T : Tab) (F : Fn) : Prop where
  sc : FnScope F.N F.ps F.d.scope
  par : ∃ args kd df, F.d.params = ⟨[], args, none, [], kd, none, df⟩ ∧ args.map (·.arg) = F.ps
  body : chkSs ⟨T, F.N, F.d.scope, fun _ => true⟩ F.code F.d.body = true
theorem okFn_of {T : Tab} {F : Fn} (h : okFn T F = true) : OkFn T F := by
  unfold okFn at h
  obtain ⟨h1, h⟩ := ba h
  obtain ⟨h2, h⟩ := ba h
  obtain ⟨h3, h⟩ := ba h
  obtain ⟨h4, h⟩ := ba h
  obtain ⟨h5, h⟩ := ba h
  obtain ⟨h6, h⟩ := ba h
  obtain ⟨h7, h⟩ := ba h
  obtain ⟨h8, h9⟩ := ba h
  refine ⟨⟨of_decide_eq_true h1, by simpa using h2, by simpa using h3, of_decide_eq_true h4, of_decide_eq_true h5, fun x hx => loc_of (List.all_eq_true.mp h6 x hx), fun y hy => of_decide_eq_true (List.all_eq_true.mp h7 y hy)⟩, ?_, h9⟩
  generalize F.d.params = q at h8 ⊢
  split at h8
  · exact ⟨_, _, _, rfl, of_decide_eq_true h8⟩
  · cases h8
theorem OkFn.ndps {T : Tab} {F : Fn} (o : OkFn T F) : F.ps.Nodup := by rw [← o.sc.pre]; exact o.sc.nd.sublist (List.take_sublist _ _)
theorem OkFn.len {T : Tab} {F : Fn} (o : OkFn T F) : F.ps.length ≤ F.N.length := by have := congrArg List.length o.sc.pre; rw [List.length_take] at this; omega
section
variable {P : Pl} {Pr : Program} {w : World} {mg : Str → Option Value} {base : Heap}
theorem OkFn.binds {F : Fn} {f : Addr} {fd : FuncData} (o : OkFn P.T F) (h : FunD P.K F.d.name F.d.qual F.d.params F.d.body F.d.scope [] [] f fd) : Binds P.K fd F.ps [] := by
  obtain ⟨args, kd, df, e1, e2⟩ := o.par
  have nd := o.ndps
  refine h.bindsN fun kV doc pm an cdv ct us hl => ?_
  rw [e1, ← e2]
  rw [← e2] at nd hl
  exact bind_plain nd hl
/-- all calls of depth n are as said -/
structure Lvl (P : Pl) (Pr : Program) (w : World) (mg : Str → Option Value) (base : Heap) (m : Nat) : Prop where
  cal : ∀ (f : Nat) (F : Fn), P.T.fns[f]? = some F → ∀ fd, FunD P.K F.d.name F.d.qual F.d.params F.d.body F.d.scope [] [] (P.fa f) fd → FnOk Pr w P.K mg base CX0 (2 * m) (P.fa f) fd F.ps (spF P F.ps.length (sem P.T m).1 f) ∧ Binds P.K fd F.ps []
  mak : ∀ (c : Nat) (k : Cl) (F : Fn), P.T.cls[c]? = some k → P.T.fns[k.init]? = some F → ∃ fd, FnOk Pr w P.K mg base CX0 (2 * m) (P.fa k.init) fd F.ps (spM P F.ps.length (sem P.T m).2 c) ∧ Binds P.K fd F.ps []
theorem calL_sem (m : Nat) (f : Nat) (F : Fn) (ds : List D) (μ : Sto) (r : (Bool × D) × Sto) (h : P.T.fns[f]? = some F) (e : (sem P.T m).1 f ds μ = some r) : ds.length = F.ps.length := by
  cases m with
  | zero => cases e
  | succ m =>
    have e : (P.T.fns[f]?).bind (fun F => runF P.T (sem P.T m).1 (sem P.T m).2 F ds μ) = some r := e
    rw [h] at e
    have e : runF P.T (sem P.T m).1 (sem P.T m).2 F ds μ = some r := e
    unfold runF at e
    split at e
    · rename_i hc; exact hc.1
    · cases e
theorem makL_sem (m : Nat) (c : Nat) (k : Cl) (F : Fn) (ds : List D) (μ : Sto) (r : D × Sto) (h1 : P.T.cls[c]? = some k) (h2 : P.T.fns[k.init]? = some F) (e : (sem P.T m).2 c ds μ = some r) : ds.length + 1 = F.ps.length := by
  cases m with
  | zero => cases e
  | succ m =>
    have e : mkC P.T (sem P.T m).1 (sem P.T m).2 c ds μ = some r := e
    unfold mkC at e
    rw [h1] at e
    have e : (P.T.fns[k.init]?).bind (fun F => runI P.T (sem P.T m).1 (sem P.T m).2 F c ds μ) = some r := e
    rw [h2] at e
    have e : runI P.T (sem P.T m).1 (sem P.T m).2 F c ds μ = some r := e
    unfold runI at e
    split at e
    · rename_i hc; exact hc.1
    · cases e
theorem gx_of {m : Nat} (L : Lvl P Pr w mg base m) (Y : Facts P mg) (fr : ∀ x ∈ bltNames, mg x = none) {F : Fn} (o : OkFn P.T F) {f : Addr} {cdv : Value} {A : Around} {outer : List PySem.Env} {s : Shared} {H : Hp} {E : XK}
    (hr : Room (2 * m + 1) (A.deeper (envOfC F.d.qual F.d.scope s.heap.objs.size f cdv))) :
    GX P (2 * m) (sem P.T m).1 (sem P.T m).2 ⟨P.T, F.N, F.d.scope, fun _ => true⟩ (cxOf CX0 Pr w P.K mg base F.N F.d.qual F.d.scope f cdv A outer s H E).nox where
  K := rfl
  T := rfl
  N := rfl
  nd := o.sc.nd
  sc := rfl
  kind := o.sc.kind
  calm := rfl
  xe := rfl
  room := hr
  Y := Y
  fr := fr
  st := fun x _ => .inl rfl
  hcal := fun f F h _ => by
    obtain ⟨fd, hf⟩ := Y.fn f F h
    exact ⟨fd, L.cal f F h fd hf⟩
  hmak := fun c k F h1 _ h2 => L.mak c k F h1 h2
  calL := calL_sem m
  makL := makL_sem m
theorem en_start {W : Wo} {H : Hp} {vs : List V} {ds : List D} (r : RepL P W H vs ds) {N : List Str} (h : vs.length ≤ N.length) : En P W H (L2.start N vs) (EV.start N.length ds) := by
  have hl := r.len
  have fz : ∀ (i : Nat) (s : Slot), (EV.start N.length ds)[i]? = some s → (∃ d, s = .fz d ∧ ds[i]? = some d) ∨ s = .un := fun i s e => by
    unfold EV.start at e
    by_cases hi : i < ds.length
    · rw [List.getElem?_append_left (by simpa using hi), List.getElem?_map, List.getElem?_eq_getElem hi] at e
      cases e
      exact .inl ⟨_, rfl, List.getElem?_eq_getElem hi⟩
    · rw [List.getElem?_append_right (by simpa using hi), List.getElem?_replicate] at e
      split at e
      · cases e; exact .inr rfl
      · cases e
  refine ⟨?_, fun i d e => ?_, fun i d e => ?_, fun i j d e a h1 => ?_⟩
  · unfold L2.start EV.start
    simp [hl]
  · rcases fz i _ e with ⟨d', q, hd⟩ | q
    · cases q
      obtain ⟨v, hv, rv⟩ := r.get hd
      refine ⟨v, ?_, rv⟩
      unfold L2.start
      rw [List.getElem?_append_left (by simpa using (List.getElem?_eq_some_iff.mp hv).1), List.getElem?_map, hv]
      rfl
    · cases q
  · rcases fz i _ e with ⟨d', q, hd⟩ | q <;> cases q
  · rcases fz i _ h1 with ⟨d', q, hd⟩ | q <;> cases q
theorem level (Y : Facts P mg) (fr : ∀ x ∈ bltNames, mg x = none) (ok : ∀ (f : Nat) (F : Fn), P.T.fns[f]? = some F → okFn P.T F = true) : ∀ m : Nat, Lvl P Pr w mg base m
  | 0 => by
    refine ⟨fun f F hF fd h => ?_, fun c k F h1 h2 => ?_⟩
    · refine ⟨⟨fun vs H Q E ⟨W, μ, ds, r, hl, _⟩ => hl, fun A outer s H args us vs Q E _ _ _ _ ⟨W, μ, ds, r, _, _, _, e, _⟩ => by cases e⟩, (okFn_of (ok f F hF)).binds h⟩
    · obtain ⟨fd, h⟩ := Y.fn _ F h2
      refine ⟨fd, ⟨fun vs H Q E ⟨W, μ, ds, d, μ', x, dx, args, H0, _, hl, _⟩ => hl, fun A outer s H args us vs Q E _ _ _ _ ⟨W, μ, ds, d, μ', x, dx, args, H0, _, _, _, _, _, _, _, _, e, _⟩ => by cases e⟩, (okFn_of (ok _ F h2)).binds h⟩
  | m + 1 => by
    have L := level Y fr ok m
    refine ⟨fun f F hF fd h => ?_, fun c k F h1 h2 => ?_⟩
    · have o := okFn_of (ok f F hF)
      refine ⟨h.ok o.sc (fun vs H Q E ⟨W, μ, ds, r, hl, _⟩ => hl) fun cdv A outer s H vs Q E hr hsp => ?_, o.binds h⟩
      obtain ⟨W, μ, ds, r, hl, wd, rl, e, k⟩ := hsp
      have g := gx_of L Y fr o (f := P.fa f) (cdv := cdv) (A := A) (outer := outer) (s := s) (H := H) (E := E) hr
      refine ⟨_, (sndSs F.code g o.body).nox, ?_⟩
      have e : (P.T.fns[f]?).bind (fun F => runF P.T (sem P.T m).1 (sem P.T m).2 F ds μ) = some r := e
      rw [hF] at e
      have e : runF P.T (sem P.T m).1 (sem P.T m).2 F ds μ = some r := e
      unfold runF at e
      split at e
      · obtain ⟨out, e1, e2⟩ := bind_some' e
        refine ⟨W, H, W, _, μ, out, .refl, wd, ⟨en_start rl (by rw [hl]; exact o.len), fun i d a h1 => ?_⟩, e1, ?_⟩
        · exfalso
          have : ∀ s ∈ EV.start F.N.length ds, s ≠ .ow d := fun s hs z => by
            subst z
            unfold EV.start at hs
            simp at hs
          exact this _ (List.mem_of_getElem? h1) rfl
        · cases out with
          | nx ρ' μ' =>
            cases e2
            exact fun σ' W' H' x kp w' en' _ => k .non W' H' x w' .non
          | rt o d μ' =>
            cases e2
            exact fun v W' H' x w' rr => k v W' H' x w' rr
      · cases e
    · obtain ⟨fd, h⟩ := Y.fn _ F h2
      have o := okFn_of (ok _ F h2)
      refine ⟨fd, h.ok o.sc (fun vs H Q E ⟨W, μ, ds, d, μ', x, dx, args, H0, _, hl, _⟩ => hl) fun cdv A outer s H vs Q E hr hsp => ?_, o.binds h⟩
      obtain ⟨W, μ, ds, d, μ', x, dx, args, H0, rfl, hl, rfl, hx, hdx, ne, wd, rl, e, kq⟩ := hsp
      have g := gx_of L Y fr o (f := P.fa k.init) (cdv := cdv) (A := A) (outer := outer) (s := s) (H := (upd (upd H0 dx (.own x)) x (.ins (P.ca c) dx []))) (E := E) hr
      refine ⟨_, (sndSs F.code g o.body).nox, ?_⟩
      have e : mkC P.T (sem P.T m).1 (sem P.T m).2 c ds μ = some (d, μ') := e
      unfold mkC at e
      rw [h1] at e
      have e : (P.T.fns[k.init]?).bind (fun F => runI P.T (sem P.T m).1 (sem P.T m).2 F c ds μ) = some (d, μ') := e
      rw [h2] at e
      have e : runI P.T (sem P.T m).1 (sem P.T m).2 F c ds μ = some (d, μ') := e
      unfold runI at e
      split at e
      · obtain ⟨out, e1, e2⟩ := bind_some' e
        obtain ⟨x1, w1⟩ := addO (o := .own x) wd hdx
        have hx1 : (upd H0 dx (.own x)) x = none := by rw [upd_ne (Ne.symm ne)]; exact hx
        obtain ⟨x2, w2⟩ := addO (o := .ins (P.ca c) dx []) w1 hx1
        have x3 := x1.tr x2 w1
        have rl3 := rl.keep (x3.keep wd)
        have en0 := en_start (.cons .non rl3) (N := F.N) (by rw [List.length_cons] at hl ⊢; rw [hl]; exact o.len)
        have es0 : EnS P H0 W _ _ _ := ⟨en0, fun i d a h1 => by
          exfalso
          have : ∀ s ∈ EV.start F.N.length (D.non :: ds), s ≠ .ow d := fun s hs z => by
            subst z
            unfold EV.start at hs
            simp at hs
          exact this _ (List.mem_of_getElem? h1) rfl⟩
        have own : Own P W (upd (upd H0 dx (.own x)) x (.ins (P.ca c) dx [])) x (.obj c []) := ⟨.obj (vs := []) (by rw [h1]; rfl) (by rw [upd_same, List.zip_nil_right]) (Nat.zero_le _) .nil, (wd.notp hx).1, (wd.notp hx).2⟩
        have es := es0.setO (i := 0) own hx fun j e _ hj => by
          exfalso
          have : ∀ s ∈ EV.start F.N.length (D.non :: ds), s ≠ .ow e := fun s hs z => by
            subst z
            unfold EV.start at hs
            simp at hs
          exact this _ (List.mem_of_getElem? hj) rfl
        refine ⟨W, H0, W, _, μ, out, x3, w2, es, e1, ?_⟩
        cases out with
        | nx ρ' μ2 =>
          intro σ' W' H' x' kp w' en' z
          have hz : σ'[0]? = some (some (.ref x)) := z
          have e2 : (match (ρ'[0]? : Option Slot) with
            | some (.ow d) => some (d, μ2)
            | some (.fz d) => some (d, μ2)
            | _ => none) = some (d, μ') := e2
          split at e2
          · rename_i d' hd
            cases e2
            obtain ⟨a, ha, ow⟩ := en'.en.ow 0 _ hd
            rw [hz] at ha
            cases ha
            obtain ⟨w5, r5, _⟩ := ow.freeze w'
            exact kq _ _ (x'.addF hx) w5 r5
          · rename_i d' hd
            cases e2
            obtain ⟨v, hv, rv⟩ := en'.en.fz 0 _ hd
            rw [hz] at hv
            cases hv
            exact kq _ _ x' w' rv
          · cases e2
        | rt o d μ' => cases e2
      · cases e
end
end EV

set_option Elab.async false
set_option linter.all false
set_option maxRecDepth 100000
set_option maxHeartbeats 1000000
namespace EV
open PySem PySem.Spec PyProof.Rows L2
/-! what the head shows -/
def vOf : Value → V
  | .none => .non
  | .bool b => .bl b
  | .int i _ => .int i
  | .str s _ => .str s
  | .ref a => .ref a
  | _ => .non
def conB (K : PySem.W.Frag) : Nat → Value → D → Bool
  | 0, _, _ => false
  | n + 1, u, d => He.relB (vOf u) u && (match d with
    | .non => decide (vOf u = .non)
    | .bl b => decide (vOf u = .bl b)
    | .int i => decide (vOf u = .int i)
    | .str s => decide (vOf u = .str s) && sok s
    | .tup ds => (match vOf u with
      | .ref a => (match K.lookup a with
        | some ⟨.type c, _, .seq its _, _⟩ => decide (c = "tuple") && (decide (its.size ≤ LIM) && (decide (its.size = ds.length) && (its.toList.zip ds).all fun p => conB K n p.1 p.2))
        | _ => false)
      | _ => false)
    | .lst ds => (match vOf u with
      | .ref a => (match K.lookup a with
        | some ⟨.type c, none, .seq its _, _⟩ => decide (c = "list") && (decide (its.size ≤ LIM) && (decide (its.size = ds.length) && (its.toList.zip ds).all fun p => conB K n p.1 p.2))
        | _ => false)
      | _ => false)
    | _ => false)
section
variable {K : PySem.W.Frag}
def fnB (K : PySem.W.Frag) (F : Fn) : Bool := F.d.dfl.isEmpty && (F.d.kwd.isEmpty && (match F.d.at_.2 with
    | none => He.eqO (PySem.W.nsIn K mainGlobals F.d.at_.1) (some (some (.ref (He.fAd K F.d.at_))))
    | some _ => true))
def clB (K : PySem.W.Frag) (T : Tab) (k : Cl) : Bool := He.eqO (PySem.W.nsIn K mainGlobals k.name) (some (some (.ref (He.ga K k.name)))) && ((He.Fa.cls k.name).ok K && ((k.fields.all fun f => (He.Fa.noat k.name ((⟨K, T⟩ : Pl).nm f)).ok K) &&
    (decide (k.fields.map (⟨K, T⟩ : Pl).nm).Nodup && (decide (k.fields.length ≤ 100) && ((He.Fa.mkr k.name).ok K && ((match T.fns[k.init]? with
      | some F => decide (He.fAd K F.d.at_ = He.ma K (He.ga K k.name) "__init__")
      | none => false) &&
    (He.eqO (PySem.W.findIn K (.ref (He.ga K k.name)) "__class__") (some (some (.builtin "object.__class__"))) && (decide (PySem.W.mroIn K (He.ga K k.name) (.type "object") = some true) &&
    (He.eqO (PySem.W.specialIn K (.builtin "object.__class__") "__get__") (some (some (.builtin "getset_descriptor.__get__"))) && (decide (PySem.W.takesIn K (.builtin "object.__class__") = some true) &&
    (((T.cls.zipIdx).all fun q => decide (PySem.W.kitOne K (.ref (He.ga K k.name)) (.ref (He.ga K q.1.name)) = some (k.isa.contains q.2))) &&
    (tyNames.all fun n => decide (PySem.W.kitOne K (.type n) (.ref (He.ga K k.name)) = some false) && decide (PySem.W.kitOne K (.ref (He.ga K k.name)) (.type n) = some false)))))))))))))
def okB (T : Tab) (K : PySem.W.Frag) : Bool := (T.fns.all (fnB K)) && ((T.cls.all (clB K T)) &&
  ((T.con.all fun q => match PySem.W.nsIn K mainGlobals q.1 with
    | some (some u) => conB K 6 u q.2
    | _ => false) && bltNames.all fun x => He.eqO (PySem.W.nsIn K mainGlobals x) (some none)))
theorem conB_ok {T : Tab} : ∀ {n : Nat} {u : Value} {d : D}, conB K n u d = true → RelV (vOf u) u ∧ ∀ W H, Rep ⟨K, T⟩ W H (vOf u) d
  | 0, _, _, h => by cases h
  | n + 1, u, d, h => by
    unfold conB at h
    obtain ⟨h1, h2⟩ := ba h
    refine ⟨He.relB_ok h1, ?_⟩
    have many : ∀ {us : List Value} {ds : List D}, us.length = ds.length → ((us.zip ds).all fun p => conB K n p.1 p.2) = true → Vals (us.map vOf) us ∧ ∀ W H, RepL ⟨K, T⟩ W H (us.map vOf) ds := by
      intro us
      induction us with
      | nil => intro ds hl _; cases ds with
        | nil => exact ⟨.nil, fun W H => .nil⟩
        | cons _ _ => cases hl
      | cons v us ih => intro ds hl ha; cases ds with
        | nil => cases hl
        | cons e ds =>
          rw [List.zip_cons_cons, List.all_cons] at ha
          obtain ⟨a1, a2⟩ := ba ha
          obtain ⟨b1, b2⟩ := conB_ok (T := T) a1
          obtain ⟨c1, c2⟩ := ih (by simpa using hl) a2
          exact ⟨.cons b1 c1, fun W H => .cons (b2 W H) (c2 W H)⟩
    split at h2
    · rw [of_decide_eq_true h2]; exact fun W H => .non
    · rw [of_decide_eq_true h2]; exact fun W H => .bl _
    · rw [of_decide_eq_true h2]; exact fun W H => .int _
    · obtain ⟨h3, h4⟩ := ba h2
      rw [of_decide_eq_true h3]; exact fun W H => .str _ h4
    · split at h2
      · rename_i a ha
        rw [ha]
        split at h2
        · rename_i c od its nn sl hk
          obtain ⟨h3, h2⟩ := ba h2
          obtain ⟨h4, h2⟩ := ba h2
          obtain ⟨h5, h2⟩ := ba h2
          obtain ⟨m1, m2⟩ := many (by simpa using of_decide_eq_true h5) h2
          have sq : ∀ H, SqT K H a (its.toList.map vOf) := fun H => .inr ⟨_, its, nn, hk, by rw [of_decide_eq_true h3], rfl, by rw [← lim_eq]; exact of_decide_eq_true h4, m1⟩
          exact fun W H => .tup (sq H) (.inr sq) (by rw [List.length_map]; exact of_decide_eq_true h4) (m2 W H)
        · cases h2
      · cases h2
    · split at h2
      · rename_i a ha
        rw [ha]
        split at h2
        · rename_i c its nn sl hk
          obtain ⟨h3, h2⟩ := ba h2
          obtain ⟨h4, h2⟩ := ba h2
          obtain ⟨h5, h2⟩ := ba h2
          obtain ⟨m1, m2⟩ := many (by simpa using of_decide_eq_true h5) h2
          have sq : ∀ H, SqL K H a (its.toList.map vOf) := fun H => .inr ⟨_, its, nn, hk, by rw [of_decide_eq_true h3], rfl, rfl, by rw [← lim_eq]; exact of_decide_eq_true h4, m1⟩
          exact fun W H => .lst (sq H) (.inr sq) (by rw [List.length_map]; exact of_decide_eq_true h4) (m2 W H)
        · cases h2
      · cases h2
    · cases h2
theorem ca_of {T : Tab} {c : Nat} {k : Cl} (h : T.cls[c]? = some k) : (⟨K, T⟩ : Pl).ca c = He.ga K k.name := by unfold Pl.ca; simp only [h]
theorem fa_of {T : Tab} {f : Nat} {F : Fn} (h : T.fns[f]? = some F) : (⟨K, T⟩ : Pl).fa f = He.fAd K F.d.at_ := by unfold Pl.fa; simp only [h]
theorem fld_of {T : Tab} {c : Nat} {k : Cl} (h : T.cls[c]? = some k) : (⟨K, T⟩ : Pl).fld c = k.fields.map (⟨K, T⟩ : Pl).nm := by unfold Pl.fld; simp only [h]
theorem facts_of {T : Tab} {h : Heap} {mg : Str → Option Value} {w : World} (X : K.In h) (G : h.Ns mainGlobals mg) (c : He.SaysX [] (T.fns.map (·.d)) [] [] (okB T) w h K) : Facts ⟨K, T⟩ mg ∧ ∀ x ∈ bltNames, mg x = none := by
  have cd : He.SaysD [] (T.fns.map (·.d)) K := congrArg (fun z : He.AlT => z.1) c.t
  have m := c.more
  unfold okB at m
  obtain ⟨m1, m⟩ := ba m
  obtain ⟨m2, m⟩ := ba m
  obtain ⟨m3, m4⟩ := ba m
  have fall := fun {f : Nat} {F : Fn} (e : T.fns[f]? = some F) => List.all_eq_true.mp m1 F (List.mem_of_getElem? e)
  have call := fun {f : Nat} {k : Cl} (e : T.cls[f]? = some k) => List.all_eq_true.mp m2 k (List.mem_of_getElem? e)
  refine ⟨?_, fun x hx => PySem.W.mg_none_of X G (He.eqO_ok (List.all_eq_true.mp m4 x hx))⟩
  refine ⟨fun f F e => ?_, fun f F x e ex => ?_, fun i k e => ?_, fun i k e => ?_, fun i k f e hf => ?_, fun i k e => ?_, fun i k e => ?_, fun i k e => ?_, fun i i' k k' e e' => ?_, fun i k n e hn => ?_, fun i k n e hn => ?_, fun g x d e => ?_⟩
  · obtain ⟨q1, q⟩ := ba (fall e)
    obtain ⟨q2, q3⟩ := ba q
    obtain ⟨fd, hfd⟩ := cd.def_ f (d := F.d) (by rw [List.getElem?_map, e]; rfl)
    refine ⟨fd, ?_⟩
    have e1 : F.d.dvs K = [] := by unfold He.DefD.dvs; rw [List.isEmpty_iff.mp q1]; rfl
    have e2 : F.d.kws K = [] := by unfold He.DefD.kws; rw [List.isEmpty_iff.mp q2]; rfl
    rw [e1, e2] at hfd
    rw [fa_of e]
    exact hfd
  · obtain ⟨q1, q⟩ := ba (fall e)
    obtain ⟨q2, q3⟩ := ba q
    rw [ex] at q3
    rw [fa_of e, ex]
    exact PySem.W.mg_of X G (He.eqO_ok q3)
  · obtain ⟨q1, q⟩ := ba (call e)
    rw [ca_of e]
    exact PySem.W.mg_of X G (He.eqO_ok q1)
  · obtain ⟨q1, q⟩ := ba (call e)
    obtain ⟨q2, q⟩ := ba q
    rw [ca_of e]
    exact He.cls_ok q2
  · obtain ⟨q1, q⟩ := ba (call e)
    obtain ⟨q2, q⟩ := ba q
    obtain ⟨q3, q⟩ := ba q
    rw [ca_of e]
    exact He.noat_ok (List.all_eq_true.mp q3 f hf)
  · obtain ⟨q1, q⟩ := ba (call e)
    obtain ⟨q2, q⟩ := ba q
    obtain ⟨q3, q⟩ := ba q
    obtain ⟨q4, q⟩ := ba q
    obtain ⟨q5, q⟩ := ba q
    rw [fld_of e]
    exact ⟨of_decide_eq_true q4, by rw [List.length_map]; exact of_decide_eq_true q5⟩
  · obtain ⟨q1, q⟩ := ba (call e)
    obtain ⟨q2, q⟩ := ba q
    obtain ⟨q3, q⟩ := ba q
    obtain ⟨q4, q⟩ := ba q
    obtain ⟨q5, q⟩ := ba q
    obtain ⟨q6, q⟩ := ba q
    obtain ⟨q7, q⟩ := ba q
    cases hF : T.fns[k.init]? with
    | none => simp only [hF] at q7; cases q7
    | some F =>
      simp only [hF] at q7
      rw [ca_of e, fa_of hF, of_decide_eq_true q7]
      exact He.mkr_ok q6
  · obtain ⟨q1, q⟩ := ba (call e)
    obtain ⟨q2, q⟩ := ba q
    obtain ⟨q3, q⟩ := ba q
    obtain ⟨q4, q⟩ := ba q
    obtain ⟨q5, q⟩ := ba q
    obtain ⟨q6, q⟩ := ba q
    obtain ⟨q7, q⟩ := ba q
    obtain ⟨q8, q⟩ := ba q
    obtain ⟨q9, q⟩ := ba q
    obtain ⟨q10, q⟩ := ba q
    obtain ⟨q11, q⟩ := ba q
    rw [ca_of e]
    exact ⟨He.eqO_ok q8, of_decide_eq_true q9, He.eqO_ok q10, of_decide_eq_true q11⟩
  · obtain ⟨q1, q⟩ := ba (call e)
    obtain ⟨q2, q⟩ := ba q
    obtain ⟨q3, q⟩ := ba q
    obtain ⟨q4, q⟩ := ba q
    obtain ⟨q5, q⟩ := ba q
    obtain ⟨q6, q⟩ := ba q
    obtain ⟨q7, q⟩ := ba q
    obtain ⟨q8, q⟩ := ba q
    obtain ⟨q9, q⟩ := ba q
    obtain ⟨q10, q⟩ := ba q
    obtain ⟨q11, q⟩ := ba q
    obtain ⟨q12, q13⟩ := ba q
    rw [ca_of e, ca_of e']
    exact of_decide_eq_true (List.all_eq_true.mp q12 (k', i') (by rw [List.mem_zipIdx_iff_getElem?]; exact e'))
  · obtain ⟨q1, q⟩ := ba (call e)
    obtain ⟨q2, q⟩ := ba q
    obtain ⟨q3, q⟩ := ba q
    obtain ⟨q4, q⟩ := ba q
    obtain ⟨q5, q⟩ := ba q
    obtain ⟨q6, q⟩ := ba q
    obtain ⟨q7, q⟩ := ba q
    obtain ⟨q8, q⟩ := ba q
    obtain ⟨q9, q⟩ := ba q
    obtain ⟨q10, q⟩ := ba q
    obtain ⟨q11, q⟩ := ba q
    obtain ⟨q12, q13⟩ := ba q
    rw [ca_of e]
    exact of_decide_eq_true (ba (List.all_eq_true.mp q13 n hn)).1
  · obtain ⟨q1, q⟩ := ba (call e)
    obtain ⟨q2, q⟩ := ba q
    obtain ⟨q3, q⟩ := ba q
    obtain ⟨q4, q⟩ := ba q
    obtain ⟨q5, q⟩ := ba q
    obtain ⟨q6, q⟩ := ba q
    obtain ⟨q7, q⟩ := ba q
    obtain ⟨q8, q⟩ := ba q
    obtain ⟨q9, q⟩ := ba q
    obtain ⟨q10, q⟩ := ba q
    obtain ⟨q11, q⟩ := ba q
    obtain ⟨q12, q13⟩ := ba q
    rw [ca_of e]
    exact of_decide_eq_true (ba (List.all_eq_true.mp q13 n hn)).2
  · have q := List.all_eq_true.mp m3 (x, d) (List.mem_of_getElem? e)
    simp only at q
    split at q
    · rename_i u hu
      obtain ⟨r1, r2⟩ := conB_ok (T := T) q
      exact ⟨vOf u, u, PySem.W.mg_of X G hu, r1, r2⟩
    · cases q
end
/-! the law's end -/
theorem law_rep {P : Pl} {H : Hp} {a : Addr} {ns : List Int} (hl : ns.length ≤ LIM) (h : SqL P.K H a (ns.map V.int)) : ∃ W : Wo, Wd P W H [] ∧ Rep P W H (.ref a) (.lst (ns.map D.int)) := by
  refine ⟨⟨fun b => b = a ∧ H a ≠ none, []⟩, ⟨rfl, .nil, fun b hb => (nomatch hb), fun b hb => by rw [hb.1]; exact hb.2, fun n b d hb => by simp at hb⟩, ?_⟩
  have rl : ∀ (W : Wo) (l : List Int), RepL P W H (l.map V.int) (l.map D.int) := fun W l => by
    induction l with
    | nil => exact .nil
    | cons i l ih => exact .cons (.int i) ih
  refine .lst h ?_ (by rw [List.length_map]; exact hl) (rl _ ns)
  rcases h with (h | ⟨o, h⟩) | h
  · exact .inl ⟨rfl, by rw [h]; exact fun z => nomatch z⟩
  · exact .inl ⟨rfl, by rw [h]; exact fun z => nomatch z⟩
  · exact .inr fun H' => .inr h
theorem law_end {l : PySem.W.OpenLaw} {T : Tab} {w : World} {mg : Str → Option Value} {fa : Addr} {h : Heap} {N li : Nat} {F : Fn} {x : Str} (Y : (He.hookX 6 [] (T.fns.map (·.d)) [] [] (okB T)).says w h) (G : h.Ns mainGlobals mg) (hmg : mg F.d.name = some (.ref fa))
    (hF : T.fns[li]? = some F) (hat : F.d.at_ = (F.d.name, none)) (hps : F.ps = [x]) (ok : T.fns.all (okFn T) = true)
    (sem_ok : ∀ ns : List Int, ns.length ≤ 63 → ∃ (r : (Bool × D) × Sto), (sem T N).1 li [.lst (ns.map D.int)] [] = some r ∧ r.1 = (false, .bl true)) :
    ∃ (K : PySem.W.Frag) (fd : FuncData) (sp : Sp), K.In h ∧ (∀ (s : Shared) (u : Value), BindsTo s fd ⟨[u], []⟩ [(x, u)]) ∧
        (∀ (H : Hp) (a : Addr) (ns : List Int), ns.length ≤ 63 → Only H → SqL K H a (ns.map V.int) → sp [.ref a] H (fun v _ => v = .bl true) fun _ _ _ => False) ∧
        ∀ base : Heap, K.In base → base.Ns mainGlobals mg → FnOk l.prog w K mg base CX0 (2 * N) fa fd [x] sp := by
  obtain ⟨K, KX, c⟩ := Y
  obtain ⟨Y, fr⟩ := facts_of KX G c
  have okF : ∀ (f : Nat) (F : Fn), T.fns[f]? = some F → okFn T F = true := fun f F e => List.all_eq_true.mp ok F (List.mem_of_getElem? e)
  obtain ⟨fd, hfd⟩ := Y.fn li F hF
  have e := (hmg.symm.trans (Y.fg li F _ hF hat))
  simp only [Option.some.injEq, Value.ref.injEq] at e
  have o := okFn_of (okF li F hF)
  refine ⟨K, fd, spF ⟨K, T⟩ 1 (sem T N).1 li, KX, ?_, fun H a ns hl _ hS => ?_, fun base _ _ => ?_⟩
  · obtain ⟨args, kd, df, e1, e2⟩ := o.par
    have nd := o.ndps
    intro s u
    have hb := hfd.bindsA (ps := [x]) (fun kV doc pm an cdv ct us hl => by
      rw [e1, ← hps, ← e2]
      rw [← e2] at nd
      exact bind_plain nd (by rw [hl, e2, hps])) s [u] rfl
    exact hb
  · obtain ⟨W, wd, rp⟩ := law_rep (P := ⟨K, T⟩) (Nat.le_trans hl (by decide)) hS
    obtain ⟨r, hr, hb⟩ := sem_ok ns hl
    refine ⟨W, [], _, r, rfl, wd, .cons rp .nil, hr, fun v W' H' x w' rr => ?_⟩
    rw [hb] at rr
    unfold RetRep at rr
    rw [if_neg (by decide)] at rr
    cases rr
    rfl
  · have L := level (P := ⟨K, T⟩) (Pr := l.prog) (w := w) (base := base) Y fr okF N
    have h1 := (L.cal li F hF fd hfd).1
    rw [hps] at h1
    rw [e]
    exact h1
end EV

set_option Elab.async false
set_option linter.all false
set_option maxRecDepth 100000
set_option maxHeartbeats 1000000
namespace EV
open PySem PySem.Spec PyProof.Rows L2
/-! what a run gives, said forwards -/
def Wp {α : Type} (x : Option α) (Q : α → Prop) : Prop := ∃ a, x = some a ∧ Q a
section
variable {α β : Type} {x : Option α} {f : α → Option β} {Q Q' : β → Prop} {R : α → Prop} {a : α} {c : Prop} [Decidable c]
theorem wp_some : Wp (some a) R = R a := propext ⟨fun ⟨_, e, h⟩ => by cases e; exact h, fun h => ⟨a, rfl, h⟩⟩
theorem wp_none : Wp (none : Option α) R = False := propext ⟨fun ⟨_, e, _⟩ => (by cases e), fun h => False.elim h⟩
theorem wp_bind : Wp (x.bind f) Q = Wp x (fun a => Wp (f a) Q) := propext ⟨fun ⟨b, e, h⟩ => by
    obtain ⟨a, e1, e2⟩ := Option.bind_eq_some_iff.mp e
    exact ⟨a, e1, b, e2, h⟩, fun ⟨a, e1, b, e2, h⟩ => ⟨b, Option.bind_eq_some_iff.mpr ⟨a, e1, e2⟩, h⟩⟩
theorem wp_if {x y : Option α} : Wp (if c then x else y) R = ((c → Wp x R) ∧ (¬ c → Wp y R)) := by
  by_cases h : c <;> simp [h]
theorem wp_ifN : Wp (if c then x else none) R = (c ∧ Wp x R) := by
  by_cases h : c <;> simp [h, wp_none]
theorem Wp.mono {R' : α → Prop} (h : Wp x R) (k : ∀ a, R a → R' a) : Wp x R' := by
  obtain ⟨a, e, q⟩ := h
  exact ⟨a, e, k a q⟩
end
section
variable (T : Tab) (cal : Cal) (mak : Mak)
theorem wp_cons {s : S} {b : Ss} {ρ : Rho} {μ : Sto} {Q : Out → Prop} : Wp (exs T cal mak (.cons s b) ρ μ) Q = Wp (ex T cal mak s ρ μ) (fun r => match r with | .nx ρ' μ' => Wp (exs T cal mak b ρ' μ') Q | .rt o d μ' => Q (.rt o d μ')) := by
  rw [exs, wp_bind]
  congr 1
  funext r
  cases r <;> simp [wp_some]
theorem wp_nil {ρ : Rho} {μ : Sto} {Q : Out → Prop} : Wp (exs T cal mak .nil ρ μ) Q = Q (.nx ρ μ) := by rw [exs, wp_some]
theorem wp_iff {c : E} {a b : Ss} {ρ : Rho} {μ : Sto} {Q : Out → Prop} : Wp (ex T cal mak (.iff c a b) ρ μ) Q = Wp (ev T cal mak c ρ μ) (fun x => ∃ t, x.1 = .bl t ∧ (t = true → Wp (exs T cal mak a ρ x.2) Q) ∧ (t = false → Wp (exs T cal mak b ρ x.2) Q)) := by
  rw [ex, wp_bind]
  congr 1
  funext ⟨d, m⟩
  cases d <;> simp [wp_none]
  rename_i t
  cases t <;> simp
/-- a loop's law -/
theorem wp_for {g : Gd} {f : D → Rho → Sto → Option Out} {Q : Out → Prop} (I : List D → Rho → Sto → Prop) : ∀ (xs : List D) (ρ : Rho) (μ : Sto), g = none → I xs ρ μ →
    (∀ x xs ρ μ, I (x :: xs) ρ μ → Wp (f x ρ μ) (fun r => match r with | .nx ρ' μ' => I xs ρ' μ' | .rt o d μ' => Q (.rt o d μ'))) → (∀ ρ μ, I [] ρ μ → Q (.nx ρ μ)) → Wp (forL g f xs ρ μ) Q
  | [], ρ, μ, hg, h, _, k => by
    subst hg
    unfold forL
    rw [if_pos (by rfl), wp_some]
    exact k ρ μ h
  | x :: xs, ρ, μ, hg, h, st, k => by
    subst hg
    unfold forL
    rw [if_pos (by rfl), wp_bind]
    refine (st x xs ρ μ h).mono fun r hr => ?_
    cases r with
    | nx ρ' μ' => exact wp_for I xs ρ' μ' rfl hr st k
    | rt o d μ' => rw [wp_some]; exact hr
theorem lcL_pure {f : D → Sto → Option (Option D × Sto)} {h : D → Option D} : ∀ (xs : List D) (μ : Sto), (∀ x ∈ xs, f x μ = some (h x, μ)) → lcL none f xs μ = some (xs.filterMap h, μ)
  | [], μ, _ => by unfold lcL; rw [if_pos (by rfl)]; rfl
  | x :: xs, μ, e => by
    unfold lcL
    rw [if_pos (by rfl), e x List.mem_cons_self]
    show (lcL none f xs μ).bind _ = _
    rw [lcL_pure xs μ fun y hy => e y (List.mem_cons_of_mem _ hy)]
    cases hx : h x <;> simp [hx]
theorem wp_lc {f : D → Sto → Option (Option D × Sto)} {Q : List D × Sto → Prop} (I : List D → List D → Sto → Prop) : ∀ (xs acc : List D) (μ : Sto), I xs acc μ →
    (∀ x xs acc μ, I (x :: xs) acc μ → Wp (f x μ) (fun r => I xs (match r.1 with | some y => acc ++ [y] | none => acc) r.2)) → (∀ acc μ, I [] acc μ → Q (acc, μ)) → ∀ Q' : List D × Sto → Prop, (∀ ys μ, Q (acc ++ ys, μ) → Q' (ys, μ)) → Wp (lcL none f xs μ) Q'
  | [], acc, μ, h, st, k, Q', kk => by
    unfold lcL
    rw [if_pos (by rfl), wp_some]
    exact kk [] μ (by rw [List.append_nil]; exact k acc μ h)
  | x :: xs, acc, μ, h, st, k, Q', kk => by
    unfold lcL
    rw [if_pos (by rfl), wp_bind]
    refine (st x xs acc μ h).mono fun r hr => ?_
    obtain ⟨o, μ'⟩ := r
    rw [wp_bind]
    cases o with
    | none =>
      refine wp_lc I xs acc μ' hr st k _ fun ys m hq => ?_
      rw [wp_some]
      exact kk ys m hq
    | some y =>
      refine wp_lc I xs (acc ++ [y]) μ' hr st k _ fun ys m hq => ?_
      rw [wp_some]
      exact kk (y :: ys) m (by rw [List.append_assoc] at hq; exact hq)
end
/-! data -/
section
variable {α : Type} {i j : Int} {μ : Sto}
theorem bAdd : binD .Add (.int i) (.int j) = some (.int (i + j)) := rfl
theorem bSub : binD .Sub (.int i) (.int j) = some (.int (i - j)) := rfl
theorem bMul : binD .Mult (.int i) (.int j) = if (-18446744073709551616 < i ∧ i < 18446744073709551616) ∨ (-18446744073709551616 < j ∧ j < 18446744073709551616) then some (.int (i * j)) else none := rfl
theorem bDiv : binD .FloorDiv (.int i) (.int j) = if 0 < j ∧ j < 1073741824 then some (.int (i / j)) else none := rfl
theorem bMod : binD .Mod (.int i) (.int j) = if 0 < j then some (.int (i % j)) else none := rfl
theorem bPow : binD .Pow (.int i) (.int j) = if 0 ≤ j ∧ j ≤ 1000000 ∧ i.natAbs < 18446744073709551616 then some (.int (i ^ j.toNat)) else none := rfl
theorem bShl : binD .LShift (.int i) (.int j) = if 0 ≤ j ∧ j ≤ 1000000 ∧ i.natAbs < 18446744073709551616 then some (.int (i * 2 ^ j.toNat)) else none := rfl
theorem cLt : cmpD .Lt (.int i) (.int j) μ = some (decide (i < j)) := rfl
theorem cLe : cmpD .LtE (.int i) (.int j) μ = some (decide (i ≤ j)) := rfl
theorem cGt : cmpD .Gt (.int i) (.int j) μ = some (decide (j < i)) := rfl
theorem cGe : cmpD .GtE (.int i) (.int j) μ = some (decide (j ≤ i)) := rfl
theorem eqv_int : PyData.eqv (.int i) (.int j) = decide (i = j) := by
  unfold PyData.eqv
  first | rfl | simp
theorem cEqI : cmpD .Eq (.int i) (.int j) μ = some (decide (i = j)) := by
  simp [cmpD, D.top, eqD, D.dat, D.py, eqv_int, PyData.depth]
theorem cNeI : cmpD .NotEq (.int i) (.int j) μ = some (decide (i ≠ j)) := by
  simp [cmpD, D.top, eqD, D.dat, D.py, eqv_int, PyData.depth]
theorem cEqB {a b : Bool} : cmpD .Eq (.bl a) (.bl b) μ = some (decide (a = b)) := by
  cases a <;> cases b <;> simp [cmpD, D.top, eqD, D.dat, D.py, PyData.eqv, PyData.depth] <;> rfl
theorem cNeB {a b : Bool} : cmpD .NotEq (.bl a) (.bl b) μ = some (decide (a ≠ b)) := by
  cases a <;> cases b <;> simp [cmpD, D.top, eqD, D.dat, D.py, PyData.eqv, PyData.depth] <;> rfl
theorem cIs {x : D} : cmpD .Is x .non μ = some (match x with | .non => true | _ => false) := by cases x <;> rfl
theorem cIsNot {x : D} : cmpD .IsNot x .non μ = some (match x with | .non => false | _ => true) := by cases x <;> rfl
end
end EV

set_option Elab.async false
set_option linter.all false
set_option maxRecDepth 100000
set_option maxHeartbeats 1000000
namespace EV
open PySem PySem.Spec PyProof.Rows L2
/-! nodes -/
structure Nd (c Q : Prop) : Prop where
  c : c
  q : Q
structure If (d : D) (A B : Prop) : Prop where
  h : (d = .bl true ∧ A) ∨ (d = .bl false ∧ B)
structure Ow {α : Type} (x : Option α) (Q : α → Prop) : Prop where
  h : ∃ a, x = some a ∧ Q a
structure Cw (c : Cal) (f : Nat) (ds : List D) (μ : Sto) (Q : Bool → D → Sto → Prop) : Prop where
  h : ∃ o d μ', c f ds μ = some ((o, d), μ') ∧ Q o d μ'
structure Mw (c : Mak) (k : Nat) (ds : List D) (μ : Sto) (Q : D → Sto → Prop) : Prop where
  h : ∃ d μ', c k ds μ = some (d, μ') ∧ Q d μ'
def Wv {α : Type} (x : Option (α × Sto)) (Q : α → Sto → Prop) : Prop := ∃ a m, x = some (a, m) ∧ Q a m
def Ws (x : Option Out) (N : Rho → Sto → Prop) (R : Bool → D → Sto → Prop) : Prop := (∃ ρ μ, x = some (.nx ρ μ) ∧ N ρ μ) ∨ ∃ o d μ, x = some (.rt o d μ) ∧ R o d μ
structure Fw (g : Gd) (f : D → Rho → Sto → Option Out) (xs : List D) (ρ : Rho) (μ : Sto) (N : Rho → Sto → Prop) (R : Bool → D → Sto → Prop) : Prop where
  h : Ws (forL g f xs ρ μ) N R
structure Lw (g : Gd) (f : D → Sto → Option (Option D × Sto)) (xs : List D) (μ : Sto) (Q : List D → Sto → Prop) : Prop where
  h : Wv (lcL g f xs μ) Q
def vBin (op : Operator) (x y : D) (Q : D → Prop) : Prop := match x, y with
  | .int i, .int j => (match op with
    | .Add => Q (.int (i + j))
    | .Sub => Q (.int (i - j))
    | .Mult => Nd ((-18446744073709551616 < i ∧ i < 18446744073709551616) ∨ (-18446744073709551616 < j ∧ j < 18446744073709551616)) (Q (.int (i * j)))
    | .FloorDiv => Nd (0 < j ∧ j < 1073741824) (Q (.int (i / j)))
    | .Mod => Nd (0 < j) (Q (.int (i % j)))
    | op => Ow (binD op (.int i) (.int j)) Q)
  | x, y => Ow (binD op x y) Q
def vCmp0 (op : CmpOp) (x y : D) (μ : Sto) (Q : Bool → Prop) : Prop := match x, y with
  | .int i, .int j => (match op with
    | .Eq => Q (decide (i = j))
    | .NotEq => Q (decide (i ≠ j))
    | .Lt => Q (decide (i < j))
    | .LtE => Q (decide (i ≤ j))
    | .Gt => Q (decide (j < i))
    | .GtE => Q (decide (j ≤ i))
    | op => Ow (cmpD op (.int i) (.int j) μ) Q)
  | .bl i, .bl j => (match op with
    | .Eq => Q (decide (i = j))
    | .NotEq => Q (decide (i ≠ j))
    | op => Ow (cmpD op (.bl i) (.bl j) μ) Q)
  | x, .non => (match op with
    | .Is => (match x with | .non => Q true | .int _ => Q false | x => Ow (cmpD .Is x .non μ) Q)
    | .IsNot => (match x with | .non => Q false | .int _ => Q true | x => Ow (cmpD .IsNot x .non μ) Q)
    | op => Ow (cmpD op x .non μ) Q)
  | x, y => Ow (cmpD op x y μ) Q
def vCmp (op : CmpOp) (x y : D) (μ : Sto) (Q : Bool → Prop) : Prop := match op with
  | .In => Ow (cmpD .In x y μ) Q
  | .NotIn => Ow (cmpD .NotIn x y μ) Q
  | op => vCmp0 op x y μ Q
def vSub (x y : D) (μ : Sto) (Q : D → Prop) : Prop := match x, y with
  | .lst xs, .int i => Ow (atI xs i) Q
  | .tup xs, .int i => Ow (atI xs i) Q
  | .cell n, .int i => Ow μ[n]? (fun d => Ow (asSeq d) (fun xs => Ow (atI xs i) Q))
  | x, y => Ow (subD x y μ) Q
def vBi (b : Bi) (x : D) (μ : Sto) (Q : D → Prop) : Prop := match b, x with
  | .len, .lst xs => Q (.int xs.length)
  | .len, .tup xs => Q (.int xs.length)
  | .int, .bl b => Q (.int (if b then 1 else 0))
  | .int, .int i => Q (.int i)
  | .int, .str s => Ow (PySem.intText? s) fun n => Nd (s.length ≤ 640) (Q (.int n))
  | b, x => Ow (biD b x μ) Q
def vFld (T : Tab) (x : D) (f : Nat) (μ : Sto) (Q : D → Prop) : Prop := Ow (fieldD T x f μ) Q
section
variable (T : Tab) (cal : Cal) (mak : Mak)
noncomputable def bodF (tg : Tg) (b : Ss) : D → Rho → Sto → Option Out := fun d ρ μ => (bindTg tg d ρ).bind fun ρ' => exs T cal mak b ρ' μ
noncomputable def bodL (el : E) (tg : Tg) (c : Eo) (ρ : Rho) : D → Sto → Option (Option D × Sto) := fun d μ => (bindTg tg d (wipeR ρ tg.slots)).bind fun ρ' => (evC T cal mak c ρ' μ).bind fun b =>
      if b.1 = true then (ev T cal mak el ρ' b.2).bind fun y => some (some y.1, y.2) else some (none, b.2)
mutual
def vE : E → Rho → Sto → (D → Sto → Prop) → Prop
  | .k d, _, μ, Q => Q d μ
  | .gl g, _, μ, Q => (match T.con[g]? with | some q => Q q.2 μ | none => False)
  | .v i, ρ, μ, Q => (match ρ[i]? with | some (.fz d) => Q d μ | _ => False)
  | .bin op a b, ρ, μ, Q => vE a ρ μ fun x μ => vE b ρ μ fun y μ => vBin op x y fun z => Q z μ
  | .neg a, ρ, μ, Q => vE a ρ μ fun x μ => (match x with | .int i => Q (.int (-i)) μ | _ => False)
  | .not a, ρ, μ, Q => vE a ρ μ fun x μ => (match x with | .bl b => Q (.bl (!b)) μ | _ => False)
  | .cmp op a b, ρ, μ, Q => vR a ρ μ fun x μ => vR b ρ μ fun y μ => vCmp op x y μ fun z => Q (.bl z) μ
  | .chn o1 o2 a b c, ρ, μ, Q => vE a ρ μ fun x μ => vE b ρ μ fun y μ => vCmp o1 x y μ fun z => If (.bl z) (vE c ρ μ fun w μ => vCmp o2 y w μ fun z => Q (.bl z) μ) (Q (.bl false) μ)
  | .and a b, ρ, μ, Q => vE a ρ μ fun x μ => If x (vE b ρ μ Q) (Q (.bl false) μ)
  | .or a b, ρ, μ, Q => vE a ρ μ fun x μ => If x (Q (.bl true) μ) (vE b ρ μ Q)
  | .tup es, ρ, μ, Q => vA es ρ μ fun xs μ => Q (.tup xs) μ
  | .frz o, ρ, μ, Q => vO o ρ μ Q
  | .box o, ρ, μ, Q => vO o ρ μ fun d μ => Q (.cell μ.length) (μ ++ [d])
  | .sub a i, ρ, μ, Q => vR a ρ μ fun x μ => vE i ρ μ fun y μ => vSub x y μ fun z => Q z μ
  | .attr a f, ρ, μ, Q => vE a ρ μ fun x μ => vFld T x f μ fun z => Q z μ
  | .call f es, ρ, μ, Q => vA es ρ μ fun xs μ => Cw cal f xs μ fun _ d μ => Q d μ
  | .make c es, ρ, μ, Q => vA es ρ μ fun xs μ => Mw mak c xs μ Q
  | .join s a, ρ, μ, Q => vE s ρ μ fun x μ => vR a ρ μ fun y μ => (match x with
    | .str z => Ow (y.top μ) fun d => Ow (asSeq d) fun xs => Ow (asStrs xs) fun ys => Nd ((ys.map (·.length)).sum + ys.length * z.length ≤ LIM ∧ sok (Txt.join z ys) = true) (Q (.str (Txt.join z ys)) μ)
    | _ => False)
  | .str1 a, ρ, μ, Q => vE a ρ μ fun x μ => (match x with
    | .int i => Nd (i.natAbs.log2 < 1920 ∧ sok (Str.ofString (toString i)) = true) (Q (.str (Str.ofString (toString i))) μ)
    | .str s => Q (.str s) μ
    | _ => False)
  | .tupl a, ρ, μ, Q => vR a ρ μ fun x μ => (match x with | .lst xs => Q (.tup xs) μ | .tup xs => Q (.tup xs) μ | x => Ow (x.top μ) fun d => Ow (asSeq d) fun xs => Q (.tup xs) μ)
  | .bi b a, ρ, μ, Q => vR a ρ μ fun x μ => vBi b x μ fun z => Q z μ
  | .b2 b x y, ρ, μ, Q => vE x ρ μ fun x μ => vE y ρ μ fun y μ => Ow (b2D b x y) fun z => Q z μ
  | .isi a t, ρ, μ, Q => vE a ρ μ fun x μ => Ow (tyD T x t μ) fun b => Q (.bl b) μ
def vR : R → Rho → Sto → (D → Sto → Prop) → Prop
  | .e a, ρ, μ, Q => vE a ρ μ Q
  | .own i, ρ, μ, Q => (match ρ[i]? with | some (.ow d) => Q d μ | _ => False)
def vO : O → Rho → Sto → (D → Sto → Prop) → Prop
  | .lst es, ρ, μ, Q => vA es ρ μ fun xs μ => Q (.lst xs) μ
  | .lc el tg it c, ρ, μ, Q => vI it ρ μ fun xs g μ => Lw g (bodL T cal mak el tg c ρ) xs μ fun ys μ => Q (.lst ys) μ
  | .cat a b, ρ, μ, Q => vR a ρ μ fun x μ => vR b ρ μ fun y μ => Ow (x.top μ) fun x => Ow (y.top μ) fun y => Ow (asLst x) fun xs => Ow (asLst y) fun ys => Nd (xs.length + ys.length ≤ LIM) (Q (.lst (xs ++ ys)) μ)
  | .call f es, ρ, μ, Q => vA es ρ μ fun xs μ => Cw cal f xs μ fun o d μ => Nd (o = true) (Q d μ)
  | .slc a lo hi, ρ, μ, Q => vR a ρ μ fun x μ => vX lo ρ μ fun l μ => vX hi ρ μ fun h μ => (match x with | .lst xs => Q (.lst (cutD xs l h)) μ | x => Ow (x.top μ) fun d => Ow (asLst d) fun xs => Q (.lst (cutD xs l h)) μ)
  | .lst1 a, ρ, μ, Q => vR a ρ μ fun x μ => (match x with | .lst xs => Q (.lst xs) μ | .tup xs => Q (.lst xs) μ | x => Ow (x.top μ) fun d => Ow (asSeq d) fun xs => Q (.lst xs) μ)
  | .rev a, ρ, μ, Q => vR a ρ μ fun x μ => (match x with | .lst xs => Q (.lst xs.reverse) μ | x => Ow (x.top μ) fun d => Ow (asLst d) fun xs => Q (.lst xs.reverse) μ)
  | .split s t, ρ, μ, Q => vE s ρ μ fun x μ => vE t ρ μ fun y μ => (match x, y with
    | .str a, .str b => Nd ((b.length == 0) = false ∧ a.length + 2 ≤ LIM ∧ (Txt.split a b).all sok = true ∧ (Txt.split a b).length ≤ LIM) (Q (.lst ((Txt.split a b).map D.str)) μ)
    | _, _ => False)
  | .rep i k, ρ, μ, Q => vE k ρ μ fun y μ => (match ρ[i]?, y with
    | some (.ow (.lst xs)), .int k => Nd (-(2 ^ 63) ≤ k ∧ k < 2 ^ 63 ∧ xs.length * k.toNat ≤ LIM) (Q (.lst (List.replicate k.toNat xs).flatten) μ)
    | _, _ => False)
def vX : Eo → Rho → Sto → (Option Int → Sto → Prop) → Prop
  | .no, _, μ, Q => Q none μ
  | .so e, ρ, μ, Q => vE e ρ μ fun x μ => (match x with | .int i => Q (some i) μ | _ => False)
def vA : Es → Rho → Sto → (List D → Sto → Prop) → Prop
  | .nil, _, μ, Q => Q [] μ
  | .cons e es, ρ, μ, Q => vE e ρ μ fun x μ => vA es ρ μ fun xs μ => Q (x :: xs) μ
def vI : It → Rho → Sto → (List D → Gd → Sto → Prop) → Prop
  | .lst a, ρ, μ, Q => vR a ρ μ fun x μ => (match x with | .lst xs => Q xs none μ | x => Ow (x.top μ) fun d => Ow (asLst d) fun xs => Q xs (seqGd x μ) μ)
  | .tup a, ρ, μ, Q => vE a ρ μ fun x μ => (match x with | .tup xs => Q xs none μ | _ => False)
  | .str a, ρ, μ, Q => vE a ρ μ fun x μ => (match x with | .str s => Q (s.cps.toList.map fun c => D.str ⟨#[c]⟩) none μ | _ => False)
  | .enum a, ρ, μ, Q => vE a ρ μ fun x μ => (match x with | .lst xs => Q (xs.zipIdx.map fun p => D.tup [.int (p.2 : Nat), p.1]) none μ | x => Ow (x.top μ) fun d => Ow (asLst d) fun xs => Q (xs.zipIdx.map fun p => D.tup [.int (p.2 : Nat), p.1]) (seqGd x μ) μ)
  | .zip a b, ρ, μ, Q => vE a ρ μ fun x μ => vE b ρ μ fun y μ => (match x, y with
    | .lst xs, .lst ys => Q ((xs.zip ys).map fun p => D.tup [p.1, p.2]) none μ
    | x, .lst ys => Ow (x.top μ) fun d => Ow (asLst d) fun xs => Q ((xs.zip ys).map fun p => D.tup [p.1, p.2]) (seqGd x μ) μ
    | _, _ => False)
  | .rng a, ρ, μ, Q => vE a ρ μ fun x μ => (match x with | .int n => Nd (-1000000000 ≤ n ∧ n ≤ 16777216) (Q ((List.range n.toNat).map fun (i : Nat) => D.int i) none μ) | _ => False)
end
def vC : Eo → Rho → Sto → (Bool → Sto → Prop) → Prop
  | .no, _, μ, Q => Q true μ
  | .so e, ρ, μ, Q => vE T cal mak e ρ μ fun x μ => (match x with | .bl b => Q b μ | _ => False)
mutual
def vS : S → Rho → Sto → (Rho → Sto → Prop) → (Bool → D → Sto → Prop) → Prop
  | .set i e, ρ, μ, N, _ => vE T cal mak e ρ μ fun x μ => (match Nat.blt i ρ.length with | true => N (ρ.set i (.fz x)) μ | false => False)
  | .setO i o, ρ, μ, N, _ => vO T cal mak o ρ μ fun x μ => (match Nat.blt i ρ.length with | true => N (ρ.set i (.ow x)) μ | false => False)
  | .setT l e, ρ, μ, N, _ => vE T cal mak e ρ μ fun x μ => (match x with
    | .tup xs => Ow (setAll ρ l xs) fun ρ => N ρ μ
    | .lst xs => Ow (setAll ρ l xs) fun ρ => N ρ μ
    | x => Ow (x.top μ) fun d => Ow (asSeq d) fun xs => Ow (setAll ρ l xs) fun ρ => N ρ μ)
  | .frz i, ρ, μ, N, _ => (match ρ[i]? with | some (.ow d) => N (ρ.set i (.fz d)) μ | _ => False)
  | .setA i f e, ρ, μ, N, _ => vE T cal mak e ρ μ fun x μ => (match ρ[i]? with
    | some (.ow (.obj c xs)) => Ow (putD T c xs f x) fun ys => N (ρ.set i (.ow (.obj c ys))) μ
    | some (.fz (.cell n)) => Ow μ[n]? fun d => ∃ c xs, d = .obj c xs ∧ Ow (putD T c xs f x) fun ys => N ρ (μ.set n (.obj c ys))
    | _ => False)
  | .setIx a k e, ρ, μ, N, _ => vE T cal mak e ρ μ fun x μ => vE T cal mak a ρ μ fun y μ => vE T cal mak k ρ μ fun z μ => (match y, z with
    | .cell n, .int i => Ow μ[n]? fun d => Ow (asLst d) fun xs => Ow (ixN xs.length i) fun j => N ρ (μ.set n (.lst (xs.set j x)))
    | _, _ => False)
  | .app i e, ρ, μ0, N, _ => vE T cal mak e ρ μ0 fun x μ => (match ρ[i]? with
    | some (.ow (.lst xs)) => Nd (xs.length < LIM) (N (ρ.set i (.ow (.lst (xs ++ [x])))) μ)
    | some (.fz (.cell n)) => Ow μ0[n]? fun d0 => Ow (asLst d0) fun _ => Ow μ[n]? fun d => Ow (asLst d) fun xs => Nd (xs.length < LIM) (N ρ (μ.set n (.lst (xs ++ [x]))))
    | _ => False)
  | .ex e, ρ, μ, N, _ => vE T cal mak e ρ μ fun _ μ => N ρ μ
  | .ret e, ρ, μ, _, R => vE T cal mak e ρ μ fun x μ => R false x μ
  | .retO o, ρ, μ, _, R => vO T cal mak o ρ μ fun x μ => R true x μ
  | .retS i, ρ, μ, _, R => (match ρ[i]? with | some (.ow d) => R true d μ | _ => False)
  | .ret0, _, μ, _, R => R false .non μ
  | .iff c a b, ρ, μ, N, R => vE T cal mak c ρ μ fun x μ => If x (vSs a ρ μ N R) (vSs b ρ μ N R)
  | .for tg it b, ρ, μ, N, R => vI T cal mak it ρ μ fun xs g μ => Fw g (bodF T cal mak tg b) xs ρ μ N R
  | .pas, ρ, μ, N, _ => N ρ μ
  | .bad, _, _, _, _ => False
def vSs : Ss → Rho → Sto → (Rho → Sto → Prop) → (Bool → D → Sto → Prop) → Prop
  | .nil, ρ, μ, N, _ => N ρ μ
  | .cons s b, ρ, μ, N, R => vS s ρ μ (fun ρ μ => vSs b ρ μ N R) R
end
end
/-! they say true -/
theorem wv_bind {α β : Type} {x : Option (α × Sto)} {f : α × Sto → Option (β × Sto)} {Q : β → Sto → Prop} (h : Wv x fun a m => Wv (f (a, m)) Q) : Wv (x.bind f) Q := by
  obtain ⟨a, m, e, b, m', e2, q⟩ := h
  exact ⟨b, m', by rw [e]; exact e2, q⟩
theorem wv_some {α : Type} {a : α} {m : Sto} {Q : α → Sto → Prop} (h : Q a m) : Wv (some (a, m)) Q := ⟨a, m, rfl, h⟩
theorem wv_ow {α β : Type} {x : Option α} {f : α → Option (β × Sto)} {Q : β → Sto → Prop} (h : Ow x fun a => Wv (f a) Q) : Wv (x.bind f) Q := by
  obtain ⟨a, e, b, m', e2, q⟩ := h
  exact ⟨b, m', by rw [e]; exact e2, q⟩
theorem ow_mono {α : Type} {x : Option α} {Q R : α → Prop} (h : Ow x Q) (k : ∀ a, Q a → R a) : Ow x R := by
  obtain ⟨a, e, q⟩ := h
  exact ⟨a, e, k a q⟩
theorem wv_mono {α : Type} {x : Option (α × Sto)} {Q R : α → Sto → Prop} (h : Wv x Q) (k : ∀ a m, Q a m → R a m) : Wv x R := by
  obtain ⟨a, m, e, q⟩ := h
  exact ⟨a, m, e, k a m q⟩
theorem ow_if {α : Type} {c : Prop} [Decidable c] {x : α} {Q : α → Prop} (h : Nd c (Q x)) : Ow (if c then some x else none) Q := ⟨⟨x, if_pos h.c, h.q⟩⟩
theorem vBin_ok {op : Operator} {x y : D} {Q : D → Prop} (h : vBin op x y Q) : Ow (binD op x y) Q := by
  unfold vBin at h
  split at h
  · split at h
    · exact ⟨⟨_, rfl, h⟩⟩
    · exact ⟨⟨_, rfl, h⟩⟩
    · exact ow_if h
    · exact ow_if h
    · exact ow_if h
    · exact h
  · exact h
theorem vCmp0_ok {op : CmpOp} {x y : D} {μ : Sto} {Q : Bool → Prop} (h : vCmp0 op x y μ Q) : Ow (cmpD op x y μ) Q := by
  unfold vCmp0 at h
  split at h
  · split at h
    · exact ⟨⟨_, cEqI, h⟩⟩
    · exact ⟨⟨_, cNeI, h⟩⟩
    · exact ⟨⟨_, rfl, h⟩⟩
    · exact ⟨⟨_, rfl, h⟩⟩
    · exact ⟨⟨_, rfl, h⟩⟩
    · exact ⟨⟨_, rfl, h⟩⟩
    · exact h
  · split at h
    · exact ⟨⟨_, cEqB, h⟩⟩
    · exact ⟨⟨_, cNeB, h⟩⟩
    · exact h
  · split at h
    · split at h
      · exact ⟨⟨_, rfl, h⟩⟩
      · exact ⟨⟨_, rfl, h⟩⟩
      · exact h
    · split at h
      · exact ⟨⟨_, rfl, h⟩⟩
      · exact ⟨⟨_, rfl, h⟩⟩
      · exact h
    · exact h
  · exact h
theorem vCmp_ok {op : CmpOp} {x y : D} {μ : Sto} {Q : Bool → Prop} (h : vCmp op x y μ Q) : Ow (cmpD op x y μ) Q := by
  unfold vCmp at h
  split at h
  · exact h
  · exact h
  · exact vCmp0_ok h
theorem ow_bind {α β : Type} {x : Option α} {f : α → Option β} {Q : β → Prop} (h : Ow x fun a => Ow (f a) Q) : Ow (x.bind f) Q := by
  obtain ⟨a, e, b, e2, q⟩ := h
  exact ⟨b, by rw [e]; exact e2, q⟩
theorem vSub_ok {x y : D} {μ : Sto} {Q : D → Prop} (h : vSub x y μ Q) : Ow (subD x y μ) Q := by
  unfold vSub at h
  split at h
  · exact h
  · exact h
  · exact ow_bind (ow_mono h fun d hd => ow_bind hd)
  · exact h
theorem vBi_ok {b : Bi} {x : D} {μ : Sto} {Q : D → Prop} (h : vBi b x μ Q) : Ow (biD b x μ) Q := by
  unfold vBi at h
  split at h
  · exact ⟨⟨_, rfl, h⟩⟩
  · exact ⟨⟨_, rfl, h⟩⟩
  · exact ⟨⟨_, rfl, h⟩⟩
  · exact ⟨⟨_, rfl, h⟩⟩
  · exact ow_bind (ow_mono h fun n h => ow_if h)
  · exact h
section
variable (T : Tab) (cal : Cal) (mak : Mak)
mutual
theorem vE_ok : ∀ (e : E) {ρ : Rho} {μ : Sto} {Q : D → Sto → Prop}, vE T cal mak e ρ μ Q → Wv (ev T cal mak e ρ μ) Q
  | .k d, ρ, μ, Q, h => by unfold vE at h; unfold ev; exact wv_some h
  | .gl g, ρ, μ, Q, h => by
    unfold vE at h; unfold ev
    split at h
    · rename_i q hq; first | exact wv_some h | (rw [hq]; exact wv_some h)
    · exact False.elim h
  | .v i, ρ, μ, Q, h => by
    unfold vE at h; unfold ev
    split at h
    · rename_i q hq; first | exact wv_some h | (rw [hq]; exact wv_some h)
    · exact False.elim h
  | .bin op a b, ρ, μ, Q, h => by
    unfold vE at h; unfold ev
    exact wv_bind (wv_mono (vE_ok a h) fun x m h => wv_bind (wv_mono (vE_ok b h) fun y m h => wv_ow (ow_mono (vBin_ok h) fun z h => wv_some h)))
  | .neg a, ρ, μ, Q, h => by
    unfold vE at h; unfold ev
    refine wv_bind (wv_mono (vE_ok a h) fun x m h => ?_)
    split at h
    · exact wv_some h
    · exact False.elim h
  | .not a, ρ, μ, Q, h => by
    unfold vE at h; unfold ev
    refine wv_bind (wv_mono (vE_ok a h) fun x m h => ?_)
    split at h
    · exact wv_some h
    · exact False.elim h
  | .cmp op a b, ρ, μ, Q, h => by
    unfold vE at h; unfold ev
    exact wv_bind (wv_mono (vR_ok a h) fun x m h => wv_bind (wv_mono (vR_ok b h) fun y m h => wv_ow (ow_mono (vCmp_ok h) fun z h => wv_some h)))
  | .chn o1 o2 a b c, ρ, μ, Q, h => by
    unfold vE at h; unfold ev
    refine wv_bind (wv_mono (vE_ok a h) fun x m h => wv_bind (wv_mono (vE_ok b h) fun y m h => wv_ow (ow_mono (vCmp_ok h) fun z h => ?_)))
    rcases h.h with ⟨e, k⟩ | ⟨e, k⟩
    · cases e
      exact wv_bind (wv_mono (vE_ok c k) fun w m h => wv_ow (ow_mono (vCmp_ok h) fun z h => wv_some h))
    · cases e
      exact wv_some k
  | .and a b, ρ, μ, Q, h => by
    unfold vE at h; unfold ev
    refine wv_bind (wv_mono (vE_ok a h) fun x m h => ?_)
    rcases h.h with ⟨e, k⟩ | ⟨e, k⟩
    · subst e; exact vE_ok b k
    · subst e; exact wv_some k
  | .or a b, ρ, μ, Q, h => by
    unfold vE at h; unfold ev
    refine wv_bind (wv_mono (vE_ok a h) fun x m h => ?_)
    rcases h.h with ⟨e, k⟩ | ⟨e, k⟩
    · subst e; exact wv_some k
    · subst e; exact vE_ok b k
  | .tup es, ρ, μ, Q, h => by
    unfold vE at h; unfold ev
    exact wv_bind (wv_mono (vA_ok es h) fun x m h => wv_some h)
  | .frz o, ρ, μ, Q, h => by
    unfold vE at h; unfold ev
    exact vO_ok o h
  | .box o, ρ, μ, Q, h => by
    unfold vE at h; unfold ev
    exact wv_bind (wv_mono (vO_ok o h) fun x m h => wv_some h)
  | .sub a i, ρ, μ, Q, h => by
    unfold vE at h; unfold ev
    exact wv_bind (wv_mono (vR_ok a h) fun x m h => wv_bind (wv_mono (vE_ok i h) fun y m h => wv_ow (ow_mono (vSub_ok h) fun z h => wv_some h)))
  | .attr a f, ρ, μ, Q, h => by
    unfold vE at h; unfold ev
    exact wv_bind (wv_mono (vE_ok a h) fun x m h => wv_ow (ow_mono h fun z h => wv_some h))
  | .call f es, ρ, μ, Q, h => by
    unfold vE at h; unfold ev
    refine wv_bind (wv_mono (vA_ok es h) fun x m h => ?_)
    obtain ⟨o, d, m', e, q⟩ := h
    exact wv_ow ⟨⟨_, e, wv_some q⟩⟩
  | .make c es, ρ, μ, Q, h => by
    unfold vE at h; unfold ev
    refine wv_bind (wv_mono (vA_ok es h) fun x m h => ?_)
    obtain ⟨d, m', e, q⟩ := h
    exact ⟨d, m', e, q⟩
  | .join s a, ρ, μ, Q, h => by
    unfold vE at h; unfold ev
    refine wv_bind (wv_mono (vE_ok s h) fun x m h => wv_bind (wv_mono (vR_ok a h) fun y m h => ?_))
    split at h
    · refine wv_ow (ow_mono h fun d h => wv_ow (ow_mono h fun xs h => wv_ow (ow_mono h fun ys h => ?_)))
      simp only
      rw [if_pos h.c]
      exact wv_some h.q
    · exact False.elim h
  | .str1 a, ρ, μ, Q, h => by
    unfold vE at h; unfold ev
    refine wv_bind (wv_mono (vE_ok a h) fun x m h => ?_)
    split at h
    · simp only
      rw [if_pos h.c]
      exact wv_some h.q
    · exact wv_some h
    · exact False.elim h
  | .tupl a, ρ, μ, Q, h => by
    unfold vE at h; unfold ev
    refine wv_bind (wv_mono (vR_ok a h) fun x m h => ?_)
    split at h
    · exact wv_ow ⟨⟨_, rfl, wv_ow ⟨⟨_, rfl, wv_some h⟩⟩⟩⟩
    · exact wv_ow ⟨⟨_, rfl, wv_ow ⟨⟨_, rfl, wv_some h⟩⟩⟩⟩
    · exact wv_ow (ow_mono h fun d h => wv_ow (ow_mono h fun xs h => wv_some h))
  | .bi b a, ρ, μ, Q, h => by
    unfold vE at h; unfold ev
    exact wv_bind (wv_mono (vR_ok a h) fun x m h => wv_ow (ow_mono (vBi_ok h) fun z h => wv_some h))
  | .b2 b x y, ρ, μ, Q, h => by
    unfold vE at h; unfold ev
    exact wv_bind (wv_mono (vE_ok x h) fun x m h => wv_bind (wv_mono (vE_ok y h) fun y m h => wv_ow (ow_mono h fun z h => wv_some h)))
  | .isi a t, ρ, μ, Q, h => by
    unfold vE at h; unfold ev
    exact wv_bind (wv_mono (vE_ok a h) fun x m h => wv_ow (ow_mono h fun z h => wv_some h))
theorem vR_ok : ∀ (e : R) {ρ : Rho} {μ : Sto} {Q : D → Sto → Prop}, vR T cal mak e ρ μ Q → Wv (evR T cal mak e ρ μ) Q
  | .e a, ρ, μ, Q, h => by unfold vR at h; unfold evR; exact vE_ok a h
  | .own i, ρ, μ, Q, h => by
    unfold vR at h; unfold evR
    split at h
    · rename_i q hq; first | exact wv_some h | (rw [hq]; exact wv_some h)
    · exact False.elim h
theorem vO_ok : ∀ (e : O) {ρ : Rho} {μ : Sto} {Q : D → Sto → Prop}, vO T cal mak e ρ μ Q → Wv (evO T cal mak e ρ μ) Q
  | .lst es, ρ, μ, Q, h => by
    unfold vO at h; unfold evO
    exact wv_bind (wv_mono (vA_ok es h) fun x m h => wv_some h)
  | .lc el tg it c, ρ, μ, Q, h => by
    unfold vO at h; unfold evO
    refine wv_bind ?_
    obtain ⟨a, m, e, h⟩ := vI_ok it h
    exact ⟨a, m, e, wv_bind (wv_mono h.h fun x m h => wv_some h)⟩
  | .cat a b, ρ, μ, Q, h => by
    unfold vO at h; unfold evO
    refine wv_bind (wv_mono (vR_ok a h) fun x m h => wv_bind (wv_mono (vR_ok b h) fun y m h => wv_ow (ow_mono h fun x h => wv_ow (ow_mono h fun y h => wv_ow (ow_mono h fun xs h => wv_ow (ow_mono h fun ys h => ?_))))))
    simp only
    rw [if_pos h.c]
    exact wv_some h.q
  | .call f es, ρ, μ, Q, h => by
    unfold vO at h; unfold evO
    refine wv_bind (wv_mono (vA_ok es h) fun x m h => ?_)
    obtain ⟨o, d, m', e, q⟩ := h
    refine wv_ow ⟨⟨_, e, ?_⟩⟩
    simp only
    rw [if_pos q.c]
    exact wv_some q.q
  | .slc a lo hi, ρ, μ, Q, h => by
    unfold vO at h; unfold evO
    refine wv_bind (wv_mono (vR_ok a h) fun x m h => wv_bind (wv_mono (vX_ok lo h) fun l m h => wv_bind (wv_mono (vX_ok hi h) fun u m h => ?_)))
    split at h
    · exact wv_ow ⟨⟨_, rfl, wv_ow ⟨⟨_, rfl, wv_some h⟩⟩⟩⟩
    · exact wv_ow (ow_mono h fun d h => wv_ow (ow_mono h fun xs h => wv_some h))
  | .lst1 a, ρ, μ, Q, h => by
    unfold vO at h; unfold evO
    refine wv_bind (wv_mono (vR_ok a h) fun x m h => ?_)
    split at h
    · exact wv_ow ⟨⟨_, rfl, wv_ow ⟨⟨_, rfl, wv_some h⟩⟩⟩⟩
    · exact wv_ow ⟨⟨_, rfl, wv_ow ⟨⟨_, rfl, wv_some h⟩⟩⟩⟩
    · exact wv_ow (ow_mono h fun d h => wv_ow (ow_mono h fun xs h => wv_some h))
  | .rev a, ρ, μ, Q, h => by
    unfold vO at h; unfold evO
    refine wv_bind (wv_mono (vR_ok a h) fun x m h => ?_)
    split at h
    · exact wv_ow ⟨⟨_, rfl, wv_ow ⟨⟨_, rfl, wv_some h⟩⟩⟩⟩
    · exact wv_ow (ow_mono h fun d h => wv_ow (ow_mono h fun xs h => wv_some h))
  | .split s t, ρ, μ, Q, h => by
    unfold vO at h; unfold evO
    refine wv_bind (wv_mono (vE_ok s h) fun x m h => wv_bind (wv_mono (vE_ok t h) fun y m h => ?_))
    split at h
    · simp only
      rw [if_pos h.c]
      exact wv_some h.q
    · exact False.elim h
  | .rep i k, ρ, μ, Q, h => by
    unfold vO at h; unfold evO
    refine wv_bind (wv_mono (vE_ok k h) fun y m h => ?_)
    split at h
    · rename_i h1
      simp only [h1]
      rw [if_pos h.c]
      exact wv_some h.q
    · exact False.elim h
theorem vX_ok : ∀ (e : Eo) {ρ : Rho} {μ : Sto} {Q : Option Int → Sto → Prop}, vX T cal mak e ρ μ Q → Wv (evX T cal mak e ρ μ) Q
  | .no, ρ, μ, Q, h => by unfold vX at h; unfold evX; exact wv_some h
  | .so e, ρ, μ, Q, h => by
    unfold vX at h; unfold evX
    refine wv_bind (wv_mono (vE_ok e h) fun x m h => ?_)
    split at h
    · exact wv_some h
    · exact False.elim h
theorem vA_ok : ∀ (e : Es) {ρ : Rho} {μ : Sto} {Q : List D → Sto → Prop}, vA T cal mak e ρ μ Q → Wv (evs T cal mak e ρ μ) Q
  | .nil, ρ, μ, Q, h => by unfold vA at h; unfold evs; exact wv_some h
  | .cons e es, ρ, μ, Q, h => by
    unfold vA at h; unfold evs
    exact wv_bind (wv_mono (vE_ok e h) fun x m h => wv_bind (wv_mono (vA_ok es h) fun y m h => wv_some h))
theorem vI_ok : ∀ (e : It) {ρ : Rho} {μ : Sto} {Q : List D → Gd → Sto → Prop}, vI T cal mak e ρ μ Q → Wv (evI T cal mak e ρ μ) (fun a => Q a.1 a.2)
  | .lst a, ρ, μ, Q, h => by
    unfold vI at h; unfold evI
    refine wv_bind (wv_mono (vR_ok a h) fun x m h => ?_)
    split at h
    · exact wv_ow ⟨⟨_, rfl, wv_ow ⟨⟨_, rfl, wv_some h⟩⟩⟩⟩
    · exact wv_ow (ow_mono h fun d h => wv_ow (ow_mono h fun xs h => wv_some h))
  | .tup a, ρ, μ, Q, h => by
    unfold vI at h; unfold evI
    refine wv_bind (wv_mono (vE_ok a h) fun x m h => ?_)
    split at h
    · exact wv_some h
    · exact False.elim h
  | .str a, ρ, μ, Q, h => by
    unfold vI at h; unfold evI
    refine wv_bind (wv_mono (vE_ok a h) fun x m h => ?_)
    split at h
    · exact wv_some h
    · exact False.elim h
  | .enum a, ρ, μ, Q, h => by
    unfold vI at h; unfold evI
    refine wv_bind (wv_mono (vE_ok a h) fun x m h => ?_)
    split at h
    · exact wv_ow ⟨⟨_, rfl, wv_ow ⟨⟨_, rfl, wv_some h⟩⟩⟩⟩
    · exact wv_ow (ow_mono h fun d h => wv_ow (ow_mono h fun xs h => wv_some h))
  | .zip a b, ρ, μ, Q, h => by
    unfold vI at h; unfold evI
    refine wv_bind (wv_mono (vE_ok a h) fun x m h => wv_bind (wv_mono (vE_ok b h) fun y m h => ?_))
    split at h
    · exact wv_ow ⟨⟨_, rfl, wv_ow ⟨⟨_, rfl, wv_some h⟩⟩⟩⟩
    · exact wv_ow (ow_mono h fun d h => wv_ow (ow_mono h fun xs h => wv_some h))
    · exact False.elim h
  | .rng a, ρ, μ, Q, h => by
    unfold vI at h; unfold evI
    refine wv_bind (wv_mono (vE_ok a h) fun x m h => ?_)
    split at h
    · simp only
      rw [if_pos h.c]
      exact wv_some h.q
    · exact False.elim h
end
theorem vC_ok (e : Eo) {ρ : Rho} {μ : Sto} {Q : Bool → Sto → Prop} (h : vC T cal mak e ρ μ Q) : Wv (evC T cal mak e ρ μ) Q := by
  cases e with
  | no => unfold evC; exact wv_some h
  | so e =>
    unfold evC
    unfold vC at h
    refine wv_bind (wv_mono (vE_ok T cal mak e h) fun x m h => ?_)
    split at h
    · exact wv_some h
    · exact False.elim h
theorem ws_nx {ρ : Rho} {μ : Sto} {N : Rho → Sto → Prop} {R : Bool → D → Sto → Prop} (h : N ρ μ) : Ws (some (.nx ρ μ)) N R := .inl ⟨ρ, μ, rfl, h⟩
theorem ws_rt {o : Bool} {d : D} {μ : Sto} {N : Rho → Sto → Prop} {R : Bool → D → Sto → Prop} (h : R o d μ) : Ws (some (.rt o d μ)) N R := .inr ⟨o, d, μ, rfl, h⟩
theorem ws_v {α : Type} {x : Option (α × Sto)} {f : α × Sto → Option Out} {N : Rho → Sto → Prop} {R : Bool → D → Sto → Prop} (h : Wv x fun a m => Ws (f (a, m)) N R) : Ws (x.bind f) N R := by
  obtain ⟨a, m, e, q⟩ := h
  rw [e]
  exact q
theorem ws_ow {α : Type} {x : Option α} {f : α → Option Out} {N : Rho → Sto → Prop} {R : Bool → D → Sto → Prop} (h : Ow x fun a => Ws (f a) N R) : Ws (x.bind f) N R := by
  obtain ⟨a, e, q⟩ := h
  rw [e]
  exact q
theorem blt_of {i n : Nat} (h : Nat.blt i n = true) : i < n := by simpa [Nat.blt_eq] using h
mutual
theorem vS_ok : ∀ (s : S) {ρ : Rho} {μ : Sto} {N : Rho → Sto → Prop} {R : Bool → D → Sto → Prop}, vS T cal mak s ρ μ N R → Ws (ex T cal mak s ρ μ) N R
  | .set i e, ρ, μ, N, R, h => by
    unfold vS at h; unfold ex
    refine ws_v (wv_mono (vE_ok T cal mak e h) fun x m h => ?_)
    split at h
    · rename_i hb
      simp only
      rw [if_pos (blt_of hb)]
      exact ws_nx h
    · exact False.elim h
  | .setO i e, ρ, μ, N, R, h => by
    unfold vS at h; unfold ex
    refine ws_v (wv_mono (vO_ok T cal mak e h) fun x m h => ?_)
    split at h
    · rename_i hb
      simp only
      rw [if_pos (blt_of hb)]
      exact ws_nx h
    · exact False.elim h
  | .setT l e, ρ, μ, N, R, h => by
    unfold vS at h; unfold ex
    refine ws_v (wv_mono (vE_ok T cal mak e h) fun x m h => ?_)
    split at h
    · exact ws_ow ⟨⟨_, rfl, ws_ow ⟨⟨_, rfl, ws_ow (ow_mono h fun ρ h => ws_nx h)⟩⟩⟩⟩
    · exact ws_ow ⟨⟨_, rfl, ws_ow ⟨⟨_, rfl, ws_ow (ow_mono h fun ρ h => ws_nx h)⟩⟩⟩⟩
    · exact ws_ow (ow_mono h fun d h => ws_ow (ow_mono h fun xs h => ws_ow (ow_mono h fun ρ h => ws_nx h)))
  | .frz i, ρ, μ, N, R, h => by
    unfold vS at h; unfold ex
    split at h
    · rename_i hb
      first | exact ws_nx h | (rw [hb]; exact ws_nx h)
    · exact False.elim h
  | .setA i f e, ρ, μ, N, R, h => by
    unfold vS at h; unfold ex
    refine ws_v (wv_mono (vE_ok T cal mak e h) fun x m h => ?_)
    split at h
    · rename_i hb
      simp only [hb]
      exact ws_ow (ow_mono h fun ys h => ws_nx h)
    · rename_i hb
      simp only [hb]
      obtain ⟨d, e1, c, xs, e2, h⟩ := h
      subst e2
      rw [e1]
      exact ws_ow (ow_mono h fun ys h => ws_nx h)
    · exact False.elim h
  | .setIx a k e, ρ, μ, N, R, h => by
    unfold vS at h; unfold ex
    refine ws_v (wv_mono (vE_ok T cal mak e h) fun x m h => ws_v (wv_mono (vE_ok T cal mak a h) fun y m h => ws_v (wv_mono (vE_ok T cal mak k h) fun z m h => ?_)))
    split at h
    · obtain ⟨d, e1, xs, e2, h⟩ := h
      simp only [e1]
      cases d <;> first | (cases e2; done) | skip
      cases e2
      exact ws_ow (ow_mono h fun ys h => ws_nx h)
    · exact False.elim h
  | .app i e, ρ, μ, N, R, h => by
    unfold vS at h; unfold ex
    refine ws_v (wv_mono (vE_ok T cal mak e h) fun x m h => ?_)
    split at h
    · rename_i hb
      simp only [hb]
      rw [if_pos h.c]
      exact ws_nx h.q
    · rename_i hb
      simp only [hb]
      obtain ⟨d0, e1, ys, e2, d, e3, xs, e4, h⟩ := h
      cases d0 <;> first | (cases e2; done) | skip
      cases d <;> first | (cases e4; done) | skip
      cases e2
      cases e4
      simp only [e1, e3]
      rw [if_pos h.c]
      exact ws_nx h.q
    · exact False.elim h
  | .ex e, ρ, μ, N, R, h => by
    unfold vS at h; unfold ex
    exact ws_v (wv_mono (vE_ok T cal mak e h) fun x m h => ws_nx h)
  | .ret e, ρ, μ, N, R, h => by
    unfold vS at h; unfold ex
    exact ws_v (wv_mono (vE_ok T cal mak e h) fun x m h => ws_rt h)
  | .retO e, ρ, μ, N, R, h => by
    unfold vS at h; unfold ex
    exact ws_v (wv_mono (vO_ok T cal mak e h) fun x m h => ws_rt h)
  | .retS i, ρ, μ, N, R, h => by
    unfold vS at h; unfold ex
    split at h
    · rename_i hb
      first | exact ws_rt h | (rw [hb]; exact ws_rt h)
    · exact False.elim h
  | .ret0, ρ, μ, N, R, h => by
    unfold vS at h; unfold ex
    exact ws_rt h
  | .iff c a b, ρ, μ, N, R, h => by
    unfold vS at h; unfold ex
    refine ws_v (wv_mono (vE_ok T cal mak c h) fun x m h => ?_)
    rcases h.h with ⟨e, k⟩ | ⟨e, k⟩
    · subst e; exact vSs_ok a k
    · subst e; exact vSs_ok b k
  | .for tg it b, ρ, μ, N, R, h => by
    unfold vS at h; unfold ex
    obtain ⟨a, m, e, h⟩ := vI_ok T cal mak it h
    exact ws_v ⟨a, m, e, h.h⟩
  | .pas, ρ, μ, N, R, h => by
    unfold vS at h; unfold ex
    exact ws_nx h
  | .bad, ρ, μ, N, R, h => by
    unfold vS at h
    exact False.elim h
theorem vSs_ok : ∀ (s : Ss) {ρ : Rho} {μ : Sto} {N : Rho → Sto → Prop} {R : Bool → D → Sto → Prop}, vSs T cal mak s ρ μ N R → Ws (exs T cal mak s ρ μ) N R
  | .nil, ρ, μ, N, R, h => by unfold vSs at h; unfold exs; exact ws_nx h
  | .cons s b, ρ, μ, N, R, h => by
    unfold vSs at h; unfold exs
    rcases vS_ok s h with ⟨ρ', μ', e, h⟩ | ⟨o, d, μ', e, h⟩
    · rw [e]; exact vSs_ok b h
    · rw [e]; exact ws_rt h
end
end
end EV

set_option Elab.async false
set_option linter.all false
set_option maxRecDepth 100000
set_option maxHeartbeats 1000000
namespace EV
open PySem PySem.Spec PyProof.Rows L2
/-! rules -/
theorem v_fn {T : Tab} {n f : Nat} {F : Fn} {ds : List D} {μ : Sto} {Q : Bool → D → Sto → Prop} (hF : T.fns[f]? = some F) (h : ds.length = F.ps.length) (hi : F.ini = false)
    (k : vSs T (sem T n).1 (sem T n).2 F.code (start F.N.length ds) μ (fun _ μ => Q false .non μ) Q) : Cw (sem T (n + 1)).1 f ds μ Q := by
  have e : (sem T (n + 1)).1 f ds μ = runF T (sem T n).1 (sem T n).2 F ds μ := by
    show (T.fns[f]?).bind _ = _
    rw [hF]; rfl
  constructor
  rw [e]
  unfold runF
  rw [if_pos ⟨h, hi⟩]
  rcases vSs_ok T _ _ F.code k with ⟨ρ', μ', e, h⟩ | ⟨o, d, μ', e, h⟩
  · rw [e]; exact ⟨_, _, _, rfl, h⟩
  · rw [e]; exact ⟨_, _, _, rfl, h⟩
theorem v_mk {T : Tab} {n c : Nat} {kk : Cl} {F : Fn} {ds : List D} {μ : Sto} {Q : D → Sto → Prop} (hk : T.cls[c]? = some kk) (hF : T.fns[kk.init]? = some F) (h : ds.length + 1 = F.ps.length) (hi : F.ini = true)
    (k : vSs T (sem T n).1 (sem T n).2 F.code ((start F.N.length (.non :: ds)).set 0 (.ow (.obj c []))) μ (fun ρ μ => match (ρ[0]? : Option Slot) with | some (.ow d) => Q d μ | some (.fz d) => Q d μ | _ => False) (fun _ _ _ => False)) : Mw (sem T (n + 1)).2 c ds μ Q := by
  have e : (sem T (n + 1)).2 c ds μ = runI T (sem T n).1 (sem T n).2 F c ds μ := by
    show (T.cls[c]?).bind _ = _
    rw [hk]
    show (T.fns[kk.init]?).bind _ = _
    rw [hF]; rfl
  constructor
  rw [e]
  unfold runI
  rw [if_pos ⟨h, hi⟩]
  rcases vSs_ok T _ _ F.code k with ⟨ρ', μ', e, h⟩ | ⟨o, d, μ', e, h⟩
  · rw [e]
    have h : (match (ρ'[0]? : Option Slot) with | some (.ow d) => Q d μ' | some (.fz d) => Q d μ' | _ => False) := h
    split at h
    · rename_i hd
      exact ⟨_, _, by simp only [Option.bind_some, hd], h⟩
    · rename_i hd
      exact ⟨_, _, by simp only [Option.bind_some, hd], h⟩
    · exact False.elim h
  · exact False.elim h
theorem cw_mono {c : Cal} {f : Nat} {ds : List D} {μ : Sto} {Q R : Bool → D → Sto → Prop} (h : Cw c f ds μ Q) (k : ∀ o d m, Q o d m → R o d m) : Cw c f ds μ R := by
  obtain ⟨o, d, m, e, q⟩ := h
  exact ⟨⟨o, d, m, e, k o d m q⟩⟩
theorem if_t {p : Prop} [Decidable p] {A B : Prop} (h : p) (a : A) : If (.bl (decide p)) A B := ⟨.inl ⟨by rw [decide_eq_true h], a⟩⟩
theorem if_f {p : Prop} [Decidable p] {A B : Prop} (h : ¬ p) (a : B) : If (.bl (decide p)) A B := ⟨.inr ⟨by rw [decide_eq_false h], a⟩⟩
theorem if_of {p : Prop} [Decidable p] {A B : Prop} (h1 : p → A) (h2 : ¬ p → B) : If (.bl (decide p)) A B := by
  by_cases h : p
  · exact if_t h (h1 h)
  · exact if_f h (h2 h)
theorem if_b {b : Bool} {A B : Prop} (h1 : b = true → A) (h2 : b = false → B) : If (.bl b) A B := by
  cases b
  · exact ⟨.inr ⟨rfl, h2 rfl⟩⟩
  · exact ⟨.inl ⟨rfl, h1 rfl⟩⟩
theorem if_T {A B : Prop} (h : A) : If (.bl true) A B := ⟨.inl ⟨rfl, h⟩⟩
theorem if_F {A B : Prop} (h : B) : If (.bl false) A B := ⟨.inr ⟨rfl, h⟩⟩
theorem if_nt {p : Prop} [Decidable p] {A B : Prop} (h : ¬ p) (a : A) : If (.bl (!decide p)) A B := ⟨.inl ⟨by rw [decide_eq_false h]; rfl, a⟩⟩
theorem if_nf {p : Prop} [Decidable p] {A B : Prop} (h : p) (a : B) : If (.bl (!decide p)) A B := ⟨.inr ⟨by rw [decide_eq_true h]; rfl, a⟩⟩
theorem if_n {p : Prop} [Decidable p] {A B : Prop} (h1 : ¬ p → A) (h2 : p → B) : If (.bl (!decide p)) A B := by
  by_cases h : p
  · exact if_nf h (h2 h)
  · exact if_nt h (h1 h)
theorem if_dT {b : Bool} {A B : Prop} (e : b = true) (h : A) : If (.bl b) A B := ⟨.inl ⟨by rw [e], h⟩⟩
theorem if_dF {b : Bool} {A B : Prop} (e : b = false) (h : B) : If (.bl b) A B := ⟨.inr ⟨by rw [e], h⟩⟩
theorem ow_r {α : Type} {x : Option α} {a : α} {Q : α → Prop} (e : x = some a) (h : Q a) : Ow x Q := ⟨⟨a, e, h⟩⟩
/-- a loop's law: what stands is I, told of the items that are left -/
theorem f_inv {f : D → Rho → Sto → Option Out} {N : Rho → Sto → Prop} {R : Bool → D → Sto → Prop} (I : List D → Rho → Sto → Prop) : ∀ {xs : List D} {ρ : Rho} {μ : Sto}, I xs ρ μ →
    (∀ x xs ρ μ, I (x :: xs) ρ μ → Ws (f x ρ μ) (fun ρ μ => I xs ρ μ) R) → (∀ ρ μ, I [] ρ μ → N ρ μ) → Fw none f xs ρ μ N R
  | [], ρ, μ, h, _, k => by
    constructor
    unfold forL
    rw [if_pos (by rfl)]
    exact ws_nx (k ρ μ h)
  | x :: xs, ρ, μ, h, st, k => by
    constructor
    unfold forL
    rw [if_pos (by rfl)]
    rcases st x xs ρ μ h with ⟨ρ', μ', e, h⟩ | ⟨o, d, μ', e, h⟩
    · rw [e]; exact (f_inv I h st k).h
    · rw [e]; exact ws_rt h
theorem f_nil {f : D → Rho → Sto → Option Out} {N : Rho → Sto → Prop} {R : Bool → D → Sto → Prop} {ρ : Rho} {μ : Sto} (h : N ρ μ) : Fw none f [] ρ μ N R := by
  constructor
  unfold forL
  rw [if_pos (by rfl)]
  exact ws_nx h
theorem f_cons {f : D → Rho → Sto → Option Out} {N : Rho → Sto → Prop} {R : Bool → D → Sto → Prop} {ρ : Rho} {μ : Sto} {x : D} {xs : List D} (h : Ws (f x ρ μ) (fun ρ μ => Fw none f xs ρ μ N R) R) : Fw none f (x :: xs) ρ μ N R := by
  constructor
  unfold forL
  rw [if_pos (by rfl)]
  rcases h with ⟨ρ', μ', e, h⟩ | ⟨o, d, μ', e, h⟩
  · rw [e]; exact h.h
  · rw [e]; exact ws_rt h
/-- the body of a loop over one name -/
theorem bod1 {T : Tab} {cal : Cal} {mak : Mak} {i : Nat} {b : Ss} {x : D} {ρ : Rho} {μ : Sto} {N : Rho → Sto → Prop} {R : Bool → D → Sto → Prop} (hi : Nat.blt i ρ.length = true) (h : vSs T cal mak b (ρ.set i (.fz x)) μ N R) : Ws (bodF T cal mak (.v i) b x ρ μ) N R := by
  unfold bodF
  have e : bindTg (.v i) x ρ = some (ρ.set i (.fz x)) := by
    show (if i < ρ.length then some (ρ.set i (.fz x)) else none) = _
    rw [if_pos (blt_of hi)]
  rw [e]
  exact vSs_ok T cal mak b h
theorem bodn {T : Tab} {cal : Cal} {mak : Mak} {l : List Nat} {b : Ss} {xs : List D} {ρ ρ' : Rho} {μ : Sto} {N : Rho → Sto → Prop} {R : Bool → D → Sto → Prop} (e : setAll ρ l xs = some ρ') (h : vSs T cal mak b ρ' μ N R) : Ws (bodF T cal mak (.tup l) b (.tup xs) ρ μ) N R := by
  unfold bodF
  have e : bindTg (.tup l) (.tup xs) ρ = some ρ' := e
  rw [e]
  exact vSs_ok T cal mak b h
/-- a comprehension's law -/
theorem l_inv {f : D → Sto → Option (Option D × Sto)} (I : List D → List D → Sto → Prop) : ∀ {xs acc : List D} {μ : Sto} {Q : List D → Sto → Prop}, I xs acc μ →
    (∀ x xs acc μ, I (x :: xs) acc μ → Wv (f x μ) (fun r μ => I xs (match r with | some y => acc ++ [y] | none => acc) μ)) → (∀ ys μ, I [] (acc ++ ys) μ → Q ys μ) → Lw none f xs μ Q
  | [], acc, μ, Q, h, st, k => by
    constructor
    unfold lcL
    rw [if_pos (by rfl)]
    exact wv_some (k [] μ (by rw [List.append_nil]; exact h))
  | x :: xs, acc, μ, Q, h, st, k => by
    constructor
    unfold lcL
    rw [if_pos (by rfl)]
    obtain ⟨r, m, e, h⟩ := st x xs acc μ h
    rw [e]
    cases r with
    | none =>
      show Wv ((lcL none f xs m).bind _) Q
      exact wv_bind (wv_mono (l_inv I h st k).h fun ys m q => wv_some q)
    | some y =>
      show Wv ((lcL none f xs m).bind _) Q
      exact wv_bind (wv_mono (l_inv (Q := fun ys m => Q (y :: ys) m) I h st fun ys m q => k (y :: ys) m (by rw [List.append_assoc] at q; exact q)).h fun ys m q => wv_some q)
theorem l_pure {f : D → Sto → Option (Option D × Sto)} {xs : List D} {μ : Sto} {Q : List D → Sto → Prop} (g : D → Option D) (h : ∀ x ∈ xs, Wv (f x μ) (fun r m => r = g x ∧ m = μ)) (k : Q (xs.filterMap g) μ) : Lw none f xs μ Q := by
  constructor
  rw [lcL_pure (h := g) xs μ fun x hx => by
    obtain ⟨r, m, e, q1, q2⟩ := h x hx
    rw [e, q1, q2]]
  exact wv_some k
theorem bodl1 {T : Tab} {cal : Cal} {mak : Mak} {i : Nat} {el : E} {x : D} {ρ : Rho} {μ : Sto} {Q : Option D → Sto → Prop} (hi : Nat.blt i (wipeR ρ [i]).length = true) (h : vE T cal mak el ((wipeR ρ [i]).set i (.fz x)) μ (fun y μ => Q (some y) μ)) : Wv (bodL T cal mak el (.v i) .no ρ x μ) Q := by
  unfold bodL
  have e : bindTg (.v i) x (wipeR ρ [i]) = some ((wipeR ρ [i]).set i (.fz x)) := by
    show (if i < (wipeR ρ [i]).length then some ((wipeR ρ [i]).set i (.fz x)) else none) = _
    rw [if_pos (blt_of hi)]
  show Wv ((bindTg (.v i) x (wipeR ρ [i])).bind _) Q
  rw [e]
  unfold evC
  show Wv ((ev T cal mak el ((wipeR ρ [i]).set i (.fz x)) μ).bind fun y => some (some y.1, y.2)) Q
  exact wv_bind (wv_mono (vE_ok T cal mak el h) fun y m h => wv_some h)
theorem bodl {T : Tab} {cal : Cal} {mak : Mak} {tg : Tg} {el : E} {c : Eo} {x : D} {ρ ρ' : Rho} {μ : Sto} {Q : Option D → Sto → Prop} (hi : bindTg tg x (wipeR ρ tg.slots) = some ρ')
    (h : vC T cal mak c ρ' μ (fun b μ => If (.bl b) (vE T cal mak el ρ' μ (fun y μ => Q (some y) μ)) (Q none μ))) : Wv (bodL T cal mak el tg c ρ x μ) Q := by
  unfold bodL
  rw [hi]
  refine wv_bind (wv_mono (vC_ok T cal mak c h) fun b m h => ?_)
  rcases h.h with ⟨e, k⟩ | ⟨e, k⟩
  · cases e
    exact wv_bind (wv_mono (vE_ok T cal mak el k) fun y m h => wv_some h)
  · cases e
    exact wv_some k
end EV

set_option Elab.async false
set_option linter.all false
set_option maxRecDepth 100000
set_option maxHeartbeats 1000000
namespace EV
open PySem PySem.Spec PyProof.Rows L2 TL
/-! equal to itself -/
mutual
theorem eqv_self : ∀ d : D, PyData.eqv d.py d.py = true ∨ d.dat = false
  | .non => .inl (by simp [D.py, PyData.eqv])
  | .bl b => .inl (by simp [D.py, PyData.eqv])
  | .int i => .inl (by simp [D.py, PyData.eqv])
  | .str s => .inl (by simp [D.py, PyData.eqv])
  | .lst xs => by
    rcases eqv_selfs xs with h | h
    · exact .inl (by simp only [D.py, PyData.eqv]; exact h)
    · exact .inr (by simp only [D.dat]; exact h)
  | .tup xs => by
    rcases eqv_selfs xs with h | h
    · exact .inl (by simp only [D.py, PyData.eqv]; exact h)
    · exact .inr (by simp only [D.dat]; exact h)
  | .dct _ _ => .inr rfl
  | .obj _ _ => .inr rfl
  | .cell _ => .inr rfl
  | .fn _ => .inr rfl
theorem eqv_selfs : ∀ ds : List D, PyData.eqvAll (D.pys ds) (D.pys ds) = true ∨ D.dats ds = false
  | [] => .inl rfl
  | d :: ds => by
    rcases eqv_self d with h | h
    · rcases eqv_selfs ds with h' | h'
      · exact .inl (by simp only [D.pys, PyData.eqvAll, h, h']; rfl)
      · exact .inr (by simp only [D.dats, h', Bool.and_false])
    · exact .inr (by simp only [D.dats, h, Bool.false_and])
end
theorem eqD_self {d : D} (h : d.dat = true) (hz : d.py.depth ≤ 64) : eqD d d = some true := by
  have e : PyData.eqv d.py d.py = true := by
    rcases eqv_self d with e | e
    · exact e
    · rw [h] at e; cases e
  unfold eqD
  rw [h, e, Nat.min_self, decide_eq_true hz]
  rfl
theorem notCell_top {d : D} {μ : Sto} (h : d.dat = true) : d.top μ = some d := by
  cases d <;> first | rfl | cases h
theorem ne_self {d : D} {μ : Sto} (h : d.dat = true) (hz : d.py.depth ≤ 64) : cmpD .NotEq d d μ = some false := by
  show ((d.top μ).bind fun x => (d.top μ).bind fun y => (eqD x y).bind fun b => some (!b)) = _
  rw [notCell_top h]
  show (eqD d d).bind _ = _
  rw [eqD_self h hz]
  rfl
theorem eq_self {d : D} {μ : Sto} (h : d.dat = true) (hz : d.py.depth ≤ 64) : cmpD .Eq d d μ = some true := by
  show ((d.top μ).bind fun x => (d.top μ).bind fun y => eqD x y) = _
  rw [notCell_top h]
  exact eqD_self h hz
theorem dats_all : ∀ {ds : List D}, (∀ d ∈ ds, d.dat = true) → D.dats ds = true
  | [], _ => rfl
  | d :: ds, h => by
    show (d.dat && D.dats ds) = true
    rw [h d List.mem_cons_self, dats_all fun x hx => h x (List.mem_cons_of_mem _ hx)]
    rfl
theorem depths_le {n : Nat} : ∀ {ds : List D}, (∀ d ∈ ds, d.py.depth ≤ n) → PyData.depthAll (D.pys ds) ≤ n
  | [], _ => Nat.zero_le _
  | d :: ds, h => by
    show max d.py.depth (PyData.depthAll (D.pys ds)) ≤ n
    exact Nat.max_le.mpr ⟨h d List.mem_cons_self, depths_le fun x hx => h x (List.mem_cons_of_mem _ hx)⟩
theorem eqS {a b : Str} {μ : Sto} : cmpD .Eq (.str a) (.str b) μ = some (decide (a = b)) := by
  have e : PyData.eqv (.str a) (.str b) = (a == b) := by simp [PyData.eqv]
  simp only [cmpD, D.top, Option.bind_some, eqD, D.dat, D.py, e]
  by_cases h : a = b <;> simp [h, PyData.depth]
theorem neS {a b : Str} {μ : Sto} : cmpD .NotEq (.str a) (.str b) μ = some (decide (a ≠ b)) := by
  have e : PyData.eqv (.str a) (.str b) = (a == b) := by simp [PyData.eqv]
  simp only [cmpD, D.top, Option.bind_some, eqD, D.dat, D.py, e]
  by_cases h : a = b <;> simp [h, PyData.depth]
/-! texts -/
theorem sok_iff {s : Str} : sok s = true ↔ (∀ c ∈ tl s, c < 1114112) ∧ s.length ≤ LIM := by
  unfold sok PyData.strOk
  rw [Bool.and_eq_true, decide_eq_true_eq, ← Array.all_toList, List.all_eq_true]
  simp only [decide_eq_true_eq]
theorem sok_app {a b : Str} (ha : sok a = true) (hb : sok b = true) (h : a.length + b.length ≤ LIM) : sok (a ++ b) = true := by
  rw [sok_iff] at *
  refine ⟨fun c hc => ?_, by rw [len_tl, tl_append, List.length_append, ← len_tl, ← len_tl]; exact h⟩
  rw [tl_append] at hc
  rcases List.mem_append.mp hc with hc | hc
  · exact ha.1 c hc
  · exact hb.1 c hc
theorem len_app {a b : Str} : (a ++ b).length = a.length + b.length := by rw [len_tl, tl_append, List.length_append, ← len_tl, ← len_tl]
theorem sok_num {n : Int} (h0 : 0 ≤ n) (h : n < 10000000000) : sok (Str.ofString (toString n)) = true ∧ (Str.ofString (toString n)).length ≤ 10 ∧ n.natAbs.log2 < 1920 := by
  obtain ⟨m, rfl⟩ := Int.eq_ofNat_of_zero_le h0
  have hl : (Str.ofString (toString ((m : Nat) : Int))).length ≤ 10 := by
    rw [len_tl, tl_num]
    exact numL_len (by decide) (by omega)
  refine ⟨sok_iff.mpr ⟨fun c hc => ?_, Nat.le_trans hl (by decide)⟩, hl, ?_⟩
  · rw [tl_num] at hc
    false_or_by_contra
    exact numL_free (.inr (by omega)) hc
  · show m.log2 < 1920
    by_cases hm : m = 0
    · subst hm; decide
    · have : m.log2 < 40 := (Nat.log2_lt hm).mpr (by omega)
      omega
theorem joinL_mem {S : List Nat} {c : Nat} : ∀ {ps : List (List Nat)}, c ∈ joinL S ps → c ∈ S ∨ ∃ p ∈ ps, c ∈ p
  | [], h => by cases h
  | [p], h => .inr ⟨p, List.mem_cons_self, h⟩
  | p :: q :: r, h => by
    rcases List.mem_append.mp (show c ∈ p ++ (S ++ joinL S (q :: r)) from h) with h | h
    · exact .inr ⟨p, List.mem_cons_self, h⟩
    · rcases List.mem_append.mp h with h | h
      · exact .inl h
      · rcases joinL_mem h with h | ⟨p', hp, h⟩
        · exact .inl h
        · exact .inr ⟨p', List.mem_cons_of_mem _ hp, h⟩
theorem joinL_len {S : List Nat} : ∀ {ps : List (List Nat)}, (joinL S ps).length ≤ (ps.map List.length).sum + ps.length * S.length
  | [] => by simp [joinL]
  | [p] => by simp [joinL]
  | p :: q :: r => by
    have ih := joinL_len (S := S) (ps := q :: r)
    show (p ++ (S ++ joinL S (q :: r))).length ≤ _
    simp only [List.length_append, List.map_cons, List.sum_cons, List.length_cons, Nat.add_mul] at ih ⊢
    omega
theorem sum_le {f : Str → Nat} {n : Nat} : ∀ {ys : List Str}, (∀ y ∈ ys, f y ≤ n) → (ys.map f).sum ≤ ys.length * n
  | [], _ => by simp
  | y :: ys, h => by
    have := sum_le (f := f) (n := n) (ys := ys) fun z hz => h z (List.mem_cons_of_mem _ hz)
    have := h y List.mem_cons_self
    simp only [List.map_cons, List.sum_cons, List.length_cons, Nat.add_mul, Nat.one_mul]
    omega
theorem join_ok {a : Str} {ys : List Str} {n m : Nat} (ha : sok a = true) (ha1 : a.length ≤ 1) (h : ∀ y ∈ ys, sok y = true ∧ y.length ≤ n) (hm : ys.length ≤ m) (hz : m * n + m ≤ LIM) :
    ((ys.map (·.length)).sum + ys.length * a.length ≤ LIM ∧ sok (Txt.join a ys) = true) ∧ (Txt.join a ys).length ≤ m * n + m := by
  have h1 : (ys.map (·.length)).sum ≤ ys.length * n := sum_le fun y hy => (h y hy).2
  have h2 : ys.length * n ≤ m * n := Nat.mul_le_mul_right n hm
  have h3 : ys.length * a.length ≤ m := Nat.le_trans (Nat.mul_le_mul hm ha1) (by omega)
  have hl : (Txt.join a ys).length ≤ m * n + m := by
    rw [join_eq, len_tl, tl_join]
    refine Nat.le_trans joinL_len ?_
    have e : (ys.map tl).map List.length = ys.map (·.length) := by
      rw [List.map_map]
      exact List.map_congr_left fun y _ => (len_tl y).symm
    rw [e, List.length_map, ← len_tl]
    omega
  refine ⟨⟨by omega, sok_iff.mpr ⟨fun c hc => ?_, by omega⟩⟩, hl⟩
  rw [join_eq, tl_join] at hc
  rcases joinL_mem hc with hc | ⟨p, hp, hc⟩
  · exact (sok_iff.mp ha).1 c hc
  · obtain ⟨y, hy, rfl⟩ := List.mem_map.mp hp
    exact (sok_iff.mp (h y hy).1).1 c hc
theorem asStrs_map (ys : List Str) : asStrs (ys.map D.str) = some ys := by
  induction ys with
  | nil => rfl
  | cons y ys ih =>
    show (asStrs (ys.map D.str)).bind _ = _
    rw [ih]; rfl
end EV

set_option Elab.async false
set_option linter.all false
set_option maxRecDepth 100000
set_option maxHeartbeats 0
namespace HD
open PySem PySem.Spec PyProof.Rows L2
def top (i : Nat) : Stmt := PySem.Challenge.pw_enoughsaid_k67_books_read.main.body.getD i (.Pass ⟨0, 0, 0, 0⟩)
def clsBody : Stmt → List Stmt
  | .ClassDef _ _ _ b .. => b
  | _ => []
def meth (i j : Nat) : Stmt := (clsBody (top i)).getD j (.Pass ⟨0, 0, 0, 0⟩)
def c_is_number_word : EV.Ss := (.cons (.iff (.or (.not (.chn .LtE .LtE (.k (.int 1)) (.bi .len (.e (.v 0))) (.gl 0))) (.not (.bi .all (.e (.frz (.lc (.cmp .In (.e (.v 1)) (.e (.gl 1))) (.v 1) (.str (.v 0)) .no)))))) (.cons (.ret (.k (.bl false))) .nil) .nil) (.cons (.ret (.or (.cmp .Eq (.e (.v 0)) (.e (.k (.str "0")))) (.cmp .NotEq (.e (.sub (.e (.v 0)) (.k (.int 0)))) (.e (.k (.str "0")))))) .nil))
def f_is_number_word : EV.Fn := ⟨⟨("is_number_word", none), "is_number_word", "is_number_word", defArgs (top 12), defBody (top 12), defScope (top 12), [], []⟩,
  ["word", "sign"], ["word"], c_is_number_word, false⟩
def c_are_numbers : EV.Ss := (.cons (.ret (.bi .all (.e (.frz (.lc (.call 0 (.cons (.v 1) .nil)) (.v 1) (.lst (.e (.v 0))) .no))))) .nil)
def f_are_numbers : EV.Fn := ⟨⟨("are_numbers", none), "are_numbers", "are_numbers", defArgs (top 16), defBody (top 16), defScope (top 16), [], []⟩,
  ["words", "word"], ["words"], c_are_numbers, false⟩
def c_is_name : EV.Ss := (.cons (.iff (.or (.not (.isi (.v 0) (.ty "str"))) (.not (.chn .LtE .LtE (.k (.int 1)) (.bi .len (.e (.v 0))) (.gl 2)))) (.cons (.ret (.k (.bl false))) .nil) .nil) (.cons (.ret (.bi .all (.e (.frz (.lc (.cmp .In (.e (.v 1)) (.e (.gl 3))) (.v 1) (.str (.v 0)) .no))))) .nil))
def f_is_name : EV.Fn := ⟨⟨("is_name", none), "is_name", "is_name", defArgs (top 6), defBody (top 6), defScope (top 6), [], []⟩,
  ["thing", "sign"], ["thing"], c_is_name, false⟩
def c_heard_row : EV.Ss := (.cons (.iff (.or (.cmp .NotEq (.e (.bi .len (.e (.v 0)))) (.e (.k (.int 8)))) (.or (.not (.call 2 (.cons (.sub (.e (.v 0)) (.k (.int 2))) .nil))) (.cmp .NotIn (.e (.sub (.e (.v 0)) (.k (.int 7)))) (.e (.gl 4))))) (.cons (.ret (.k .non)) .nil) .nil) (.cons (.iff (.not (.call 1 (.cons (.frz (.lst (.cons (.sub (.e (.v 0)) (.k (.int 1))) (.cons (.sub (.e (.v 0)) (.k (.int 3))) (.cons (.sub (.e (.v 0)) (.k (.int 5))) (.cons (.sub (.e (.v 0)) (.k (.int 6))) .nil)))))) .nil))) (.cons (.ret (.k .non)) .nil) .nil) (.cons (.set 1 (.k .non)) (.cons (.iff (.cmp .NotEq (.e (.sub (.e (.v 0)) (.k (.int 4)))) (.e (.gl 5))) (.cons (.iff (.not (.call 0 (.cons (.sub (.e (.v 0)) (.k (.int 4))) .nil))) (.cons (.ret (.k .non)) .nil) .nil) (.cons (.set 1 (.bi .int (.e (.sub (.e (.v 0)) (.k (.int 4)))))) .nil)) .nil) (.cons (.ret (.tup (.cons (.k (.str "hear")) (.cons (.bi .int (.e (.sub (.e (.v 0)) (.k (.int 1))))) (.cons (.sub (.e (.v 0)) (.k (.int 2))) (.cons (.bi .int (.e (.sub (.e (.v 0)) (.k (.int 3))))) (.cons (.v 1) (.cons (.bi .int (.e (.sub (.e (.v 0)) (.k (.int 5))))) (.cons (.bi .int (.e (.sub (.e (.v 0)) (.k (.int 6))))) (.cons (.sub (.e (.v 0)) (.k (.int 7))) .nil)))))))))) .nil)))))
def f_heard_row : EV.Fn := ⟨⟨("heard_row", none), "heard_row", "heard_row", defArgs (top 18), defBody (top 18), defScope (top 18), [], []⟩,
  ["words", "value"], ["words"], c_heard_row, false⟩
def c_are_names : EV.Ss := (.cons (.ret (.bi .all (.e (.frz (.lc (.call 2 (.cons (.v 1) .nil)) (.v 1) (.lst (.e (.v 0))) .no))))) .nil)
def f_are_names : EV.Fn := ⟨⟨("are_names", none), "are_names", "are_names", defArgs (top 17), defBody (top 17), defScope (top 17), [], []⟩,
  ["words", "word"], ["words"], c_are_names, false⟩
def c_row_of : EV.Ss := (.cons (.iff (.cmp .Eq (.e (.sub (.e (.v 0)) (.k (.int 0)))) (.e (.k (.str "hear")))) (.cons (.ret (.call 3 (.cons (.v 0) .nil))) .nil) .nil) (.cons (.iff (.or (.cmp .Lt (.e (.bi .len (.e (.v 0)))) (.e (.k (.int 2)))) (.not (.call 0 (.cons (.sub (.e (.v 0)) (.k (.int 1))) .nil)))) (.cons (.ret (.k .non)) .nil) .nil) (.cons (.iff (.and (.cmp .Eq (.e (.sub (.e (.v 0)) (.k (.int 0)))) (.e (.k (.str "begin")))) (.and (.cmp .Gt (.e (.bi .len (.e (.v 0)))) (.e (.k (.int 2)))) (.and (.call 0 (.cons (.sub (.e (.v 0)) (.k (.int 2))) .nil)) (.call 4 (.cons (.frz (.slc (.e (.v 0)) (.so (.k (.int 3))) .no)) .nil))))) (.cons (.ret (.tup (.cons (.k (.str "begin")) (.cons (.bi .int (.e (.sub (.e (.v 0)) (.k (.int 1))))) (.cons (.bi .int (.e (.sub (.e (.v 0)) (.k (.int 2))))) (.cons (.tupl (.e (.frz (.slc (.e (.v 0)) (.so (.k (.int 3))) .no)))) .nil)))))) .nil) .nil) (.cons (.iff (.and (.cmp .Eq (.e (.sub (.e (.v 0)) (.k (.int 0)))) (.e (.k (.str "wake")))) (.call 4 (.cons (.frz (.slc (.e (.v 0)) (.so (.k (.int 2))) .no)) .nil))) (.cons (.ret (.tup (.cons (.k (.str "wake")) (.cons (.bi .int (.e (.sub (.e (.v 0)) (.k (.int 1))))) (.cons (.tupl (.e (.frz (.slc (.e (.v 0)) (.so (.k (.int 2))) .no)))) .nil))))) .nil) .nil) (.cons (.iff (.and (.cmp .Eq (.e (.sub (.e (.v 0)) (.k (.int 0)))) (.e (.k (.str "off")))) (.and (.cmp .Eq (.e (.bi .len (.e (.v 0)))) (.e (.k (.int 3)))) (.cmp .In (.e (.sub (.e (.v 0)) (.k (.int 2)))) (.e (.tup (.cons (.k (.str "yes")) (.cons (.k (.str "no")) .nil))))))) (.cons (.ret (.tup (.cons (.k (.str "off")) (.cons (.bi .int (.e (.sub (.e (.v 0)) (.k (.int 1))))) (.cons (.cmp .Eq (.e (.sub (.e (.v 0)) (.k (.int 2)))) (.e (.k (.str "yes")))) .nil))))) .nil) .nil) (.cons (.ret (.k .non)) .nil))))))
def f_row_of : EV.Fn := ⟨⟨("row_of", none), "row_of", "row_of", defArgs (top 19), defBody (top 19), defScope (top 19), [], []⟩,
  ["words"], ["words"], c_row_of, false⟩
def c_read_book : EV.Ss := (.cons (.iff (.not (.isi (.v 0) (.ty "str"))) (.cons .bad .nil) .nil) (.cons (.setO 1 (.lst .nil)) (.cons (.iff (.cmp .Eq (.e (.v 0)) (.e (.k (.str "")))) (.cons (.retS 1) .nil) .nil) (.cons (.for (.tup [2, 3]) (.enum (.frz (.split (.v 0) (.k (.str "\n"))))) (.cons (.set 4 (.call 5 (.cons (.frz (.split (.v 3) (.k (.str " ")))) .nil))) (.cons (.iff (.cmp .Is (.e (.v 4)) (.e (.k .non))) (.cons .bad .nil) .nil) (.cons (.app 1 (.v 4)) .nil)))) (.cons (.retS 1) .nil)))))
def f_read_book : EV.Fn := ⟨⟨("read_book", none), "read_book", "read_book", defArgs (top 20), defBody (top 20), defScope (top 20), [], []⟩,
  ["text", "found", "place", "line", "row"], ["text"], c_read_book, false⟩
def c__law_well : EV.Ss := (.cons (.ret (.box (.lst (.cons (.sub (.e (.frz (.lst (.cons (.k (.int 0)) (.cons (.v 0) .nil))))) (.bi .int (.e (.cmp .GtE (.e (.v 0)) (.e (.bin .Pow (.k (.int 10)) (.k (.int 18)))))))) (.cons (.bin .Mod (.v 0) (.k (.int 2147483629))) (.cons (.k (.int 0)) .nil)))))) .nil)
def f__law_well : EV.Fn := ⟨⟨("_law_well", none), "_law_well", "_law_well", defArgs (top 23), defBody (top 23), defScope (top 23), [], []⟩,
  ["_law_cell"], ["_law_cell"], c__law_well, false⟩
def c__law_draw : EV.Ss := (.cons (.iff (.cmp .Gt (.e (.sub (.e (.v 0)) (.k (.int 0)))) (.e (.k (.int 0)))) (.cons (.set 3 (.bin .Mod (.sub (.e (.v 0)) (.k (.int 0))) (.v 1))) (.cons (.setIx (.v 0) (.k (.int 0)) (.bin .FloorDiv (.sub (.e (.v 0)) (.k (.int 0))) (.v 1))) (.cons (.ret (.v 3)) .nil))) .nil) (.cons (.setIx (.v 0) (.k (.int 2)) (.bin .Add (.sub (.e (.v 0)) (.k (.int 2))) (.k (.int 1)))) (.cons (.set 2 (.bin .Mod (.bin .Mult (.bin .Add (.bin .Add (.sub (.e (.v 0)) (.k (.int 1))) (.bin .Mult (.k (.int 7919)) (.sub (.e (.v 0)) (.k (.int 2))))) (.k (.int 1))) (.k (.int 48271))) (.k (.int 2147483647)))) (.cons (.set 2 (.bin .Mod (.bin .Mult (.v 2) (.bin .Add (.bin .FloorDiv (.v 2) (.k (.int 1009))) (.k (.int 69621)))) (.k (.int 2147483647)))) (.cons (.ret (.bin .Mod (.bin .Mod (.bin .Mult (.v 2) (.bin .Add (.bin .FloorDiv (.v 2) (.k (.int 2003))) (.k (.int 40692)))) (.k (.int 2147483399))) (.v 1))) .nil)))))
def f__law_draw : EV.Fn := ⟨⟨("_law_draw", none), "_law_draw", "_law_draw", defArgs (top 24), defBody (top 24), defScope (top 24), [], []⟩,
  ["_law_well_here", "_law_base", "_law_number_here", "_law_digit"], ["_law_well_here", "_law_base"], c__law_draw, false⟩
def c__law_number : EV.Ss := (.cons (.ret (.sub (.e (.frz (.lst (.cons (.k (.int 0)) (.cons (.call 8 (.cons (.v 0) (.cons (.k (.int 10)) .nil))) (.cons (.call 8 (.cons (.v 0) (.cons (.bin .Pow (.k (.int 10)) (.k (.int 9))) .nil))) (.cons (.bin .Sub (.bin .Pow (.k (.int 10)) (.k (.int 9))) (.k (.int 1))) .nil))))))) (.call 8 (.cons (.v 0) (.cons (.k (.int 4)) .nil))))) .nil)
def f__law_number : EV.Fn := ⟨⟨("_law_number", none), "_law_number", "_law_number", defArgs (top 26), defBody (top 26), defScope (top 26), [], []⟩,
  ["_law_well_here"], ["_law_well_here"], c__law_number, false⟩
def c__law_word : EV.Ss := (.cons (.set 2 (.k (.str "abcdefghijklmnopqrstuvwxyz"))) (.cons (.set 3 (.k (.str ""))) (.cons (.for (.v 4) (.rng (.call 8 (.cons (.v 0) (.cons (.k (.int 8)) .nil)))) (.cons (.set 3 (.bin .Add (.v 3) (.sub (.e (.v 2)) (.call 8 (.cons (.v 0) (.cons (.k (.int 26)) .nil)))))) .nil)) (.cons (.ret (.bin .Add (.v 3) (.sub (.e (.v 2)) (.bin .Mod (.v 1) (.k (.int 26)))))) .nil))))
def f__law_word : EV.Fn := ⟨⟨("_law_word", none), "_law_word", "_law_word", defArgs (top 25), defBody (top 25), defScope (top 25), [], []⟩,
  ["_law_well_here", "_law_last", "_law_letters", "_law_word_here", "_law_k"], ["_law_well_here", "_law_last"], c__law_word, false⟩
def c__law_few_names : EV.Ss := (.cons (.setO 1 (.lst .nil)) (.cons (.for (.v 2) (.rng (.call 8 (.cons (.v 0) (.cons (.k (.int 4)) .nil)))) (.cons (.app 1 (.call 10 (.cons (.v 0) (.cons (.call 8 (.cons (.v 0) (.cons (.k (.int 26)) .nil))) .nil)))) (.cons (.iff (.cmp .Eq (.e (.call 8 (.cons (.v 0) (.cons (.k (.int 4)) .nil)))) (.e (.k (.int 0)))) (.cons (.app 1 (.sub (.own 1) (.k (.int 0)))) .nil) .nil) .nil))) (.cons (.ret (.tupl (.own 1))) .nil)))
def f__law_few_names : EV.Fn := ⟨⟨("_law_few_names", none), "_law_few_names", "_law_few_names", defArgs (top 27), defBody (top 27), defScope (top 27), [], []⟩,
  ["_law_well_here", "_law_found", "_law_k"], ["_law_well_here"], c__law_few_names, false⟩
def c__law_book_row : EV.Ss := (.cons (.set 1 (.call 8 (.cons (.v 0) (.cons (.k (.int 5)) .nil)))) (.cons (.set 2 (.call 9 (.cons (.v 0) .nil))) (.cons (.iff (.cmp .Eq (.e (.v 1)) (.e (.k (.int 0)))) (.cons (.ret (.tup (.cons (.k (.str "begin")) (.cons (.v 2) (.cons (.call 9 (.cons (.v 0) .nil)) (.cons (.call 11 (.cons (.v 0) .nil)) .nil)))))) .nil) .nil) (.cons (.iff (.cmp .Eq (.e (.v 1)) (.e (.k (.int 1)))) (.cons (.ret (.tup (.cons (.k (.str "wake")) (.cons (.v 2) (.cons (.call 11 (.cons (.v 0) .nil)) .nil))))) .nil) .nil) (.cons (.iff (.cmp .Eq (.e (.v 1)) (.e (.k (.int 2)))) (.cons (.ret (.tup (.cons (.k (.str "off")) (.cons (.v 2) (.cons (.cmp .Eq (.e (.call 8 (.cons (.v 0) (.cons (.k (.int 2)) .nil)))) (.e (.k (.int 1)))) .nil))))) .nil) .nil) (.cons (.set 3 (.sub (.e (.frz (.lst (.cons (.k .non) (.cons (.call 9 (.cons (.v 0) .nil)) .nil))))) (.call 8 (.cons (.v 0) (.cons (.k (.int 2)) .nil))))) (.cons (.set 4 (.frz (.lst (.cons (.k (.str "idle")) (.cons (.k (.str "strange")) (.cons (.k (.str "elder")) (.cons (.k (.str "false")) (.cons (.k (.str "over")) (.cons (.k (.str "twice")) (.cons (.k (.str "done")) (.cons (.k (.str "never")) (.cons (.k (.str "no")) (.cons (.k (.str "ok")) .nil))))))))))))) (.cons (.set 5 (.sub (.e (.frz (.lst (.cons (.call 10 (.cons (.v 0) (.cons (.call 8 (.cons (.v 0) (.cons (.k (.int 26)) .nil))) .nil))) (.cons (.sub (.e (.v 4)) (.call 8 (.cons (.v 0) (.cons (.k (.int 10)) .nil)))) .nil))))) (.call 8 (.cons (.v 0) (.cons (.k (.int 2)) .nil))))) (.cons (.setO 6 (.lc (.call 9 (.cons (.v 0) .nil)) (.v 8) (.rng (.k (.int 3))) .no)) (.cons (.frz 6) (.cons (.set 7 (.sub (.e (.v 4)) (.call 8 (.cons (.v 0) (.cons (.k (.int 10)) .nil))))) (.cons (.ret (.tup (.cons (.k (.str "hear")) (.cons (.v 2) (.cons (.v 5) (.cons (.sub (.e (.v 6)) (.k (.int 0))) (.cons (.v 3) (.cons (.sub (.e (.v 6)) (.k (.int 1))) (.cons (.sub (.e (.v 6)) (.k (.int 2))) (.cons (.v 7) .nil)))))))))) .nil))))))))))))
def f__law_book_row : EV.Fn := ⟨⟨("_law_book_row", none), "_law_book_row", "_law_book_row", defArgs (top 28), defBody (top 28), defScope (top 28), [], []⟩,
  ["_law_well_here", "_law_chance", "_law_moment", "_law_value", "_law_words", "_law_name", "_law_numbers", "_law_told", "_law_k"], ["_law_well_here"], c__law_book_row, false⟩
def c__law_cell_at : EV.Ss := (.cons (.iff (.cmp .Lt (.e (.v 1)) (.e (.bi .len (.e (.v 0))))) (.cons (.ret (.sub (.e (.v 0)) (.v 1))) .nil) .nil) (.cons (.ret (.k (.int 0))) .nil))
def f__law_cell_at : EV.Fn := ⟨⟨("_law_cell_at", none), "_law_cell_at", "_law_cell_at", defArgs (top 22), defBody (top 22), defScope (top 22), [], []⟩,
  ["_law_script", "_law_k"], ["_law_script", "_law_k"], c__law_cell_at, false⟩
def c_value_word : EV.Ss := (.cons (.iff (.cmp .Is (.e (.v 0)) (.e (.k .non))) (.cons (.ret (.gl 5)) .nil) .nil) (.cons (.ret (.str1 (.v 0))) .nil))
def f_value_word : EV.Fn := ⟨⟨("value_word", none), "value_word", "value_word", defArgs (top 13), defBody (top 13), defScope (top 13), [], []⟩,
  ["value"], ["value"], c_value_word, false⟩
def c_row_text : EV.Ss := (.cons (.iff (.cmp .Eq (.e (.sub (.e (.v 0)) (.k (.int 0)))) (.e (.k (.str "begin")))) (.cons (.ret (.join (.k (.str " ")) (.e (.frz (.cat (.e (.frz (.lst (.cons (.k (.str "begin")) (.cons (.str1 (.sub (.e (.v 0)) (.k (.int 1)))) (.cons (.str1 (.sub (.e (.v 0)) (.k (.int 2)))) .nil)))))) (.e (.frz (.lst1 (.e (.sub (.e (.v 0)) (.k (.int 3)))))))))))) .nil) .nil) (.cons (.iff (.cmp .Eq (.e (.sub (.e (.v 0)) (.k (.int 0)))) (.e (.k (.str "wake")))) (.cons (.ret (.join (.k (.str " ")) (.e (.frz (.cat (.e (.frz (.lst (.cons (.k (.str "wake")) (.cons (.str1 (.sub (.e (.v 0)) (.k (.int 1)))) .nil))))) (.e (.frz (.lst1 (.e (.sub (.e (.v 0)) (.k (.int 2)))))))))))) .nil) .nil) (.cons (.iff (.cmp .Eq (.e (.sub (.e (.v 0)) (.k (.int 0)))) (.e (.k (.str "off")))) (.cons (.ret (.join (.k (.str " ")) (.e (.frz (.lst (.cons (.k (.str "off")) (.cons (.str1 (.sub (.e (.v 0)) (.k (.int 1)))) (.cons (.sub (.e (.frz (.lst (.cons (.k (.str "no")) (.cons (.k (.str "yes")) .nil))))) (.bi .int (.e (.sub (.e (.v 0)) (.k (.int 2)))))) .nil)))))))) .nil) .nil) (.cons (.setT [1, 2, 3, 4, 5, 6, 7, 8] (.v 0)) (.cons (.ret (.join (.k (.str " ")) (.e (.frz (.lst (.cons (.v 1) (.cons (.str1 (.v 2)) (.cons (.v 3) (.cons (.str1 (.v 4)) (.cons (.call 14 (.cons (.v 5) .nil)) (.cons (.str1 (.v 6)) (.cons (.str1 (.v 7)) (.cons (.v 8) .nil))))))))))))) .nil)))))
def f_row_text : EV.Fn := ⟨⟨("row_text", none), "row_text", "row_text", defArgs (top 14), defBody (top 14), defScope (top 14), [], []⟩,
  ["row", "word", "moment", "name", "ask", "value", "stamp", "seal", "told"], ["row"], c_row_text, false⟩
def c_show_book : EV.Ss := (.cons (.ret (.join (.k (.str "\n")) (.e (.frz (.lc (.call 15 (.cons (.v 1) .nil)) (.v 1) (.lst (.e (.v 0))) .no))))) .nil)
def f_show_book : EV.Fn := ⟨⟨("show_book", none), "show_book", "show_book", defArgs (top 15), defBody (top 15), defScope (top 15), [], []⟩,
  ["book", "row"], ["book"], c_show_book, false⟩
def c__law_row_words : EV.Ss := (.cons (.iff (.cmp .Eq (.e (.sub (.e (.v 0)) (.k (.int 0)))) (.e (.k (.str "begin")))) (.cons (.ret (.frz (.cat (.e (.frz (.lst (.cons (.sub (.e (.v 0)) (.k (.int 0))) (.cons (.str1 (.sub (.e (.v 0)) (.k (.int 1)))) (.cons (.str1 (.sub (.e (.v 0)) (.k (.int 2)))) .nil)))))) (.e (.frz (.lst1 (.e (.sub (.e (.v 0)) (.k (.int 3)))))))))) .nil) .nil) (.cons (.iff (.cmp .Eq (.e (.sub (.e (.v 0)) (.k (.int 0)))) (.e (.k (.str "wake")))) (.cons (.ret (.frz (.cat (.e (.frz (.lst (.cons (.sub (.e (.v 0)) (.k (.int 0))) (.cons (.str1 (.sub (.e (.v 0)) (.k (.int 1)))) .nil))))) (.e (.frz (.lst1 (.e (.sub (.e (.v 0)) (.k (.int 2)))))))))) .nil) .nil) (.cons (.iff (.cmp .Eq (.e (.sub (.e (.v 0)) (.k (.int 0)))) (.e (.k (.str "off")))) (.cons (.ret (.frz (.lst (.cons (.sub (.e (.v 0)) (.k (.int 0))) (.cons (.str1 (.sub (.e (.v 0)) (.k (.int 1)))) (.cons (.sub (.e (.frz (.lst (.cons (.k (.str "no")) (.cons (.k (.str "yes")) .nil))))) (.bi .int (.e (.sub (.e (.v 0)) (.k (.int 2)))))) .nil)))))) .nil) .nil) (.cons (.set 1 (.k (.str "-"))) (.cons (.iff (.cmp .IsNot (.e (.sub (.e (.v 0)) (.k (.int 4)))) (.e (.k .non))) (.cons (.set 1 (.str1 (.sub (.e (.v 0)) (.k (.int 4))))) .nil) .nil) (.cons (.ret (.frz (.lst (.cons (.k (.str "hear")) (.cons (.str1 (.sub (.e (.v 0)) (.k (.int 1)))) (.cons (.sub (.e (.v 0)) (.k (.int 2))) (.cons (.str1 (.sub (.e (.v 0)) (.k (.int 3)))) (.cons (.v 1) (.cons (.str1 (.sub (.e (.v 0)) (.k (.int 5)))) (.cons (.str1 (.sub (.e (.v 0)) (.k (.int 6)))) (.cons (.sub (.e (.v 0)) (.k (.int 7))) .nil))))))))))) .nil))))))
def f__law_row_words : EV.Fn := ⟨⟨("_law_row_words", none), "_law_row_words", "_law_row_words", defArgs (top 29), defBody (top 29), defScope (top 29), [], []⟩,
  ["_law_row", "_law_value"], ["_law_row"], c__law_row_words, false⟩
def c__law_same_row : EV.Ss := (.cons (.iff (.or (.not (.isi (.v 0) (.ty "tuple"))) (.cmp .NotEq (.e (.v 0)) (.e (.v 1)))) (.cons (.ret (.k (.bl false))) .nil) .nil) (.cons (.ret (.cmp .Eq (.e (.frz (.lc (.isi (.v 2) (.ty "bool")) (.v 2) (.tup (.v 0)) .no))) (.e (.frz (.lc (.isi (.v 2) (.ty "bool")) (.v 2) (.tup (.v 1)) .no))))) .nil))
def f__law_same_row : EV.Fn := ⟨⟨("_law_same_row", none), "_law_same_row", "_law_same_row", defArgs (top 30), defBody (top 30), defScope (top 30), [], []⟩,
  ["_law_one", "_law_other", "_law_part"], ["_law_one", "_law_other"], c__law_same_row, false⟩
def c_law : EV.Ss := (.cons (.iff (.cmp .NotEq (.e (.call 6 (.cons (.k (.str "")) .nil))) (.e (.frz (.lst .nil)))) (.cons (.ret (.k (.bl false))) .nil) .nil) (.cons (.for (.v 1) (.rng (.b2 .max2 (.k (.int 1)) (.b2 .min2 (.k (.int 6)) (.bi .len (.e (.v 0)))))) (.cons (.set 2 (.call 7 (.cons (.bin .Add (.call 13 (.cons (.v 0) (.cons (.v 1) .nil))) (.bin .Mult (.k (.int 7)) (.v 1))) .nil))) (.cons (.setO 3 (.lc (.call 12 (.cons (.v 2) .nil)) (.v 7) (.rng (.bin .Add (.k (.int 1)) (.call 8 (.cons (.v 2) (.cons (.k (.int 9)) .nil))))) .no)) (.cons (.iff (.cmp .Eq (.e (.call 8 (.cons (.v 2) (.cons (.k (.int 4)) .nil)))) (.e (.k (.int 0)))) (.cons (.set 6 (.bi .max (.e (.frz (.lc (.bi .len (.e (.join (.k (.str " ")) (.e (.call 17 (.cons (.v 8) .nil)))))) (.v 8) (.lst (.own 3)) .no))))) (.cons (.setO 3 (.slc (.e (.frz (.rep 3 (.k (.int 900))))) .no (.so (.bin .FloorDiv (.k (.int 5990)) (.bin .Add (.v 6) (.k (.int 1))))))) .nil)) .nil) (.cons (.frz 3) (.cons (.set 4 (.join (.k (.str "\n")) (.e (.frz (.lc (.join (.k (.str " ")) (.e (.call 17 (.cons (.v 8) .nil)))) (.v 8) (.lst (.e (.v 3))) .no))))) (.cons (.set 5 (.box (.call 6 (.cons (.v 4) .nil)))) (.cons (.iff (.or (.not (.isi (.v 5) (.ty "list"))) (.or (.cmp .NotEq (.e (.bi .len (.e (.v 5)))) (.e (.bi .len (.e (.v 3))))) (.cmp .NotEq (.e (.call 16 (.cons (.v 5) .nil))) (.e (.v 4))))) (.cons (.ret (.k (.bl false))) .nil) .nil) (.cons (.iff (.not (.bi .all (.e (.frz (.lc (.call 18 (.cons (.v 9) (.cons (.v 10) .nil))) (.tup [9, 10]) (.zip (.v 5) (.v 3)) .no))))) (.cons (.ret (.k (.bl false))) .nil) .nil) (.cons (.app 5 (.sub (.e (.v 3)) (.k (.int 0)))) (.cons (.setIx (.v 5) (.k (.int 0)) (.k .non)) (.cons (.iff (.cmp .NotEq (.e (.call 6 (.cons (.v 4) .nil))) (.e (.v 3))) (.cons (.ret (.k (.bl false))) .nil) .nil) .nil)))))))))))) (.cons (.ret (.k (.bl true))) .nil)))
def f_law : EV.Fn := ⟨⟨("law", none), "law", "law", defArgs (top 31), defBody (top 31), defScope (top 31), [], []⟩,
  ["_law_script", "_law_k", "_law_well_here", "_law_rows", "_law_text", "_law_found", "_law_longest", "_law_j", "_law_row", "_law_one", "_law_other"], ["_law_script"], c_law, false⟩
def T : EV.Tab := ⟨([f_is_number_word, f_are_numbers, f_is_name, f_heard_row, f_are_names, f_row_of, f_read_book, f__law_well, f__law_draw, f__law_number, f__law_word, f__law_few_names, f__law_book_row, f__law_cell_at, f_value_word, f_row_text, f_show_book, f__law_row_words, f__law_same_row, f_law] : List EV.Fn),
  [], [],
  [("MOST_FIGURES", (.int 10)), ("FIGURES", (.str "0123456789")), ("MOST_LETTERS", (.int 8)), ("LETTERS", (.str "abcdefghijklmnopqrstuvwxyz")), ("HEARD", (.tup [(.str "idle"), (.str "strange"), (.str "elder"), (.str "false"), (.str "over"), (.str "twice"), (.str "done"), (.str "never"), (.str "no"), (.str "ok")])), ("NONE", (.str "-"))]⟩
def loose : List PySem.Str := (["is_name", "is_number_word", "value_word", "row_text", "show_book", "are_numbers", "are_names", "heard_row", "row_of", "read_book", "_law_cell_at", "_law_well", "_law_draw", "_law_word", "_law_number", "_law_few_names", "_law_book_row", "_law_row_words", "_law_same_row", "EnoughError", "NoText", "LETTERS", "MOST_LETTERS", "FIGURES", "MOST_FIGURES", "NONE", "HEARD"] : List PySem.Str)
theorem okT : T.fns.all (EV.okFn T) = true := by kernel_rfl
end HD

set_option Elab.async false
set_option linter.all false
set_option maxRecDepth 100000
set_option maxHeartbeats 0
namespace HD
open PySem PySem.Spec PyProof.Rows L2
abbrev R : PySem.W.OpenRow := PySem.W.OpenLaw.row PySem.Challenge.rw_enoughsaid_k67_books_read
abbrev hk : PySem.W.Hook := He.hookX 6 [] (T.fns.map (·.d)) [] [] (EV.okB T)
def ob (s : PySem.W.SharedT) : He.AlX := He.obsX 6 [] (T.fns.map (·.d)) [] [] (EV.okB T) (HandSHeadRun.getT s)
theorem ob_eq (s : PySem.W.SharedT) : ob s = hk.obs s.abs := He.obsX_eq (HandSHeadRun.getT_eq s)
theorem run (w : World) : HandSHeadRun.RunEq R (PySem.W.view R.prog [31]) hk ob 3000 loose w := by
  intro os
  kernel_rfl
end HD

set_option linter.all false
set_option maxRecDepth 100000
set_option maxHeartbeats 1000000
namespace HD
open EV PySem
local macro_rules | `(tactic| array_get_dec) => `(tactic| ((conv => whnf); first
  | with_reducible refine if_T ?_
  | with_reducible refine if_F ?_
  | with_reducible refine Nd.mk (by omega) ?_
  | with_reducible refine if_t (by omega) ?_
  | with_reducible refine if_f (by omega) ?_
  | with_reducible refine if_nt (by omega) ?_
  | with_reducible refine if_nf (by omega) ?_
  | with_reducible refine if_dT (by decide) ?_
  | with_reducible refine if_dF (by decide) ?_
  | with_reducible refine ow_r rfl ?_))
theorem at_ok {xs : List D} {i : Int} (h0 : 0 ≤ i) (h1 : i < xs.length) : ∃ d, xs[i.toNat]? = some d ∧ L2.atI xs i = some d := by
  have h : i.toNat < xs.length := by omega
  refine ⟨xs[i.toNat], List.getElem?_eq_getElem h, ?_⟩
  unfold L2.atI L2.ixN
  rw [if_pos h0, if_pos h1]
  exact List.getElem?_eq_getElem h
theorem c_cell {n : Nat} {ns : List Int} {k : Int} {μ : Sto} {Q} (hk : 0 ≤ k) (h : ∀ v, Q false (D.int v) μ) : Cw (sem T (n+1)).1 13 [.lst (ns.map D.int), .int k] μ Q := by
  refine v_fn rfl rfl rfl ?_
  conv => whnf
  refine if_of (fun hl => ?_) (fun hl => ?_)
  · conv => whnf
    obtain ⟨d, h1, h2⟩ := at_ok hk hl
    refine ow_r h2 ?_
    rw [List.getElem?_map] at h1
    cases e : ns[k.toNat]? with
    | none => rw [e] at h1; cases h1
    | some v => rw [e] at h1; cases h1; exact h v
  · exact h 0
abbrev wellD (x y z : Int) : D := .lst [.int x, .int y, .int z]
theorem c_well {n : Nat} {c : Int} {μ : Sto} {Q} (h : ∀ x y z, Q false (D.cell μ.length) (μ ++ [wellD x y z])) : Cw (sem T (n+1)).1 7 [.int c] μ Q := by
  refine v_fn rfl rfl rfl ?_
  array_get_dec
  conv => whnf
  by_cases hc : (10 : Int) ^ 18 ≤ c
  · refine ow_r (a := D.int c) ?_ ?_
    · rw [show (10 : Int) ^ Int.toNat 18 = 10 ^ 18 from rfl, decide_eq_true hc]; rfl
    · repeat' array_get_dec
      exact h _ _ _
  · refine ow_r (a := D.int 0) ?_ ?_
    · rw [show (10 : Int) ^ Int.toNat 18 = 10 ^ 18 from rfl, decide_eq_false hc]; rfl
    · repeat' array_get_dec
      exact h _ _ _
theorem c_draw {n m : Nat} {x y z b : Int} {μ : Sto} {Q} (hm : μ[m]? = some (wellD x y z)) (hb : 0 < b ∧ b < 1073741824) (h : ∀ v x y z, 0 ≤ v → v < b → Q false (D.int v) (μ.set m (wellD x y z))) : Cw (sem T (n+1)).1 8 [.cell m, .int b] μ Q := by
  have hs : ∀ d, (μ.set m d)[m]? = some d := fun d => List.getElem?_set_self (List.getElem?_eq_some_iff.mp hm).1
  refine v_fn rfl rfl rfl ?_
  conv => whnf
  refine ow_r hm (ow_r rfl (ow_r rfl ?_))
  conv => whnf
  refine if_of (fun hx => ?_) (fun hx => ?_)
  · conv => whnf
    refine ow_r hm (ow_r rfl (ow_r rfl ?_))
    array_get_dec
    conv => whnf
    refine ow_r hm (ow_r rfl (ow_r rfl ?_))
    array_get_dec
    conv => whnf
    refine ow_r hm (ow_r rfl (ow_r rfl ?_))
    conv => whnf
    exact h _ _ _ _ (Int.emod_nonneg _ (by omega)) (Int.emod_lt_of_pos _ hb.1)
  · conv => whnf
    refine ow_r hm (ow_r rfl (ow_r rfl ?_))
    conv => whnf
    refine ow_r hm (ow_r rfl (ow_r rfl ?_))
    conv => whnf
    refine ow_r (hs _) (ow_r rfl (ow_r rfl ?_))
    conv => whnf
    refine ow_r (hs _) (ow_r rfl (ow_r rfl ?_))
    repeat' array_get_dec
    exact h _ _ _ _ (Int.emod_nonneg _ (by omega)) (Int.emod_lt_of_pos _ hb.1)
theorem c_draw' {n : Nat} {x y z b : Int} {μ : Sto} {Q} (hb : 0 < b ∧ b < 1073741824) (h : ∀ v x y z, 0 ≤ v → v < b → Q false (D.int v) (μ ++ [wellD x y z])) : Cw (sem T (n+1)).1 8 [.cell μ.length, .int b] (μ ++ [wellD x y z]) Q := by
  refine c_draw (x := x) (y := y) (z := z) (by simp) hb fun v x y z h1 h2 => ?_
  have e : ∀ w, (μ ++ [w]).set μ.length (wellD x y z) = μ ++ [wellD x y z] := fun w => by simp
  rw [e]
  exact h v x y z h1 h2
open TL
inductive BR where
  | beg (m a : Int) (ns : List Str) | wak (m : Int) (ns : List Str) | off (m : Int) (b : Bool)
  | hea (m : Int) (nm : Str) (a : Int) (v : Option Int) (s z : Int) (t : Str)
abbrev sn (i : Int) : Str := Str.ofString (toString i)
abbrev oD (o : Option Int) : D := match o with
  | none => .non
  | some v => .int v
abbrev oS (o : Option Int) : Str := match o with
  | none => "-"
  | some v => sn v
def BR.d : BR → D
  | .beg m a ns => .tup [.str "begin", .int m, .int a, .tup (ns.map D.str)]
  | .wak m ns => .tup [.str "wake", .int m, .tup (ns.map D.str)]
  | .off m b => .tup [.str "off", .int m, .bl b]
  | .hea m nm a v s z t => .tup [.str "hear", .int m, .str nm, .int a, oD v, .int s, .int z, .str t]
def BR.words : BR → List Str
  | .beg m a ns => ([("begin" : Str), sn m, sn a] ++ ns)
  | .wak m ns => ([("wake" : Str), sn m] ++ ns)
  | .off m b => ["off", sn m, if b then "yes" else "no"]
  | .hea m nm a v s z t => ["hear", sn m, nm, sn a, oS v, sn s, sn z, t]
abbrev nOk (i : Int) : Prop := 0 ≤ i ∧ i < 1000000000
abbrev sOk (s : Str) : Prop := (sok s = true ∧ s.length ≤ 20) ∧ 32 ∉ tl s ∧ 10 ∉ tl s
def nmS (s : Str) : Prop := (∀ c ∈ tl s, 97 ≤ c ∧ c ≤ 122) ∧ 1 ≤ s.length ∧ s.length ≤ 8
def told10 : List Str := ["idle", "strange", "elder", "false", "over", "twice", "done", "never", "no", "ok"]
theorem nm_ok {s : Str} (h : nmS s) : sOk s := ⟨⟨sok_iff.mpr ⟨fun c hc => by have := h.1 c hc; omega, by have := h.2.2; simp [LIM]; omega⟩, by have := h.2.2; omega⟩, fun hc => by have := h.1 _ hc; omega, fun hc => by have := h.1 _ hc; omega⟩
theorem told_nm : ∀ s ∈ told10, nmS s := by
  have key : (told10.all fun s => (tl s).all (fun c => decide (97 ≤ c) && decide (c ≤ 122)) && (decide (1 ≤ s.length) && decide (s.length ≤ 8))) = true := by decide +kernel
  intro s hs
  have := List.all_eq_true.mp key s hs
  simp only [Bool.and_eq_true, List.all_eq_true, decide_eq_true_eq] at this
  exact this
def BR.ok : BR → Prop
  | .beg m a ns => nOk m ∧ nOk a ∧ ns.length ≤ 6 ∧ ∀ s ∈ ns, nmS s
  | .wak m ns => nOk m ∧ ns.length ≤ 6 ∧ ∀ s ∈ ns, nmS s
  | .off m b => nOk m
  | .hea m nm a v s z t => nOk m ∧ nmS nm ∧ nOk a ∧ (∀ i, v = some i → nOk i) ∧ nOk s ∧ nOk z ∧ t ∈ told10
theorem sn_free {i : Int} {c : Nat} (h : nOk i) (hc : c < 48) : c ∉ tl (sn i) := by
  obtain ⟨m, rfl⟩ := Int.eq_ofNat_of_zero_le h.1
  show c ∉ tl (Str.ofString (toString ((m : Nat) : Int)))
  rw [tl_num]
  exact numL_free (.inl hc)
theorem sn_ok {i : Int} (h : nOk i) : sOk (sn i) := ⟨⟨(sok_num h.1 (by omega)).1, Nat.le_trans (sok_num h.1 (by omega)).2.1 (by decide)⟩, sn_free h (by decide), sn_free h (by decide)⟩
theorem k_ok : sOk "begin" ∧ sOk "wake" ∧ sOk "off" ∧ sOk "hear" ∧ sOk "yes" ∧ sOk "no" ∧ sOk "-" ∧ (sok (" " : Str) = true) ∧ (sok ("\n" : Str) = true) := by decide +kernel
theorem words_ok : ∀ {r : BR}, r.ok → r.words.length ≤ 9 ∧ ∀ w ∈ r.words, sOk w
  | .beg m a ns, ⟨h1, h2, h3, h4⟩ => by
    obtain ⟨b1, b2, b3, b4, b5, b6, b7, _⟩ := k_ok
    refine ⟨by show (([("begin" : Str), sn m, sn a] ++ ns)).length ≤ 9; simp; omega, fun w hw => ?_⟩
    rcases List.mem_append.mp (show w ∈ ([("begin" : Str), sn m, sn a] ++ ns) from hw) with hw | hw
    · simp only [List.mem_cons, List.not_mem_nil, or_false] at hw
      rcases hw with rfl | rfl | rfl
      · exact b1
      · exact sn_ok h1
      · exact sn_ok h2
    · exact nm_ok (h4 w hw)
  | .wak m ns, ⟨h1, h3, h4⟩ => by
    obtain ⟨b1, b2, b3, b4, b5, b6, b7, _⟩ := k_ok
    refine ⟨by show (([("wake" : Str), sn m] ++ ns)).length ≤ 9; simp; omega, fun w hw => ?_⟩
    rcases List.mem_append.mp (show w ∈ ([("wake" : Str), sn m] ++ ns) from hw) with hw | hw
    · simp only [List.mem_cons, List.not_mem_nil, or_false] at hw
      rcases hw with rfl | rfl
      · exact b2
      · exact sn_ok h1
    · exact nm_ok (h4 w hw)
  | .off m b, h1 => by
    obtain ⟨b1, b2, b3, b4, b5, b6, b7, _⟩ := k_ok
    refine ⟨by simp [BR.words], fun w hw => ?_⟩
    simp only [BR.words, List.mem_cons, List.not_mem_nil, or_false] at hw
    rcases hw with rfl | rfl | rfl
    · exact b3
    · exact sn_ok h1
    · cases b
      · exact b6
      · exact b5
  | .hea m nm a v s z t, ⟨h1, h2, h3, h4, h5, h6, h7⟩ => by
    obtain ⟨b1, b2, b3, b4, b5, b6, b7, _⟩ := k_ok
    refine ⟨by simp [BR.words], fun w hw => ?_⟩
    simp only [BR.words, List.mem_cons, List.not_mem_nil, or_false] at hw
    rcases hw with rfl | rfl | rfl | rfl | rfl | rfl | rfl | rfl
    · exact b4
    · exact sn_ok h1
    · exact nm_ok h2
    · exact sn_ok h3
    · cases v with
      | none => exact b7
      | some i => exact sn_ok (h4 i rfl)
    · exact sn_ok h5
    · exact sn_ok h6
    · exact nm_ok (told_nm _ h7)
abbrev line (r : BR) : Str := Txt.join " " r.words
abbrev book (rs : List BR) : Str := Txt.join "\n" (rs.map line)
theorem line_ok {r : BR} (h : r.ok) : ((r.words.map (·.length)).sum + r.words.length * (" " : Str).length ≤ LIM ∧ sok (line r) = true) ∧ (line r).length ≤ 189 := by
  obtain ⟨h1, h2⟩ := words_ok h
  exact join_ok (a := " ") (n := 20) (m := 9) k_ok.2.2.2.2.2.2.2.1 (by decide) (fun y hy => (h2 y hy).1) h1 (by decide)
theorem book_ok {rs : List BR} (h : ∀ r ∈ rs, r.ok) (hl : rs.length ≤ 6000) : ((((rs.map line).map (·.length)).sum + (rs.map line).length * ("\n" : Str).length ≤ LIM ∧ sok (book rs) = true)) ∧ (book rs).length ≤ 1140000 := by
  refine join_ok (a := "\n") (n := 189) (m := 6000) k_ok.2.2.2.2.2.2.2.2 (by decide) (fun y hy => ?_) (by rw [List.length_map]; exact hl) (by decide)
  obtain ⟨r, hr, rfl⟩ := List.mem_map.mp hy
  exact ⟨(line_ok (h r hr)).1.2, (line_ok (h r hr)).2⟩
theorem num_side {i : Int} (h : nOk i) : i.natAbs.log2 < 1920 ∧ sok (Str.ofString (toString i)) = true := ⟨(sok_num h.1 (by omega)).2.2, (sok_num h.1 (by omega)).1⟩
local macro_rules | `(tactic| array_get_dec) => `(tactic| ((conv => whnf); first
  | with_reducible refine if_T ?_
  | with_reducible refine if_F ?_
  | with_reducible refine Nd.mk (by omega) ?_
  | with_reducible refine Nd.mk (num_side (by assumption)) ?_
  | with_reducible refine if_t (by omega) ?_
  | with_reducible refine if_f (by omega) ?_
  | with_reducible refine if_nt (by omega) ?_
  | with_reducible refine if_nf (by omega) ?_
  | with_reducible refine if_dT (by decide) ?_
  | with_reducible refine if_dF (by decide) ?_
  | with_reducible refine ow_r rfl ?_))
theorem d_dat : ∀ r : BR, r.d.dat = true ∧ r.d.py.depth ≤ 3
  | .beg m a ns => by
    have h : ∀ d ∈ ns.map D.str, d.dat = true ∧ d.py.depth ≤ 0 := fun d hd => by
      obtain ⟨s, _, rfl⟩ := List.mem_map.mp hd
      exact ⟨rfl, Nat.le_refl _⟩
    refine ⟨by simp only [BR.d, D.dat, D.dats, dats_all fun d hd => (h d hd).1]; rfl, ?_⟩
    have := depths_le (n := 0) fun d hd => (h d hd).2
    simp only [BR.d, D.py, D.pys, PyData.depth, PyData.depthAll]
    omega
  | .wak m ns => by
    have h : ∀ d ∈ ns.map D.str, d.dat = true ∧ d.py.depth ≤ 0 := fun d hd => by
      obtain ⟨s, _, rfl⟩ := List.mem_map.mp hd
      exact ⟨rfl, Nat.le_refl _⟩
    refine ⟨by simp only [BR.d, D.dat, D.dats, dats_all fun d hd => (h d hd).1]; rfl, ?_⟩
    have := depths_le (n := 0) fun d hd => (h d hd).2
    simp only [BR.d, D.py, D.pys, PyData.depth, PyData.depthAll]
    omega
  | .off m b => ⟨rfl, by simp [BR.d, D.py, D.pys, PyData.depth, PyData.depthAll]⟩
  | .hea m nm a v s z t => by cases v <;> exact ⟨rfl, by simp [BR.d, D.py, D.pys, PyData.depth, PyData.depthAll]⟩
theorem rows_dat (rs : List BR) : (D.lst (rs.map BR.d)).dat = true ∧ (D.lst (rs.map BR.d)).py.depth ≤ 64 := by
  have h : ∀ d ∈ rs.map BR.d, d.dat = true ∧ d.py.depth ≤ 3 := fun d hd => by
    obtain ⟨r, _, rfl⟩ := List.mem_map.mp hd
    exact d_dat r
  refine ⟨by simp only [D.dat, dats_all fun d hd => (h d hd).1], ?_⟩
  have := depths_le (n := 3) fun d hd => (h d hd).2
  simp only [D.py, PyData.depth]
  omega
theorem c_value {n : Nat} {o : Option Int} {μ : Sto} {Q} (ho : ∀ i, o = some i → nOk i) (k : Q false (D.str (oS o)) μ) : Cw (sem T (n+1)).1 14 [oD o] μ Q := by
  cases o with
  | none =>
    refine v_fn rfl rfl rfl ?_
    repeat' array_get_dec
    exact k
  | some v =>
    refine v_fn rfl rfl rfl ?_
    repeat' array_get_dec
    conv => whnf
    exact Nd.mk (num_side (ho v rfl)) k
theorem strs_of (ws : List Str) : asSeq (.lst (ws.map D.str)) = some (ws.map D.str) := rfl
theorem c_row {n : Nat} {r : BR} {μ : Sto} {Q} (h : r.ok) (k : Q false (D.str (line r)) μ) : Cw (sem T (n+2)).1 15 [r.d] μ Q := by
  have side := (line_ok h).1
  cases r with
  | beg m a ns =>
    obtain ⟨h1, h2, h3, h4⟩ := h
    refine v_fn rfl rfl rfl ?_
    repeat' array_get_dec
    conv => whnf
    refine Nd.mk (by simp [LIM]; omega) ?_
    conv => whnf
    refine ow_r rfl (ow_r rfl (ow_r (asStrs_map (([("begin" : Str), sn m, sn a] ++ ns))) ?_))
    exact Nd.mk side k
  | wak m ns =>
    obtain ⟨h1, h3, h4⟩ := h
    refine v_fn rfl rfl rfl ?_
    repeat' array_get_dec
    conv => whnf
    refine Nd.mk (by simp [LIM]; omega) ?_
    conv => whnf
    refine ow_r rfl (ow_r rfl (ow_r (asStrs_map (([("wake" : Str), sn m] ++ ns))) ?_))
    exact Nd.mk side k
  | off m b =>
    have h1 : nOk m := h
    refine v_fn rfl rfl rfl ?_
    repeat' array_get_dec
    conv => whnf
    refine ow_r (a := D.str (if b then "yes" else "no")) (by cases b <;> rfl) ?_
    conv => whnf
    refine ow_r rfl (ow_r rfl (ow_r (asStrs_map ["off", sn m, if b then "yes" else "no"]) ?_))
    exact Nd.mk side k
  | hea m nm a v s z t =>
    obtain ⟨h1, h2, h3, h4, h5, h6, h7⟩ := h
    refine v_fn rfl rfl rfl ?_
    repeat' array_get_dec
    refine c_value h4 ?_
    repeat' array_get_dec
    exact Nd.mk side k
theorem c_show {n : Nat} {rs : List BR} {μ : Sto} {Q} (h : ∀ r ∈ rs, r.ok) (hl : rs.length ≤ 6000) (k : Q false (D.str (book rs)) μ) : Cw (sem T (n+3)).1 16 [.lst (rs.map BR.d)] μ Q := by
  refine v_fn rfl rfl rfl ?_
  conv => whnf
  refine l_inv (fun xs acc m => m = μ ∧ ∃ (a b : List BR), rs = a ++ b ∧ xs = b.map BR.d ∧ acc = (a.map line).map D.str) (acc := []) ⟨rfl, [], rs, rfl, rfl, rfl⟩ (fun x xs acc m hI => ?_) (fun ys m hI => ?_)
  · obtain ⟨rfl, a, b, e1, e2, rfl⟩ := hI
    cases b with
    | nil => cases e2
    | cons r b =>
      simp only [List.map_cons, List.cons.injEq] at e2
      obtain ⟨rfl, rfl⟩ := e2
      refine bodl1 rfl ?_
      conv => whnf
      refine c_row (h r (by rw [e1]; simp)) ?_
      exact ⟨rfl, a ++ [r], b, by rw [e1]; simp, rfl, by simp⟩
  · obtain ⟨rfl, a, b, e1, e2, e3⟩ := hI
    cases b with
    | cons _ _ => cases e2
    | nil =>
      rw [List.append_nil] at e1
      subst e1
      rw [List.nil_append] at e3
      subst e3
      conv => whnf
      refine ow_r rfl (ow_r rfl (ow_r (asStrs_map _) ?_))
      exact Nd.mk (book_ok h hl).1 k
theorem c_rwords {n : Nat} {r : BR} {μ : Sto} {Q} (h : r.ok) (k : Q false (D.lst (r.words.map D.str)) μ) : Cw (sem T (n+1)).1 17 [r.d] μ Q := by
  cases r with
  | beg m a ns =>
    obtain ⟨h1, h2, h3, h4⟩ := h
    refine v_fn rfl rfl rfl ?_
    repeat' array_get_dec
    conv => whnf
    refine Nd.mk (by simp [LIM]; omega) ?_
    exact k
  | wak m ns =>
    obtain ⟨h1, h3, h4⟩ := h
    refine v_fn rfl rfl rfl ?_
    repeat' array_get_dec
    conv => whnf
    refine Nd.mk (by simp [LIM]; omega) ?_
    exact k
  | off m b =>
    have h1 : nOk m := h
    refine v_fn rfl rfl rfl ?_
    repeat' array_get_dec
    conv => whnf
    refine ow_r (a := D.str (if b then "yes" else "no")) (by cases b <;> rfl) ?_
    exact k
  | hea m nm a v s z t =>
    obtain ⟨h1, h2, h3, h4, h5, h6, h7⟩ := h
    refine v_fn rfl rfl rfl ?_
    repeat' array_get_dec
    cases v with
    | none =>
      repeat' array_get_dec
      exact k
    | some v =>
      repeat' array_get_dec
      conv => whnf
      refine Nd.mk (num_side (h4 v rfl)) ?_
      repeat' array_get_dec
      exact k
theorem c_number {n : Nat} {x y z : Int} {μ : Sto} {Q} (h : ∀ v x y z, nOk v → Q false (D.int v) (μ ++ [wellD x y z])) : Cw (sem T (n+2)).1 9 [.cell μ.length] (μ ++ [wellD x y z]) Q := by
  refine v_fn rfl rfl rfl ?_
  conv => whnf
  refine c_draw' (by omega) fun v1 x y z h1 h1' => ?_
  repeat' array_get_dec
  refine c_draw' (by decide) fun v2 x y z h2 h2' => ?_
  repeat' array_get_dec
  refine c_draw' (by omega) fun v3 x y z h3 h3' => ?_
  conv => whnf
  have hz : v2 < 1000000000 := h2'
  have ho : ∃ o, nOk o ∧ L2.atI [D.int 0, D.int v1, D.int v2, D.int 999999999] v3 = some (.int o) := by
    have : v3 = 0 ∨ v3 = 1 ∨ v3 = 2 ∨ v3 = 3 := by omega
    rcases this with rfl | rfl | rfl | rfl
    · exact ⟨_, ⟨by omega, by omega⟩, rfl⟩
    · exact ⟨_, ⟨by omega, by omega⟩, rfl⟩
    · exact ⟨_, ⟨by omega, by omega⟩, rfl⟩
    · exact ⟨_, ⟨by omega, by omega⟩, rfl⟩
  obtain ⟨o, h4, e⟩ := ho
  refine ow_r (a := .int o) ?_ ?_
  · exact e
  · exact h _ _ _ _ h4
abbrev letS : Str := "abcdefghijklmnopqrstuvwxyz"
theorem let_at {i : Int} (h0 : 0 ≤ i) (h1 : i < 26) {μ : Sto} : ∃ s : Str, (∀ c ∈ tl s, 97 ≤ c ∧ c ≤ 122) ∧ s.length = 1 ∧ subD (.str letS) (.int i) μ = some (.str s) := by
  have key : ∀ k : Fin 26, (match subD (.str letS) (.int (k.val : Int)) [] with | some (.str s) => (tl s).all (fun c => decide (97 ≤ c) && decide (c ≤ 122)) && s.length == 1 | _ => false) = true := by decide +kernel
  have := key ⟨i.toNat, by omega⟩
  have e : ((⟨i.toNat, by omega⟩ : Fin 26).val : Int) = i := by simp; omega
  rw [e] at this
  have e2 : subD (.str letS) (.int i) μ = subD (.str letS) (.int i) [] := rfl
  rw [e2]
  split at this
  · rename_i s hs
    obtain ⟨a, b⟩ := Bool.and_eq_true_iff.mp this
    simp only [List.all_eq_true, Bool.and_eq_true, decide_eq_true_eq] at a
    exact ⟨s, a, by simpa using b, hs⟩
  · cases this
theorem all_app {a b : Str} (ha : ∀ c ∈ tl a, 97 ≤ c ∧ c ≤ 122) (hb : ∀ c ∈ tl b, 97 ≤ c ∧ c ≤ 122) : ∀ c ∈ tl (a ++ b), 97 ≤ c ∧ c ≤ 122 := fun c hc => by
  rw [tl_append] at hc
  rcases List.mem_append.mp hc with hc | hc
  · exact ha c hc
  · exact hb c hc
def WInv (m : Nat) (μ0 : Sto) (last : Int) (xs : List D) (ρ : Rho) (μ : Sto) : Prop := ∃ (x y z : Int) (s : Str) (s3 : Slot), μ = μ0 ++ [wellD x y z] ∧ (∀ c ∈ tl s, 97 ≤ c ∧ c ≤ 122) ∧ s.length + xs.length = m ∧
  ρ = [.fz (.cell μ0.length), .fz (.int last), .fz (.str letS), .fz (.str s), s3]
theorem c_word {n : Nat} {x y z last : Int} {μ : Sto} {Q} (h : ∀ v x y z, nmS v → Q false (D.str v) (μ ++ [wellD x y z])) : Cw (sem T (n+2)).1 10 [.cell μ.length, .int last] (μ ++ [wellD x y z]) Q := by
  refine v_fn rfl rfl rfl ?_
  conv => whnf
  refine c_draw' (by omega) fun v1 x y z h1 h1' => ?_
  repeat' array_get_dec
  refine f_inv (WInv v1.toNat μ last) ⟨x, y, z, "", _, rfl, (fun c hc => by cases hc), by rw [show (("" : Str)).length = 0 from by decide +kernel]; simp, rfl⟩ (fun d xs ρ μ' hI => ?_) (fun ρ μ' hI => ?_)
  · obtain ⟨x, y, z, s, s3, rfl, h2, h3, rfl⟩ := hI
    refine bod1 rfl ?_
    conv => whnf
    refine c_draw' (by omega) fun v4 x y z h4 h4' => ?_
    conv => whnf
    obtain ⟨t, t1, t2, t3⟩ := let_at h4 h4' (μ := μ ++ [wellD x y z])
    refine ow_r t3 ?_
    have e : binD .Add (.str s) (.str t) = some (.str (s ++ t)) := if_pos (by simp at h3; rw [t2]; simp [LIM]; omega)
    refine ow_r e ?_
    refine ⟨x, y, z, s ++ t, _, rfl, all_app h2 t1, ?_, rfl⟩
    rw [len_app, t2]
    simp at h3
    omega
  · obtain ⟨x, y, z, s, s3, rfl, h2, h3, rfl⟩ := hI
    repeat' array_get_dec
    conv => whnf
    obtain ⟨t, t1, t2, t3⟩ := let_at (i := last % 26) (Int.emod_nonneg _ (by decide)) (Int.emod_lt_of_pos _ (by decide)) (μ := μ ++ [wellD x y z])
    refine ow_r t3 ?_
    simp at h3
    have e : binD .Add (.str s) (.str t) = some (.str (s ++ t)) := if_pos (by rw [t2]; simp [LIM]; omega)
    refine ow_r e ?_
    exact h _ _ _ _ ⟨all_app h2 t1, by rw [len_app, t2]; omega, by rw [len_app, t2]; omega⟩
theorem at0 {a : D} {l : List D} : L2.atI (a :: l) 0 = some a := by
  unfold L2.atI L2.ixN
  rw [if_pos (by decide), if_pos (by simp)]
  rfl
def NInv (m : Nat) (μ0 : Sto) (xs : List D) (ρ : Rho) (μ : Sto) : Prop := ∃ (x y z : Int) (l : List Str) (s3 : Slot), μ = μ0 ++ [wellD x y z] ∧ (∀ s ∈ l, nmS s) ∧ l.length + 2 * xs.length ≤ m ∧
  ρ = [.fz (.cell μ0.length), .ow (.lst (l.map D.str)), s3]
theorem c_few {n : Nat} {x y z : Int} {μ : Sto} {Q} (h : ∀ (l : List Str) x y z, (∀ s ∈ l, nmS s) → l.length ≤ 6 → Q false (D.tup (l.map D.str)) (μ ++ [wellD x y z])) : Cw (sem T (n+3)).1 11 [.cell μ.length] (μ ++ [wellD x y z]) Q := by
  refine v_fn rfl rfl rfl ?_
  conv => whnf
  refine c_draw' (by omega) fun v1 x y z h1 h1' => ?_
  repeat' array_get_dec
  refine f_inv (NInv 6 μ) ⟨x, y, z, [], _, rfl, (fun _ h => nomatch h), by simp; omega, rfl⟩ (fun d xs ρ μ' hI => ?_) (fun ρ μ' hI => ?_)
  · obtain ⟨x, y, z, l, s3, rfl, h2, h3, rfl⟩ := hI
    have hl : l.length ≤ 6 := by simp at h3; omega
    refine bod1 rfl ?_
    conv => whnf
    refine c_draw' (by omega) fun v4 x y z h4 h4' => ?_
    conv => whnf
    refine c_word fun w x y z hw => ?_
    conv => whnf
    refine Nd.mk (by rw [List.length_map]; simp [LIM]; omega) ?_
    conv => whnf
    refine c_draw' (by omega) fun v5 x y z h5 h5' => ?_
    conv => whnf
    have e : l.map D.str ++ [D.str w] = (l ++ [w]).map D.str := by simp
    have h2' : ∀ s ∈ l ++ [w], nmS s := fun s hs => by
      rcases List.mem_append.mp hs with hs | hs
      · exact h2 s hs
      · simp at hs; subst hs; exact hw
    refine if_of (fun hz => ?_) (fun hz => ?_)
    · conv => whnf
      obtain ⟨f, r, hf⟩ : ∃ f r, l ++ [w] = f :: r := by cases l with | nil => exact ⟨w, [], rfl⟩ | cons a b => exact ⟨a, b ++ [w], rfl⟩
      have e2 : L2.atI (l.map D.str ++ [D.str w]) 0 = some (.str f) := by rw [e, hf]; exact at0
      refine ow_r e2 ?_
      conv => whnf
      refine Nd.mk (by simp [LIM]; omega) ?_
      conv => whnf
      refine ⟨x, y, z, l ++ [w] ++ [f], .fz d, rfl, fun s hs => ?_, ?_, ?_⟩
      · rcases List.mem_append.mp hs with hs | hs
        · exact h2' s hs
        · simp at hs; subst hs; exact h2' s (by rw [hf]; simp)
      · simp at h3 ⊢; omega
      · rw [e]; simp
    · conv => whnf
      refine ⟨x, y, z, l ++ [w], .fz d, rfl, h2', ?_, ?_⟩
      · simp at h3 ⊢; omega
      · rw [← e]; rfl
  · obtain ⟨x, y, z, l, s3, rfl, h2, h3, rfl⟩ := hI
    conv => whnf
    exact h _ _ _ _ h2 (by simp at h3; omega)
theorem word_at {i : Int} (h0 : 0 ≤ i) (h1 : i < 10) : ∃ s : Str, s ∈ told10 ∧ L2.atI [D.str "idle", D.str "strange", D.str "elder", D.str "false", D.str "over", D.str "twice", D.str "done", D.str "never", D.str "no", D.str "ok"] i = some (.str s) := by
  have hl : i.toNat < told10.length := by show i.toNat < 10; omega
  obtain ⟨d, e1, e2⟩ := at_ok (xs := told10.map D.str) h0 (by show i < 10; exact h1)
  rw [List.getElem?_map, List.getElem?_eq_getElem hl] at e1
  cases e1
  exact ⟨_, List.getElem_mem hl, e2⟩
theorem two_at {a b : D} {i : Int} (h0 : 0 ≤ i) (h1 : i < 2) : ∃ d, (d = a ∨ d = b) ∧ L2.atI [a, b] i = some d := by
  have : i = 0 ∨ i = 1 := by omega
  rcases this with rfl | rfl
  · exact ⟨a, .inl rfl, rfl⟩
  · exact ⟨b, .inr rfl, rfl⟩
def LInv (μ0 : Sto) (xs acc : List D) (μ : Sto) : Prop := ∃ (x y z : Int) (l : List Int), μ = μ0 ++ [wellD x y z] ∧ acc = l.map D.int ∧ l.length + xs.length = 3 ∧ ∀ v ∈ l, nOk v
theorem c_brow {n : Nat} {x y z : Int} {μ : Sto} {Q} (h : ∀ (r : BR) x y z, r.ok → Q false r.d (μ ++ [wellD x y z])) : Cw (sem T (n+4)).1 12 [.cell μ.length] (μ ++ [wellD x y z]) Q := by
  refine v_fn rfl rfl rfl ?_
  conv => whnf
  refine c_draw' (by omega) fun c x y z hc hc' => ?_
  conv => whnf
  refine c_number fun m x y z hm => ?_
  conv => whnf
  refine if_of (fun hz => ?_) (fun hz => ?_)
  · conv => whnf
    refine c_number fun a x y z ha => ?_
    conv => whnf
    refine c_few fun l x y z hl hl' => ?_
    exact h (.beg m a l) _ _ _ ⟨hm, ha, hl', hl⟩
  conv => whnf
  refine if_of (fun hz => ?_) (fun hz => ?_)
  · conv => whnf
    refine c_few fun l x y z hl hl' => ?_
    exact h (.wak m l) _ _ _ ⟨hm, hl', hl⟩
  conv => whnf
  refine if_of (fun hz => ?_) (fun hz => ?_)
  · conv => whnf
    refine c_draw' (by omega) fun c x y z hc hc' => ?_
    exact h (.off m (decide (c = 1))) _ _ _ hm
  conv => whnf
  refine c_number fun v x y z hv => ?_
  conv => whnf
  refine c_draw' (by omega) fun c1 x y z hc1 hc1' => ?_
  conv => whnf
  have ho : ∃ o : Option Int, (∀ i, o = some i → nOk i) ∧ L2.atI [D.non, D.int v] c1 = some (oD o) := by
    have : c1 = 0 ∨ c1 = 1 := by omega
    rcases this with rfl | rfl
    · exact ⟨none, fun _ h => (by cases h), rfl⟩
    · exact ⟨some v, fun i h => (by cases h; exact hv), rfl⟩
  obtain ⟨o, ho, e⟩ := ho
  refine ow_r e ?_
  conv => whnf
  refine c_draw' (by omega) fun c2 x y z hc2 hc2' => ?_
  conv => whnf
  refine c_word fun w x y z hw => ?_
  conv => whnf
  refine c_draw' (by omega) fun c3 x y z hc3 hc3' => ?_
  conv => whnf
  obtain ⟨s, hs, e⟩ := word_at hc3 hc3'
  refine ow_r e ?_
  conv => whnf
  refine c_draw' (by omega) fun c4 x y z hc4 hc4' => ?_
  conv => whnf
  have hn : ∃ nm : Str, nmS nm ∧ L2.atI [D.str w, D.str s] c4 = some (.str nm) := by
    have : c4 = 0 ∨ c4 = 1 := by omega
    rcases this with rfl | rfl
    · exact ⟨w, hw, rfl⟩
    · exact ⟨s, told_nm _ hs, rfl⟩
  obtain ⟨nm, hnm, e⟩ := hn
  refine ow_r e ?_
  conv => whnf
  refine Nd.mk (by omega) ?_
  refine l_inv (LInv μ) (acc := []) ⟨x, y, z, [], rfl, rfl, rfl, fun _ h => nomatch h⟩ (fun d xs acc μ' hI => ?_) (fun ys μ' hI => ?_)
  · obtain ⟨x1, y1, z1, l, rfl, rfl, hl, hp⟩ := hI
    refine bodl1 rfl ?_
    conv => whnf
    refine c_number fun u x y z hu => ?_
    refine ⟨x, y, z, l ++ [u], rfl, by simp, ?_, fun v hv => ?_⟩
    · simp at hl ⊢; omega
    · rcases List.mem_append.mp hv with hv | hv
      · exact hp v hv
      · simp at hv; subst hv; exact hu
  · obtain ⟨x1, y1, z1, l, rfl, hacc, hl, hp⟩ := hI
    rw [List.nil_append] at hacc
    subst hacc
    obtain ⟨a, b, c, rfl⟩ : ∃ a b c, l = [a, b, c] := by
      match l, hl with
      | [a, b, c], _ => exact ⟨a, b, c, rfl⟩
    have pa := hp a (by simp)
    have pb := hp b (by simp)
    have pc := hp c (by simp)
    conv => whnf
    refine c_draw' (by omega) fun c5 x y z hc5 hc5' => ?_
    conv => whnf
    obtain ⟨t, ht, e⟩ := word_at hc5 hc5'
    refine ow_r e ?_
    repeat' array_get_dec
    exact h (.hea m nm a o b c t) _ _ _ ⟨hm, hnm, pa, ho, pb, pc, ht⟩
end HD

set_option linter.all false
set_option maxRecDepth 100000
set_option maxHeartbeats 1000000
namespace HD
open EV PySem
local macro_rules | `(tactic| array_get_dec) => `(tactic| ((conv => whnf); first
  | with_reducible refine if_T ?_
  | with_reducible refine if_F ?_
  | with_reducible refine Nd.mk (by omega) ?_
  | with_reducible refine if_t (by omega) ?_
  | with_reducible refine if_f (by omega) ?_
  | with_reducible refine if_nt (by omega) ?_
  | with_reducible refine if_nf (by omega) ?_
  | with_reducible refine if_dT (by decide) ?_
  | with_reducible refine if_dF (by decide) ?_
  | with_reducible refine ow_r rfl ?_))
open TL
local macro_rules | `(tactic| array_get_dec) => `(tactic| ((conv => whnf); first
  | with_reducible refine if_T ?_
  | with_reducible refine if_F ?_
  | with_reducible refine Nd.mk (by omega) ?_
  | with_reducible refine Nd.mk (num_side (by assumption)) ?_
  | with_reducible refine if_t (by omega) ?_
  | with_reducible refine if_f (by omega) ?_
  | with_reducible refine if_nt (by omega) ?_
  | with_reducible refine if_nf (by omega) ?_
  | with_reducible refine if_dT (by decide) ?_
  | with_reducible refine if_dF (by decide) ?_
  | with_reducible refine ow_r rfl ?_))
theorem eqvS {a b : Str} : (D.str a).py.eqv (D.str b).py = decide (a = b) := by
  simp only [D.py]
  have e : PyData.eqv (.str a) (.str b) = (a == b) := by simp [PyData.eqv]
  rw [e]
  by_cases h : a = b <;> simp [h]
theorem at_nat {xs : List D} {k : Nat} {d : D} (h : xs[k]? = some d) : L2.atI xs (k : Int) = some d := by
  have hl := (List.getElem?_eq_some_iff.mp h).1
  unfold L2.atI L2.ixN
  rw [if_pos (by omega), if_pos (by omega)]
  simpa using h
theorem cut_drop {xs : List D} {k : Nat} : cutD xs (some (k : Int)) none = xs.drop k := by
  unfold cutD
  rw [HT.sIx_nat, HT.sIx_none]
  by_cases h : k ≤ xs.length
  · rw [Nat.min_eq_left h, List.take_of_length_le (by simp)]
  · rw [Nat.min_eq_right (by omega), List.drop_length, List.drop_eq_nil_of_le (by omega), List.take_nil]
theorem bi_all {xs : List D} {μ : Sto} : biD .all (.lst (xs.filterMap fun _ => some (D.bl true))) μ = some (.bl true) := by
  have key : ∀ xs : List D, ∃ bs, asBls (xs.filterMap fun _ => some (D.bl true)) = some bs ∧ bs.all id = true := by
    intro xs
    induction xs with
    | nil => exact ⟨[], rfl, rfl⟩
    | cons x xs ih =>
      obtain ⟨bs, e, h⟩ := ih
      refine ⟨true :: bs, ?_, by simpa using h⟩
      show (asBls (xs.filterMap fun _ => some (D.bl true))).bind _ = _
      rw [e]; rfl
  obtain ⟨bs, e, h⟩ := key xs
  show ((asBls (xs.filterMap fun _ => some (D.bl true))).bind fun bs => some (D.bl (bs.all id))) = _
  rw [e]
  show some (D.bl (bs.all id)) = _
  rw [h]
theorem in_let {c : Nat} (h : 97 ≤ c ∧ c ≤ 122) {μ : Sto} : cmpD .In (.str ⟨#[c]⟩) (.str letS) μ = some true := by
  have key : ∀ k : Fin 26, cmpD .In (.str ⟨#[97 + k.val]⟩) (.str letS) [] = some true := by decide +kernel
  have := key ⟨c - 97, by omega⟩
  rw [show 97 + (c - 97) = c by omega] at this
  exact this
theorem in_fig {c : Nat} (h : 48 ≤ c ∧ c ≤ 57) {μ : Sto} : cmpD .In (.str ⟨#[c]⟩) (.str "0123456789") μ = some true := by
  have key : ∀ k : Fin 10, cmpD .In (.str ⟨#[48 + k.val]⟩) (.str "0123456789") [] = some true := by decide +kernel
  have := key ⟨c - 48, by omega⟩
  rw [show 48 + (c - 48) = c by omega] at this
  exact this
theorem c_isname {n : Nat} {s : Str} {μ : Sto} {Q} (h : nmS s) (k : Q false (D.bl true) μ) : Cw (sem T (n+1)).1 2 [.str s] μ Q := by
  obtain ⟨h1, h2, h3⟩ := h
  refine v_fn rfl rfl rfl ?_
  repeat' array_get_dec
  conv => whnf
  refine l_pure (fun _ => some (.bl true)) (fun x hx => ?_) ?_
  · obtain ⟨c, hc, rfl⟩ := List.mem_map.mp hx
    refine bodl1 rfl ?_
    conv => whnf
    refine ow_r (in_let (h1 c hc)) ?_
    exact ⟨rfl, rfl⟩
  · conv => whnf
    refine ow_r bi_all ?_
    exact k
theorem c_names {n : Nat} {ns : List Str} {μ : Sto} {Q} (h : ∀ s ∈ ns, nmS s) (k : Q false (D.bl true) μ) : Cw (sem T (n+2)).1 4 [.lst (ns.map D.str)] μ Q := by
  refine v_fn rfl rfl rfl ?_
  conv => whnf
  refine l_pure (fun _ => some (.bl true)) (fun x hx => ?_) ?_
  · obtain ⟨s, hs, rfl⟩ := List.mem_map.mp hx
    refine bodl1 rfl ?_
    conv => whnf
    refine c_isname (h s hs) ?_
    exact ⟨rfl, rfl⟩
  · conv => whnf
    refine ow_r bi_all ?_
    exact k
theorem num_head : ∀ n : Nat, 0 < n → ∃ c r, numL n = c :: r ∧ c ≠ 48 := by
  intro n
  induction n using Nat.strongRecOn with
  | _ n ih =>
    intro h
    by_cases h2 : n < 10
    · exact ⟨48 + n, [], numL_lt h2, by omega⟩
    · obtain ⟨c, r, e, hc⟩ := ih (n / 10) (by omega) (by omega)
      exact ⟨c, r ++ [48 + n % 10], by rw [numL_step (by omega), e]; rfl, hc⟩
theorem at0' {α : Type} {a : α} {l : List α} : L2.atI (a :: l) 0 = some a := by
  unfold L2.atI L2.ixN
  rw [if_pos (by decide), if_pos (by simp)]
  rfl
theorem int_sn {i : Int} (h : nOk i) : PySem.intText? (sn i) = some i := by
  obtain ⟨m, rfl⟩ := Int.eq_ofNat_of_zero_le h.1
  exact int_num (Nat.le_trans (numL_len (k := 10) (by decide) (by have := h.2; omega)) (by decide))
theorem sn_len {i : Int} (h : nOk i) : (sn i).length ≤ 640 := Nat.le_trans (sn_ok h).1.2 (by decide)
theorem c_isnum {n : Nat} {i : Int} {μ : Sto} {Q} (h : nOk i) (k : Q false (D.bl true) μ) : Cw (sem T (n+1)).1 0 [.str (sn i)] μ Q := by
  have hl : (sn i).length ≤ 10 := (sok_num h.1 (by have := h.2; omega)).2.1
  obtain ⟨m, rfl⟩ := Int.eq_ofNat_of_zero_le h.1
  have et : tl (sn ((m : Nat) : Int)) = numL m := tl_num m
  have hp : 1 ≤ (sn ((m : Nat) : Int)).length := by
    rw [len_tl, et]
    have := numL_ne m
    cases e : numL m with
    | nil => exact absurd e this
    | cons _ _ => simp
  generalize hs : sn ((m : Nat) : Int) = s at hl et hp
  refine v_fn rfl rfl rfl ?_
  repeat' array_get_dec
  conv => whnf
  refine l_pure (fun _ => some (.bl true)) (fun x hx => ?_) ?_
  · obtain ⟨c, hc, rfl⟩ := List.mem_map.mp hx
    refine bodl1 rfl ?_
    conv => whnf
    have hc2 : c ∈ numL m := by rw [← et]; exact hc
    have hr : 48 ≤ c ∧ c ≤ 57 := by
      constructor
      · false_or_by_contra
        exact numL_free (.inl (by omega)) hc2
      · false_or_by_contra
        exact numL_free (.inr (by omega)) hc2
    refine ow_r (in_fig hr) ?_
    exact ⟨rfl, rfl⟩
  · conv => whnf
    refine ow_r bi_all ?_
    repeat' array_get_dec
    rw [eqvS]
    refine if_of (fun hz => ?_) (fun hz => ?_)
    · exact k
    · conv => whnf
      by_cases hm : m = 0
      · subst hm
        exact absurd (hs.symm.trans (by decide +kernel)) hz
      · obtain ⟨c, r, e, hc⟩ := num_head m (by omega)
        have e2 : subD (.str s) (.int 0) μ = some (.str ⟨#[c]⟩) := by
          show (L2.atI (tl s) 0).bind _ = _
          rw [et, e, at0']
          rfl
        refine ow_r e2 ?_
        conv => whnf
        refine ow_r neS ?_
        have hne : (⟨#[c]⟩ : Str) ≠ "0" := fun z => by
          have : tl (⟨#[c]⟩ : Str) = tl "0" := congrArg tl z
          have e0 : tl "0" = [48] := by decide +kernel
          rw [e0] at this
          cases this
          exact hc rfl
        conv => whnf
        rw [decide_eq_true hne]
        exact k
theorem c_nums {n : Nat} {ws : List Int} {μ : Sto} {Q} (h : ∀ i ∈ ws, nOk i) (k : Q false (D.bl true) μ) : Cw (sem T (n+2)).1 1 [.lst (ws.map fun i => D.str (sn i))] μ Q := by
  refine v_fn rfl rfl rfl ?_
  conv => whnf
  refine l_pure (fun _ => some (.bl true)) (fun x hx => ?_) ?_
  · obtain ⟨s, hs, rfl⟩ := List.mem_map.mp hx
    refine bodl1 rfl ?_
    conv => whnf
    refine c_isnum (h s hs) ?_
    exact ⟨rfl, rfl⟩
  · conv => whnf
    refine ow_r bi_all ?_
    exact k
end HD

set_option linter.all false
set_option maxRecDepth 100000
set_option maxHeartbeats 1000000
namespace HD
open EV PySem
local macro_rules | `(tactic| array_get_dec) => `(tactic| ((conv => whnf); first
  | with_reducible refine if_T ?_
  | with_reducible refine if_F ?_
  | with_reducible refine Nd.mk (by omega) ?_
  | with_reducible refine if_t (by omega) ?_
  | with_reducible refine if_f (by omega) ?_
  | with_reducible refine if_nt (by omega) ?_
  | with_reducible refine if_nf (by omega) ?_
  | with_reducible refine if_dT (by decide) ?_
  | with_reducible refine if_dF (by decide) ?_
  | with_reducible refine ow_r rfl ?_))
open TL
local macro_rules | `(tactic| array_get_dec) => `(tactic| ((conv => whnf); first
  | with_reducible refine if_T ?_
  | with_reducible refine if_F ?_
  | with_reducible refine Nd.mk (by omega) ?_
  | with_reducible refine Nd.mk (num_side (by assumption)) ?_
  | with_reducible refine if_t (by omega) ?_
  | with_reducible refine if_f (by omega) ?_
  | with_reducible refine if_nt (by omega) ?_
  | with_reducible refine if_nf (by omega) ?_
  | with_reducible refine if_dT (by decide) ?_
  | with_reducible refine if_dF (by decide) ?_
  | with_reducible refine ow_r rfl ?_))
theorem heard_in {t : Str} (h : t ∈ told10) {μ : Sto} : cmpD .NotIn (.str t) (.tup [D.str "idle", D.str "strange", D.str "elder", D.str "false", D.str "over", D.str "twice", D.str "done", D.str "never", D.str "no", D.str "ok"]) μ = some false := by
  simp only [told10, List.mem_cons, List.not_mem_nil, or_false] at h
  rcases h with rfl | rfl | rfl | rfl | rfl | rfl | rfl | rfl | rfl | rfl <;> kernel_rfl
theorem dash_ne {i : Int} (h : nOk i) : sn i ≠ "-" := fun z => by
  have : 45 ∉ tl (sn i) := sn_free h (by decide)
  rw [z] at this
  exact this (by decide +kernel)
theorem c_heard {n : Nat} {m : Int} {nm : Str} {a : Int} {v : Option Int} {s z : Int} {t : Str} {μ : Sto} {Q} (h : (BR.hea m nm a v s z t).ok) (k : Q false (BR.hea m nm a v s z t).d μ) : Cw (sem T (n+3)).1 3 [.lst ((BR.hea m nm a v s z t).words.map D.str)] μ Q := by
  obtain ⟨h1, h2, h3, h4, h5, h6, h7⟩ := h
  refine v_fn rfl rfl rfl ?_
  conv => whnf
  refine if_f (by simp [BR.words]) ?_
  repeat' array_get_dec
  conv => whnf
  refine c_isname h2 ?_
  array_get_dec
  conv => whnf
  refine ow_r rfl ?_
  conv => whnf
  refine ow_r (heard_in h7) ?_
  repeat' array_get_dec
  conv => whnf
  refine c_nums (ws := [m, a, s, z]) (fun i hi => ?_) ?_
  · simp only [List.mem_cons, List.not_mem_nil, or_false] at hi
    rcases hi with rfl | rfl | rfl | rfl
    · exact h1
    · exact h3
    · exact h5
    · exact h6
  cases v with
  | none =>
    repeat' array_get_dec
    conv => whnf
    refine ow_r (int_sn h1) (Nd.mk (sn_len h1) ?_)
    repeat' array_get_dec
    conv => whnf
    refine ow_r (int_sn h3) (Nd.mk (sn_len h3) ?_)
    repeat' array_get_dec
    conv => whnf
    refine ow_r (int_sn h5) (Nd.mk (sn_len h5) ?_)
    repeat' array_get_dec
    conv => whnf
    refine ow_r (int_sn h6) (Nd.mk (sn_len h6) ?_)
    repeat' array_get_dec
    exact k
  | some i =>
    have h4 := h4 i rfl
    repeat' array_get_dec
    rw [eqvS, decide_eq_false (dash_ne h4)]
    repeat' array_get_dec
    conv => whnf
    refine c_isnum h4 ?_
    repeat' array_get_dec
    conv => whnf
    refine ow_r (int_sn h4) (Nd.mk (sn_len h4) ?_)
    repeat' array_get_dec
    conv => whnf
    refine ow_r (int_sn h1) (Nd.mk (sn_len h1) ?_)
    repeat' array_get_dec
    conv => whnf
    refine ow_r (int_sn h3) (Nd.mk (sn_len h3) ?_)
    repeat' array_get_dec
    conv => whnf
    refine ow_r (int_sn h5) (Nd.mk (sn_len h5) ?_)
    repeat' array_get_dec
    conv => whnf
    refine ow_r (int_sn h6) (Nd.mk (sn_len h6) ?_)
    repeat' array_get_dec
    exact k
theorem c_rowof {n : Nat} {r : BR} {μ : Sto} {Q} (h : r.ok) (k : Q false r.d μ) : Cw (sem T (n+4)).1 5 [.lst (r.words.map D.str)] μ Q := by
  cases r with
  | hea m nm a v s z t =>
    refine v_fn rfl rfl rfl ?_
    repeat' array_get_dec
    conv => whnf
    refine c_heard h ?_
    exact k
  | off m b =>
    have h1 : nOk m := h
    refine v_fn rfl rfl rfl ?_
    repeat' array_get_dec
    conv => whnf
    refine if_f (by simp [BR.words]) ?_
    repeat' array_get_dec
    conv => whnf
    refine c_isnum h1 ?_
    repeat' array_get_dec
    conv => whnf
    refine if_t (by simp [BR.words]) ?_
    cases b
    all_goals repeat' array_get_dec
    all_goals conv => whnf
    all_goals refine ow_r (int_sn h1) (Nd.mk (sn_len h1) ?_)
    all_goals repeat' array_get_dec
    all_goals exact k
  | wak m ns =>
    obtain ⟨h1, h3, h4⟩ := h
    refine v_fn rfl rfl rfl ?_
    conv => whnf
    refine ow_r (at_nat (k := 0) rfl) ?_
    repeat' array_get_dec
    conv => whnf
    refine if_f (by simp [BR.words]; omega) ?_
    conv => whnf
    refine ow_r (at_nat (k := 1) rfl) ?_
    conv => whnf
    refine c_isnum h1 ?_
    array_get_dec
    conv => whnf
    refine ow_r (at_nat (k := 0) rfl) ?_
    repeat' array_get_dec
    conv => whnf
    refine ow_r (at_nat (k := 0) rfl) ?_
    repeat' array_get_dec
    conv => whnf
    rw [show cutD ((BR.wak m ns).words.map D.str) (some 2) none = ns.map D.str from cut_drop (k := 2)]
    refine c_names h4 ?_
    repeat' array_get_dec
    conv => whnf
    refine ow_r (at_nat (k := 1) rfl) ?_
    conv => whnf
    refine ow_r (int_sn h1) (Nd.mk (sn_len h1) ?_)
    conv => whnf
    rw [show cutD ((BR.wak m ns).words.map D.str) (some 2) none = ns.map D.str from cut_drop (k := 2)]
    exact k
  | beg m a ns =>
    obtain ⟨h1, h2, h3, h4⟩ := h
    refine v_fn rfl rfl rfl ?_
    conv => whnf
    refine ow_r (at_nat (k := 0) rfl) ?_
    repeat' array_get_dec
    conv => whnf
    refine if_f (by simp [BR.words]; omega) ?_
    conv => whnf
    refine ow_r (at_nat (k := 1) rfl) ?_
    conv => whnf
    refine c_isnum h1 ?_
    array_get_dec
    conv => whnf
    refine ow_r (at_nat (k := 0) rfl) ?_
    repeat' array_get_dec
    conv => whnf
    refine if_t (by simp [BR.words]; omega) ?_
    conv => whnf
    refine ow_r (at_nat (k := 2) rfl) ?_
    conv => whnf
    refine c_isnum h2 ?_
    array_get_dec
    conv => whnf
    rw [show cutD ((BR.beg m a ns).words.map D.str) (some 3) none = ns.map D.str from cut_drop (k := 3)]
    refine c_names h4 ?_
    array_get_dec
    conv => whnf
    refine ow_r (at_nat (k := 1) rfl) ?_
    conv => whnf
    refine ow_r (int_sn h1) (Nd.mk (sn_len h1) ?_)
    conv => whnf
    refine ow_r (at_nat (k := 2) rfl) ?_
    conv => whnf
    refine ow_r (int_sn h2) (Nd.mk (sn_len h2) ?_)
    conv => whnf
    rw [show cutD ((BR.beg m a ns).words.map D.str) (some 3) none = ns.map D.str from cut_drop (k := 3)]
    exact k
end HD

set_option linter.all false
set_option maxRecDepth 100000
set_option maxHeartbeats 1000000
namespace HD
open EV PySem
local macro_rules | `(tactic| array_get_dec) => `(tactic| ((conv => whnf); first
  | with_reducible refine if_T ?_
  | with_reducible refine if_F ?_
  | with_reducible refine Nd.mk (by omega) ?_
  | with_reducible refine if_t (by omega) ?_
  | with_reducible refine if_f (by omega) ?_
  | with_reducible refine if_nt (by omega) ?_
  | with_reducible refine if_nf (by omega) ?_
  | with_reducible refine if_dT (by decide) ?_
  | with_reducible refine if_dF (by decide) ?_
  | with_reducible refine ow_r rfl ?_))
open TL
local macro_rules | `(tactic| array_get_dec) => `(tactic| ((conv => whnf); first
  | with_reducible refine if_T ?_
  | with_reducible refine if_F ?_
  | with_reducible refine Nd.mk (by omega) ?_
  | with_reducible refine Nd.mk (num_side (by assumption)) ?_
  | with_reducible refine if_t (by omega) ?_
  | with_reducible refine if_f (by omega) ?_
  | with_reducible refine if_nt (by omega) ?_
  | with_reducible refine if_nf (by omega) ?_
  | with_reducible refine if_dT (by decide) ?_
  | with_reducible refine if_dF (by decide) ?_
  | with_reducible refine ow_r rfl ?_))
theorem stay_of {n : Nat} {d : D} {μ : Sto} (h : μ[n]? = some d) : stay (some (n, d)) μ = true := by
  unfold stay
  simp [h]
theorem l_invG {g : Gd} {f : D → Sto → Option (Option D × Sto)} (I : List D → List D → Sto → Prop) (hg : ∀ xs acc μ, I xs acc μ → stay g μ = true) : ∀ {xs acc : List D} {μ : Sto} {Q : List D → Sto → Prop}, I xs acc μ →
    (∀ x xs acc μ, I (x :: xs) acc μ → Wv (f x μ) (fun r μ => I xs (match r with | some y => acc ++ [y] | none => acc) μ)) → (∀ ys μ, I [] (acc ++ ys) μ → Q ys μ) → Lw g f xs μ Q
  | [], acc, μ, Q, h, st, k => by
    constructor
    unfold lcL
    rw [if_pos (hg _ _ _ h)]
    exact wv_some (k [] μ (by rw [List.append_nil]; exact h))
  | x :: xs, acc, μ, Q, h, st, k => by
    constructor
    unfold lcL
    rw [if_pos (hg _ _ _ h)]
    obtain ⟨r, m, e, h⟩ := st x xs acc μ h
    rw [e]
    cases r with
    | none =>
      show Wv ((lcL g f xs m).bind _) Q
      exact wv_bind (wv_mono (l_invG I hg h st k).h fun ys m q => wv_some q)
    | some y =>
      show Wv ((lcL g f xs m).bind _) Q
      exact wv_bind (wv_mono (l_invG (Q := fun ys m => Q (y :: ys) m) I hg h st fun ys m q => k (y :: ys) m (by rw [List.append_assoc] at q; exact q)).h fun ys m q => wv_some q)
theorem c_showC {n c : Nat} {rs : List BR} {μ : Sto} {Q} (hc : μ[c]? = some (.lst (rs.map BR.d))) (h : ∀ r ∈ rs, r.ok) (hl : rs.length ≤ 6000) (k : Q false (D.str (book rs)) μ) : Cw (sem T (n+3)).1 16 [.cell c] μ Q := by
  refine v_fn rfl rfl rfl ?_
  conv => whnf
  refine ow_r hc (ow_r rfl ?_)
  rw [show seqGd (.cell c) μ = some (c, .lst (rs.map BR.d)) by show (μ[c]?).map _ = _; rw [hc]; rfl]
  refine l_invG (fun xs acc m => m = μ ∧ ∃ (a b : List BR), rs = a ++ b ∧ xs = b.map BR.d ∧ acc = (a.map line).map D.str) (fun _ _ m h => by rw [h.1]; exact stay_of hc) (acc := []) ⟨rfl, [], rs, rfl, rfl, rfl⟩ (fun x xs acc m hI => ?_) (fun ys m hI => ?_)
  · obtain ⟨rfl, a, b, e1, e2, rfl⟩ := hI
    cases b with
    | nil => cases e2
    | cons r b =>
      simp only [List.map_cons, List.cons.injEq] at e2
      obtain ⟨rfl, rfl⟩ := e2
      refine bodl1 rfl ?_
      conv => whnf
      refine c_row (h r (by rw [e1]; simp)) ?_
      exact ⟨rfl, a ++ [r], b, by rw [e1]; simp, rfl, by simp⟩
  · obtain ⟨rfl, a, b, e1, e2, e3⟩ := hI
    cases b with
    | cons _ _ => cases e2
    | nil =>
      rw [List.append_nil] at e1
      subst e1
      rw [List.nil_append] at e3
      subst e3
      conv => whnf
      refine ow_r rfl (ow_r rfl (ow_r (asStrs_map _) ?_))
      exact Nd.mk (book_ok h hl).1 k
theorem words_ne : ∀ r : BR, ∃ w ws, r.words = w :: ws ∧ tl w ≠ []
  | .beg m a ns => ⟨_, _, rfl, by decide +kernel⟩
  | .wak m ns => ⟨_, _, rfl, by decide +kernel⟩
  | .off m b => ⟨_, _, rfl, by decide +kernel⟩
  | .hea m nm a v s z t => ⟨_, _, rfl, by decide +kernel⟩
theorem joinL_ne {S p : List Nat} {r : List (List Nat)} (h : p ≠ []) : joinL S (p :: r) ≠ [] := by
  cases r with
  | nil => exact h
  | cons q r =>
    show p ++ _ ≠ []
    intro z
    exact h (List.append_eq_nil_iff.mp z).1
theorem tl_sp : tl (" " : Str) = [32] := by decide +kernel
theorem tl_nl : tl ("
" : Str) = [10] := by decide +kernel
theorem line_split {r : BR} (h : r.ok) : Txt.split (line r) " " = r.words := by
  obtain ⟨w, ws, e, _⟩ := words_ne r
  exact split_join tl_sp (by decide +kernel) (by rw [e]; simp) fun p hp => ((words_ok h).2 p hp).2.1
theorem line_free {r : BR} (h : r.ok) : 10 ∉ tl (line r) := fun hc => by
  rw [show line r = Str.join " " r.words from join_eq _ _, tl_join, tl_sp] at hc
  rcases joinL_mem hc with hc | ⟨p, hp, hc⟩
  · simp at hc
  · obtain ⟨y, hy, rfl⟩ := List.mem_map.mp hp
    exact ((words_ok h).2 y hy).2.2 hc
theorem book_split {rs : List BR} (h : ∀ r ∈ rs, r.ok) (hne : rs ≠ []) : Txt.split (book rs) "
" = rs.map line :=
  split_join tl_nl (by decide +kernel) (by simpa using hne) fun p hp => by
    obtain ⟨r, hr, rfl⟩ := List.mem_map.mp hp
    exact line_free (h r hr)
theorem book_ne {rs : List BR} (hne : rs ≠ []) : book rs ≠ "" := fun z => by
  have : tl (book rs) = tl "" := congrArg tl z
  rw [show book rs = Str.join "\n" (rs.map line) from join_eq _ _, tl_join] at this
  cases rs with
  | nil => exact hne rfl
  | cons r rs =>
    obtain ⟨w, ws, e, hw⟩ := words_ne r
    refine joinL_ne (p := tl (line r)) ?_ this
    rw [show line r = Str.join " " r.words from join_eq _ _, tl_join, e]
    exact joinL_ne hw
theorem d_tup : ∀ r : BR, ∃ l, r.d = .tup l
  | .beg m a ns => ⟨_, rfl⟩
  | .wak m ns => ⟨_, rfl⟩
  | .off m b => ⟨_, rfl⟩
  | .hea m nm a v s z t => ⟨_, rfl⟩
def RdI (rs : List BR) (μ : Sto) (xs : List D) (ρ : Rho) (μ' : Sto) : Prop := μ' = μ ∧ ∃ (a b : List BR) (k : Nat) (s2 s3 s4 : Slot), rs = a ++ b ∧ xs = (((b.map line).map D.str).zipIdx k).map (fun p => D.tup [.int (p.2 : Nat), p.1]) ∧
  ρ = [.fz (.str (book rs)), .ow (.lst (a.map BR.d)), s2, s3, s4]
theorem c_read {n : Nat} {rs : List BR} {μ : Sto} {Q} (h : ∀ r ∈ rs, r.ok) (hne : rs ≠ []) (hl : rs.length ≤ 6000) (k : Q true (D.lst (rs.map BR.d)) μ) : Cw (sem T (n+5)).1 6 [.str (book rs)] μ Q := by
  have bo := book_ok h hl
  refine v_fn rfl rfl rfl ?_
  repeat' array_get_dec
  rw [eqvS, decide_eq_false (book_ne hne)]
  repeat' array_get_dec
  conv => whnf
  refine Nd.mk ⟨by decide +kernel, by have := bo.2; simp [LIM]; omega, ?_, ?_⟩ ?_
  · rw [book_split h hne, List.all_eq_true]
    intro y hy
    obtain ⟨r, hr, rfl⟩ := List.mem_map.mp hy
    exact (line_ok (h r hr)).1.2
  · rw [book_split h hne, List.length_map]; simp [LIM]; omega
  conv => whnf
  rw [book_split h hne]
  refine f_inv (RdI rs μ) ⟨rfl, [], rs, 0, _, _, _, rfl, rfl, rfl⟩ (fun x xs ρ μ' hI => ?_) (fun ρ μ' hI => ?_)
  · obtain ⟨rfl, a, b, kk, s2, s3, s4, e1, e2, rfl⟩ := hI
    cases b with
    | nil => cases e2
    | cons r b =>
      simp only [List.map_cons, List.zipIdx_cons, List.cons.injEq] at e2
      obtain ⟨rfl, rfl⟩ := e2
      have hr := h r (by rw [e1]; simp)
      have wo := words_ok hr
      have lo := line_ok hr
      refine bodn (ρ' := [.fz (.str (book rs)), .ow (.lst (a.map BR.d)), .fz (.int (kk : Nat)), .fz (.str (line r)), s4]) rfl ?_
      conv => whnf
      refine Nd.mk ⟨by decide +kernel, by have := lo.2; simp [LIM]; omega, ?_, ?_⟩ ?_
      · rw [line_split hr, List.all_eq_true]
        exact fun y hy => (wo.2 y hy).1.1
      · rw [line_split hr]; simp [LIM]; omega
      conv => whnf
      rw [line_split hr]
      refine c_rowof hr ?_
      obtain ⟨l, hd⟩ := d_tup r
      rw [hd]
      conv => whnf
      refine ow_r rfl ?_
      repeat' array_get_dec
      conv => whnf
      refine Nd.mk ?_ ?_
      · have : rs.length = a.length + (b.length + 1) := by rw [e1]; simp
        rw [List.length_map]; simp [LIM]; omega
      refine ⟨rfl, a ++ [r], b, kk + 1, .fz (.int (kk : Nat)), .fz (.str (line r)), .fz (.tup l), by rw [e1]; simp, rfl, ?_⟩
      rw [← hd, List.map_append]
      rfl
  · obtain ⟨rfl, a, b, kk, s2, s3, s4, e1, e2, rfl⟩ := hI
    cases b with
    | cons _ _ => cases e2
    | nil =>
      rw [List.append_nil] at e1
      subst e1
      conv => whnf
      exact k
def isB : D → Bool
  | .bl _ => true
  | _ => false
theorem ty_bool {d : D} (h : d.dat = true) {μ : Sto} : tyD T d (.ty "bool") μ = some (isB d) := by
  cases d <;> first | (cases h; done) | kernel_rfl
theorem dats_mem : ∀ {l : List D}, D.dats l = true → ∀ x ∈ l, x.dat = true
  | x :: l, h, y, hy => by
    obtain ⟨h1, h2⟩ := ba (show (x.dat && D.dats l) = true from h)
    rcases List.mem_cons.mp hy with rfl | hy
    · exact h1
    · exact dats_mem h2 y hy
theorem c_same {n : Nat} {r : BR} {μ : Sto} {Q} (k : Q false (D.bl true) μ) : Cw (sem T (n+1)).1 18 [r.d, r.d] μ Q := by
  obtain ⟨hd, hz⟩ := d_dat r
  obtain ⟨l, e⟩ := d_tup r
  rw [e] at hd hz ⊢
  have hm := dats_mem (show D.dats l = true from hd)
  refine v_fn rfl rfl rfl ?_
  conv => whnf
  refine ow_r (a := true) rfl ?_
  conv => whnf
  refine if_F ?_
  conv => whnf
  refine ow_r (ne_self hd (Nat.le_trans hz (by decide))) ?_
  conv => whnf
  refine if_F ?_
  conv => whnf
  have one : ∀ (μ : Sto), ∀ x ∈ l, Wv (bodL T (sem T n).1 (sem T n).2 (.isi (.v 2) (.ty "bool")) (.v 2) .no (EV.start f__law_same_row.N.length [.tup l, .tup l]) x μ) (fun r m => r = some (.bl (isB x)) ∧ m = μ) := fun μ x hx => by
    refine bodl1 rfl ?_
    conv => whnf
    refine ow_r (ty_bool (hm x hx)) ?_
    exact ⟨rfl, rfl⟩
  refine l_pure (fun x => some (.bl (isB x))) (one μ) ?_
  conv => whnf
  refine l_pure (fun x => some (.bl (isB x))) (one μ) ?_
  conv => whnf
  have hb : ∀ d ∈ l.filterMap (fun x => some (D.bl (isB x))), d.dat = true ∧ d.py.depth ≤ 0 := fun d hd => by
    obtain ⟨x, _, hx⟩ := List.mem_filterMap.mp hd
    cases hx
    exact ⟨rfl, Nat.le_refl _⟩
  have h1 : (D.lst (l.filterMap fun x => some (D.bl (isB x)))).dat = true := dats_all fun d hd => (hb d hd).1
  have h2 : (D.lst (l.filterMap fun x => some (D.bl (isB x)))).py.depth ≤ 64 := by
    have := depths_le (n := 0) fun d hd => (hb d hd).2
    simp only [D.py, PyData.depth]
    omega
  refine ow_r (eq_self h1 h2) ?_
  exact k
end HD

set_option linter.all false
set_option maxRecDepth 100000
set_option maxHeartbeats 1000000
namespace HD
open EV PySem
local macro_rules | `(tactic| array_get_dec) => `(tactic| ((conv => whnf); first
  | with_reducible refine if_T ?_
  | with_reducible refine if_F ?_
  | with_reducible refine Nd.mk (by omega) ?_
  | with_reducible refine if_t (by omega) ?_
  | with_reducible refine if_f (by omega) ?_
  | with_reducible refine if_nt (by omega) ?_
  | with_reducible refine if_nf (by omega) ?_
  | with_reducible refine if_dT (by decide) ?_
  | with_reducible refine if_dF (by decide) ?_
  | with_reducible refine ow_r rfl ?_))
open TL
local macro_rules | `(tactic| array_get_dec) => `(tactic| ((conv => whnf); first
  | with_reducible refine if_T ?_
  | with_reducible refine if_F ?_
  | with_reducible refine Nd.mk (by omega) ?_
  | with_reducible refine Nd.mk (num_side (by assumption)) ?_
  | with_reducible refine if_t (by omega) ?_
  | with_reducible refine if_f (by omega) ?_
  | with_reducible refine if_nt (by omega) ?_
  | with_reducible refine if_nf (by omega) ?_
  | with_reducible refine if_dT (by decide) ?_
  | with_reducible refine if_dF (by decide) ?_
  | with_reducible refine ow_r rfl ?_))
def Inv (ns : List Int) (xs : List D) (ρ : Rho) (μ : Sto) : Prop := (∃ s1 s2 s3 s4 s5 s6 s7 s8 s9 s10 : Slot, ρ = [.fz (.lst (ns.map D.int)), s1, s2, s3, s4, s5, s6, s7, s8, s9, s10]) ∧ ∀ x ∈ xs, ∃ k : Nat, x = .int k
def RInv (m : Nat) (μ0 : Sto) (xs acc : List D) (μ : Sto) : Prop := ∃ (x y z : Int) (l : List BR), μ = μ0 ++ [wellD x y z] ∧ acc = l.map BR.d ∧ l.length + xs.length = m ∧ ∀ r ∈ l, r.ok
theorem cut_map {α : Type} (f : α → D) (l : List α) (lo hi : Option Int) : ∃ l' : List α, cutD (l.map f) lo hi = l'.map f ∧ (∀ a ∈ l', a ∈ l) := by
  unfold cutD
  rw [← List.map_drop, ← List.map_take]
  exact ⟨_, rfl, fun a ha => List.mem_of_mem_drop (List.mem_of_mem_take ha)⟩
theorem cut_len (l : List D) (k : Int) (hk : 0 ≤ k) : (cutD l none (some k)).length = min k.toNat l.length := by
  obtain ⟨m, rfl⟩ := Int.eq_ofNat_of_zero_le hk
  unfold cutD
  rw [HT.sIx_nat, HT.sIx_none, List.length_take]
  show min (min m l.length - 0) _ = min ((m : Int).toNat) _
  simp
theorem rep_map {α : Type} (f : α → D) (l : List α) (m : Nat) : (List.replicate m (l.map f)).flatten = ((List.replicate m l).flatten).map f := by
  rw [List.map_flatten, List.map_replicate]
theorem rep_mem {α : Type} {l : List α} {m : Nat} {a : α} (h : a ∈ (List.replicate m l).flatten) : a ∈ l := by
  obtain ⟨l', h1, h2⟩ := List.mem_flatten.mp h
  rw [(List.mem_replicate.mp h1).2] at h2
  exact h2
theorem rep_len {α : Type} (l : List α) (m : Nat) : (List.replicate m l).flatten.length = m * l.length := by
  induction m with
  | zero => simp
  | succ m ih => rw [List.replicate_succ, List.flatten_cons, List.length_append, ih, Nat.succ_mul]; omega
theorem max_in {lo hi : Int} : ∀ {r : List Int} {m : Int}, (∀ x ∈ r, lo ≤ x ∧ x ≤ hi) → lo ≤ m ∧ m ≤ hi → lo ≤ maxI r m ∧ maxI r m ≤ hi
  | [], m, _, h => h
  | x :: r, m, hr, h => by
    show lo ≤ maxI r (if x > m then x else m) ∧ maxI r (if x > m then x else m) ≤ hi
    have hx := hr x List.mem_cons_self
    exact max_in (fun y hy => hr y (List.mem_cons_of_mem _ hy)) (by split <;> omega)
theorem asInts_map (js : List Int) : asInts (js.map D.int) = some js := by
  induction js with
  | nil => rfl
  | cons j js ih => show (asInts (js.map D.int)).bind _ = _; rw [ih]; rfl
theorem all_rep (j : Nat) {μ : Sto} : biD .all (.lst (List.replicate j (D.bl true))) μ = some (.bl true) := by
  have := bi_all (xs := List.replicate j D.non) (μ := μ)
  have e : (List.replicate j D.non).filterMap (fun _ => some (D.bl true)) = List.replicate j (D.bl true) := by
    induction j with
    | zero => rfl
    | succ j ih => rw [List.replicate_succ, List.replicate_succ, List.filterMap_cons]; simp only [ih (bi_all (μ := μ))]
  rw [e] at this
  exact this
theorem zip_self (l : List BR) : ∀ x ∈ ((l.map BR.d).zip (l.map BR.d)).map (fun p => D.tup [p.1, p.2]), ∃ r : BR, x = .tup [r.d, r.d] := by
  induction l with
  | nil => intro x hx; cases hx
  | cons r l ih =>
    intro x hx
    rcases List.mem_cons.mp (show x ∈ D.tup [r.d, r.d] :: ((l.map BR.d).zip (l.map BR.d)).map (fun p => D.tup [p.1, p.2]) from hx) with rfl | hx
    · exact ⟨r, rfl⟩
    · exact ih x hx
theorem c_read0 {n : Nat} {μ : Sto} {Q} (k : Q true (D.lst []) μ) : Cw (sem T (n+5)).1 6 [.str ""] μ Q := by
  refine v_fn rfl rfl rfl ?_
  repeat' array_get_dec
  exact k
def restC : Ss := (.cons (.frz 3) (.cons (.set 4 (.join (.k (.str "\n")) (.e (.frz (.lc (.join (.k (.str " ")) (.e (.call 17 (.cons (.v 8) .nil)))) (.v 8) (.lst (.e (.v 3))) .no))))) (.cons (.set 5 (.box (.call 6 (.cons (.v 4) .nil)))) (.cons (.iff (.or (.not (.isi (.v 5) (.ty "list"))) (.or (.cmp .NotEq (.e (.bi .len (.e (.v 5)))) (.e (.bi .len (.e (.v 3))))) (.cmp .NotEq (.e (.call 16 (.cons (.v 5) .nil))) (.e (.v 4))))) (.cons (.ret (.k (.bl false))) .nil) .nil) (.cons (.iff (.not (.bi .all (.e (.frz (.lc (.call 18 (.cons (.v 9) (.cons (.v 10) .nil))) (.tup [9, 10]) (.zip (.v 5) (.v 3)) .no))))) (.cons (.ret (.k (.bl false))) .nil) .nil) (.cons (.app 5 (.sub (.e (.v 3)) (.k (.int 0)))) (.cons (.setIx (.v 5) (.k (.int 0)) (.k .non)) (.cons (.iff (.cmp .NotEq (.e (.call 6 (.cons (.v 4) .nil))) (.e (.v 3))) (.cons (.ret (.k (.bl false))) .nil) .nil) .nil))))))))
theorem c_rest {n : Nat} {l : List BR} {sc : D} {s1 s2 s4 s5 s6 s7 s8 s9 s10 : Slot} {μ : Sto} {N : Rho → Sto → Prop} {R : Bool → D → Sto → Prop} (hl : ∀ r ∈ l, r.ok) (hne : l ≠ []) (hz : l.length ≤ 6000)
    (h : ∀ t3 t4 t5 μ, N [.fz sc, s1, s2, t3, t4, t5, s6, s7, s8, s9, s10] μ) : vSs T (sem T (n+5)).1 (sem T (n+5)).2 restC [.fz sc, s1, s2, .ow (.lst (l.map BR.d)), s4, s5, s6, s7, s8, s9, s10] μ N R := by
  conv => whnf
  refine l_inv (fun xs acc m => m = μ ∧ ∃ (a b : List BR), l = a ++ b ∧ xs = b.map BR.d ∧ acc = (a.map line).map D.str) (acc := []) ⟨rfl, [], l, rfl, rfl, rfl⟩ (fun x xs acc m hI => ?_) (fun ys m hI => ?_)
  · obtain ⟨rfl, a, b, e1, e2, rfl⟩ := hI
    cases b with
    | nil => cases e2
    | cons r b =>
      simp only [List.map_cons, List.cons.injEq] at e2
      obtain ⟨rfl, rfl⟩ := e2
      have hr := hl r (by rw [e1]; simp)
      refine bodl1 rfl ?_
      conv => whnf
      refine c_rwords hr ?_
      conv => whnf
      refine ow_r rfl (ow_r rfl (ow_r (asStrs_map _) ?_))
      refine Nd.mk (line_ok hr).1 ?_
      exact ⟨rfl, a ++ [r], b, by rw [e1]; simp, rfl, by simp⟩
  · obtain ⟨rfl, a, b, e1, e2, e3⟩ := hI
    cases b with
    | cons _ _ => cases e2
    | nil =>
      rw [List.append_nil] at e1
      subst e1
      rw [List.nil_append] at e3
      subst e3
      conv => whnf
      refine ow_r rfl (ow_r rfl (ow_r (asStrs_map _) ?_))
      refine Nd.mk (book_ok hl hz).1 ?_
      conv => whnf
      refine c_read hl hne hz ?_
      refine Nd.mk rfl ?_
      conv => whnf
      have hc : (m ++ [D.lst (l.map BR.d)])[m.length]? = some (D.lst (l.map BR.d)) := by simp
      generalize m ++ [D.lst (l.map BR.d)] = μ2 at hc ⊢
      generalize m.length = c at hc ⊢
      have top : (D.cell c).top μ2 = some (D.lst (l.map BR.d)) := hc
      have e1 : tyD T (.cell c) (.ty "list") μ2 = some true := by
        show ((D.cell c).top μ2).bind _ = _
        rw [top]; rfl
      refine ow_r e1 ?_
      array_get_dec
      conv => whnf
      have e2 : biD .len (.cell c) μ2 = some (.int (l.map BR.d).length) := by
        show ((D.cell c).top μ2).bind _ = _
        rw [top]; rfl
      refine ow_r e2 ?_
      conv => whnf
      refine if_f (fun h => h rfl) ?_
      conv => whnf
      refine c_showC hc hl hz ?_
      conv => whnf
      refine ow_r neS ?_
      conv => whnf
      refine if_f (fun h => h rfl) ?_
      conv => whnf
      refine ow_r hc (ow_r rfl ?_)
      rw [show seqGd (.cell c) μ2 = some (c, .lst (l.map BR.d)) by show (μ2[c]?).map _ = _; rw [hc]; rfl]
      refine l_invG (fun xs acc m => m = μ2 ∧ (∀ x ∈ xs, ∃ r : BR, x = .tup [r.d, r.d]) ∧ ∃ j, acc = List.replicate j (D.bl true)) (fun _ _ m h => by rw [h.1]; exact stay_of hc) (acc := []) ⟨rfl, zip_self l, 0, rfl⟩ (fun x xs acc m hI => ?_) (fun ys m hI => ?_)
      · obtain ⟨rfl, hx, j, rfl⟩ := hI
        obtain ⟨r, rfl⟩ := hx x List.mem_cons_self
        refine bodl (tg := .tup [9, 10]) rfl ?_
        array_get_dec
        conv => whnf
        refine c_same ?_
        exact ⟨rfl, fun y hy => hx y (List.mem_cons_of_mem _ hy), j + 1, by rw [List.replicate_succ']⟩
      · obtain ⟨rfl, _, j, hj⟩ := hI
        rw [List.nil_append] at hj
        subst hj
        conv => whnf
        refine ow_r (all_rep j) ?_
        array_get_dec
        obtain ⟨r0, l', rfl⟩ : ∃ r0 l', l = r0 :: l' := by cases l with | nil => exact absurd rfl hne | cons a b => exact ⟨a, b, rfl⟩
        conv => whnf
        refine ow_r (a := r0.d) at0 ?_
        conv => whnf
        refine ow_r hc (ow_r rfl (ow_r hc (ow_r rfl (Nd.mk ?_ ?_))))
        · rw [List.length_map]; simp only [LIM]; omega
        conv => whnf
        have hs : ∀ d, (m.set c d)[c]? = some d := fun d => List.getElem?_set_self (List.getElem?_eq_some_iff.mp hc).1
        refine ow_r (hs _) (ow_r rfl ?_)
        have e4 : L2.ixN ((List.map BR.d (r0 :: l')) ++ [r0.d]).length 0 = some 0 := by
          unfold L2.ixN
          rw [if_pos (by decide), if_pos (by simp; omega)]
          rfl
        refine ow_r e4 ?_
        conv => whnf
        refine c_read hl hne hz ?_
        conv => whnf
        refine ow_r (ne_self (rows_dat (r0 :: l')).1 (rows_dat (r0 :: l')).2) ?_
        array_get_dec
        exact h _ _ _ _
end HD

set_option linter.all false
set_option maxRecDepth 100000
set_option maxHeartbeats 1000000
namespace HD
open EV PySem
local macro_rules | `(tactic| array_get_dec) => `(tactic| ((conv => whnf); first
  | with_reducible refine if_T ?_
  | with_reducible refine if_F ?_
  | with_reducible refine Nd.mk (by omega) ?_
  | with_reducible refine if_t (by omega) ?_
  | with_reducible refine if_f (by omega) ?_
  | with_reducible refine if_nt (by omega) ?_
  | with_reducible refine if_nf (by omega) ?_
  | with_reducible refine if_dT (by decide) ?_
  | with_reducible refine if_dF (by decide) ?_
  | with_reducible refine ow_r rfl ?_))
open TL
local macro_rules | `(tactic| array_get_dec) => `(tactic| ((conv => whnf); first
  | with_reducible refine if_T ?_
  | with_reducible refine if_F ?_
  | with_reducible refine Nd.mk (by omega) ?_
  | with_reducible refine Nd.mk (num_side (by assumption)) ?_
  | with_reducible refine if_t (by omega) ?_
  | with_reducible refine if_f (by omega) ?_
  | with_reducible refine if_nt (by omega) ?_
  | with_reducible refine if_nf (by omega) ?_
  | with_reducible refine if_dT (by decide) ?_
  | with_reducible refine if_dF (by decide) ?_
  | with_reducible refine ow_r rfl ?_))
theorem law_ok (ns : List Int) (hn : ns.length ≤ 63) : ∃ (r : (Bool × EV.D) × EV.Sto), (EV.sem T 10).1 19 [.lst (ns.map EV.D.int)] [] = some r ∧ r.1 = (false, .bl true) := by
  have key : Cw (sem T (9 + 1)).1 19 [.lst (ns.map EV.D.int)] [] (fun o d _ => (o, d) = (false, .bl true)) := by
    refine v_fn rfl rfl rfl ?_
    conv => whnf
    refine c_read0 (n := 4) ?_
    conv => whnf
    refine ow_r (ne_self rfl (by decide)) ?_
    array_get_dec
    conv => whnf
    refine ow_r rfl (ow_r rfl ?_)
    conv => whnf
    rw [List.length_map]
    refine Nd.mk (by split <;> split <;> omega) ?_
    refine f_inv (Inv ns) ⟨⟨_, _, _, _, _, _, _, _, _, _, rfl⟩, fun x hx => ?_⟩ (fun x xs ρ μ hI => ?_) (fun ρ μ hI => ?_)
    · obtain ⟨i, _, rfl⟩ := List.mem_map.mp hx
      exact ⟨i, rfl⟩
    · obtain ⟨⟨s1, s2, s3, s4, s5, s6, s7, s8, s9, s10, rfl⟩, hx⟩ := hI
      obtain ⟨kk, rfl⟩ := hx x List.mem_cons_self
      refine bod1 rfl ?_
      conv => whnf
      refine c_cell (by omega) fun c => ?_
      repeat' array_get_dec
      refine c_well fun x y z => ?_
      conv => whnf
      refine c_draw' (by omega) fun v1 x y z h1 h1' => ?_
      repeat' array_get_dec
      refine l_inv (RInv (1 + v1).toNat μ) (acc := []) ⟨x, y, z, [], rfl, rfl, by simp, fun _ h => nomatch h⟩ (fun d xs acc μ' hI => ?_) (fun ys μ' hI => ?_)
      · obtain ⟨x1, y1, z1, l, rfl, rfl, hl, hp⟩ := hI
        refine bodl1 rfl ?_
        conv => whnf
        refine c_brow fun r x y z hr => ?_
        refine ⟨x, y, z, l ++ [r], rfl, by simp, ?_, fun v hv => ?_⟩
        · simp at hl ⊢; omega
        · rcases List.mem_append.mp hv with hv | hv
          · exact hp v hv
          · simp at hv; subst hv; exact hr
      · obtain ⟨x1, y1, z1, l, rfl, hacc, hl, hp⟩ := hI
        rw [List.nil_append] at hacc
        subst hacc
        simp at hl
        have hne : l ≠ [] := by rintro rfl; simp at hl; omega
        conv => whnf
        refine c_draw' (by omega) fun v2 x y z h2 h2' => ?_
        conv => whnf
        refine if_of (fun hz => ?_) (fun hz => ?_)
        · conv => whnf
          refine l_inv (fun xs acc m => m = μ ++ [wellD x y z] ∧ ∃ (a b : List BR) (js : List Int), l = a ++ b ∧ xs = b.map BR.d ∧ acc = js.map D.int ∧ js.length = a.length ∧ ∀ j ∈ js, 0 ≤ j ∧ j ≤ 189) (acc := []) ⟨rfl, [], l, [], rfl, rfl, rfl, rfl, fun _ h => nomatch h⟩ (fun d xs acc m hI => ?_) (fun ys m hI => ?_)
          · obtain ⟨rfl, a, b, js, e1, e2, rfl, e3, hj⟩ := hI
            cases b with
            | nil => cases e2
            | cons r b =>
              simp only [List.map_cons, List.cons.injEq] at e2
              obtain ⟨rfl, rfl⟩ := e2
              have hr := hp r (by rw [e1]; simp)
              refine bodl1 rfl ?_
              conv => whnf
              refine c_rwords hr ?_
              conv => whnf
              refine ow_r rfl (ow_r rfl (ow_r (asStrs_map _) ?_))
              refine Nd.mk (line_ok hr).1 ?_
              conv => whnf
              refine ow_r (a := D.int ((line r).length : Int)) rfl ?_
              have hlen := (line_ok hr).2
              refine ⟨rfl, a ++ [r], b, js ++ [((line r).length : Int)], by rw [e1]; simp, rfl, by simp, by simp [e3], fun j hj' => ?_⟩
              rcases List.mem_append.mp hj' with hj' | hj'
              · exact hj j hj'
              · simp at hj'; subst hj'; omega
          · obtain ⟨rfl, a, b, js, e1, e2, e0, e3, hj⟩ := hI
            cases b with
            | cons _ _ => cases e2
            | nil =>
              rw [List.append_nil] at e1
              subst e1
              rw [List.nil_append] at e0
              subst e0
              obtain ⟨j0, jr, rfl⟩ : ∃ a b, js = a :: b := by cases js with | nil => exact absurd (List.length_eq_zero_iff.mp e3.symm) hne | cons a b => exact ⟨a, b, rfl⟩
              have hm := max_in (r := jr) (m := j0) (fun x hx => hj x (List.mem_cons_of_mem _ hx)) (hj j0 List.mem_cons_self)
              have em : biD .max (.lst ((j0 :: jr).map D.int)) (μ ++ [wellD x y z]) = some (.int (maxI jr j0)) := by
                show (asInts ((j0 :: jr).map D.int)).bind _ = _
                rw [asInts_map]; rfl
              conv => whnf
              refine ow_r em ?_
              generalize maxI jr j0 = L at hm ⊢
              conv => whnf
              have hll : l.length ≤ 9 := by omega
              refine Nd.mk ⟨by decide, by decide, ?_⟩ ?_
              · show (l.map BR.d).length * 900 ≤ LIM
                rw [List.length_map]; simp only [LIM]; omega
              conv => whnf
              refine Nd.mk (by omega) ?_
              conv => whnf
              rw [rep_map]
              obtain ⟨l', q1, q2⟩ := cut_map BR.d (List.replicate (Int.toNat 900) l).flatten none (some (5990 / (L + 1)))
              have hq : 1 ≤ 5990 / (L + 1) ∧ 5990 / (L + 1) ≤ 5990 := by
                constructor
                · exact (Int.le_ediv_iff_mul_le (by omega)).mpr (by omega)
                · exact Int.ediv_le_self _ (by decide)
              have hl' := cut_len ((List.replicate (Int.toNat 900) l).flatten.map BR.d) (5990 / (L + 1)) (by omega)
              rw [q1, List.length_map, List.length_map, rep_len] at hl'
              have hlp : 1 ≤ l.length := by cases l with | nil => exact absurd rfl hne | cons _ _ => simp
              rw [q1]
              refine c_rest (n := 4) (fun q hq => hp q (rep_mem (q2 q hq))) (by rintro rfl; simp at hl'; omega) (by omega) fun t3 t4 t5 μ => ?_
              exact ⟨⟨_, _, _, _, _, _, _, _, _, _, rfl⟩, fun y hy => hx y (List.mem_cons_of_mem _ hy)⟩
        · conv => whnf
          refine c_rest (n := 4) hp hne (by omega) fun t3 t4 t5 μ => ?_
          exact ⟨⟨_, _, _, _, _, _, _, _, _, _, rfl⟩, fun y hy => hx y (List.mem_cons_of_mem _ hy)⟩
    · exact rfl
  obtain ⟨o, d, m, e, q⟩ := key.h
  exact ⟨_, e, q⟩
end HD

set_option Elab.async false
set_option linter.all false
set_option maxRecDepth 100000
set_option maxHeartbeats 0
open PySem PySem.W PySem.Calls PyProof.Rows
theorem PySem.Challenge.cw_enoughsaid_k67_books_read_holds : PySem.Challenge.rw_enoughsaid_k67_books_read.Holds := by
  w_on; o_law
  refine HandSHeadRun.head_any (r := OpenLaw.row PySem.Challenge.rw_enoughsaid_k67_books_read) (q := view (OpenLaw.row PySem.Challenge.rw_enoughsaid_k67_books_read).prog [31]) (H := HD.hk) (ob := HD.ob) (M := 3000) (loose := HD.loose) (d := HandSHeadRun.topDef (OpenLaw.row PySem.Challenge.rw_enoughsaid_k67_books_read).prog 31) (kwd := []) HD.ob_eq
    (by kernel_rfl) (fun s => by kernel_rfl) HD.run (by kernel_rfl) (by kernel_rfl) (by kernel_rfl) (by rfl) (by first | assumption | decide +kernel) (by decide +kernel) ⟨rfl, rfl, rfl, rfl, rfl, by decide +kernel⟩ ?hw ?hc
  case hw => w_witness2
  case hc =>
    refine L2.walk_ofE (l := PySem.Challenge.rw_enoughsaid_k67_books_read) (n := 63) (k := 2 * 10) (x := "_law_script") (CX := L2.CX0) rfl (by decide) (by kernel_rfl) ⟨rfl, by decide, by decide⟩ ?F (fun _ _ _ _ z => z)
    intro w mg fa h Y G hmg0
    have hmg : mg ("law" : PySem.Str) = some (.ref fa) := by
      have e : (HandSHeadRun.topDef (OpenLaw.row PySem.Challenge.rw_enoughsaid_k67_books_read).prog 31).name = ("law" : PySem.Str) := by kernel_rfl
      rw [← e]
      exact hmg0
    exact EV.law_end (li := 19) (F := HD.f_law) (N := 10) Y G hmg rfl rfl rfl HD.okT HD.law_ok

