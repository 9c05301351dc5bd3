import PyProof.Rows.All
import HandS.ForMost
import HandS.RaiseMore
import HandS.IsInst
import HandS.Zip
import HandS.Style
import HandS.Flow
import HandS.TupAny
import HandS.Exc
import HandS.ExcOwn
import HandS.WordsExc
import PySem.Challenge.RW_sumstand_k00_primes_and_inverses
set_option Elab.async false
set_option linter.all false
set_option maxRecDepth 100000
/-! LS: a small evaluator on plain values, and what it says of the machine. This file: values, code, the evaluator. -/
namespace LS
open PySem PySem.Spec PyProof.Rows L2

/-- plain values: tuples and lists that nobody changes stand by worth; a thing that is changed stands by its place in the store -/
inductive LV where
  | non | bl (b : Bool) | int (i : Int) | str (x : Str) | tup (xs : List LV) | lst (xs : List LV) | ref (n : Nat) | ty (n : String) | cls (k : Nat)
/-- what stands in the store -/
inductive LO where
  | lst (xs : List LV) | ins (k : Nat) (fs : List (Str × LV))
abbrev Sto := List LO
abbrev Ev := List (Option LV)
/-- an expression's outcome -/
inductive Res (α : Type) where
  | bad | ok (a : α) (S : Sto) | exc (k : Nat) (p : LV) (S : Sto)
namespace Res
def bind {α β : Type} (r : Res α) (f : α → Sto → Res β) : Res β := match r with
  | .bad => .bad
  | .ok a S => f a S
  | .exc k p S => .exc k p S
def ofO {α : Type} (o : Option α) (S : Sto) : Res α := match o with
  | some a => .ok a S
  | none => .bad
end Res
/-- a statement's outcome -/
inductive Fl where
  | bad | nxt (e : Ev) (S : Sto) | ret (v : LV) (S : Sto) | brk (e : Ev) (S : Sto) | cnt (e : Ev) (S : Sto) | exc (k : Nat) (p : LV) (e : Ev) (S : Sto)
def Res.fl {α : Type} (r : Res α) (e : Ev) (f : α → Sto → Fl) : Fl := match r with
  | .bad => .bad
  | .ok a S => f a S
  | .exc k p S => .exc k p e S
def Fl.seq (r : Fl) (f : Ev → Sto → Fl) : Fl := match r with
  | .nxt e S => f e S
  | o => o

/-- the largest length that is let -/
def lim : Nat := 1000000
/-- constants -/
inductive LC where
  | non | bl (b : Bool) | int (i : Int) | str (x : Str)
  deriving DecidableEq
def LC.v : LC → LV
  | .non => .non | .bl b => .bl b | .int i => .int i | .str x => .str x
/-- the built-ins -/
inductive Bf where
  | len | int | max2 | min2 | repr | tuple | list (m : Bool) | sum | any | all
  deriving DecidableEq
inductive LT where
  | nm (i : Nat) | tup (is : List Nat)
  deriving DecidableEq
mutual
inductive LE where
  | var (i : Nat) | cst (c : LC) | gl (k : Nat)
  | bin (op : Operator) (a b : LE) | cat (m : Bool) (a b : LE) | un (op : UnaryOp) (a : LE)
  | cmp (op : CmpOp) (a b : LE) | chain (op op' : CmpOp) (a b c : LE)
  | band (es : LEs) | bor (es : LEs) | not (a : LE) | ite (c a b : LE)
  | tup (es : LEs) | lst (m : Bool) (es : LEs) | ix (a b : LE) | slc (m : Bool) (a : LE) (lo hi : LEs)
  | call (k : Nat) (es : LEs) | callK (k : Nat) (es : LEs) | blt (f : Bf) (es : LEs) | isi (a : LE) (t : String)
  | lc (m : Bool) (own : List Nat) (t : LT) (it : LI) (cs : LEs) (e : LE)
inductive LEs where
  | nil | cons (e : LE) (es : LEs)
inductive LI where
  | seq (e : LE) | rng1 (a : LE) | rng2 (a b : LE) | zip (a b : LE)
end
mutual
inductive LSt where
  | asg (t : LT) (e : LE) | setx (o i e : LE) | expr (e : LE) | ret (e : LE) | retN
  | ite (c : LE) (a b : LSts) | for (t : LT) (it : LI) (b : LSts) | whl (n : Nat) (c : LE) (b : LSts)
  | brk | cnt | pass
inductive LSts where
  | nil | cons (s : LSt) (ss : LSts)
end

/-! ### what operations come to -/
def truth : LV → Sto → Option Bool
  | .non, _ => some false
  | .bl b, _ => some b
  | .int i, _ => some (i != 0)
  | .str x, _ => if x.length ≤ lim then some ((x.length : Int) != 0) else none
  | .tup xs, _ => some (!xs.isEmpty)
  | .lst xs, _ => some (!xs.isEmpty)
  | .ref n, S => match S[n]? with
    | some (.lst xs) => some (!xs.isEmpty)
    | _ => none
  | _, _ => none
def mulOk (i j : Int) : Bool := (decide (-(2 ^ 64) < i) && decide (i < 2 ^ 64)) || (decide (-(2 ^ 64) < j) && decide (j < 2 ^ 64))
def binop (op : Operator) (x y : LV) : Option LV := match op, x, y with
  | .Add, .int i, .int j => some (.int (i + j))
  | .Sub, .int i, .int j => some (.int (i - j))
  | .Mult, .int i, .int j => if mulOk i j then some (.int (i * j)) else none
  | .FloorDiv, .int i, .int j => if 0 < j ∧ j < 1073741824 then some (.int (i / j)) else none
  | .Mod, .int i, .int j => if 0 < j then some (.int (i % j)) else none
  | .Pow, .int i, .int j => if 0 ≤ j ∧ j ≤ 1000000 ∧ i.natAbs < 2 ^ 64 then some (.int (i ^ j.toNat)) else none
  | .Add, .str a, .str b => if a.length + b.length ≤ lim then some (.str (a ++ b)) else none
  | .Add, .tup a, .tup b => if a.length + b.length ≤ lim then some (.tup (a ++ b)) else none
  | _, _, _ => none
def unop (op : UnaryOp) (x : LV) : Option LV := match op, x with
  | .USub, .int i => some (.int (-i))
  | _, _ => none
/-- the items of a list or tuple as it stands -/
def items : LV → Sto → Option (List LV)
  | .tup xs, _ => some xs
  | .lst xs, _ => some xs
  | .ref n, S => match S[n]? with
    | some (.lst xs) => some xs
    | _ => none
  | _, _ => none
def litems : LV → Sto → Option (List LV)
  | .lst xs, _ => some xs
  | .ref n, S => match S[n]? with
    | some (.lst xs) => some xs
    | _ => none
  | _, _ => none
mutual
/-- data without what is changed -/
def toD : LV → Option PyData
  | .non => some .none
  | .bl b => some (.bool b)
  | .int i => some (.int i)
  | .str x => some (.str x)
  | .tup xs => (toDs xs).map .tuple
  | .lst xs => (toDs xs).map .list
  | .ref _ => none
  | .ty _ => none
  | .cls _ => none
def toDs : List LV → Option (List PyData)
  | [] => some []
  | x :: xs => match toD x with
    | some d => (toDs xs).map (d :: ·)
    | none => none
end
/-- .. a thing of the store at the top -/
def toDS (x : LV) (S : Sto) : Option PyData := match x with
  | .ref n => match S[n]? with
    | some (.lst xs) => (toDs xs).map .list
    | _ => none
  | x => toD x
def eqop (x y : LV) (S : Sto) : Option Bool := match x, y with
  | .int i, .int j => some (decide (i = j))
  | .str a, .str b => some (decide (a = b))
  | x, y => match toDS x S, toDS y S with
    | some d, some e => if SeqAt.shaped d ∧ SeqAt.shaped e then some (PyData.eqv d e) else none
    | _, _ => none
def isNon : LV → Bool
  | .non => true
  | _ => false
def cmpop (op : CmpOp) (x y : LV) (S : Sto) : Option Bool := match op, x, y with
  | .Lt, .int i, .int j => some (decide (i < j))
  | .LtE, .int i, .int j => some (decide (i ≤ j))
  | .Gt, .int i, .int j => some (decide (j < i))
  | .GtE, .int i, .int j => some (decide (j ≤ i))
  | .Eq, x, y => eqop x y S
  | .NotEq, x, y => (eqop x y S).map (!·)
  | .Is, x, .non => some (isNon x)
  | .IsNot, x, .non => some (!isNon x)
  | _, _, _ => none
/-- a new list: in the store, or by worth -/
def newl (m : Bool) (xs : List LV) (S : Sto) : Res LV := if m then .ok (.ref S.length) (S ++ [.lst xs]) else .ok (.lst xs) S
def getix (x i : LV) (S : Sto) : Option LV := match i with
  | .int i => (items x S).bind fun xs => atI xs i
  | _ => none
def cutL {α : Type} (xs : List α) (lo hi : Option Int) : List α := (xs.drop (HT.sIx xs.length 0 lo)).take (HT.sIx xs.length xs.length hi - HT.sIx xs.length 0 lo)
def slice (m : Bool) (x : LV) (l h : Option Int) (S : Sto) : Res LV := match x with
  | .tup xs => .ok (.tup (cutL xs l h)) S
  | x => match litems x S with
    | some xs => newl m (cutL xs l h) S
    | none => .bad
def intsL : List LV → Option (List Int)
  | [] => some []
  | .int i :: r => (intsL r).map (i :: ·)
  | _ :: _ => none
def bls : List LV → Option (List Bool)
  | [] => some []
  | .bl i :: r => (bls r).map (i :: ·)
  | _ :: _ => none
def bcall (f : Bf) (vs : List LV) (S : Sto) : Res LV := match f, vs with
  | .len, [x] => match x with
    | .str s => if s.length ≤ lim then .ok (.int s.length) S else .bad
    | x => match items x S with
      | some xs => .ok (.int xs.length) S
      | none => .bad
  | .int, [x] => match x with
    | .int i => .ok (.int i) S
    | .bl b => .ok (.int (if b then 1 else 0)) S
    | _ => .bad
  | .max2, [.int i, .int j] => .ok (.int (if j > i then j else i)) S
  | .min2, [.int i, .int j] => .ok (.int (if j < i then j else i)) S
  | .repr, [x] => match toDS x S with
    | some d => if d.showable ∧ d.depth ≤ 64 ∧ d.shown.length ≤ lim then .ok (.str d.shown) S else .bad
    | none => .bad
  | .tuple, [x] => match items x S with
    | some xs => .ok (.tup xs) S
    | none => .bad
  | .list m, [x] => match items x S with
    | some xs => newl m xs S
    | none => .bad
  | .sum, [x] => match (litems x S).bind intsL with
    | some ns => .ok (.int ns.sum) S
    | none => .bad
  | .any, [x] => match (litems x S).bind bls with
    | some ns => .ok (.bl (ns.any id)) S
    | none => .bad
  | .all, [x] => match (litems x S).bind bls with
    | some ns => .ok (.bl (ns.all id)) S
    | none => .bad
  | _, _ => .bad
/-- isinstance(x, t) -/
def isinst (x : LV) (t : String) (S : Sto) : Option Bool := match x with
  | .non => some (t == "NoneType")
  | .bl _ => some (t == "bool" || t == "int")
  | .int _ => some (t == "int")
  | .str _ => some (t == "str")
  | .tup _ => some (t == "tuple")
  | .lst _ => some (t == "list")
  | _ => none
/-- a target is given a value -/
def setT : LT → LV → Ev → Option Ev
  | .nm i, v, e => some (e.set i (some v))
  | .tup is, .tup vs, e => if vs.length = is.length then some ((is.zip vs).foldl (fun e p => e.set p.1 (some p.2)) e) else none
  | _, _, _ => none
def setix (x i v : LV) (S : Sto) : Option Sto := match x, i with
  | .ref n, .int i => match S[n]? with
    | some (.lst xs) => (ixN xs.length i).map fun j => S.set n (.lst (xs.set j v))
    | _ => none
  | _, _ => none
def stp (t : LT) (v : LV) (e : Ev) (S : Sto) : Fl := match setT t v e with
  | some e1 => .nxt e1 S
  | none => .bad
def stx (x j v : LV) (e : Ev) (S : Sto) : Fl := match setix x j v S with
  | some S4 => .nxt e S4
  | none => .bad
/-- what is walked: the items, and a thing of the store that is to stay as it is -/
def rng (lo : Int) (n : Nat) : List LV := (List.range n).map fun (k : Nat) => .int (lo + (k : Int))
def okR (i : Int) : Bool := decide (-(2 ^ 62) ≤ i) && decide (i < 2 ^ 62)
structure Wk where
  xs : List LV
  held : List (Nat × LO)
def wkOf (x : LV) (S : Sto) : Option Wk := match x with
  | .tup xs => some ⟨xs, []⟩
  | .lst xs => some ⟨xs, []⟩
  | .ref n => match S[n]? with
    | some (.lst xs) => some ⟨xs, [(n, .lst xs)]⟩
    | _ => none
  | _ => none
def zip2 : List LV → List LV → List LV
  | x :: xs, y :: ys => .tup [x, y] :: zip2 xs ys
  | _, _ => []
def isTupV : LV → Bool
  | .tup _ => true
  | _ => false
/-- what was walked stands as it was -/
def Held (h : List (Nat × LO)) (S : Sto) : Prop := ∀ p ∈ h, S[p.1]? = some p.2
open Classical in
noncomputable def goIf {α : Type} (p : Prop) (r b : α) : α := if p then r else b
noncomputable def forL (body : Ev → Sto → Fl) (t : LT) (h : List (Nat × LO)) : List LV → Ev → Sto → Fl
  | [], e, S => goIf (Held h S) (.nxt e S) .bad
  | x :: xs, e, S => goIf (Held h S) (match setT t x e with
    | none => .bad
    | some e1 => match body e1 S with
      | .nxt e2 S2 => forL body t h xs e2 S2
      | .cnt e2 S2 => forL body t h xs e2 S2
      | .brk e2 S2 => .nxt e2 S2
      | o => o) .bad
def whlL (c : Ev → Sto → Res Bool) (body : Ev → Sto → Fl) : Nat → Ev → Sto → Fl
  | 0, _, _ => .bad
  | n + 1, e, S => (c e S).fl e fun b S1 => if b then match body e S1 with
      | .nxt e2 S2 => whlL c body n e2 S2
      | .cnt e2 S2 => whlL c body n e2 S2
      | .brk e2 S2 => .nxt e2 S2
      | o => o
    else .nxt e S1
/-- a comprehension's turns; nothing may be raised -/
def noX {α : Type} : Res α → Res α
  | .exc _ _ _ => .bad
  | r => r
def wipeE : List Nat → Ev → Ev
  | [], e => e
  | v :: vs, e => (wipeE vs e).set v none
noncomputable def lcL (cond : Ev → Sto → Res Bool) (elt : Ev → Sto → Res LV) (t : LT) (own : List Nat) (e : Ev) (h : List (Nat × LO)) : List LV → List LV → Sto → Res (List LV)
  | [], acc, S => goIf (Held h S) (.ok acc S) .bad
  | x :: xs, acc, S => goIf (Held h S) (match setT t x (wipeE own e) with
    | none => .bad
    | some e1 => (noX (cond e1 S)).bind fun b S1 => if b then (noX (elt e1 S1)).bind fun y S2 => if acc.length < lim then lcL cond elt t own e h xs (acc ++ [y]) S2 else .bad
      else lcL cond elt t own e h xs acc S1) .bad

/-! ### the evaluator. F: what the text's own defs come to; G: the module's constants -/
section
variable (F : Nat → List LV → Sto → Res LV) (G : Nat → LV)
mutual
noncomputable def ev : LE → Ev → Sto → Res LV
  | .var i, e, S => match e[i]? with
    | some (some v) => .ok v S
    | _ => .bad
  | .cst c, _, S => .ok c.v S
  | .gl k, _, S => .ok (G k) S
  | .bin op a b, e, S => (ev a e S).bind fun x S1 => (ev b e S1).bind fun y S2 => .ofO (binop op x y) S2
  | .cat m a b, e, S => (ev a e S).bind fun x S1 => (ev b e S1).bind fun y S2 => match litems x S2, litems y S2 with
    | some xs, some ys => if xs.length + ys.length ≤ lim then newl m (xs ++ ys) S2 else .bad
    | _, _ => .bad
  | .un op a, e, S => (ev a e S).bind fun x S1 => .ofO (unop op x) S1
  | .cmp op a b, e, S => (ev a e S).bind fun x S1 => (ev b e S1).bind fun y S2 => .ofO ((cmpop op x y S2).map .bl) S2
  | .chain op op' a b c, e, S => (ev a e S).bind fun x S1 => (ev b e S1).bind fun y S2 => match cmpop op x y S2 with
    | none => .bad
    | some false => .ok (.bl false) S2
    | some true => (ev c e S2).bind fun z S3 => .ofO ((cmpop op' y z S3).map .bl) S3
  | .band es, e, S => evAnd es e S
  | .bor es, e, S => evOr es e S
  | .not a, e, S => (ev a e S).bind fun x S1 => .ofO ((truth x S1).map fun k => .bl (!k)) S1
  | .ite c a b, e, S => ((ev c e S).bind fun x S1 => .ofO (truth x S1) S1).bind fun k S1 => if k then ev a e S1 else ev b e S1
  | .tup es, e, S => (evs es e S).bind fun xs S1 => .ok (.tup xs) S1
  | .lst m es, e, S => (evs es e S).bind fun xs S1 => newl m xs S1
  | .ix a b, e, S => (ev a e S).bind fun x S1 => (ev b e S1).bind fun y S2 => .ofO (getix x y S2) S2
  | .slc m a lo hi, e, S => (ev a e S).bind fun x S1 => (evB lo e S1).bind fun l S2 => (evB hi e S2).bind fun h S3 => slice m x l h S3
  | .call k es, e, S => (evs es e S).bind fun xs S1 => F k xs S1
  | .callK k es, e, S => (evs es e S).bind fun xs S1 => F k xs S1
  | .blt f es, e, S => (evs es e S).bind fun xs S1 => bcall f xs S1
  | .isi a t, e, S => (ev a e S).bind fun x S1 => .ofO ((isinst x t S1).map .bl) S1
  | .lc m own t it cs el, e, S => (evI it e S).bind fun w S1 => (lcL (evC cs) (ev el) t own e w.held w.xs [] S1).bind fun xs S2 => newl m xs S2
noncomputable def evAnd : LEs → Ev → Sto → Res LV
  | .nil, _, _ => .bad
  | .cons a r, e, S => match r with
    | .nil => ev a e S
    | .cons _ _ => (ev a e S).bind fun x S1 => (Res.ofO (truth x S1) S1).bind fun k S2 => if k then evAnd r e S2 else .ok x S2
noncomputable def evOr : LEs → Ev → Sto → Res LV
  | .nil, _, _ => .bad
  | .cons a r, e, S => match r with
    | .nil => ev a e S
    | .cons _ _ => (ev a e S).bind fun x S1 => (Res.ofO (truth x S1) S1).bind fun k S2 => if k then .ok x S2 else evOr r e S2
noncomputable def evs : LEs → Ev → Sto → Res (List LV)
  | .nil, _, S => .ok [] S
  | .cons a r, e, S => (ev a e S).bind fun x S1 => (evs r e S1).bind fun xs S2 => .ok (x :: xs) S2
/-- a comprehension's tests: none or one -/
noncomputable def evC : LEs → Ev → Sto → Res Bool
  | .nil, _, S => .ok true S
  | .cons a _, e, S => (ev a e S).bind fun x S1 => .ofO (truth x S1) S1
/-- a slice's part -/
noncomputable def evB : LEs → Ev → Sto → Res (Option Int)
  | .nil, _, S => .ok none S
  | .cons a _, e, S => (ev a e S).bind fun x S1 => match x with
    | .int i => .ok (some i) S1
    | _ => .bad
noncomputable def evI : LI → Ev → Sto → Res Wk
  | .seq a, e, S => (ev a e S).bind fun x S1 => .ofO (wkOf x S1) S1
  | .rng1 a, e, S => (ev a e S).bind fun x S1 => match x with
    | .int j => if okR j then .ok ⟨rng 0 j.toNat, []⟩ S1 else .bad
    | _ => .bad
  | .rng2 a b, e, S => (ev a e S).bind fun x S1 => (ev b e S1).bind fun y S2 => match x, y with
    | .int i, .int j => if okR i && okR j then .ok ⟨rng i (j - i).toNat, []⟩ S2 else .bad
    | _, _ => .bad
  | .zip a b, e, S => (ev a e S).bind fun x S1 => (ev b e S1).bind fun y S2 => match wkOf x S2, wkOf y S2 with
    | some v, some w => if isTupV x == isTupV y then .ok ⟨zip2 v.xs w.xs, v.held ++ w.held⟩ S2 else .bad
    | _, _ => .bad
end
/-- an expression as a test -/
noncomputable def evT (a : LE) (e : Ev) (S : Sto) : Res Bool := (ev F G a e S).bind fun x S1 => .ofO (truth x S1) S1
mutual
noncomputable def run : LSt → Ev → Sto → Fl
  | .asg t a, e, S => (ev F G a e S).fl e fun v S1 => stp t v e S1
  | .setx o i a, e, S => (ev F G a e S).fl e fun v S1 => (ev F G o e S1).fl e fun x S2 => (ev F G i e S2).fl e fun j S3 => stx x j v e S3
  | .expr a, e, S => (ev F G a e S).fl e fun _ S1 => .nxt e S1
  | .ret a, e, S => (ev F G a e S).fl e fun v S1 => .ret v S1
  | .retN, _, S => .ret .non S
  | .ite c a b, e, S => (evT F G c e S).fl e fun k S1 => if k then runs a e S1 else runs b e S1
  | .for t it b, e, S => (evI F G it e S).fl e fun w S1 => forL (runs b) t w.held w.xs e S1
  | .whl n c b, e, S => whlL (evT F G c) (runs b) n e S
  | .brk, e, S => .brk e S
  | .cnt, e, S => .cnt e S
  | .pass, e, S => .nxt e S
noncomputable def runs : LSts → Ev → Sto → Fl
  | .nil, e, S => .nxt e S
  | .cons s ss, e, S => (run s e S).seq (runs ss)
end
end

/-! ### defs -/
mutual
/-- all places of the store that a value names stand below n -/
def low (n : Nat) : LV → Bool
  | .tup xs => lows n xs
  | .lst xs => lows n xs
  | .ref k => decide (k < n)
  | _ => true
def lows (n : Nat) : List LV → Bool
  | [] => true
  | x :: xs => low n x && lows n xs
end
def lowF (n : Nat) : List (Str × LV) → Bool
  | [] => true
  | p :: r => low n p.2 && lowF n r
def lowO (n : Nat) : LO → Bool
  | .lst xs => lows n xs
  | .ins _ fs => lowF n fs
/-- what stood ahead may be kept alone -/
def Tidy (S S' : Sto) : Prop := S.length ≤ S'.length ∧ ∀ (i : Nat) o, i < S.length → S'[i]? = some o → S[i]? = some o ∨ lowO S.length o = true
/-- a call's end: what it made is forgotten if nothing names it -/
noncomputable def fin (S : Sto) : Fl → Res LV
  | .ret v S' => goIf (Tidy S S' ∧ low S.length v = true) (.ok v (S'.take S.length)) (.ok v S')
  | .nxt _ S' => goIf (Tidy S S') (.ok .non (S'.take S.length)) (.ok .non S')
  | .exc k p _ S' => goIf (Tidy S S' ∧ low S.length p = true) (.exc k p (S'.take S.length)) (.exc k p S')
  | _ => .bad
structure Def where
  st : Stmt
  name : Str
  ps : List Str
  N : List Str
  body : LSts
def start (n : Nat) (vs : List LV) : Ev := vs.map some ++ List.replicate (n - vs.length) none
noncomputable def sem (T : List Def) (G : Nat → LV) : Nat → Nat → List LV → Sto → Res LV
  | 0, _, _, _ => .bad
  | n + 1, k, vs, S => match T[k]? with
    | none => .bad
    | some d => if vs.length = d.ps.length then fin S (runs (sem T G n) G d.body (start d.N.length vs) S) else .bad
end LS

/-! LS: how plain values lie in the abstract heap; readings. -/
namespace LS
open PySem PySem.Spec PyProof.Rows L2

abbrev St := L2.St
theorem lim_le : lim ≤ sizeLine := by rw [sizeLine_eq]; decide
theorem lim_lt : lim < sizeLine := by rw [sizeLine_eq]; decide

def KsT (K : PySem.W.Frag) (a : Addr) (xs : List V) : Prop :=
  ∃ (o : Obj) (its : Array Value) (n : Nat), K.lookup a = some o ∧ o.cls = .type "tuple" ∧ o.data = .seq its n ∧ its.size ≤ sizeLine ∧ Vals xs its.toList
def KsL (K : PySem.W.Frag) (a : Addr) (xs : List V) : Prop :=
  ∃ (o : Obj) (its : Array Value) (n : Nat), K.lookup a = some o ∧ o.cls = .type "list" ∧ o.dict = none ∧ o.data = .seq its n ∧ its.size ≤ sizeLine ∧ Vals xs its.toList
def FzT (K : PySem.W.Frag) (Z M : List Addr) (H : Hp) (a : Addr) (xs : List V) : Prop := (Rd H a (.tup xs) ∧ a ∉ M ∧ a ∉ Z) ∨ KsT K a xs
def FzL (K : PySem.W.Frag) (Z M : List Addr) (H : Hp) (a : Addr) (xs : List V) : Prop := (Rd H a (.lst xs) ∧ a ∉ M ∧ a ∉ Z) ∨ KsL K a xs
mutual
def Rep (K : PySem.W.Frag) (Z M : List Addr) (H : Hp) : LV → V → Prop
  | .non, v => v = .non
  | .bl b, v => v = .bl b
  | .int i, v => v = .int i
  | .str x, v => v = .str x
  | .tup xs, v => ∃ a vs, v = .ref a ∧ FzT K Z M H a vs ∧ Reps K Z M H xs vs
  | .lst xs, v => ∃ a vs, v = .ref a ∧ FzL K Z M H a vs ∧ Reps K Z M H xs vs
  | .ref n, v => ∃ a, M[n]? = some a ∧ v = .ref a
  | .ty n, v => v = .ty n
  | .cls _, _ => False
def Reps (K : PySem.W.Frag) (Z M : List Addr) (H : Hp) : List LV → List V → Prop
  | [], vs => vs = []
  | x :: xs, vs => ∃ v r, vs = v :: r ∧ Rep K Z M H x v ∧ Reps K Z M H xs r
end
def RepO (K : PySem.W.Frag) (Z M : List Addr) (H : Hp) : LO → Addr → Prop
  | .lst xs, a => ∃ vs, H a = some (.lst vs) ∧ Reps K Z M H xs vs
  | .ins _ _, _ => False
structure SR (K : PySem.W.Frag) (Z M : List Addr) (H : Hp) (S : Sto) : Prop where
  len : M.length = S.length
  nd : M.Nodup
  obj : ∀ (n : Nat) a o, M[n]? = some a → S[n]? = some o → RepO K Z M H o a
  hid : ∀ a ∈ Z, a ∉ M ∧ ∃ o, H a = some o
structure ER (K : PySem.W.Frag) (Z M : List Addr) (H : Hp) (e : Ev) (σ : St) : Prop where
  len : e.length = σ.length
  val : ∀ (i : Nat) x, e[i]? = some (some x) → ∃ v, σ[i]? = some (some v) ∧ Rep K Z M H x v
/-- what may come behind -/
structure Ext (M : List Addr) (H : Hp) (M' : List Addr) (H' : Hp) : Prop where
  more : ∃ e, M' = M ++ e ∧ ∀ a ∈ e, H a = none
  keep : ∀ a o, H a = some o → a ∉ M → H' a = some o
  there : ∀ a o, H a = some o → ∃ o', H' a = some o'
section
variable {K : PySem.W.Frag} {Z M M1 M2 M' : List Addr} {H H1 H2 H' : Hp} {S S1 S' : Sto}
theorem Ext.refl : Ext M H M H := ⟨⟨[], by simp, fun _ h => by simp at h⟩, fun _ _ h _ => h, fun _ o h => ⟨o, h⟩⟩
theorem Ext.trans (a : Ext M H M1 H1) (b : Ext M1 H1 M2 H2) : Ext M H M2 H2 := by
  obtain ⟨e1, rfl, n1⟩ := a.more
  obtain ⟨e2, rfl, n2⟩ := b.more
  have out : ∀ c o, H c = some o → c ∉ e1 := fun c o h hm => by
    rw [n1 c hm] at h
    cases h
  refine ⟨⟨e1 ++ e2, by simp, fun c hc => ?_⟩, fun c o h hm => ?_, fun c o h => ?_⟩
  · rcases List.mem_append.mp hc with hc | hc
    · exact n1 c hc
    · cases q : H c with
      | none => rfl
      | some o =>
        obtain ⟨o', e⟩ := a.there c o q
        rw [n2 c hc] at e
        cases e
  · exact b.keep c o (a.keep c o h hm) fun z => (List.mem_append.mp z).elim hm (out c o h)
  · obtain ⟨o', e⟩ := a.there c o h
    exact b.there c o' e
theorem Ext.get (x : Ext M H M' H') {n : Nat} {a : Addr} (h : M[n]? = some a) : M'[n]? = some a := by
  obtain ⟨e, rfl, _⟩ := x.more
  rw [List.getElem?_append_left (List.getElem?_eq_some_iff.mp h).1]
  exact h
theorem Ext.out (x : Ext M H M' H') {a : Addr} {o : HO} (h : H a = some o) (n : a ∉ M) : a ∉ M' := by
  obtain ⟨e, rfl, q⟩ := x.more
  intro z
  rcases List.mem_append.mp z with z | z
  · exact n z
  · rw [q a z] at h
    cases h
theorem rd_keep (x : Ext M H M' H') {a : Addr} {u : HO} (h : Rd H a u) (n : a ∉ M ∧ a ∉ Z) : Rd H' a u ∧ a ∉ M' ∧ a ∉ Z := by
  rcases h with h | ⟨o, h⟩
  · exact ⟨.inl (x.keep _ _ h n.1), x.out h n.1, n.2⟩
  · exact ⟨.inr ⟨o, x.keep _ _ h n.1⟩, x.out h n.1, n.2⟩
theorem FzT.mono {a : Addr} {xs : List V} (x : Ext M H M' H') (h : FzT K Z M H a xs) : FzT K Z M' H' a xs := h.elim (fun h => .inl (rd_keep x h.1 h.2)) .inr
theorem FzL.mono {a : Addr} {xs : List V} (x : Ext M H M' H') (h : FzL K Z M H a xs) : FzL K Z M' H' a xs := h.elim (fun h => .inl (rd_keep x h.1 h.2)) .inr
theorem FzT.sq {a : Addr} {xs : List V} (h : FzT K Z M H a xs) : SqT K H a xs := h.elim (fun h => .inl h.1) .inr
theorem FzL.sq {a : Addr} {xs : List V} (h : FzL K Z M H a xs) : SqL K H a xs := h.elim (fun h => .inl h.1) .inr
mutual
theorem Rep.mono (x : Ext M H M' H') : ∀ (l : LV) (v : V), Rep K Z M H l v → Rep K Z M' H' l v
  | .non, _, h => by simp only [Rep] at h ⊢; exact h
  | .bl _, _, h => by simp only [Rep] at h ⊢; exact h
  | .int _, _, h => by simp only [Rep] at h ⊢; exact h
  | .str _, _, h => by simp only [Rep] at h ⊢; exact h
  | .ty _, _, h => by simp only [Rep] at h ⊢; exact h
  | .cls _, _, h => by simp only [Rep] at h
  | .ref n, _, h => by
    simp only [Rep] at h ⊢
    obtain ⟨a, e, r⟩ := h
    exact ⟨a, x.get e, r⟩
  | .tup xs, _, h => by
    simp only [Rep] at h ⊢
    obtain ⟨a, vs, e, f, r⟩ := h
    exact ⟨a, vs, e, f.mono x, Reps.mono x xs vs r⟩
  | .lst xs, _, h => by
    simp only [Rep] at h ⊢
    obtain ⟨a, vs, e, f, r⟩ := h
    exact ⟨a, vs, e, f.mono x, Reps.mono x xs vs r⟩
theorem Reps.mono (x : Ext M H M' H') : ∀ (l : List LV) (v : List V), Reps K Z M H l v → Reps K Z M' H' l v
  | [], _, h => by simp only [Reps] at h ⊢; exact h
  | y :: ys, _, h => by
    simp only [Reps] at h ⊢
    obtain ⟨v, r, e, h1, h2⟩ := h
    exact ⟨v, r, e, Rep.mono x y v h1, Reps.mono x ys r h2⟩
end
mutual
theorem Rep.gen {Z' : List Addr} (h : ∀ a u, Rd H a u → a ∉ M → a ∉ Z → Rd H' a u ∧ a ∉ M' ∧ a ∉ Z') (hm : ∀ (n : Nat) a, M[n]? = some a → M'[n]? = some a) : ∀ (l : LV) (v : V), Rep K Z M H l v → Rep K Z' M' H' l v
  | .non, _, r => by simp only [Rep] at r ⊢; exact r
  | .bl _, _, r => by simp only [Rep] at r ⊢; exact r
  | .int _, _, r => by simp only [Rep] at r ⊢; exact r
  | .str _, _, r => by simp only [Rep] at r ⊢; exact r
  | .ty _, _, r => by simp only [Rep] at r ⊢; exact r
  | .cls _, _, r => by simp only [Rep] at r
  | .ref n, _, r => by
    simp only [Rep] at r ⊢
    obtain ⟨a, e, r⟩ := r
    exact ⟨a, hm n a e, r⟩
  | .tup xs, _, r => by
    simp only [Rep] at r ⊢
    obtain ⟨a, vs, e, f, r⟩ := r
    exact ⟨a, vs, e, f.elim (fun f => .inl (h a _ f.1 f.2.1 f.2.2)) .inr, Reps.gen h hm xs vs r⟩
  | .lst xs, _, r => by
    simp only [Rep] at r ⊢
    obtain ⟨a, vs, e, f, r⟩ := r
    exact ⟨a, vs, e, f.elim (fun f => .inl (h a _ f.1 f.2.1 f.2.2)) .inr, Reps.gen h hm xs vs r⟩
theorem Reps.gen {Z' : List Addr} (h : ∀ a u, Rd H a u → a ∉ M → a ∉ Z → Rd H' a u ∧ a ∉ M' ∧ a ∉ Z') (hm : ∀ (n : Nat) a, M[n]? = some a → M'[n]? = some a) : ∀ (l : List LV) (v : List V), Reps K Z M H l v → Reps K Z' M' H' l v
  | [], _, r => by simp only [Reps] at r ⊢; exact r
  | y :: ys, _, r => by
    simp only [Reps] at r ⊢
    obtain ⟨v, s, e, h1, h2⟩ := r
    exact ⟨v, s, e, Rep.gen h hm y v h1, Reps.gen h hm ys s h2⟩
end
theorem rd_some {a : Addr} {u : HO} (h : Rd H a u) : ∃ o, H a = some o := h.elim (fun h => ⟨_, h⟩) fun ⟨o, h⟩ => ⟨_, h⟩
/-- more may be hidden, of what was not there -/
theorem gen_ext {Z' : List Addr} (x : Ext M H M' H') (hz : ∀ a ∈ Z', a ∈ Z ∨ H a = none) : ∀ a u, Rd H a u → a ∉ M → a ∉ Z → Rd H' a u ∧ a ∉ M' ∧ a ∉ Z' := fun a u h n1 n2 => by
  obtain ⟨h1, h2, _⟩ := rd_keep (Z := Z) x h ⟨n1, n2⟩
  refine ⟨h1, h2, fun z => ?_⟩
  rcases hz a z with z | z
  · exact n2 z
  · obtain ⟨o, e⟩ := rd_some h
    rw [z] at e
    cases e
theorem Rep.ext {Z' : List Addr} {l : LV} {v : V} (x : Ext M H M' H') (hz : ∀ a ∈ Z', a ∈ Z ∨ H a = none) (r : Rep K Z M H l v) : Rep K Z' M' H' l v := Rep.gen (gen_ext x hz) (fun _ _ e => x.get e) _ _ r
theorem Reps.ext {Z' : List Addr} {l : List LV} {v : List V} (x : Ext M H M' H') (hz : ∀ a ∈ Z', a ∈ Z ∨ H a = none) (r : Reps K Z M H l v) : Reps K Z' M' H' l v := Reps.gen (gen_ext x hz) (fun _ _ e => x.get e) _ _ r
theorem Reps.len : ∀ {l : List LV} {v : List V}, Reps K Z M H l v → l.length = v.length
  | [], _, h => by simp only [Reps] at h; subst h; rfl
  | y :: ys, _, h => by
    simp only [Reps] at h
    obtain ⟨v, r, rfl, h1, h2⟩ := h
    simp [Reps.len h2]
theorem Reps.nil : Reps K Z M H [] [] := by simp only [Reps]
theorem Reps.cons {x : LV} {xs : List LV} {v : V} {vs : List V} (a : Rep K Z M H x v) (b : Reps K Z M H xs vs) : Reps K Z M H (x :: xs) (v :: vs) := by
  simp only [Reps]
  exact ⟨v, vs, rfl, a, b⟩
theorem Reps.app : ∀ {xs ys : List LV} {vs ws : List V}, Reps K Z M H xs vs → Reps K Z M H ys ws → Reps K Z M H (xs ++ ys) (vs ++ ws)
  | [], _, _, _, a, b => by simp only [Reps] at a; subst a; exact b
  | x :: xs, _, _, _, a, b => by
    simp only [Reps] at a
    obtain ⟨v, r, rfl, h1, h2⟩ := a
    exact Reps.cons h1 (Reps.app h2 b)
theorem Reps.get : ∀ {xs : List LV} {vs : List V} {i : Nat} {x : LV}, Reps K Z M H xs vs → xs[i]? = some x → ∃ v, vs[i]? = some v ∧ Rep K Z M H x v
  | [], _, _, _, _, h => by simp at h
  | x :: xs, _, 0, y, a, h => by
    simp only [Reps] at a
    obtain ⟨v, r, rfl, h1, h2⟩ := a
    simp at h
    subst h
    exact ⟨v, rfl, h1⟩
  | x :: xs, _, i + 1, y, a, h => by
    simp only [Reps] at a
    obtain ⟨v, r, rfl, h1, h2⟩ := a
    obtain ⟨w, e, q⟩ := Reps.get (i := i) h2 (by simpa using h)
    exact ⟨w, by simpa using e, q⟩
theorem Reps.set {y : LV} {w : V} (r : Rep K Z M H y w) : ∀ {xs : List LV} {vs : List V} (i : Nat), Reps K Z M H xs vs → Reps K Z M H (xs.set i y) (vs.set i w)
  | [], _, _, a => by simp only [Reps] at a; subst a; simp [Reps.nil]
  | x :: xs, _, 0, a => by
    simp only [Reps] at a
    obtain ⟨v, s, rfl, h1, h2⟩ := a
    exact Reps.cons r h2
  | x :: xs, _, i + 1, a => by
    simp only [Reps] at a
    obtain ⟨v, s, rfl, h1, h2⟩ := a
    exact Reps.cons h1 (Reps.set r i h2)
theorem Reps.take : ∀ {xs : List LV} {vs : List V} (n : Nat), Reps K Z M H xs vs → Reps K Z M H (xs.take n) (vs.take n)
  | _, _, 0, _ => by simp [Reps.nil]
  | [], _, n + 1, a => by simp only [Reps] at a; subst a; simp [Reps.nil]
  | x :: xs, _, n + 1, a => by
    simp only [Reps] at a
    obtain ⟨v, s, rfl, h1, h2⟩ := a
    exact Reps.cons h1 (Reps.take n h2)
theorem Reps.drop : ∀ {xs : List LV} {vs : List V} (n : Nat), Reps K Z M H xs vs → Reps K Z M H (xs.drop n) (vs.drop n)
  | _, _, 0, h => by simpa using h
  | [], _, n + 1, a => by simp only [Reps] at a; subst a; simp [Reps.nil]
  | x :: xs, _, n + 1, a => by
    simp only [Reps] at a
    obtain ⟨v, s, rfl, h1, h2⟩ := a
    exact Reps.drop n h2
theorem Reps.cut {xs : List LV} {vs : List V} {lo hi : Option Int} (h : Reps K Z M H xs vs) : Reps K Z M H (cutL xs lo hi) (cutV vs lo hi) := by
  unfold cutL cutV
  rw [h.len]
  exact (h.drop _).take _
theorem cutL_len {α : Type} (xs : List α) (lo hi : Option Int) : (cutL xs lo hi).length ≤ xs.length := by
  unfold cutL
  rw [List.length_take, List.length_drop]
  omega
theorem Reps.of_ints : ∀ ns : List Int, Reps K Z M H (ns.map .int) (ns.map V.int)
  | [] => Reps.nil
  | n :: r => Reps.cons (by simp only [Rep]) (Reps.of_ints r)
theorem Reps.ints : ∀ {xs : List LV} {ns : List Int} {vs : List V}, intsL xs = some ns → Reps K Z M H xs vs → vs = ns.map V.int
  | [], ns, vs, h, r => by
    simp only [intsL, Option.some.injEq] at h
    simp only [Reps] at r
    subst h r
    rfl
  | .int i :: xs, ns, vs, h, r => by
    simp only [intsL, Option.map_eq_some_iff] at h
    obtain ⟨ms, e, rfl⟩ := h
    simp only [Reps, Rep] at r
    obtain ⟨v, s, rfl, rfl, h2⟩ := r
    rw [Reps.ints e h2]
    rfl
  | .non :: _, _, _, h, _ => by simp [intsL] at h
  | .bl _ :: _, _, _, h, _ => by simp [intsL] at h
  | .str _ :: _, _, _, h, _ => by simp [intsL] at h
  | .tup _ :: _, _, _, h, _ => by simp [intsL] at h
  | .lst _ :: _, _, _, h, _ => by simp [intsL] at h
  | .ref _ :: _, _, _, h, _ => by simp [intsL] at h
  | .ty _ :: _, _, _, h, _ => by simp [intsL] at h
  | .cls _ :: _, _, _, h, _ => by simp [intsL] at h
theorem Reps.bls : ∀ {xs : List LV} {ns : List Bool} {vs : List V}, LS.bls xs = some ns → Reps K Z M H xs vs → vs = ns.map V.bl
  | [], ns, vs, h, r => by
    simp only [LS.bls, Option.some.injEq] at h
    simp only [Reps] at r
    subst h r
    rfl
  | .bl i :: xs, ns, vs, h, r => by
    simp only [LS.bls, Option.map_eq_some_iff] at h
    obtain ⟨ms, e, rfl⟩ := h
    simp only [Reps, Rep] at r
    obtain ⟨v, s, rfl, rfl, h2⟩ := r
    rw [Reps.bls e h2]
    rfl
  | .non :: _, _, _, h, _ => by simp [LS.bls] at h
  | .int _ :: _, _, _, h, _ => by simp [LS.bls] at h
  | .str _ :: _, _, _, h, _ => by simp [LS.bls] at h
  | .tup _ :: _, _, _, h, _ => by simp [LS.bls] at h
  | .lst _ :: _, _, _, h, _ => by simp [LS.bls] at h
  | .ref _ :: _, _, _, h, _ => by simp [LS.bls] at h
  | .ty _ :: _, _, _, h, _ => by simp [LS.bls] at h
  | .cls _ :: _, _, _, h, _ => by simp [LS.bls] at h
theorem ER.mono {e : Ev} {σ : St} (x : Ext M H M' H') (h : ER K Z M H e σ) : ER K Z M' H' e σ := ⟨h.len, fun i l q => by
  obtain ⟨v, e1, r⟩ := h.val i l q
  exact ⟨v, e1, r.mono x⟩⟩
theorem ER.set {e : Ev} {σ : St} {i : Nat} {x : LV} {v : V} (h : ER K Z M H e σ) (r : Rep K Z M H x v) : ER K Z M H (e.set i (some x)) (σ.set i (some v)) := by
  refine ⟨by simp [h.len], fun j l q => ?_⟩
  by_cases hj : i = j
  · subst hj
    by_cases hl : i < e.length
    · rw [List.getElem?_set_self hl] at q
      cases q
      exact ⟨v, by rw [List.getElem?_set_self (by rw [← h.len]; exact hl)], r⟩
    · rw [List.getElem?_eq_none (by simpa using hl)] at q
      cases q
  · rw [List.getElem?_set_ne hj] at q
    obtain ⟨w, e1, r1⟩ := h.val j l q
    exact ⟨w, by rw [List.getElem?_set_ne hj]; exact e1, r1⟩
theorem ER.unset {e : Ev} {σ : St} {i : Nat} (h : ER K Z M H e σ) : ER K Z M H (e.set i none) (σ.set i none) := by
  refine ⟨by simp [h.len], fun j l q => ?_⟩
  by_cases hj : i = j
  · subst hj
    by_cases hl : i < e.length
    · rw [List.getElem?_set_self hl] at q
      cases q
    · rw [List.getElem?_eq_none (by simpa using hl)] at q
      cases q
  · rw [List.getElem?_set_ne hj] at q
    obtain ⟨w, e1, r1⟩ := h.val j l q
    exact ⟨w, by rw [List.getElem?_set_ne hj]; exact e1, r1⟩

/-! ### the store -/
theorem SR.tracked (r : SR K Z M H S) {a : Addr} (h : a ∈ M) : ∃ vs, H a = some (.lst vs) := by
  obtain ⟨n, hn⟩ := List.getElem?_of_mem h
  obtain ⟨o, ho⟩ : ∃ o, S[n]? = some o := by
    have := (List.getElem?_eq_some_iff.mp hn).1
    rw [r.len] at this
    exact ⟨S[n], List.getElem?_eq_getElem this⟩
  have q := r.obj n a o hn ho
  cases o with
  | lst xs =>
    obtain ⟨vs, e, _⟩ := q
    exact ⟨vs, e⟩
  | ins _ _ => exact q.elim
theorem RepO.mono {a : Addr} {o : LO} (x : Ext M H M' H') (e : H' a = H a) (h : RepO K Z M H o a) : RepO K Z M' H' o a := by
  cases o with
  | lst xs =>
    obtain ⟨vs, e1, r⟩ := h
    exact ⟨vs, by rw [e]; exact e1, r.mono x⟩
  | ins _ _ => exact h.elim
theorem SR.hid_ext (r : SR K Z M H S) (x : Ext M H M' H') : ∀ a ∈ Z, a ∉ M' ∧ ∃ o, H' a = some o := fun a ha => by
  obtain ⟨n, o, e⟩ := r.hid a ha
  exact ⟨x.out e n, x.there a o e⟩
/-- a new thing that is not in the store -/
theorem ext_new {p : Addr} {o : HO} (n : H p = none) : Ext M H M (upd H p o) :=
  ⟨⟨[], by simp, fun _ h => by simp at h⟩, fun a u h _ => by rw [upd_ne (ne_of_none h n)]; exact h, fun a u h => ⟨u, by rw [upd_ne (ne_of_none h n)]; exact h⟩⟩
theorem SR.new {p : Addr} {o : HO} (r : SR K Z M H S) (n : H p = none) : SR K Z M (upd H p o) S := ⟨r.len, r.nd, fun i a u h1 h2 => by
  obtain ⟨vs, e⟩ := r.tracked (List.mem_of_getElem? h1)
  exact (r.obj i a u h1 h2).mono (ext_new n) (upd_ne (ne_of_none e n)), fun a ha => (r.hid_ext (ext_new n)) a ha⟩
theorem ext_mut {p : Addr} {o : HO} (n : H p = none) : Ext M H (M ++ [p]) (upd H p o) :=
  ⟨⟨[p], rfl, fun a h => by simp at h; rw [h]; exact n⟩, fun a u h _ => by rw [upd_ne (ne_of_none h n)]; exact h, fun a u h => ⟨u, by rw [upd_ne (ne_of_none h n)]; exact h⟩⟩
theorem SR.mut {p : Addr} {xs : List LV} {vs : List V} (r : SR K Z M H S) (n : H p = none) (h : Reps K Z M H xs vs) : SR K Z (M ++ [p]) (upd H p (.lst vs)) (S ++ [.lst xs]) := by
  refine ⟨by simp [r.len], ?_, fun i a u h1 h2 => ?_, r.hid_ext (ext_mut n)⟩
  · rw [List.nodup_append]
    refine ⟨r.nd, by simp, fun a ha b hb e => ?_⟩
    simp at hb
    subst hb e
    obtain ⟨vs, e⟩ := r.tracked ha
    rw [n] at e
    cases e
  · by_cases hi : i < M.length
    · rw [List.getElem?_append_left hi] at h1
      rw [List.getElem?_append_left (by rw [← r.len]; exact hi)] at h2
      obtain ⟨vs, e⟩ := r.tracked (List.mem_of_getElem? h1)
      exact (r.obj i a u h1 h2).mono (ext_mut n) (upd_ne (ne_of_none e n))
    · have hi2 : i = M.length := by
        have := (List.getElem?_eq_some_iff.mp h1).1
        simp at this
        omega
      subst hi2
      rw [List.getElem?_append_right (Nat.le_refl _)] at h1
      rw [r.len, List.getElem?_append_right (Nat.le_refl _)] at h2
      simp at h1 h2
      subst h1 h2
      exact ⟨vs, upd_same, h.mono (ext_mut n)⟩
/-- a thing of the store is changed -/
theorem ext_set {a : Addr} {o : HO} (h : a ∈ M) : Ext M H M (upd H a o) :=
  ⟨⟨[], by simp, fun _ h => by simp at h⟩, fun b u q n => by rw [upd_ne (fun e => n (by rw [e]; exact h))]; exact q, fun b u q => by
    by_cases e : b = a
    · subst e; exact ⟨o, upd_same⟩
    · exact ⟨u, by rw [upd_ne e]; exact q⟩⟩
theorem SR.set {n : Nat} {a : Addr} {xs : List LV} {vs : List V} (r : SR K Z M H S) (h : M[n]? = some a) (q : Reps K Z M H xs vs) : SR K Z M (upd H a (.lst vs)) (S.set n (.lst xs)) := by
  have hm : a ∈ M := List.mem_of_getElem? h
  refine ⟨by simp [r.len], r.nd, fun i b u h1 h2 => ?_, r.hid_ext (ext_set hm)⟩
  by_cases hi : n = i
  · subst hi
    rw [h] at h1
    cases h1
    rw [List.getElem?_set_self (by rw [← r.len]; exact (List.getElem?_eq_some_iff.mp h).1)] at h2
    cases h2
    exact ⟨vs, upd_same, q.mono (ext_set hm)⟩
  · rw [List.getElem?_set_ne hi] at h2
    refine (r.obj i b u h1 h2).mono (ext_set hm) (upd_ne fun e => hi ?_)
    subst e
    obtain ⟨l1, e1⟩ := List.getElem?_eq_some_iff.mp h
    obtain ⟨l2, e2⟩ := List.getElem?_eq_some_iff.mp h1
    exact (List.getElem_inj r.nd).mp (e1.trans e2.symm)
theorem SR.at_lst {n : Nat} {xs : List LV} {v : V} (r : SR K Z M H S) (h : Rep K Z M H (.ref n) v) (q : S[n]? = some (.lst xs)) : ∃ a vs, v = .ref a ∧ M[n]? = some a ∧ H a = some (.lst vs) ∧ Reps K Z M H xs vs := by
  simp only [Rep] at h
  obtain ⟨a, e, rfl⟩ := h
  obtain ⟨vs, e1, r1⟩ := r.obj n a _ e q
  exact ⟨a, vs, rfl, e, e1, r1⟩
/-- a list, by worth or of the store -/
theorem litems_at {x : LV} {v : V} {xs : List LV} (r : SR K Z M H S) (h : Rep K Z M H x v) (q : litems x S = some xs) : ∃ a vs, v = .ref a ∧ SqL K H a vs ∧ Reps K Z M H xs vs := by
  cases x with
  | lst ys =>
    simp only [litems, Option.some.injEq] at q
    subst q
    simp only [Rep] at h
    obtain ⟨a, vs, e, f, s⟩ := h
    exact ⟨a, vs, e, f.sq, s⟩
  | ref n =>
    simp only [litems] at q
    split at q
    · rename_i ys e
      cases q
      obtain ⟨a, vs, e1, _, e2, s⟩ := r.at_lst h e
      exact ⟨a, vs, e1, SqL.of e2, s⟩
    · cases q
  | _ => simp [litems] at q
theorem items_at {x : LV} {v : V} {xs : List LV} (r : SR K Z M H S) (h : Rep K Z M H x v) (q : items x S = some xs) : ∃ a vs, v = .ref a ∧ (SqL K H a vs ∨ SqT K H a vs) ∧ Reps K Z M H xs vs := by
  cases x with
  | tup ys =>
    simp only [items, Option.some.injEq] at q
    subst q
    simp only [Rep] at h
    obtain ⟨a, vs, e, f, s⟩ := h
    exact ⟨a, vs, e, .inr f.sq, s⟩
  | lst ys =>
    obtain ⟨a, vs, e, f, s⟩ := litems_at (xs := xs) r h (by simpa [items, litems] using q)
    exact ⟨a, vs, e, .inl f, s⟩
  | ref n =>
    obtain ⟨a, vs, e, f, s⟩ := litems_at (xs := xs) r h (by simpa [items, litems] using q)
    exact ⟨a, vs, e, .inl f, s⟩
  | _ => simp [items] at q
end

/-! ### readings -/
/-- how an exception lies: k its class's number, p what it bears -/
abbrev XRep := Nat → LV → List Addr → List Addr → Hp → Value → Option Addr → Prop
section
variable (K : PySem.W.Frag) (XR : XRep)
/-- what is asked of an outcome -/
def Out {α : Type} (Z : List Addr) (W : Value → Option Addr → Hp → Prop) (M : List Addr) (H : Hp) (r : Res α) (k : α → List Addr → Hp → Sto → Prop) : Prop := match r with
  | .bad => False
  | .ok a S => ∀ M' H', Ext M H M' H' → SR K Z M' H' S → k a M' H' S
  | .exc c p S => ∀ M' H' cls d, Ext M H M' H' → SR K Z M' H' S → XR c p Z M' H' cls d → W cls d H'
def OutS (Z : List Addr) (W : WX) (M : List Addr) (H : Hp) (r : Fl) (D : Ends) : Prop := match r with
  | .bad => False
  | .nxt e S => ∀ M' H' σ', Ext M H M' H' → SR K Z M' H' S → ER K Z M' H' e σ' → D.nx σ' H'
  | .ret x S => ∀ M' H' v, Ext M H M' H' → SR K Z M' H' S → Rep K Z M' H' x v → D.rt v H'
  | .brk e S => ∀ M' H' σ', Ext M H M' H' → SR K Z M' H' S → ER K Z M' H' e σ' → D.bk σ' H'
  | .cnt e S => ∀ M' H' σ', Ext M H M' H' → SR K Z M' H' S → ER K Z M' H' e σ' → D.ct σ' H'
  | .exc c p e S => ∀ M' H' σ' cls d, Ext M H M' H' → SR K Z M' H' S → ER K Z M' H' e σ' → XR c p Z M' H' cls d → W cls d σ' H'
def tL (W : WX) (f : Ev → Sto → Res LV) : TE := fun σ H Q => ∃ Z M e S, ER K Z M H e σ ∧ SR K Z M H S ∧ Out K XR Z (fun c d H' => W c d σ H') M H (f e S) fun x M' H' _ => ∀ v, Rep K Z M' H' x v → Q v H'
def tT (W : WX) (f : Ev → Sto → Res Bool) : TT := fun σ H Q => ∃ Z M e S, ER K Z M H e σ ∧ SR K Z M H S ∧ Out K XR Z (fun c d H' => W c d σ H') M H (f e S) fun b M' H' _ => Q b H'
def tA (W : WX) (f : Ev → Sto → Res (List LV)) : TA := fun σ H Q => ∃ Z M e S, ER K Z M H e σ ∧ SR K Z M H S ∧ Out K XR Z (fun c d H' => W c d σ H') M H (f e S) fun xs M' H' _ => ∀ vs, Reps K Z M' H' xs vs → Q vs H'
def tS (W : WX) (f : Ev → Sto → Fl) : TS := fun D σ H => ∃ Z M e S, ER K Z M H e σ ∧ SR K Z M H S ∧ OutS K XR Z W M H (f e S) D
end
section
variable {K : PySem.W.Frag} {XR : XRep} {W : Value → Option Addr → Hp → Prop} {WS : WX} {Z M M' : List Addr} {H H' : Hp} {S : Sto}
theorem Out.mono {α : Type} {r : Res α} {k : α → List Addr → Hp → Sto → Prop} (x : Ext M H M' H') (h : Out K XR Z W M H r k) : Out K XR Z W M' H' r k := by
  cases r with
  | bad => exact h
  | ok a S => exact fun M2 H2 y s => h M2 H2 (x.trans y) s
  | exc c p S => exact fun M2 H2 cls d y s r => h M2 H2 cls d (x.trans y) s r
theorem Out.imp {α : Type} {r : Res α} {k k' : α → List Addr → Hp → Sto → Prop} (h : Out K XR Z W M H r k) (f : ∀ a M' H' S, Ext M H M' H' → SR K Z M' H' S → k a M' H' S → k' a M' H' S) : Out K XR Z W M H r k' := by
  cases r with
  | bad => exact h
  | ok a S => exact fun M2 H2 y s => f a M2 H2 S y s (h M2 H2 y s)
  | exc c p S => exact h
theorem Out.split {α β : Type} {r : Res α} {g : α → Sto → Res β} {k : β → List Addr → Hp → Sto → Prop} (h : Out K XR Z W M H (r.bind g) k) : Out K XR Z W M H r fun a M1 H1 S1 => Out K XR Z W M1 H1 (g a S1) k := by
  cases r with
  | bad => exact h
  | ok a S => exact fun M2 H2 y s => Out.mono y h
  | exc c p S => exact h
theorem OutS.mono {r : Fl} {D : Ends} (x : Ext M H M' H') (h : OutS K XR Z WS M H r D) : OutS K XR Z WS M' H' r D := by
  cases r with
  | bad => exact h
  | nxt e S => exact fun M2 H2 σ y s r => h M2 H2 σ (x.trans y) s r
  | ret v S => exact fun M2 H2 σ y s r => h M2 H2 σ (x.trans y) s r
  | brk e S => exact fun M2 H2 σ y s r => h M2 H2 σ (x.trans y) s r
  | cnt e S => exact fun M2 H2 σ y s r => h M2 H2 σ (x.trans y) s r
  | exc c p e S => exact fun M2 H2 σ cls d y s r q => h M2 H2 σ cls d (x.trans y) s r q
/-- an expression, then a statement's rest -/
theorem OutS.split {α : Type} {r : Res α} {g : α → Sto → Fl} {D : Ends} {e : Ev} {σ : St} (he : ER K Z M H e σ) (h : OutS K XR Z WS M H (r.fl e g) D) : Out K XR Z (fun c d H' => WS c d σ H') M H r fun a M1 H1 S1 => OutS K XR Z WS M1 H1 (g a S1) D := by
  cases r with
  | bad => exact h
  | ok a S => exact fun M2 H2 y s => OutS.mono y h
  | exc c p S => exact fun M2 H2 cls d y s q => h M2 H2 σ cls d y s (he.mono y) q
end

/-! ### weaker readings -/
section
variable {X : Cx}
theorem PE_w {e : Expr} {t t' : TE} (h : PE X e t) (f : ∀ σ H Q, t' σ H Q → t σ H Q) : PE X e t' := ⟨fun pins s σ H Q I q => h.run pins s σ H Q I (f σ H Q q)⟩
theorem PT_w {e : Expr} {t t' : TT} (h : PT X e t) (f : ∀ σ H Q, t' σ H Q → t σ H Q) : PT X e t' := ⟨fun pins s σ H Q I q => h.run pins s σ H Q I (f σ H Q q)⟩
theorem PS_w {e : Stmt} {t t' : TS} (h : PS X e t) (f : ∀ D σ H, t' D σ H → t D σ H) : PS X e t' := ⟨fun pins s σ H D I q => h.run pins s σ H D I (f D σ H q)⟩
theorem PSs_w {e : List Stmt} {t t' : TS} (h : PSs X e t) (f : ∀ D σ H, t' D σ H → t D σ H) : PSs X e t' := ⟨fun pins s σ H D I q => h.run pins s σ H D I (f D σ H q)⟩
theorem PA_w {e : List Expr} {t t' : TA} (h : PA X e t) (f : ∀ σ H Q, t' σ H Q → t σ H Q) : PA X e t' := ⟨fun pos pins s σ H Q I q => h.run pos pins s σ H Q I (f σ H Q q)⟩
theorem PI_w {tg e : Expr} {t t' : TI} (h : PI X tg e t) (f : ∀ σ H Q, t' σ H Q → t σ H Q) : PI X tg e t' := ⟨fun pins s σ H Q I q => h.run pins s σ H Q I (f σ H Q q)⟩
end
end LS

/-! LS: what operations come to, shown over the hand layer's rules by values. -/
namespace LS
open PySem PySem.Spec PyProof.Rows L2
section
variable {K : PySem.W.Frag} {XR : XRep} {W : Value → Option Addr → Hp → Prop} {Z M M' : List Addr} {H H' : Hp} {S : Sto} {Q : VK}

theorem newt_rep {p : Addr} {xs : List LV} {vs : List V} (sr : SR K Z M H S) (n : H p = none) (r : Reps K Z M H xs vs) : Rep K Z M (upd H p (.tup vs)) (.tup xs) (.ref p) := by
  simp only [Rep]
  refine ⟨p, vs, rfl, .inl ⟨.inl upd_same, fun z => ?_, fun z => ?_⟩, r.mono (ext_new n)⟩
  · obtain ⟨ws, e⟩ := sr.tracked z
    rw [n] at e
    cases e
  · obtain ⟨_, ws, e⟩ := sr.hid p z
    rw [n] at e
    cases e
theorem newl_rep {p : Addr} {xs : List LV} {vs : List V} (sr : SR K Z M H S) (n : H p = none) (r : Reps K Z M H xs vs) : Rep K Z M (upd H p (.lst vs)) (.lst xs) (.ref p) := by
  simp only [Rep]
  refine ⟨p, vs, rfl, .inl ⟨.inl upd_same, fun z => ?_, fun z => ?_⟩, r.mono (ext_new n)⟩
  · obtain ⟨ws, e⟩ := sr.tracked z
    rw [n] at e
    cases e
  · obtain ⟨_, ws, e⟩ := sr.hid p z
    rw [n] at e
    cases e
theorem newl_fin {m : Bool} {p : Addr} {xs : List LV} {vs : List V} (sr : SR K Z M H S) (n : H p = none) (r : Reps K Z M H xs vs)
    (o : Out K XR Z W M H (newl m xs S) fun x M' H' _ => ∀ v, Rep K Z M' H' x v → Q v H') : Q (.ref p) (upd H p (.lst vs)) := by
  cases m with
  | true =>
    refine o (M ++ [p]) _ (ext_mut n) (sr.mut n r) _ ?_
    simp only [Rep]
    exact ⟨p, by rw [← sr.len, List.getElem?_append_right (Nat.le_refl _)]; simp, rfl⟩
  | false => exact o M _ (ext_new n) (sr.new n) _ (newl_rep sr n r)
theorem out_ok {α : Type} {a : α} {k : α → List Addr → Hp → Sto → Prop} (sr : SR K Z M H S) (o : Out K XR Z W M H (.ok a S) k) : k a M H S := o M H Ext.refl sr
theorem ofO_ok {α : Type} {o : Option α} {k : α → List Addr → Hp → Sto → Prop} (h : Out K XR Z W M H (.ofO o S) k) : ∃ a, o = some a ∧ Out K XR Z W M H (.ok a S) k := by
  cases o with
  | none => exact h.elim
  | some a => exact ⟨a, rfl, h⟩

/-- what is asked by an operation on two values -/
def rV (K : PySem.W.Frag) (f : LV → LV → Sto → Option LV) : R2 := fun x y H Q => ∃ Z M S a b z, SR K Z M H S ∧ Rep K Z M H a x ∧ Rep K Z M H b y ∧ f a b S = some z ∧ ∀ M' v H', Ext M H M' H' → SR K Z M' H' S → Rep K Z M' H' z v → Q v H'
end
section
variable {X : Cx}
theorem op_bin {op : Operator} : OpR X (binaryOp op) (rV X.K fun a b _ => binop op a b) := by
  intro pins s σ H x y v u Q I rx ry h
  obtain ⟨Z, M, S, a, b, z, sr, hx, hy, h, q⟩ := h
  replace h : binop op a b = some z := h
  unfold binop at h
  split at h
  · simp only [Rep] at hx hy
    subst hx hy
    cases h
    exact op_add pins s σ H _ _ v u Q I rx ry ⟨_, _, rfl, rfl, q M _ H Ext.refl sr (by simp only [Rep])⟩
  · simp only [Rep] at hx hy
    subst hx hy
    cases h
    exact op_sub pins s σ H _ _ v u Q I rx ry ⟨_, _, rfl, rfl, q M _ H Ext.refl sr (by simp only [Rep])⟩
  · rename_i i j
    simp only [Rep] at hx hy
    subst hx hy
    split at h
    · rename_i hc
      cases h
      refine op_mul pins s σ H _ _ v u Q I rx ry ⟨_, _, rfl, rfl, ?_, q M _ H Ext.refl sr (by simp only [Rep])⟩
      simpa [mulOk, CMul] using hc
    · cases h
  · simp only [Rep] at hx hy
    subst hx hy
    split at h
    · rename_i hc
      cases h
      exact op_fdiv pins s σ H _ _ v u Q I rx ry ⟨_, _, rfl, rfl, hc, q M _ H Ext.refl sr (by simp only [Rep])⟩
    · cases h
  · simp only [Rep] at hx hy
    subst hx hy
    split at h
    · rename_i hc
      cases h
      exact op_mod pins s σ H _ _ v u Q I rx ry ⟨_, _, rfl, rfl, hc, q M _ H Ext.refl sr (by simp only [Rep])⟩
    · cases h
  · simp only [Rep] at hx hy
    subst hx hy
    split at h
    · rename_i hc
      cases h
      exact op_pow pins s σ H _ _ v u Q I rx ry ⟨_, _, rfl, rfl, hc, q M _ H Ext.refl sr (by simp only [Rep])⟩
    · cases h
  · simp only [Rep] at hx hy
    subst hx hy
    split at h
    · rename_i hc
      cases h
      exact op_add_str pins s σ H _ _ v u Q I rx ry ⟨_, _, rfl, rfl, Nat.le_trans hc lim_le, q M _ H Ext.refl sr (by simp only [Rep])⟩
    · cases h
  · rename_i as bs
    split at h
    · rename_i hc
      cases h
      simp only [Rep] at hx hy
      obtain ⟨a, vs, rfl, f1, r1⟩ := hx
      obtain ⟨b, ws, rfl, f2, r2⟩ := hy
      refine op_catA pins s σ H _ _ v u Q I rx ry ⟨a, b, vs, ws, rfl, rfl, f1.sq, f2.sq, ?_, fun e => ?_, fun _ e => ?_, fun _ _ p hp => ?_⟩
      · rw [← r1.len, ← r2.len]
        exact Nat.le_trans hc lim_le
      · refine q M _ H Ext.refl sr ?_
        simp only [Rep]
        refine ⟨b, ws, rfl, f2, ?_⟩
        have e1 : as = [] := List.length_eq_zero_iff.mp (by rw [r1.len, e]; rfl)
        rw [e1]
        exact r2
      · refine q M _ H Ext.refl sr ?_
        simp only [Rep]
        refine ⟨a, vs, rfl, f1, ?_⟩
        have e1 : bs = [] := List.length_eq_zero_iff.mp (by rw [r2.len, e]; rfl)
        rw [e1, List.append_nil]
        exact r1
      · exact q M _ _ (ext_new hp) (sr.new hp) (newt_rep sr hp (r1.app r2))
    · cases h
  · cases h
/-- list + list: any that may be read -/
theorem op_un {op : UnaryOp} : UnR X (unaryOp op) (fun x H Q => ∃ Z M S a z, SR X.K Z M H S ∧ Rep X.K Z M H a x ∧ unop op a = some z ∧ ∀ M' v H', Ext M H M' H' → SR X.K Z M' H' S → Rep X.K Z M' H' z v → Q v H') := by
  intro pins s σ H x v Q I rx h
  obtain ⟨Z, M, S, a, z, sr, hx, h, q⟩ := h
  unfold unop at h
  split at h
  · simp only [Rep] at hx
    subst hx
    cases h
    exact un_neg pins s σ H _ v Q I rx ⟨_, rfl, q M _ H Ext.refl sr (by simp only [Rep])⟩
  · cases h
mutual
theorem toD_dp {K : PySem.W.Frag} {Z M : List Addr} {H : Hp} : ∀ (x : LV) (v : V) (d : PyData), Rep K Z M H x v → toD x = some d → Dp K H v d
  | .non, _, _, r, h => by
    simp only [toD, Option.some.injEq, Rep] at h r
    subst h r
    exact .non
  | .bl b, _, _, r, h => by
    simp only [toD, Option.some.injEq, Rep] at h r
    subst h r
    exact .bl b
  | .int b, _, _, r, h => by
    simp only [toD, Option.some.injEq, Rep] at h r
    subst h r
    exact .int b
  | .str b, _, _, r, h => by
    simp only [toD, Option.some.injEq, Rep] at h r
    subst h r
    exact .str b
  | .tup xs, _, _, r, h => by
    simp only [toD, Option.map_eq_some_iff] at h
    obtain ⟨ds, e, rfl⟩ := h
    simp only [Rep] at r
    obtain ⟨a, vs, rfl, f, r⟩ := r
    exact .tup f.sq (toDs_dp xs vs ds r e)
  | .lst xs, _, _, r, h => by
    simp only [toD, Option.map_eq_some_iff] at h
    obtain ⟨ds, e, rfl⟩ := h
    simp only [Rep] at r
    obtain ⟨a, vs, rfl, f, r⟩ := r
    exact .lst f.sq (toDs_dp xs vs ds r e)
  | .ref _, _, _, _, h => by simp [toD] at h
  | .ty _, _, _, _, h => by simp [toD] at h
  | .cls _, _, _, _, h => by simp [toD] at h
theorem toDs_dp {K : PySem.W.Frag} {Z M : List Addr} {H : Hp} : ∀ (x : List LV) (v : List V) (d : List PyData), Reps K Z M H x v → toDs x = some d → DpAll K H v d
  | [], _, _, r, h => by
    simp only [toDs, Option.some.injEq, Reps] at h r
    subst h r
    exact .nil
  | x :: xs, _, _, r, h => by
    simp only [toDs] at h
    split at h
    · rename_i d e
      simp only [Option.map_eq_some_iff] at h
      obtain ⟨ds, e2, rfl⟩ := h
      simp only [Reps] at r
      obtain ⟨v, s, rfl, h1, h2⟩ := r
      exact .cons (toD_dp x v d h1 e) (toDs_dp xs s ds h2 e2)
    · cases h
end
theorem toDS_dp {K : PySem.W.Frag} {Z M : List Addr} {H : Hp} {S : Sto} {x : LV} {v : V} {d : PyData} (sr : SR K Z M H S) (r : Rep K Z M H x v) (h : toDS x S = some d) : Dp K H v d := by
  unfold toDS at h
  split at h
  · split at h
    · rename_i n xs e
      simp only [Option.map_eq_some_iff] at h
      obtain ⟨ds, e2, rfl⟩ := h
      obtain ⟨a, vs, rfl, _, e1, s⟩ := sr.at_lst r e
      exact .lst (SqL.of e1) (toDs_dp _ _ _ s e2)
    · cases h
  · exact toD_dp _ _ _ r h
theorem rep_non {K : PySem.W.Frag} {Z M : List Addr} {H : Hp} {x : LV} {v : V} (r : Rep K Z M H x v) : decide (v = .non) = isNon x := by
  cases x <;> simp only [Rep] at r <;> simp only [isNon, decide_eq_true_eq, decide_eq_false_iff_not]
  · exact r
  · subst r; intro z; cases z
  · subst r; intro z; cases z
  · subst r; intro z; cases z
  · obtain ⟨_, _, rfl, _⟩ := r; intro z; cases z
  · obtain ⟨_, _, rfl, _⟩ := r; intro z; cases z
  · obtain ⟨_, _, rfl⟩ := r; intro z; cases z
  · subst r; intro z; cases z
theorem op_cmp {op : CmpOp} (hr : X.A.units + 64 < cLine) : OpR X (compareOp op) (rV X.K fun a b S => (cmpop op a b S).map .bl) := by
  intro pins s σ H x y v u Q I rx ry h
  obtain ⟨Z, M, S, a, b, z, sr, hx, hy, h, q⟩ := h
  simp only [Option.map_eq_some_iff] at h
  obtain ⟨k, h, rfl⟩ := h
  have fin := q M (.bl k) H Ext.refl sr (by simp only [Rep])
  clear q
  unfold cmpop at h
  split at h
  · simp only [Rep] at hx hy
    subst hx hy
    cases h
    exact op_lt pins s σ H _ _ v u Q I rx ry ⟨_, _, rfl, rfl, fin⟩
  · simp only [Rep] at hx hy
    subst hx hy
    cases h
    exact op_le pins s σ H _ _ v u Q I rx ry ⟨_, _, rfl, rfl, fin⟩
  · simp only [Rep] at hx hy
    subst hx hy
    cases h
    exact op_gt pins s σ H _ _ v u Q I rx ry ⟨_, _, rfl, rfl, fin⟩
  · simp only [Rep] at hx hy
    subst hx hy
    cases h
    exact op_ge pins s σ H _ _ v u Q I rx ry ⟨_, _, rfl, rfl, fin⟩
  · unfold eqop at h
    split at h
    · simp only [Rep] at hx hy
      subst hx hy
      cases h
      exact op_eq pins s σ H _ _ v u Q I rx ry ⟨rfl, by rw [show decide (V.int _ = V.int _) = _ from decide_eq_decide.mpr ⟨fun e => V.int.inj e, fun e => congrArg V.int e⟩]; exact fin⟩
    · simp only [Rep] at hx hy
      subst hx hy
      cases h
      exact op_eq pins s σ H _ _ v u Q I rx ry ⟨rfl, by rw [show decide (V.str _ = V.str _) = _ from decide_eq_decide.mpr ⟨fun e => V.str.inj e, fun e => congrArg V.str e⟩]; exact fin⟩
    · split at h
      · rename_i d e h1 h2
        split at h
        · rename_i hs
          cases h
          exact op_eqD hr pins s σ H _ _ v u Q I rx ry ⟨d, e, toDS_dp sr hx h1, toDS_dp sr hy h2, hs.1, hs.2, fin⟩
        · cases h
      · cases h
  · simp only [Option.map_eq_some_iff] at h
    obtain ⟨k', h, rfl⟩ := h
    unfold eqop at h
    split at h
    · simp only [Rep] at hx hy
      subst hx hy
      cases h
      exact op_ne pins s σ H _ _ v u Q I rx ry ⟨rfl, by rw [show decide (V.int _ = V.int _) = _ from decide_eq_decide.mpr ⟨fun e => V.int.inj e, fun e => congrArg V.int e⟩]; exact fin⟩
    · simp only [Rep] at hx hy
      subst hx hy
      cases h
      exact op_ne pins s σ H _ _ v u Q I rx ry ⟨rfl, by rw [show decide (V.str _ = V.str _) = _ from decide_eq_decide.mpr ⟨fun e => V.str.inj e, fun e => congrArg V.str e⟩]; exact fin⟩
    · split at h
      · rename_i d e h1 h2
        split at h
        · rename_i hs
          cases h
          exact op_neD hr pins s σ H _ _ v u Q I rx ry ⟨d, e, toDS_dp sr hx h1, toDS_dp sr hy h2, hs.1, hs.2, fin⟩
        · cases h
      · cases h
  · simp only [Rep] at hy
    subst hy
    cases h
    exact op_isN pins s σ H _ _ v u Q I rx ry ⟨rfl, by rw [rep_non hx]; exact fin⟩
  · simp only [Rep] at hy
    subst hy
    cases h
    exact op_notN pins s σ H _ _ v u Q I rx ry ⟨rfl, by rw [rep_non hx]; exact fin⟩
  · cases h
theorem reps_empty {K : PySem.W.Frag} {Z M : List Addr} {H : Hp} {xs : List LV} {vs : List V} (r : Reps K Z M H xs vs) : xs.isEmpty = vs.isEmpty := by
  have := r.len
  cases xs <;> cases vs <;> simp_all
/-- truth -/
theorem truth_tru {K : PySem.W.Frag} {Z M : List Addr} {H : Hp} {S : Sto} {x : LV} {v : V} {k : Bool} (sr : SR K Z M H S) (r : Rep K Z M H x v) (h : truth x S = some k) : TruV K v H k := by
  unfold truth at h
  split at h
  · simp only [Rep] at r
    subst r
    cases h
    rfl
  · simp only [Rep] at r
    subst r
    cases h
    rfl
  · simp only [Rep] at r
    subst r
    cases h
    rfl
  · simp only [Rep] at r
    subst r
    split at h
    · rename_i hl
      cases h
      exact ⟨Nat.le_trans hl lim_le, rfl⟩
    · cases h
  · simp only [Rep] at r
    obtain ⟨a, vs, rfl, f, r⟩ := r
    cases h
    refine .inr (.inl ⟨vs, f.sq, ?_⟩)
    rw [reps_empty r]
  · simp only [Rep] at r
    obtain ⟨a, vs, rfl, f, r⟩ := r
    cases h
    refine .inl ⟨vs, f.sq, ?_⟩
    rw [reps_empty r]
  · split at h
    · rename_i n xs e
      cases h
      obtain ⟨a, vs, rfl, _, e1, r⟩ := sr.at_lst r e
      refine .inl ⟨vs, SqL.of e1, ?_⟩
      rw [reps_empty r]
    · cases h
  · cases h
/-- xs[i] -/
theorem atI_rep {K : PySem.W.Frag} {Z M : List Addr} {H : Hp} {xs : List LV} {vs : List V} {i : Int} {y : LV} (r : Reps K Z M H xs vs) (h : atI xs i = some y) : ∃ v, atI vs i = some v ∧ Rep K Z M H y v := by
  unfold atI at h ⊢
  rw [← r.len]
  cases q : ixN xs.length i with
  | none => rw [q] at h; cases h
  | some j =>
    rw [q] at h
    exact r.get h
theorem ix_get : IxR X (rV X.K getix) := by
  intro value slice pins s σ H x y v u Q I rx ry h hs
  obtain ⟨Z, M, S, a, b, z, sr, hx, hy, h, q⟩ := h
  unfold getix at h
  split at h
  · rename_i i
    simp only [Rep] at hy
    subst hy
    simp only [Option.bind_eq_some_iff] at h
    obtain ⟨xs, h1, h2⟩ := h
    obtain ⟨p, vs, rfl, f, r⟩ := items_at sr hx h1
    obtain ⟨w, e, r2⟩ := atI_rep r h2
    have fin := q M w H Ext.refl sr r2
    rcases f with f | f
    · exact ix_list value slice pins s σ H _ _ v u Q I rx ry ⟨p, vs, i, w, rfl, rfl, f, e, fin⟩ hs
    · exact ix_tup value slice pins s σ H _ _ v u Q I rx ry ⟨p, vs, i, w, rfl, rfl, f, e, fin⟩ hs
  · cases h
end
end LS

/-! LS: list + list, slices, built-ins by values; the call of a def. -/
namespace LS
open PySem PySem.Spec PyProof.Rows L2
section
variable {X : Cx} {K : PySem.W.Frag} {XR : XRep} {W : Value → Option Addr → Hp → Prop} {Z M M' : List Addr} {H H' : Hp} {S : Sto}

/-- two lists that may be read are put together -/
theorem op_catL : OpR X (binaryOp .Add) (fun x y H Q => ∃ l b xs zs, x = .ref l ∧ y = .ref b ∧ SqL X.K H l xs ∧ SqL X.K H b zs ∧ xs.length + zs.length ≤ sizeLine ∧ ∀ p, H p = none → Q (.ref p) (upd H p (.lst (xs ++ zs)))) := by
  rintro pins s σ H x y v u Q I rx ry ⟨l, b, xs, zs, rfl, rfl, hx, hy, hz, q⟩
  cases rx
  cases ry
  obtain ⟨us, r1, ⟨⟨c1, d1, t1, sl1⟩, n1, g1, k1, _, e1⟩, _⟩ := I.list hx
  obtain ⟨ws, r2, ⟨⟨c2, d2, t2, sl2⟩, n2, g2, k2, _, e2⟩, _⟩ := I.list hy
  simp only at k1 e1 k2 e2
  subst k1 e1 k2 e2
  have z1 := r1.length
  have z2 := r2.length
  have ea : us.toArray ++ ws.toArray = (us ++ ws).toArray := by simp
  refine concat_meets ⟨_, g1, rfl⟩ ⟨_, g2, rfl⟩ noFill_list_add seq_list_add F.slot_list_add F.entry_list_add (F.args_list_add_2 _ _)
    (PyProof.Rows.list_addW l b us.toArray ws.toArray n1 n2 d1 d2 sl1 sl2 (by simp only [List.size_toArray]; omega)) ⟨g1, g2, ?_⟩
  rw [ea]
  exact ⟨.ref _, _, I.lnew (t' := s.toks) (r1.append r2) (by rw [List.length_append]; exact hz), rfl, q _ I.fresh⟩
def fCat (m : Bool) (x y : LV) (S : Sto) : Res LV := match litems x S, litems y S with
  | some xs, some ys => if xs.length + ys.length ≤ lim then newl m (xs ++ ys) S else .bad
  | _, _ => .bad
/-- the reading of an operation that may make something -/
def rO (K : PySem.W.Frag) (XR : XRep) (f : LV → LV → Sto → Res LV) : R2 := fun x y H Q => ∃ Z M S a b, SR K Z M H S ∧ Rep K Z M H a x ∧ Rep K Z M H b y ∧ Out K XR Z (fun _ _ _ => False) M H (f a b S) fun z M' H' _ => ∀ v, Rep K Z M' H' z v → Q v H'
theorem out_w {α : Type} {r : Res α} {k : α → List Addr → Hp → Sto → Prop} (h : Out K XR Z W M H r k) (n : ∀ c p S, r ≠ .exc c p S) : Out K XR Z (fun _ _ _ => False) M H r k := by
  cases r with
  | bad => exact h
  | ok a S => exact h
  | exc c p S => exact (n c p S rfl).elim
theorem op_cat {m : Bool} : OpR X (binaryOp .Add) (fun x y H Q => ∃ Z M S a b xs ys, SR X.K Z M H S ∧ Rep X.K Z M H a x ∧ Rep X.K Z M H b y ∧ litems a S = some xs ∧ litems b S = some ys ∧ xs.length + ys.length ≤ lim ∧
    ∀ p vs, H p = none → Reps X.K Z M H (xs ++ ys) vs → Q (.ref p) (upd H p (.lst vs))) := by
  rintro pins s σ H x y v u Q I rx ry ⟨Z, M, S, a, b, xs, ys, sr, hx, hy, h1, h2, hl, q⟩
  obtain ⟨p1, vs, rfl, f1, s1⟩ := litems_at sr hx h1
  obtain ⟨p2, ws, rfl, f2, s2⟩ := litems_at sr hy h2
  refine op_catL pins s σ H _ _ v u Q I rx ry ⟨p1, p2, vs, ws, rfl, rfl, f1, f2, ?_, fun p hp => q p _ hp (s1.app s2)⟩
  rw [← s1.len, ← s2.len]
  exact Nat.le_trans hl lim_le
/-- a slice -/
theorem sl_any : SlR X (fun x lo hi H Q => ∃ Z M S a, SR X.K Z M H S ∧ Rep X.K Z M H a x ∧ ((∃ xs, a = .tup xs ∧ ∀ v H', Ext M H M H' → SR X.K Z M H' S → Rep X.K Z M H' (.tup (cutL xs lo hi)) v → Q v H') ∨
    ∃ xs, litems a S = some xs ∧ ∀ p vs, H p = none → Reps X.K Z M H (cutL xs lo hi) vs → Q (.ref p) (upd H p (.lst vs)))) := by
  rintro pins s σ H x v vl vu lo hi sl Q I rx hs pl pu ⟨Z, M, S, a, sr, hx, h⟩
  rcases h with ⟨xs, rfl, q⟩ | ⟨xs, h1, q⟩
  · simp only [Rep] at hx
    obtain ⟨p, vs, rfl, f, r⟩ := hx
    refine sl_tupA pins s σ H _ v vl vu lo hi sl Q I rx hs pl pu ⟨p, vs, rfl, f.sq, fun e => ?_, fun _ p hp => ?_⟩
    · refine q _ H Ext.refl sr ?_
      simp only [Rep]
      refine ⟨p, vs, rfl, f, ?_⟩
      have c := Reps.cut (lo := lo) (hi := hi) r
      unfold cutV at c
      rw [e.1, e.2, List.drop_zero, Nat.sub_zero, List.take_length] at c
      exact c
    · exact q _ _ (ext_new hp) (sr.new hp) (newt_rep sr hp r.cut)
  · obtain ⟨p, vs, rfl, f, r⟩ := litems_at sr hx h1
    exact sl_list pins s σ H _ v vl vu lo hi sl Q I rx hs pl pu ⟨p, vs, rfl, f, fun p hp => q p _ hp r.cut⟩

/-! ### built-ins -/
def bfName : Bf → Str
  | .len => "len" | .int => "int" | .max2 => "max" | .min2 => "min" | .repr => "repr" | .tuple => "tuple" | .list _ => "list" | .sum => "sum" | .any => "any" | .all => "all"
def bfVal : Bf → Value
  | .len => .builtin "len" | .int => .type "int" | .max2 => .builtin "max" | .min2 => .builtin "min" | .repr => .builtin "repr" | .tuple => .type "tuple" | .list _ => .type "list" | .sum => .builtin "sum" | .any => .builtin "any" | .all => .builtin "all"
theorem bf_boot : ∀ f : Bf, bootBuiltins (bfName f) = some (bfVal f)
  | .len => boot_len | .int => (by decide +kernel) | .max2 => boot_max | .min2 => boot_min | .repr => boot_repr | .tuple => (by decide +kernel) | .list _ => (show bootBuiltins "list" = some (.type "list") by decide +kernel) | .sum => boot_sum | .any => boot_any | .all => boot_all
mutual
theorem toD_nodict : ∀ (x : LV) (d : PyData), toD x = some d → d.hasDict = false
  | .non, d, h => by simp only [toD, Option.some.injEq] at h; subst h; rfl
  | .bl _, d, h => by simp only [toD, Option.some.injEq] at h; subst h; rfl
  | .int _, d, h => by simp only [toD, Option.some.injEq] at h; subst h; rfl
  | .str _, d, h => by simp only [toD, Option.some.injEq] at h; subst h; rfl
  | .tup xs, d, h => by
    simp only [toD, Option.map_eq_some_iff] at h
    obtain ⟨ds, e, rfl⟩ := h
    simp only [PyData.hasDict]
    exact toDs_nodict xs ds e
  | .lst xs, d, h => by
    simp only [toD, Option.map_eq_some_iff] at h
    obtain ⟨ds, e, rfl⟩ := h
    simp only [PyData.hasDict]
    exact toDs_nodict xs ds e
  | .ref _, _, h => by simp [toD] at h
  | .ty _, _, h => by simp [toD] at h
  | .cls _, _, h => by simp [toD] at h
theorem toDs_nodict : ∀ (x : List LV) (d : List PyData), toDs x = some d → PyData.hasDictAll d = false
  | [], d, h => by simp only [toDs, Option.some.injEq] at h; subst h; rfl
  | x :: xs, d, h => by
    simp only [toDs] at h
    split at h
    · rename_i c e
      simp only [Option.map_eq_some_iff] at h
      obtain ⟨ds, e2, rfl⟩ := h
      simp only [PyData.hasDictAll, toD_nodict x c e, toDs_nodict xs ds e2]
      rfl
    · cases h
end
theorem toDS_nodict {x : LV} {d : PyData} (h : toDS x S = some d) : d.hasDict = false := by
  unfold toDS at h
  split at h
  · split at h
    · simp only [Option.map_eq_some_iff] at h
      obtain ⟨ds, e, rfl⟩ := h
      simp only [PyData.hasDict]
      exact toDs_nodict _ ds e
    · cases h
  · exact toD_nodict _ d h
/-- repr of data -/
theorem call_reprD (hg : X.A.guards = some []) (hu : X.A.units + 66 < cLine) : CallR X (.builtin "repr") (fun xs H Q => ∃ x d, xs = [x] ∧ Dp X.K H x d ∧ d.showable = true ∧ d.hasDict = false ∧ d.depth ≤ 64 ∧ d.shown.length ≤ sizeLine ∧ Q (.str d.shown) H) := by
  rintro pins s σ H xs us Q I r ⟨x, d, rfl, hd, h1, h2, h3, h4, q⟩
  obtain ⟨u, rfl, rx⟩ := vals1 r
  obtain ⟨as, rd⟩ := Dp.reads I d x u hd rx
  have nd : d.hasDict = true → sysModules ∉ as := fun z => by rw [h2] at z; cases z
  have refCase : ∀ a, u = .ref a → wpAny (model X.prog X.w) X.A (call (.builtin "repr") [u]) (EP X pins σ Q) X.xe s := by
    rintro a rfl
    exact repr_of_reads' rd h1 nd hg (by omega) (fun _ _ e => e) (fun h' t tk hk => ⟨.str d.shown, H, I.kept (t' := tk) hk, ⟨t, rfl⟩, q⟩) h4
  cases hd with
  | non =>
    cases rx
    simp only [PyData.shown] at q
    exact PySem.P.repr_of_none ⟨.str "None", H, I.tok _, ⟨_, rfl⟩, q⟩
  | bl b =>
    cases rx
    simp only [PyData.shown] at q
    refine PySem.P.repr_of_bool ⟨.str (if b then "True" else "False"), H, I.tok _, ⟨s.toks, ?_⟩, ?_⟩
    · cases b <;> rfl
    · cases b <;> exact q
  | int i =>
    obtain ⟨t, rfl⟩ := rx
    simp only [PyData.shown] at q
    exact PySem.P.repr_of_int (by simpa [PyData.showable] using h1) ⟨.str (toString i), H, I.tok _, ⟨_, rfl⟩, q⟩
  | str y =>
    obtain ⟨t, rfl⟩ := rx
    simp only [PyData.shown] at q h4
    exact PySem.P.repr_of_str ⟨.str (reprText y), H, I.tok _, ⟨_, rfl⟩, q⟩ h4
  | lst hq hr =>
    cases rx
    exact refCase _ rfl
  | tup hq hr =>
    cases rx
    exact refCase _ rfl
theorem reps1 {x : LV} {vs : List V} (r : Reps K Z M H [x] vs) : ∃ v, vs = [v] ∧ Rep K Z M H x v := by
  simp only [Reps] at r
  obtain ⟨v, s, rfl, h, rfl⟩ := r
  exact ⟨v, rfl, h⟩
theorem reps2 {x y : LV} {vs : List V} (r : Reps K Z M H [x, y] vs) : ∃ v w, vs = [v, w] ∧ Rep K Z M H x v ∧ Rep K Z M H y w := by
  simp only [Reps] at r
  obtain ⟨v, s, rfl, h, w, t, rfl, h2, rfl⟩ := r
  exact ⟨v, w, rfl, h, h2⟩
/-- what a built-in comes to -/
theorem call_bf (hc : X.calm = true) (hg : X.A.guards = some []) (hu : X.A.units + 66 < cLine) (f : Bf) : CallR X (bfVal f) (fun vs H Q => ∃ Z W M S xs, SR X.K Z M H S ∧ Reps X.K Z M H xs vs ∧ Out X.K XR Z W M H (bcall f xs S) fun z M' H' _ => ∀ v, Rep X.K Z M' H' z v → Q v H') := by
  rintro pins s σ H vs us Q I r ⟨Z, W, M, S, xs, sr, hx, o⟩
  unfold bcall at o
  split at o
  · -- len
    rename_i x
    obtain ⟨v, rfl, hv⟩ := reps1 hx
    split at o
    · rename_i t
      split at o
      · rename_i hl
        simp only [Rep] at hv
        subst hv
        refine call_len pins s σ H _ us Q I r ⟨_, t.length, rfl, ⟨Nat.le_trans hl lim_le, rfl⟩, out_ok sr o _ (by simp only [Rep])⟩
      · exact o.elim
    · split at o
      · rename_i ys e
        obtain ⟨a, ws, rfl, f, t⟩ := items_at sr hv e
        refine call_len pins s σ H _ us Q I r ⟨_, ws.length, rfl, ?_, ?_⟩
        · rcases f with f | f
          · exact .inl ⟨ws, f, rfl⟩
          · exact .inr ⟨ws, f, rfl⟩
        · rw [← t.len]
          exact out_ok sr o _ (by simp only [Rep])
      · exact o.elim
  · -- int
    rename_i x
    obtain ⟨v, rfl, hv⟩ := reps1 hx
    split at o
    · simp only [Rep] at hv
      subst hv
      exact call_int1 pins s σ H _ us Q I r (.inl ⟨_, rfl, out_ok sr o _ (by simp only [Rep])⟩)
    · simp only [Rep] at hv
      subst hv
      exact call_int1 pins s σ H _ us Q I r (.inr ⟨_, rfl, out_ok sr o _ (by simp only [Rep])⟩)
    · exact o.elim
  · -- max
    obtain ⟨v, w, rfl, h1, h2⟩ := reps2 hx
    simp only [Rep] at h1 h2
    subst h1 h2
    exact call_max2 hc pins s σ H _ us Q I r ⟨_, _, rfl, out_ok sr o _ (by simp only [Rep])⟩
  · obtain ⟨v, w, rfl, h1, h2⟩ := reps2 hx
    simp only [Rep] at h1 h2
    subst h1 h2
    exact call_min2 hc pins s σ H _ us Q I r ⟨_, _, rfl, out_ok sr o _ (by simp only [Rep])⟩
  · -- repr
    obtain ⟨v, rfl, hv⟩ := reps1 hx
    split at o
    · rename_i d e
      split at o
      · rename_i hs
        exact call_reprD hg hu pins s σ H _ us Q I r ⟨v, d, rfl, toDS_dp sr hv e, hs.1, toDS_nodict e, hs.2.1, Nat.le_trans hs.2.2 lim_le, out_ok sr o _ (by simp only [Rep])⟩
      · exact o.elim
    · exact o.elim
  · -- tuple
    rename_i x
    obtain ⟨v, rfl, hv⟩ := reps1 hx
    split at o
    · rename_i ys e
      obtain ⟨a, ws, rfl, f, t⟩ := items_at sr hv e
      refine call_tuple_of pins s σ H _ us Q I r ⟨a, ws, rfl, ?_⟩
      rcases f with f | f
      · exact .inl ⟨f, fun l hl => o M _ (ext_new hl) (sr.new hl) _ (newt_rep sr hl t)⟩
      · refine .inr ⟨f, ?_⟩
        cases x with
        | tup zs =>
          simp only [items, Option.some.injEq] at e
          subst e
          exact out_ok sr o _ hv
        | lst zs =>
          -- a list is no tuple
          exfalso
          simp only [Rep] at hv
          obtain ⟨b, w2, e2, f2, _⟩ := hv
          cases e2
          obtain ⟨its, _, ⟨o1, n1, g1, k1, _⟩, _⟩ := I.list f2.sq
          obtain ⟨its2, _, ⟨o2, g2, k2, _⟩, _⟩ := I.tuple f
          rw [g1] at g2
          cases g2
          rw [k1] at k2
          exact absurd k2 (by decide)
        | ref n =>
          exfalso
          simp only [items] at e
          split at e
          · rename_i q
            obtain ⟨b, w2, e2, _, f2, _⟩ := sr.at_lst hv q
            cases e2
            obtain ⟨its, _, ⟨o1, n1, g1, k1, _⟩, _⟩ := I.list (SqL.of f2)
            obtain ⟨its2, _, ⟨o2, g2, k2, _⟩, _⟩ := I.tuple f
            rw [g1] at g2
            cases g2
            rw [k1] at k2
            exact absurd k2 (by decide)
          · cases e
        | _ => simp [items] at e
    · exact o.elim
  · -- list
    obtain ⟨v, rfl, hv⟩ := reps1 hx
    split at o
    · rename_i ys e
      obtain ⟨a, ws, rfl, f, t⟩ := items_at sr hv e
      exact call_list_of pins s σ H _ us Q I r ⟨a, ws, rfl, f, fun l hl => newl_fin sr hl t o⟩
    · exact o.elim
  · -- sum
    obtain ⟨v, rfl, hv⟩ := reps1 hx
    split at o
    · rename_i ns e
      simp only [Option.bind_eq_some_iff] at e
      obtain ⟨ys, e1, e2⟩ := e
      obtain ⟨a, ws, rfl, f, t⟩ := litems_at sr hv e1
      have e3 := Reps.ints e2 t
      subst e3
      exact cr_sum hc pins s σ H _ us Q I r ⟨a, ns, rfl, f, out_ok sr o _ (by simp only [Rep])⟩
    · exact o.elim
  · -- any
    obtain ⟨v, rfl, hv⟩ := reps1 hx
    split at o
    · rename_i ns e
      simp only [Option.bind_eq_some_iff] at e
      obtain ⟨ys, e1, e2⟩ := e
      obtain ⟨a, ws, rfl, f, t⟩ := litems_at sr hv e1
      have e3 := Reps.bls e2 t
      subst e3
      exact cr_any hc pins s σ H _ us Q I r ⟨a, ns, rfl, f, out_ok sr o _ (by simp only [Rep])⟩
    · exact o.elim
  · obtain ⟨v, rfl, hv⟩ := reps1 hx
    split at o
    · rename_i ns e
      simp only [Option.bind_eq_some_iff] at e
      obtain ⟨ys, e1, e2⟩ := e
      obtain ⟨a, ws, rfl, f, t⟩ := litems_at sr hv e1
      have e3 := Reps.bls e2 t
      subst e3
      exact cr_all hc pins s σ H _ us Q I r ⟨a, ns, rfl, f, out_ok sr o _ (by simp only [Rep])⟩
    · exact o.elim
  · exact o.elim
end
end LS

/-! LS: readings put together, construct by construct. -/
namespace LS
open PySem PySem.Spec PyProof.Rows L2
section
variable {X : Cx} {XR : XRep} {W : WX} {a b c : Expr} {fa fb fc : Ev → Sto → Res LV} {pos : Pos}

theorem l_var {i : Nat} {x : Str} (hN : X.N[i]? = some x) (hv : Vis X.env.scope x) (hd : (x == ("__debug__" : Str)) = false) (hcd : (x == ("__classdict__" : Str)) = false) :
    PE X (.Name x pos) (tL X.K XR W fun e S => match e[i]? with
      | some (some v) => .ok v S
      | _ => .bad) :=
  PE_w (pe_var hN hv hd hcd) fun σ H Q h => by
    obtain ⟨Z, M, e, S, er, sr, o⟩ := h
    dsimp only at o
    split at o
    · rename_i v q
      obtain ⟨w, e1, r⟩ := er.val i v q
      exact ⟨w, e1, out_ok sr o _ r⟩
    · exact o.elim
theorem l_cst {f : LV} {v : V} (h : PE X a (tC v)) (r : ∀ Z M H, Rep X.K Z M H f v) : PE X a (tL X.K XR W fun _ S => .ok f S) :=
  PE_w h fun σ H Q ⟨Z, M, e, S, er, sr, o⟩ => out_ok sr o _ (r Z M H)
/-- from a value's operation -/
theorem rV_of {f : LV → LV → Sto → Option LV} {Z M2 : List Addr} {H2 : Hp} {S2 : Sto} {x y : LV} {v w : V} {Q : VK} {Wh : Value → Option Addr → Hp → Prop} (sr : SR X.K Z M2 H2 S2) (rv : Rep X.K Z M2 H2 x v) (rw : Rep X.K Z M2 H2 y w)
    (o : Out X.K XR Z Wh M2 H2 (.ofO (f x y S2) S2) fun z M' H' _ => ∀ v, Rep X.K Z M' H' z v → Q v H') : rV X.K f v w H2 Q := by
  obtain ⟨z, hz, o⟩ := ofO_ok o
  exact ⟨Z, M2, S2, x, y, z, sr, rv, rw, hz, fun M' u H' ex s' r => o M' H' ex s' u r⟩
/-- two expressions, then an operation by values -/
theorem l_two {r : R2} {g : LV → LV → Sto → Res LV} {e' : Expr} (h : ∀ ta tb, PE X a ta → PE X b tb → PE X e' (tOp r ta tb)) (ha : PE X a (tL X.K XR W fa)) (hb : PE X b (tL X.K XR W fb))
    (k : ∀ (σ : St) (Z M : List Addr) (H : Hp) (S : Sto) (x y : LV) (v w : V) (Q : VK), SR X.K Z M H S → Rep X.K Z M H x v → Rep X.K Z M H y w → (Out X.K XR Z (fun c d H' => W c d σ H') M H (g x y S) fun z M' H' _ => ∀ v, Rep X.K Z M' H' z v → Q v H') → r v w H Q) :
    PE X e' (tL X.K XR W fun e S => (fa e S).bind fun x S1 => (fb e S1).bind fun y S2 => g x y S2) :=
  PE_w (h _ _ ha hb) fun σ H Q ⟨Z, M, e, S, er, sr, o⟩ => ⟨Z, M, e, S, er, sr, o.split.imp fun x M1 H1 S1 x1 sr1 o1 v rv =>
    ⟨Z, M1, e, S1, er.mono x1, sr1, o1.split.imp fun y M2 H2 S2 x2 sr2 o2 w rw => k σ Z M2 H2 S2 x y v w Q sr2 (rv.mono x2) rw o2⟩⟩
theorem l_bin {op : Operator} (ha : PE X a (tL X.K XR W fa)) (hb : PE X b (tL X.K XR W fb)) : PE X (.BinOp a op b pos) (tL X.K XR W fun e S => (fa e S).bind fun x S1 => (fb e S1).bind fun y S2 => .ofO (binop op x y) S2) :=
  l_two (fun _ _ => pe_op op_bin) ha hb fun _ _ _ _ _ _ _ _ _ _ sr rv rw o => rV_of (f := fun a b _ => binop op a b) sr rv rw o
theorem l_cat {m : Bool} (ha : PE X a (tL X.K XR W fa)) (hb : PE X b (tL X.K XR W fb)) : PE X (.BinOp a .Add b pos) (tL X.K XR W fun e S => (fa e S).bind fun x S1 => (fb e S1).bind fun y S2 => match litems x S2, litems y S2 with
    | some xs, some ys => if xs.length + ys.length ≤ lim then newl m (xs ++ ys) S2 else .bad
    | _, _ => .bad) :=
  l_two (g := fun x y S2 => match litems x S2, litems y S2 with
    | some xs, some ys => if xs.length + ys.length ≤ lim then newl m (xs ++ ys) S2 else .bad
    | _, _ => .bad) (fun _ _ => pe_op (op_cat (m := m))) ha hb fun σ Z M H S x y v w Q sr rv rw o => by
    split at o
    · rename_i xs ys h1 h2
      split at o
      · rename_i hl
        exact ⟨Z, M, S, x, y, xs, ys, sr, rv, rw, h1, h2, hl, fun p vs hp r => newl_fin sr hp r o⟩
      · exact o.elim
    · exact o.elim
theorem l_un {op : UnaryOp} (ha : PE X a (tL X.K XR W fa)) : PE X (.UnaryOp op a pos) (tL X.K XR W fun e S => (fa e S).bind fun x S1 => .ofO (unop op x) S1) :=
  PE_w (pe_un op_un ha) fun σ H Q ⟨Z, M, e, S, er, sr, o⟩ => ⟨Z, M, e, S, er, sr, o.split.imp fun x M1 H1 S1 x1 sr1 o1 v rv => by
    obtain ⟨z, hz, o2⟩ := ofO_ok o1
    exact ⟨Z, M1, S1, x, z, sr1, rv, hz, fun M' u H' ex s' r => o2 M' H' ex s' u r⟩⟩
theorem l_cmp {op : CmpOp} (hu : X.A.units + 64 < cLine) (ha : PE X a (tL X.K XR W fa)) (hb : PE X b (tL X.K XR W fb)) (hm : behindInMarks op b = false) : PE X (.Compare a [op] [b] pos) (tL X.K XR W fun e S => (fa e S).bind fun x S1 => (fb e S1).bind fun y S2 => .ofO ((cmpop op x y S2).map .bl) S2) :=
  l_two (fun _ _ ha hb => pe_cmpR (op_cmp hu) ha hb hm) ha hb fun _ _ _ _ _ _ _ _ _ _ sr rv rw o => rV_of (f := fun a b S => (cmpop op a b S).map .bl) sr rv rw o
theorem l_ix (ha : PE X a (tL X.K XR W fa)) (hb : PE X b (tL X.K XR W fb)) (hs : PlainIx b) : PE X (.Subscript a b pos) (tL X.K XR W fun e S => (fa e S).bind fun x S1 => (fb e S1).bind fun y S2 => .ofO (getix x y S2) S2) :=
  l_two (fun _ _ ha hb => pe_ix ix_get ha hb hs) ha hb fun _ _ _ _ _ _ _ _ _ _ sr rv rw o => rV_of (f := getix) sr rv rw o
/-- the same as a test -/
theorem l_truth (ha : PE X a (tL X.K XR W fa)) (he : ∀ whole, isTrue a X.env whole = (do let v ← whole; standAt a.pos; holding [v] (truthy v))) : PT X a (tT X.K XR W fun e S => (fa e S).bind fun x S1 => .ofO (truth x S1) S1) :=
  PT_w (pt_truth ha he) fun σ H Q ⟨Z, M, e, S, er, sr, o⟩ => ⟨Z, M, e, S, er, sr, o.split.imp fun x M1 H1 S1 x1 sr1 o1 v rv => by
    obtain ⟨k, hk, o2⟩ := ofO_ok o1
    exact ⟨k, truth_tru sr1 rv hk, out_ok sr1 o2⟩⟩
theorem rep_bl {K : PySem.W.Frag} {Z M : List Addr} {H : Hp} {v : V} {k : Bool} (r : Rep K Z M H (.bl k) v) : v = .bl k := by simpa only [Rep] using r
/-- a reading whose value is a truth value, as a test -/
theorem l_test {f : Ev → Sto → Res LV} {t : TE} (h : PT X a (tTest t)) (w : ∀ σ H Q, tL X.K XR W f σ H Q → t σ H Q) (hb : ∀ e S x S', f e S = .ok x S' → ∃ k, x = .bl k) : PT X a (tT X.K XR W fun e S => (f e S).bind fun x S1 => .ofO (truth x S1) S1) :=
  PT_w h fun σ H Q ⟨Z, M, e, S, er, sr, o⟩ => w σ H _ ⟨Z, M, e, S, er, sr, by
    have o' := o.split
    cases q : f e S with
    | bad => rw [q] at o'; exact o'
    | exc c p S' => rw [q] at o'; exact o'
    | ok x S' =>
      obtain ⟨k, rfl⟩ := hb e S x S' q
      rw [q] at o'
      intro M1 H1 x1 s1 v rv
      have o2 := o' M1 H1 x1 s1
      rw [rep_bl rv]
      exact ⟨k, rfl, out_ok s1 o2⟩⟩
theorem ofO_map_bl {o : Option Bool} {S S' : Sto} {x : LV} (h : Res.ofO (o.map LV.bl) S = .ok x S') : ∃ k, x = .bl k := by
  cases o with
  | none => cases h
  | some k => cases h; exact ⟨k, rfl⟩
theorem bind_ok {α β : Type} {r : Res α} {f : α → Sto → Res β} {y : β} {S' : Sto} (h : r.bind f = .ok y S') : ∃ x S1, r = .ok x S1 ∧ f x S1 = .ok y S' := by
  cases r with
  | bad => cases h
  | ok x S1 => exact ⟨x, S1, rfl, h⟩
  | exc c p S1 => cases h
theorem l_cmpT {op : CmpOp} (hu : X.A.units + 64 < cLine) (ha : PE X a (tL X.K XR W fa)) (hb : PE X b (tL X.K XR W fb)) (hm : behindInMarks op b = false) :
    PT X (.Compare a [op] [b] pos) (tT X.K XR W fun e S => (Res.bind (fa e S) fun x S1 => (fb e S1).bind fun y S2 => .ofO ((cmpop op x y S2).map .bl) S2).bind fun x S1 => .ofO (truth x S1) S1) :=
  l_test (f := fun e S => (fa e S).bind fun x S1 => (fb e S1).bind fun y S2 => .ofO ((cmpop op x y S2).map .bl) S2) (pt_cmpR (op_cmp hu) ha hb hm)
    (fun σ H Q ⟨Z, M, e, S, er, sr, o⟩ => ⟨Z, M, e, S, er, sr, o.split.imp fun x M1 H1 S1 x1 sr1 o1 v rv =>
      ⟨Z, M1, e, S1, er.mono x1, sr1, o1.split.imp fun y M2 H2 S2 x2 sr2 o2 w rw => rV_of (f := fun a b S => (cmpop op a b S).map .bl) sr2 (rv.mono x2) rw o2⟩⟩)
    fun e S x S' h => by
      obtain ⟨_, _, _, h⟩ := bind_ok h
      obtain ⟨_, _, _, h⟩ := bind_ok h
      exact ofO_map_bl h
/-- a op b op' c -/
def fChain (op op' : CmpOp) (fa fb fc : Ev → Sto → Res LV) (e : Ev) (S : Sto) : Res LV := (fa e S).bind fun x S1 => (fb e S1).bind fun y S2 => match cmpop op x y S2 with
  | none => .bad
  | some false => .ok (.bl false) S2
  | some true => (fc e S2).bind fun z S3 => .ofO ((cmpop op' y z S3).map .bl) S3
theorem w_chain {op op' : CmpOp} (σ H Q) (h : tL X.K XR W (fChain op op' fa fb fc) σ H Q) :
    tChain (rV X.K fun a b S => (cmpop op a b S).map .bl) (rV X.K fun a b S => (cmpop op' a b S).map .bl) (tL X.K XR W fa) (tL X.K XR W fb) (tL X.K XR W fc) σ H Q := by
  obtain ⟨Z, M, e, S, er, sr, o⟩ := h
  refine ⟨Z, M, e, S, er, sr, o.split.imp fun x M1 H1 S1 x1 sr1 o1 v rv => ⟨Z, M1, e, S1, er.mono x1, sr1, o1.split.imp fun y M2 H2 S2 x2 sr2 o2 w rw => ?_⟩⟩
  split at o2
  · exact o2.elim
  · rename_i q
    refine ⟨Z, M2, S2, x, y, .bl false, sr2, rv.mono x2, rw, by dsimp only; rw [q]; rfl, fun M3 u H3 x3 sr3 r3 => ?_⟩
    rw [rep_bl r3]
    exact ⟨false, rfl, by rw [if_neg Bool.false_ne_true]; exact o2 M3 H3 x3 sr3 _ (by simp only [Rep])⟩
  · rename_i q
    refine ⟨Z, M2, S2, x, y, .bl true, sr2, rv.mono x2, rw, by dsimp only; rw [q]; rfl, fun M3 u H3 x3 sr3 r3 => ?_⟩
    rw [rep_bl r3]
    refine ⟨true, rfl, ?_⟩
    rw [if_pos rfl]
    exact ⟨Z, M3, e, S2, ((er.mono x1).mono x2).mono x3, sr3, (o2.mono x3).split.imp fun z M4 H4 S4 x4 sr4 o4 t rt => rV_of (f := fun a b S => (cmpop op' a b S).map .bl) sr4 ((rw.mono x3).mono x4) rt o4⟩
theorem l_chain {op op' : CmpOp} (hu : X.A.units + 64 < cLine) (ha : PE X a (tL X.K XR W fa)) (hb : PE X b (tL X.K XR W fb)) (hc : PE X c (tL X.K XR W fc)) (hm : lastMarks [op, op'] [b, c] = false) : PE X (.Compare a [op, op'] [b, c] pos) (tL X.K XR W (fChain op op' fa fb fc)) :=
  PE_w (pe_chain (op_cmp hu) (op_cmp hu) ha hb hc hm) w_chain
theorem l_chainT {op op' : CmpOp} (hu : X.A.units + 64 < cLine) (ha : PE X a (tL X.K XR W fa)) (hb : PE X b (tL X.K XR W fb)) (hc : PE X c (tL X.K XR W fc)) (hm : lastMarks [op, op'] [b, c] = false) :
    PT X (.Compare a [op, op'] [b, c] pos) (tT X.K XR W fun e S => (fChain op op' fa fb fc e S).bind fun x S1 => .ofO (truth x S1) S1) :=
  l_test (pt_chain (op_cmp hu) (op_cmp hu) ha hb hc hm) w_chain fun e S x S' h => by
    obtain ⟨_, _, _, h⟩ := bind_ok h
    obtain ⟨_, _, _, h⟩ := bind_ok h
    split at h
    · cases h
    · cases h; exact ⟨_, rfl⟩
    · obtain ⟨_, _, _, h⟩ := bind_ok h
      exact ofO_map_bl h
/-- not -/
theorem l_not (ha : PE X a (tL X.K XR W fa)) : PE X (.UnaryOp .Not a pos) (tL X.K XR W fun e S => (fa e S).bind fun x S1 => .ofO ((truth x S1).map fun k => .bl (!k)) S1) :=
  PE_w (pe_notT ha) fun σ H Q ⟨Z, M, e, S, er, sr, o⟩ => ⟨Z, M, e, S, er, sr, o.split.imp fun x M1 H1 S1 x1 sr1 o1 v rv => by
    obtain ⟨z, hz, o2⟩ := ofO_ok o1
    simp only [Option.map_eq_some_iff] at hz
    obtain ⟨k, hk, rfl⟩ := hz
    exact ⟨k, truth_tru sr1 rv hk, out_ok sr1 o2 _ (by simp only [Rep])⟩⟩
theorem l_notT (ha : PT X a (tT X.K XR W fun e S => (fa e S).bind fun x S1 => .ofO (truth x S1) S1)) : PT X (.UnaryOp .Not a pos) (tT X.K XR W fun e S => (Res.bind (fa e S) fun x S1 => .ofO ((truth x S1).map fun k => .bl (!k)) S1).bind fun x S1 => .ofO (truth x S1) S1) :=
  PT_w (pt_not ha) fun σ H Q ⟨Z, M, e, S, er, sr, o⟩ => ⟨Z, M, e, S, er, sr, by
    dsimp only at o ⊢
    cases q : fa e S with
    | bad => rw [q] at o; exact o
    | exc c p S' => rw [q] at o; exact o
    | ok x S' =>
      rw [q] at o
      have o' : Out X.K XR Z (fun c d H' => W c d σ H') M H ((Res.ofO ((truth x S').map fun k => LV.bl (!k)) S').bind fun x S1 => .ofO (truth x S1) S1) fun b M' H' _ => Q b H' := o
      show Out X.K XR Z (fun c d H' => W c d σ H') M H (Res.ofO (truth x S') S') fun b M' H' _ => Q (!b) H'
      cases t : truth x S' with
      | none => rw [t] at o'; exact o'
      | some k => rw [t] at o'; exact o'⟩
/-- a if c else b -/
theorem l_ite {g : Ev → Sto → Res Bool} (hc : PT X c (tT X.K XR W g)) (ha : PE X a (tL X.K XR W fa)) (hb : PE X b (tL X.K XR W fb)) : PE X (.IfExp c a b pos) (tL X.K XR W fun e S => (g e S).bind fun k S1 => if k then fa e S1 else fb e S1) :=
  PE_w (pe_ifExp hc ha hb) fun σ H Q ⟨Z, M, e, S, er, sr, o⟩ => ⟨Z, M, e, S, er, sr, o.split.imp fun k M1 H1 S1 x1 sr1 o1 => by
    cases k with
    | true => rw [if_pos rfl] at o1 ⊢; exact ⟨Z, M1, e, S1, er.mono x1, sr1, o1⟩
    | false => rw [if_neg Bool.false_ne_true] at o1 ⊢; exact ⟨Z, M1, e, S1, er.mono x1, sr1, o1⟩⟩
/-- arguments -/
theorem l_nil : PA X [] (tA X.K XR W fun _ S => .ok [] S) := PA_w pa_nil fun σ H Q ⟨Z, M, e, S, er, sr, o⟩ => out_ok sr o _ Reps.nil
theorem l_cons {es : List Expr} {fs : Ev → Sto → Res (List LV)} (ha : PE X a (tL X.K XR W fa)) (hs : PA X es (tA X.K XR W fs)) (hst : starEach (a :: es) X.env = (false, eval a X.env) :: starEach es X.env) :
    PA X (a :: es) (tA X.K XR W fun e S => (fa e S).bind fun x S1 => (fs e S1).bind fun xs S2 => .ok (x :: xs) S2) :=
  PA_w (pa_cons ha hs hst) fun σ H Q ⟨Z, M, e, S, er, sr, o⟩ => ⟨Z, M, e, S, er, sr, o.split.imp fun x M1 H1 S1 x1 sr1 o1 v rv =>
    ⟨Z, M1, e, S1, er.mono x1, sr1, o1.split.imp fun xs M2 H2 S2 x2 sr2 o2 vs rvs => out_ok sr2 o2 _ (Reps.cons (rv.mono x2) rvs)⟩⟩
theorem l_tup {es : List Expr} {k : Nat} {fs : Ev → Sto → Res (List LV)} (hs : PA X es (tA X.K XR W fs)) (hl : ∀ e S xs S', fs e S = .ok xs S' → xs.length ≤ lim) : PE X (.Tuple es k pos) (tL X.K XR W fun e S => (fs e S).bind fun xs S1 => .ok (.tup xs) S1) :=
  PE_w (pe_tup hs) fun σ H Q ⟨Z, M, e, S, er, sr, o⟩ => ⟨Z, M, e, S, er, sr, by
    have o' := o.split
    cases q : fs e S with
    | bad => rw [q] at o'; exact o'
    | exc c p S' => rw [q] at o'; exact o'
    | ok xs S' =>
      rw [q] at o'
      intro M1 H1 x1 sr1 vs rvs
      refine ⟨by rw [← rvs.len]; exact Nat.le_trans (hl e S xs S' q) lim_le, fun p hp => ?_⟩
      exact o' M1 H1 x1 sr1 M1 _ (ext_new hp) (sr1.new hp) _ (newt_rep sr1 hp rvs)⟩
theorem l_lst {m : Bool} {es : List Expr} {fs : Ev → Sto → Res (List LV)} (hs : PA X es (tA X.K XR W fs)) (hl : ∀ e S xs S', fs e S = .ok xs S' → xs.length ≤ lim) : PE X (.List es pos) (tL X.K XR W fun e S => (fs e S).bind fun xs S1 => newl m xs S1) :=
  PE_w (pe_lst hs) fun σ H Q ⟨Z, M, e, S, er, sr, o⟩ => ⟨Z, M, e, S, er, sr, by
    have o' := o.split
    cases q : fs e S with
    | bad => rw [q] at o'; exact o'
    | exc c p S' => rw [q] at o'; exact o'
    | ok xs S' =>
      rw [q] at o'
      intro M1 H1 x1 sr1 vs rvs
      exact ⟨by rw [← rvs.len]; exact Nat.le_trans (hl e S xs S' q) lim_le, fun p hp => newl_fin sr1 hp rvs (o' M1 H1 x1 sr1)⟩⟩
/-- a part of a slice -/
def tB (K : PySem.W.Frag) (XR : XRep) (W : WX) (f : Ev → Sto → Res (Option Int)) : TO := fun σ H Q => ∃ Z M e S, ER K Z M H e σ ∧ SR K Z M H S ∧ Out K XR Z (fun c d H' => W c d σ H') M H (f e S) fun i M' H' _ => Q i H'
theorem PO_w {X : Cx} {e : Option Expr} {t t' : TO} (h : PO X e t) (f : ∀ σ H Q, t' σ H Q → t σ H Q) : PO X e t' := ⟨fun pins s σ H Q I q => h.run pins s σ H Q I (f σ H Q q)⟩
theorem l_nopart : PO X none (tB X.K XR W fun _ S => .ok none S) := PO_w po_none fun σ H Q ⟨Z, M, e, S, er, sr, o⟩ => out_ok sr o
theorem l_part (ha : PE X a (tL X.K XR W fa)) : PO X (some a) (tB X.K XR W fun e S => (fa e S).bind fun x S1 => match x with
    | .int i => .ok (some i) S1
    | _ => .bad) := PO_w (po_some ha) fun σ H Q ⟨Z, M, e, S, er, sr, o⟩ => ⟨Z, M, e, S, er, sr, o.split.imp fun x M1 H1 S1 x1 sr1 o1 v rv => by
    split at o1
    · simp only [Rep] at rv
      subst rv
      exact ⟨_, rfl, out_ok sr1 o1⟩
    · exact o1.elim⟩
theorem l_slice {m : Bool} {lo hi : Option Expr} {fl fh : Ev → Sto → Res (Option Int)} {p2 : Pos} (ha : PE X a (tL X.K XR W fa)) (hl : PO X lo (tB X.K XR W fl)) (hh : PO X hi (tB X.K XR W fh)) :
    PE X (.Subscript a (.Slice lo hi none p2) pos) (tL X.K XR W fun e S => (fa e S).bind fun x S1 => (fl e S1).bind fun l S2 => (fh e S2).bind fun h S3 => slice m x l h S3) :=
  PE_w (pe_slice sl_any ha hl hh) fun σ H Q ⟨Z, M, e, S, er, sr, o⟩ => ⟨Z, M, e, S, er, sr, o.split.imp fun x M1 H1 S1 x1 sr1 o1 v rv =>
    ⟨Z, M1, e, S1, er.mono x1, sr1, o1.split.imp fun l M2 H2 S2 x2 sr2 o2 => ⟨Z, M2, e, S2, (er.mono x1).mono x2, sr2, o2.split.imp fun h M3 H3 S3 x3 sr3 o3 => by
      refine ⟨Z, M3, S3, x, sr3, (rv.mono x2).mono x3, ?_⟩
      unfold slice at o3
      split at o3
      · rename_i xs
        exact .inl ⟨xs, rfl, fun v H' ex sr' r => o3 M3 H' ex sr' v r⟩
      · split at o3
        · rename_i xs q
          exact .inr ⟨xs, q, fun p vs hp r => newl_fin sr3 hp r o3⟩
        · exact o3.elim⟩⟩⟩
/-- built-ins -/
theorem callR_of (f : Bf) (hc : X.calm = true) (hg : X.A.guards = some []) (hu : X.A.units + 66 < cLine) {x : Str} {p : Pos} {es : List Expr} {fs : Ev → Sto → Res (List LV)} (hx : x = bfName f) (hgl : Gl X x) (hm : X.mg x = none) (hs : PA X (a :: es) (tA X.K XR W fs))
    (he : starEach (a :: es) X.env = (false, eval a X.env) :: starEach es X.env) (hpl : (backTo pos (starEach es X.env)).any (·.1) = false) :
    PE X (.Call (.Name x p) (a :: es) [] pos) (tL X.K XR W fun e S => (fs e S).bind fun xs S1 => bcall f xs S1) := by
  have hn : x ≠ "__name__" := by subst hx; cases f <;> first | decide | exact (show ("list" : Str) ≠ "__name__" by decide)
  have hd : (x == ("__debug__" : Str)) = false := by subst hx; cases f <;> first | decide | exact (show (("list" : Str) == ("__debug__" : Str)) = false by decide)
  have w : ∀ σ H Q, tL X.K XR W (fun e S => (fs e S).bind fun xs S1 => bcall f xs S1) σ H Q → tCB (fun vs H Q => ∃ Z W M S xs, SR X.K Z M H S ∧ Reps X.K Z M H xs vs ∧ Out X.K XR Z W M H (bcall f xs S) fun z M' H' _ => ∀ v, Rep X.K Z M' H' z v → Q v H') (tA X.K XR W fs) σ H Q :=
    fun σ H Q ⟨Z, M, e, S, er, sr, o⟩ => ⟨Z, M, e, S, er, sr, o.split.imp fun xs M1 H1 S1 x1 sr1 o1 vs rvs => ⟨Z, _, M1, S1, xs, sr1, rvs, o1⟩⟩
  have hb := bf_boot f
  have hcl := call_bf (XR := XR) hc hg hu f
  subst hx
  cases f with
  | int => exact PE_w (pe_callTy hcl hgl hm hb hs hn hd he hpl) w
  | tuple => exact PE_w (pe_callTy hcl hgl hm hb hs hn hd he hpl) w
  | list m => exact PE_w (pe_callTy hcl hgl hm hb hs hn hd he hpl) w
  | _ => exact PE_w (pe_callB hcl hgl hm hb hs hn hd he hpl) w
end
/-! ### isinstance -/
def isTys : List String := ["int", "bool", "str", "tuple", "list"]
theorem kit_all : ∀ t ∈ isTys, kitB "NoneType" t = some (t == "NoneType") ∧ kitB "bool" t = some (t == "bool" || t == "int") ∧ kitB "int" t = some (t == "int") ∧ kitB "str" t = some (t == "str") ∧ kitB "tuple" t = some (t == "tuple") ∧ kitB "list" t = some (t == "list") := by
  intro t ht
  simp only [isTys, List.mem_cons, List.not_mem_nil, or_false] at ht
  rcases ht with rfl | rfl | rfl | rfl | rfl <;> decide +kernel
theorem isi_at {K : PySem.W.Frag} {Z M : List Addr} {H : Hp} {S : Sto} {x : LV} {v : V} {t : String} {k : Bool} (ht : t ∈ isTys) (r : Rep K Z M H x v) (h : isinst x t S = some k) : ∃ y, TyX K H v (.type y) ∧ kitB y t = some k := by
  obtain ⟨h1, h2, h3, h4, h5, h6⟩ := kit_all t ht
  unfold isinst at h
  split at h
  · simp only [Rep] at r
    subst r
    cases h
    exact ⟨_, .base .non, h1⟩
  · simp only [Rep] at r
    subst r
    cases h
    exact ⟨_, .base (.bl _), h2⟩
  · simp only [Rep] at r
    subst r
    cases h
    exact ⟨_, .base (.int _), h3⟩
  · simp only [Rep] at r
    subst r
    cases h
    exact ⟨_, .base (.str _), h4⟩
  · simp only [Rep] at r
    obtain ⟨a, vs, rfl, f, _⟩ := r
    cases h
    refine ⟨"tuple", ?_, h5⟩
    rcases f with ⟨f | ⟨o, f⟩, _⟩ | ⟨o, its, n, f, c, _⟩
    · exact .base (.tup f)
    · exact .fTuple f
    · exact .kTuple f c
  · simp only [Rep] at r
    obtain ⟨a, vs, rfl, f, _⟩ := r
    cases h
    refine ⟨"list", ?_, h6⟩
    rcases f with ⟨f | ⟨o, f⟩, _⟩ | ⟨o, its, n, f, c, _⟩
    · exact .base (.lst f)
    · exact .base (.frz f)
    · exact .kList f c
  · cases h
section
variable {X : Cx} {XR : XRep} {W : WX} {a b c : Expr} {fa fb fc : Ev → Sto → Res LV} {pos : Pos}
theorem l_isi {t : String} {p p2 : Pos} (hg : Gl X "isinstance") (hm : X.mg "isinstance" = none) (ht : t ∈ isTys) (hg2 : Gl X (Str.ofString t)) (hm2 : X.mg (Str.ofString t) = none) (ha : PE X a (tL X.K XR W fa))
    (hst : starEach [a, .Name (Str.ofString t) p2] X.env = (false, eval a X.env) :: starEach [.Name (Str.ofString t) p2] X.env) :
    PE X (.Call (.Name "isinstance" p) [a, .Name (Str.ofString t) p2] [] pos) (tL X.K XR W fun e S => (fa e S).bind fun x S1 => .ofO ((isinst x t S1).map .bl) S1) := by
  have hb : bootBuiltins (Str.ofString t) = some (.type t) := by
    simp only [isTys, List.mem_cons, List.not_mem_nil, or_false] at ht
    rcases ht with rfl | rfl | rfl | rfl | rfl <;> decide +kernel
  have hn : Str.ofString t ≠ "__name__" := by
    simp only [isTys, List.mem_cons, List.not_mem_nil, or_false] at ht
    rcases ht with rfl | rfl | rfl | rfl | rfl <;> decide +kernel
  have hd : (Str.ofString t == ("__debug__" : Str)) = false := by
    simp only [isTys, List.mem_cons, List.not_mem_nil, or_false] at ht
    rcases ht with rfl | rfl | rfl | rfl | rfl <;> decide +kernel
  refine PE_w (pe_callB call_isi hg hm boot_isinstance (pa_cons ha (pa_cons (pe_bltn (v := .ty t) hg2 hm2 hb rfl hn hd) pa_nil rfl) hst) (by decide) (by decide) hst rfl) fun σ H Q h => ?_
  obtain ⟨Z, M, e, S, er, sr, o⟩ := h
  refine ⟨Z, M, e, S, er, sr, o.split.imp fun x M1 H1 S1 x1 sr1 o1 v rv => ?_⟩
  obtain ⟨z, hz, o2⟩ := ofO_ok o1
  simp only [Option.map_eq_some_iff] at hz
  obtain ⟨k, hk, rfl⟩ := hz
  obtain ⟨y, ty, e2⟩ := isi_at ht rv hk
  exact ⟨v, .ty t, .type y, .type t, k, rfl, .ty t, ty, kit_ty e2, out_ok sr1 o2 _ (by simp only [Rep])⟩
end
end LS

/-! LS: what is walked, targets, loops, comprehensions. -/
namespace LS
open PySem PySem.Spec PyProof.Rows L2
/-! ### targets -/
section
variable {X : Cx} {XR : XRep}
/-- several names -/
def gNs : List Nat → TGs
  | [] => gNil
  | i :: r => gCons (gName i) (gNs r)
theorem wipe_get {σ : St} {i : Nat} : ∀ {vs : List Nat}, (wipe σ vs)[i]? = if i ∈ vs then (σ[i]?).map (fun _ => none) else σ[i]?
  | [] => by simp [wipe]
  | v :: vs => by
    have ih := wipe_get (σ := σ) (i := i) (vs := vs)
    unfold wipe
    by_cases h : v = i
    · subst h
      by_cases hl : v < σ.length
      · rw [List.getElem?_set_self (by rw [wipe_length]; exact hl), if_pos List.mem_cons_self, List.getElem?_eq_getElem hl]
        rfl
      · rw [List.getElem?_eq_none (by rw [List.length_set, wipe_length]; omega), if_pos List.mem_cons_self, List.getElem?_eq_none (by omega)]
        rfl
    · rw [List.getElem?_set_ne h, ih]
      have : (i ∈ v :: vs) = (i ∈ vs) := by simp [Ne.symm h]
      simp only [this]
theorem wipe_set {σ : St} {i : Nat} {x : Option V} {vs : List Nat} (h : i ∈ vs) : wipe (σ.set i x) vs = wipe σ vs := by
  apply List.ext_getElem?
  intro j
  rw [wipe_get, wipe_get]
  by_cases hj : j ∈ vs
  · rw [if_pos hj, if_pos hj]
    by_cases e : i = j
    · subst e
      by_cases hl : i < σ.length
      · rw [List.getElem?_set_self hl, List.getElem?_eq_getElem hl]
        rfl
      · rw [List.getElem?_eq_none (by simp; omega), List.getElem?_eq_none (by omega)]
    · rw [List.getElem?_set_ne e]
  · rw [if_neg hj, if_neg hj, List.getElem?_set_ne (fun e => hj (by rw [← e]; exact h))]
theorem wipe_wipe {σ : St} {vs : List Nat} : wipe (wipe σ vs) vs = wipe σ vs := by
  apply List.ext_getElem?
  intro j
  rw [wipe_get, wipe_get]
  by_cases hj : j ∈ vs
  · rw [if_pos hj, if_pos hj]
    cases σ[j]? <;> rfl
  · rw [if_neg hj, if_neg hj]
theorem gNs_w {K : PySem.W.Frag} {Z M : List Addr} {H : Hp} {Q : St → Hp → Prop} : ∀ {is : List Nat} {xs : List LV} {vs : List V} {e : Ev} {σ : St}, ER K Z M H e σ → Reps K Z M H xs vs → xs.length = is.length →
    (∀ σ', ER K Z M H ((is.zip xs).foldl (fun e p => e.set p.1 (some p.2)) e) σ' → (∀ vs : List Nat, (∀ i ∈ is, i ∈ vs) → wipe σ' vs = wipe σ vs) → Q σ' H) → gNs is vs σ H Q
  | [], xs, vs, e, σ, er, r, hl, q => by
    have : xs = [] := List.length_eq_zero_iff.mp hl
    subst this
    simp only [Reps] at r
    subst r
    exact ⟨rfl, q σ er fun _ _ => rfl⟩
  | i :: is, [], _, _, _, _, _, hl, _ => by simp at hl
  | i :: is, x :: xs, vs, e, σ, er, r, hl, q => by
    simp only [Reps] at r
    obtain ⟨v, s, rfl, h1, h2⟩ := r
    exact ⟨v, s, rfl, gNs_w (er.set h1) h2 (by simpa using hl) fun σ' e' w => q σ' e' fun vs hv => by
      rw [w vs fun j hj => hv j (List.mem_cons_of_mem _ hj), wipe_set (hv i List.mem_cons_self)]⟩
/-- a target's reading -/
def gT (K : PySem.W.Frag) : LT → TG
  | .nm i => gName i
  | .tup is => gTup K is.length (gNs is)
def slots : LT → List Nat
  | .nm i => [i]
  | .tup is => is
theorem gT_w {K : PySem.W.Frag} {Z M : List Addr} {H : Hp} {Q : St → Hp → Prop} {t : LT} {x : LV} {v : V} {e e1 : Ev} {σ : St} (er : ER K Z M H e σ) (r : Rep K Z M H x v) (h : setT t x e = some e1)
    (q : ∀ σ', ER K Z M H e1 σ' → (∀ vs : List Nat, (∀ i ∈ slots t, i ∈ vs) → wipe σ' vs = wipe σ vs) → Q σ' H) : gT K t v σ H Q := by
  unfold setT at h
  split at h
  · cases h
    exact q _ (er.set r) fun vs hv => wipe_set (hv _ (by simp [slots]))
  · rename_i is xs _
    split at h
    · rename_i hl
      cases h
      simp only [Rep] at r
      obtain ⟨a, vs, rfl, f, r⟩ := r
      exact ⟨a, vs, rfl, f.sq, by rw [← r.len]; exact hl, gNs_w er r hl q⟩
    · cases h
  · cases h
/-- how a target's code is looked at -/
structure SX where
  sc : Scope
  N : List Str
  fp : Str → Bool
def ckN (c : SX) (i : Nat) (x : Str) : Bool := decide (c.N[i]? = some x) && (decide (c.sc.names.lookup x = some .local) || (decide (c.sc.names.lookup x = some .cell) && c.fp x))
def ckNs (c : SX) : List Nat → List Expr → Bool
  | [], [] => true
  | i :: is, .Name x _ :: es => ckN c i x && ckNs c is es
  | _, _ => false
def ckT (c : SX) : LT → Expr → Bool
  | .nm i, .Name x _ => ckN c i x
  | .tup is, .Tuple es _ _ => ckNs c is es
  | _, _ => false
structure Look (c : SX) (X : Cx) : Prop where
  sc : X.env.scope = c.sc
  N : X.N = c.N
  fp : X.fn = c.fp
  nd : X.N.Nodup
theorem ckN_pg {c : SX} {i : Nat} {x : Str} {p : Pos} (l : L2.Cx → Prop) (L : Look c X) (h : ckN c i x = true) : PG X (.Name x p) (gName i) := by
  unfold ckN at h
  simp only [Bool.and_eq_true, Bool.or_eq_true, decide_eq_true_eq] at h
  obtain ⟨h1, h2⟩ := h
  rw [← L.N] at h1
  rw [← L.sc] at h2
  rcases h2 with h2 | ⟨h2, h3⟩
  · exact pg_name L.nd h1 (.inl h2) (.inr h2)
  · exact pg_name L.nd h1 (.inr h2) (.inl (by rw [L.fp]; exact h3))
theorem ckNs_pg {c : SX} (L : Look c X) : ∀ {is : List Nat} {es : List Expr}, ckNs c is es = true → PGs X es (gNs is) ∧ (assignEach es X.env).length = is.length ∧ (assignEach es X.env).findIdx? (·.1) = none
  | [], [], _ => ⟨pgs_nil, rfl, rfl⟩
  | i :: is, .Name x p :: es, h => by
    simp only [ckNs, Bool.and_eq_true] at h
    obtain ⟨h1, h2, h3⟩ := ckNs_pg L (is := is) (es := es) h.2
    have e : assignEach (.Name x p :: es) X.env = (false, assign (.Name x p) X.env) :: assignEach es X.env := rfl
    refine ⟨pgs_cons (ckN_pg (fun _ => True) L h.1) h1 rfl, by rw [e, List.length_cons, List.length_cons, h2], ?_⟩
    rw [e, List.findIdx?_cons]
    simp [h3]
  | [], _ :: _, h => by simp [ckNs] at h
  | _ :: _, [], h => by simp [ckNs] at h
  | i :: is, .BoolOp .. :: es, h => by simp [ckNs] at h
  | i :: is, .NamedExpr .. :: es, h => by simp [ckNs] at h
  | i :: is, .BinOp .. :: es, h => by simp [ckNs] at h
  | i :: is, .UnaryOp .. :: es, h => by simp [ckNs] at h
  | i :: is, .Lambda .. :: es, h => by simp [ckNs] at h
  | i :: is, .IfExp .. :: es, h => by simp [ckNs] at h
  | i :: is, .Dict .. :: es, h => by simp [ckNs] at h
  | i :: is, .Set .. :: es, h => by simp [ckNs] at h
  | i :: is, .ListComp .. :: es, h => by simp [ckNs] at h
  | i :: is, .SetComp .. :: es, h => by simp [ckNs] at h
  | i :: is, .DictComp .. :: es, h => by simp [ckNs] at h
  | i :: is, .GeneratorExp .. :: es, h => by simp [ckNs] at h
  | i :: is, .Await .. :: es, h => by simp [ckNs] at h
  | i :: is, .Yield .. :: es, h => by simp [ckNs] at h
  | i :: is, .YieldFrom .. :: es, h => by simp [ckNs] at h
  | i :: is, .Compare .. :: es, h => by simp [ckNs] at h
  | i :: is, .Call .. :: es, h => by simp [ckNs] at h
  | i :: is, .FormattedValue .. :: es, h => by simp [ckNs] at h
  | i :: is, .JoinedStr .. :: es, h => by simp [ckNs] at h
  | i :: is, .Constant .. :: es, h => by simp [ckNs] at h
  | i :: is, .Attribute .. :: es, h => by simp [ckNs] at h
  | i :: is, .Subscript .. :: es, h => by simp [ckNs] at h
  | i :: is, .Starred .. :: es, h => by simp [ckNs] at h
  | i :: is, .List .. :: es, h => by simp [ckNs] at h
  | i :: is, .Tuple .. :: es, h => by simp [ckNs] at h
  | i :: is, .Slice .. :: es, h => by simp [ckNs] at h
theorem ckT_pg {c : SX} {t : LT} {e : Expr} (hc : X.calm = true) (L : Look c X) (h : ckT c t e = true) : PG X e (gT X.K t) := by
  unfold ckT at h
  split at h
  · exact ckN_pg (fun _ => True) L h
  · obtain ⟨h1, h2, h3⟩ := ckNs_pg L h
    exact pg_tup hc h1 h2 h3
  · cases h
end

/-! ### what is walked -/
/-- the iterator J goes over the items -/
def Goes (K : PySem.W.Frag) (Z M : List Addr) (H : Hp) (w : Wk) (J : It) : Prop := ∀ Z' M' H' S', (∀ a ∈ Z', a ∈ Z ∨ H a = none) → Ext M H M' H' → SR K Z' M' H' S' → Held w.held S' →
  (∀ (i : Nat) x, w.xs[i]? = some x → J.go i H' ∧ ∀ v H2, J.yld i H' v H2 → Ext M' H' M' H2 ∧ SR K Z' M' H2 S' ∧ Rep K Z' M' H2 x v) ∧ J.stop w.xs.length H'
def tI (K : PySem.W.Frag) (XR : XRep) (W : WX) (f : Ev → Sto → Res Wk) : TI := fun σ H R => ∃ Z M e S, ER K Z M H e σ ∧ SR K Z M H S ∧ Out K XR Z (fun c d H' => W c d σ H') M H (f e S) fun w M' H' S' => ∀ J, Goes K Z M' H' w J → R J H'
section
variable {X : Cx} {XR : XRep} {W : WX} {a b : Expr} {fa fb : Ev → Sto → Res LV} {tg : Expr} {pos : Pos}
/-- a value that is a list or a tuple, walked -/
theorem pi_seq {l : Expr} {tl : TE} (hl : PE X l tl) : PI X tg l (fun σ H R => tl σ H fun x H1 => ∃ a, x = .ref a ∧ ((∃ xs, SqL X.K H1 a xs ∧ R (Itl X.K a) H1) ∨ ∃ xs, SqT X.K H1 a xs ∧ R (Itt X.K a) H1)) := by
  refine ⟨fun pins s σ H R I h => thn (hl.run pins s σ H _ I h) ?_⟩
  rintro v s1 ⟨x, H1, I1, r1, a, rfl, q⟩
  cases r1
  have fresh : ∀ b ∈ [s1.heap.objs.size], FpOk X pins H1 b := fun b hb => by
    obtain rfl : b = s1.heap.objs.size := by simpa using hb
    exact I1.fpOk (Nat.le_refl _) (I1.hok.fresh (Nat.le_refl _))
  rcases q with ⟨xs, hq, q⟩ | ⟨xs, hq, q⟩
  · obtain ⟨its, rv, p, hz⟩ := I1.list hq
    exact wpAny_pyIter_list p.isList ⟨s1.heap.objs.size, [s1.heap.objs.size], _, _, H1, rfl,
      I1.kept (t' := s1.toks) (fun b o e => Heap.get?_push_of_some _ e), turn_list a _, ⟨_, Heap.get?_push_size _ rfl, rfl, rfl⟩, fresh, q⟩
  · obtain ⟨its, rv, p, hz⟩ := I1.tuple hq
    exact wpAny_pyIter_tuple (show s1.heap.IsTuple a its.toArray from p) ⟨s1.heap.objs.size, [s1.heap.objs.size], _, _, H1, rfl,
      I1.kept (t' := s1.toks) (fun b o e => Heap.get?_push_of_some _ e), turn_tuple a _, ⟨_, Heap.get?_push_size _ rfl, rfl, rfl⟩, fresh, q⟩
theorem sqL_keep {K : PySem.W.Frag} {Z M M' : List Addr} {H H' : Hp} {a : Addr} {vs : List V} (x : Ext M H M' H') (h : FzL K Z M H a vs) : SqL K H' a vs := (h.mono x).sq
theorem sqT_keep {K : PySem.W.Frag} {Z M M' : List Addr} {H H' : Hp} {a : Addr} {vs : List V} (x : Ext M H M' H') (h : FzT K Z M H a vs) : SqT K H' a vs := (h.mono x).sq
/-- how a walked thing lies, at any time -/
def Lies (K : PySem.W.Frag) (Z : List Addr) (a : Addr) (xs : List LV) (tup : Bool) (M : List Addr) (H : Hp) : Prop := ∃ vs, (if tup then SqT K H a vs else SqL K H a vs) ∧ Reps K Z M H xs vs
theorem wk_lies {K : PySem.W.Frag} {Z M : List Addr} {H : Hp} {S : Sto} {x : LV} {v : V} {w : Wk} (sr : SR K Z M H S) (r : Rep K Z M H x v) (h : wkOf x S = some w) :
    ∃ a, v = .ref a ∧ Held w.held S ∧ ∀ Z' M' H' S', (∀ a ∈ Z', a ∈ Z ∨ H a = none) → Ext M H M' H' → SR K Z' M' H' S' → Held w.held S' → Lies K Z' a w.xs (isTupV x) M' H' := by
  unfold wkOf at h
  split at h
  · cases h
    simp only [Rep] at r
    obtain ⟨a, vs, rfl, f, r⟩ := r
    exact ⟨a, rfl, fun p hp => by simp at hp, fun Z' M' H' S' hz ex sr' hh => ⟨vs, sqT_keep ex f, r.ext ex hz⟩⟩
  · cases h
    simp only [Rep] at r
    obtain ⟨a, vs, rfl, f, r⟩ := r
    exact ⟨a, rfl, fun p hp => by simp at hp, fun Z' M' H' S' hz ex sr' hh => ⟨vs, sqL_keep ex f, r.ext ex hz⟩⟩
  · rename_i n
    split at h
    · rename_i xs q
      cases h
      simp only [Rep] at r
      obtain ⟨a, e, rfl⟩ := r
      refine ⟨a, rfl, fun p hp => ?_, fun Z' M' H' S' hz ex sr' hh => ?_⟩
      · simp at hp
        subst hp
        exact q
      · obtain ⟨vs, e1, r1⟩ := sr'.obj n a _ (ex.get e) (hh (n, .lst xs) (by simp))
        exact ⟨vs, SqL.of e1, r1⟩
    · cases h
  · cases h
theorem l_seq (ha : PE X a (tL X.K XR W fa)) : PI X tg a (tI X.K XR W fun e S => (fa e S).bind fun x S1 => .ofO (wkOf x S1) S1) :=
  PI_w (pi_seq ha) fun σ H R ⟨Z, M, e, S, er, sr, o⟩ => ⟨Z, M, e, S, er, sr, o.split.imp fun x M1 H1 S1 x1 sr1 o1 v rv => by
    obtain ⟨w, hw, o2⟩ := ofO_ok o1
    obtain ⟨p, rfl, hh, ls⟩ := wk_lies sr1 rv hw
    refine ⟨p, rfl, ?_⟩
    have q := out_ok sr1 o2
    obtain ⟨vs, f, _⟩ := ls Z M1 H1 S1 (fun _ h => .inl h) Ext.refl sr1 hh
    cases ht : isTupV x with
    | true =>
      rw [ht] at f ls
      refine .inr ⟨vs, f, q _ fun Z' M' H' S' hz ex sr' hh' => ?_⟩
      obtain ⟨us, g, r⟩ := ls Z' M' H' S' hz ex sr' hh'
      refine ⟨fun i y hy => ?_, ⟨us, g, by rw [r.len]; exact Nat.le_refl _⟩⟩
      obtain ⟨u, e1, r1⟩ := r.get hy
      exact ⟨⟨us, u, g, e1⟩, fun v H2 ⟨e2, e3⟩ => by
        subst e2
        have : us[i]? = some v := e3 us g
        rw [e1] at this
        cases this
        exact ⟨Ext.refl, sr', r1⟩⟩
    | false =>
      rw [ht] at f ls
      refine .inl ⟨vs, f, q _ fun Z' M' H' S' hz ex sr' hh' => ?_⟩
      obtain ⟨us, g, r⟩ := ls Z' M' H' S' hz ex sr' hh'
      refine ⟨fun i y hy => ?_, ⟨us, g, by rw [r.len]; exact Nat.le_refl _⟩⟩
      obtain ⟨u, e1, r1⟩ := r.get hy
      exact ⟨⟨us, u, g, e1⟩, fun v H2 ⟨e2, e3⟩ => by
        subst e2
        have : us[i]? = some v := e3 us g
        rw [e1] at this
        cases this
        exact ⟨Ext.refl, sr', r1⟩⟩⟩
theorem rng_goes {K : PySem.W.Frag} {Z M : List Addr} {H : Hp} {lo : Int} {n : Nat} : Goes K Z M H ⟨rng lo n, []⟩ (Itr lo n) := fun Z' M' H' S' hz ex sr' hh => by
  refine ⟨fun i x hx => ?_, by show n ≤ (rng lo n).length; simp [rng]⟩
  simp only [rng, List.getElem?_map, Option.map_eq_some_iff] at hx
  obtain ⟨k, hk, rfl⟩ := hx
  obtain ⟨hl, e⟩ := List.getElem?_eq_some_iff.mp hk
  simp at hl e
  subst e
  exact ⟨hl, fun v H2 ⟨e2, e3⟩ => by
    subst e2 e3
    exact ⟨Ext.refl, sr', by simp only [Rep]⟩⟩
theorem okR_iff {i : Int} (h : okR i = true) : -(2 ^ 62) ≤ i ∧ i < 2 ^ 62 := by
  unfold okR at h
  simpa using h
theorem l_rng1 {p : Pos} (hg : Gl X "range") (hm : X.mg "range" = none) (ha : PE X a (tL X.K XR W fa)) (hs : starEach [a] X.env = [(false, eval a X.env)]) :
    PI X tg (.Call (.Name "range" p) [a] [] pos) (tI X.K XR W fun e S => (fa e S).bind fun x S1 => match x with
      | .int j => if okR j then .ok ⟨rng 0 j.toNat, []⟩ S1 else .bad
      | _ => .bad) :=
  PI_w (pi_range1 hg hm (pa_cons ha pa_nil hs) hs) fun σ H R ⟨Z, M, e, S, er, sr, o⟩ => ⟨Z, M, e, S, er, sr, o.split.imp fun x M1 H1 S1 x1 sr1 o1 v rv => by
    split at o1
    · split at o1
      · rename_i j hj
        simp only [Rep] at rv
        subst rv
        obtain ⟨h1, h2⟩ := okR_iff hj
        exact ⟨j, rfl, h1, h2, out_ok sr1 o1 _ rng_goes⟩
      · exact o1.elim
    · exact o1.elim⟩
theorem l_rng2 {p : Pos} (hg : Gl X "range") (hm : X.mg "range" = none) (ha : PE X a (tL X.K XR W fa)) (hb : PE X b (tL X.K XR W fb)) (hs : starEach [a, b] X.env = [(false, eval a X.env), (false, eval b X.env)]) (hs2 : starEach [b] X.env = [(false, eval b X.env)]) :
    PI X tg (.Call (.Name "range" p) [a, b] [] pos) (tI X.K XR W fun e S => (fa e S).bind fun x S1 => (fb e S1).bind fun y S2 => match x, y with
      | .int i, .int j => if okR i && okR j then .ok ⟨rng i (j - i).toNat, []⟩ S2 else .bad
      | _, _ => .bad) :=
  PI_w (pi_range2 hg hm (pa_cons ha (pa_cons hb pa_nil hs2) (by rw [hs, hs2])) hs hs2) fun σ H R ⟨Z, M, e, S, er, sr, o⟩ => ⟨Z, M, e, S, er, sr, o.split.imp fun x M1 H1 S1 x1 sr1 o1 v rv =>
    ⟨Z, M1, e, S1, er.mono x1, sr1, o1.split.imp fun y M2 H2 S2 x2 sr2 o2 w rw => by
      have rv2 := rv.mono x2
      split at o2
      · split at o2
        · rename_i i j hj
          simp only [Rep] at rv2 rw
          subst rv2 rw
          simp only [Bool.and_eq_true] at hj
          obtain ⟨h1, h2⟩ := okR_iff hj.1
          obtain ⟨h3, h4⟩ := okR_iff hj.2
          exact ⟨i, j, rfl, ⟨h1, h2, h3, h4⟩, out_ok sr2 o2 _ rng_goes⟩
        · exact o2.elim
      · exact o2.elim⟩⟩
theorem zip2_get : ∀ {xs ys : List LV} {i : Nat} {z : LV}, (zip2 xs ys)[i]? = some z → ∃ x y, xs[i]? = some x ∧ ys[i]? = some y ∧ z = .tup [x, y]
  | [], _, _, _, h => by simp [zip2] at h
  | _ :: _, [], _, _, h => by simp [zip2] at h
  | x :: xs, y :: ys, 0, z, h => by
    simp [zip2] at h
    exact ⟨x, y, rfl, rfl, h.symm⟩
  | x :: xs, y :: ys, i + 1, z, h => by
    obtain ⟨a, b, h1, h2, h3⟩ := zip2_get (xs := xs) (ys := ys) (i := i) (z := z) (by simpa [zip2] using h)
    exact ⟨a, b, by simpa using h1, by simpa using h2, h3⟩
theorem zip2_len : ∀ (xs ys : List LV), (zip2 xs ys).length = min xs.length ys.length
  | [], _ => by simp [zip2]
  | _ :: _, [] => by simp [zip2]
  | x :: xs, y :: ys => by
    simp only [zip2, List.length_cons, zip2_len xs ys]
    omega
theorem l_zip {p tpos : Pos} {elts : List Expr} {kk : Nat} (hg : Gl X "zip") (hm : X.mg "zip" = none) (ha : PE X a (tL X.K XR W fa)) (hb : PE X b (tL X.K XR W fb)) (hs : starEach [a, b] X.env = (false, eval a X.env) :: starEach [b] X.env) (hs2 : starEach [b] X.env = [(false, eval b X.env)]) :
    PI X (.Tuple elts kk tpos) (.Call (.Name "zip" p) [a, b] [] pos) (tI X.K XR W fun e S => (fa e S).bind fun x S1 => (fb e S1).bind fun y S2 => match wkOf x S2, wkOf y S2 with
      | some v, some w => if isTupV x == isTupV y then .ok ⟨zip2 v.xs w.xs, v.held ++ w.held⟩ S2 else .bad
      | _, _ => .bad) :=
  PI_w (RZ.pi_zipA hg hm (pa_cons ha (pa_cons hb pa_nil hs2) hs) hs (by rw [hs2]; rfl)) fun σ H R ⟨Z, M, e, S, er, sr, o⟩ => ⟨Z, M, e, S, er, sr, o.split.imp fun x M1 H1 S1 x1 sr1 o1 v rv =>
    ⟨Z, M1, e, S1, er.mono x1, sr1, o1.split.imp fun y M2 H2 S2 x2 sr2 o2 w rw => by
      have rv2 := rv.mono x2
      split at o2
      · rename_i k1 k2 e1 e2
        split at o2
        · rename_i ht
          obtain ⟨p1, rfl, hh1, ls1⟩ := wk_lies sr2 rv2 e1
          obtain ⟨p2, rfl, hh2, ls2⟩ := wk_lies sr2 rw e2
          have ht' : isTupV x = isTupV y := by simpa using ht
          rw [← ht'] at ls2
          have q := out_ok sr2 o2
          obtain ⟨vs, f1, r1⟩ := ls1 Z M2 H2 S2 (fun _ h => .inl h) Ext.refl sr2 hh1
          obtain ⟨ws, f2, r2⟩ := ls2 Z M2 H2 S2 (fun _ h => .inl h) Ext.refl sr2 hh2
          refine ⟨p1, p2, vs, ws, rfl, ?_⟩
          have new : ∀ (Z' M' : List Addr) (H' : Hp) (S' : Sto) (T : Addr) (xv yv : LV) (u u' : V), SR X.K Z' M' H' S' → H' T = none → Rep X.K Z' M' H' xv u → Rep X.K Z' M' H' yv u' → Ext M' H' M' (upd H' T (.tup [u, u'])) ∧ SR X.K Z' M' (upd H' T (.tup [u, u'])) S' ∧ Rep X.K Z' M' (upd H' T (.tup [u, u'])) (.tup [xv, yv]) (.ref T) :=
            fun Z' M' H' S' T xv yv u u' sr' hT hu hu' => ⟨ext_new hT, sr'.new hT, newt_rep sr' hT (Reps.cons hu (Reps.cons hu' Reps.nil))⟩
          have held : ∀ S', Held (k1.held ++ k2.held) S' → Held k1.held S' ∧ Held k2.held S' := fun S' h => ⟨fun p hp => h p (List.mem_append_left _ hp), fun p hp => h p (List.mem_append_right _ hp)⟩
          cases hx : isTupV x with
          | true =>
            rw [hx] at f1 f2 ls1 ls2
            refine .inr ⟨f1, f2, q _ fun Z' M' H' S' hz ex sr' hh' => ?_⟩
            obtain ⟨us, g1, s1⟩ := ls1 Z' M' H' S' hz ex sr' (held S' hh').1
            obtain ⟨ts, g2, s2⟩ := ls2 Z' M' H' S' hz ex sr' (held S' hh').2
            refine ⟨fun i z hz => ?_, ⟨us, ts, g1, g2, ?_⟩⟩
            · obtain ⟨xv, yv, h1, h2, rfl⟩ := zip2_get hz
              obtain ⟨u, c1, d1⟩ := s1.get h1
              obtain ⟨u', c2, d2⟩ := s2.get h2
              refine ⟨⟨us, ts, u, u', g1, g2, c1, c2⟩, ?_⟩
              rintro v H3 ⟨T, q1, q2, rfl, hT, rfl, z1, z2⟩
              have z1' := z1 us g1
              have z2' := z2 ts g2
              rw [c1] at z1'
              rw [c2] at z2'
              cases z1'
              cases z2'
              exact new Z' M' H' S' T xv yv _ _ sr' hT d1 d2
            · rw [zip2_len, s1.len, s2.len]
              omega
          | false =>
            rw [hx] at f1 f2 ls1 ls2
            refine .inl ⟨f1, f2, q _ fun Z' M' H' S' hz ex sr' hh' => ?_⟩
            obtain ⟨us, g1, s1⟩ := ls1 Z' M' H' S' hz ex sr' (held S' hh').1
            obtain ⟨ts, g2, s2⟩ := ls2 Z' M' H' S' hz ex sr' (held S' hh').2
            refine ⟨fun i z hz => ?_, ⟨us, ts, g1, g2, ?_⟩⟩
            · obtain ⟨xv, yv, h1, h2, rfl⟩ := zip2_get hz
              obtain ⟨u, c1, d1⟩ := s1.get h1
              obtain ⟨u', c2, d2⟩ := s2.get h2
              refine ⟨⟨us, ts, u, u', g1, g2, c1, c2⟩, ?_⟩
              rintro v H3 ⟨T, q1, q2, rfl, hT, rfl, z1, z2⟩
              have z1' := z1 us g1
              have z2' := z2 ts g2
              rw [c1] at z1'
              rw [c2] at z2'
              cases z1'
              cases z2'
              exact new Z' M' H' S' T xv yv _ _ sr' hT d1 d2
            · rw [zip2_len, s1.len, s2.len]
              omega
        · exact o2.elim
      · exact o2.elim⟩⟩
end

/-! ### for -/
section
variable {X : Cx} {XR : XRep} {W : WX} {pos : Pos}
theorem goIf_out {α : Type} {p : Prop} {r b : α} {P : α → Prop} (h : P (goIf p r b)) (nb : ¬ P b) : p ∧ P r := by
  unfold goIf at h
  split at h
  · exact ⟨by assumption, h⟩
  · exact (nb h).elim
theorem out_goIf {α : Type} {K : PySem.W.Frag} {Z M : List Addr} {H : Hp} {Wh : Value → Option Addr → Hp → Prop} {p : Prop} {r : Res α} {k : α → List Addr → Hp → Sto → Prop} (h : Out K XR Z Wh M H (goIf p r .bad) k) : p ∧ Out K XR Z Wh M H r k :=
  goIf_out (P := fun r => Out K XR Z Wh M H r k) h (fun z => z)
theorem outS_goIf {K : PySem.W.Frag} {Z M : List Addr} {H : Hp} {p : Prop} {r : Fl} {D : Ends} (h : OutS K XR Z W M H (goIf p r .bad) D) : p ∧ OutS K XR Z W M H r D :=
  goIf_out (P := fun r => OutS K XR Z W M H r D) h (fun z => z)
theorem drop_at {α : Type} {xs : List α} {i : Nat} {x : α} {r : List α} (h : xs.drop i = x :: r) : xs[i]? = some x ∧ xs.drop (i + 1) = r := by
  have h1 : (xs.drop i)[0]? = some x := by rw [h]; rfl
  rw [List.getElem?_drop, Nat.add_zero] at h1
  refine ⟨h1, ?_⟩
  have h2 : (xs.drop i).drop 1 = r := by rw [h]; rfl
  rw [List.drop_drop] at h2
  exact h2
theorem l_for {tg iter : Expr} {body : List Stmt} {t : LT} {fi : Ev → Sto → Res Wk} {fb : Ev → Sto → Fl} (hp : PassesOwn (model X.prog X.w) X.A X.env X.xe) (hc : X.calm = true) (hi : PI X tg iter (tI X.K XR W fi)) (hg : PG X tg (gT X.K t)) (hb : PSs X body (tS X.K XR W fb))
    (hs : ∀ x, foldedSetIterable iter X.env x = pure x) : PS X (.For tg iter body [] pos) (tS X.K XR W fun e S => (fi e S).fl e fun w S1 => forL fb t w.held w.xs e S1) := by
  refine PS_w (ps_for hp hc hi hg hb hs) fun D σ H h => ?_
  obtain ⟨Z, M, e, S, er, sr, o⟩ := h
  refine ⟨Z, M, e, S, er, sr, (OutS.split er o).imp fun w M1 H1 S1 x1 sr1 o1 J gj => ?_⟩
  refine ⟨fun i m σ' H' => ∃ M' e' S', m = w.xs.length - i ∧ i ≤ w.xs.length ∧ Ext M1 H1 M' H' ∧ SR X.K Z M' H' S' ∧ ER X.K Z M' H' e' σ' ∧ OutS X.K XR Z W M' H' (forL fb t w.held (w.xs.drop i) e' S') D,
    ⟨_, M1, e, S1, rfl, Nat.zero_le _, Ext.refl, sr1, er.mono x1, o1⟩, ?_⟩
  rintro i m σ' H' ⟨M', e', S', rfl, hi, ex, sr', er', o'⟩
  cases hd : w.xs.drop i with
  | nil =>
    have hl : i = w.xs.length := by
      have : (w.xs.drop i).length = 0 := by rw [hd]; rfl
      rw [List.length_drop] at this
      omega
    rw [hd] at o'
    unfold forL at o'
    obtain ⟨hh, o'⟩ := outS_goIf o'
    have g := (gj Z M' H' S' (fun _ h => .inl h) ex sr' hh).2
    rw [← hl] at g
    exact .inl ⟨g, o' M' H' σ' Ext.refl sr' er'⟩
  | cons x r =>
    obtain ⟨hx, hr⟩ := drop_at hd
    rw [hd] at o'
    unfold forL at o'
    obtain ⟨hh, o'⟩ := outS_goIf o'
    obtain ⟨g1, g2⟩ := (gj Z M' H' S' (fun _ h => .inl h) ex sr' hh).1 i x hx
    have hi2 : i < w.xs.length := (List.getElem?_eq_some_iff.mp hx).1
    refine .inr ⟨g1, fun σ2 H2 => ∃ M2 e2 S2, Ext M1 H1 M2 H2 ∧ SR X.K Z M2 H2 S2 ∧ ER X.K Z M2 H2 e2 σ2 ∧ OutS X.K XR Z W M2 H2 (forL fb t w.held (w.xs.drop (i + 1)) e2 S2) D, fun σ2 H2 ⟨M2, e2, S2, a1, a2, a3, a4⟩ =>
      ⟨w.xs.length - (i + 1), by omega, M2, e2, S2, rfl, hi2, a1, a2, a3, a4⟩, fun v H2 hy => ?_⟩
    obtain ⟨y1, y2, y3⟩ := g2 v H2 hy
    split at o'
    · exact o'.elim
    · rename_i e1 he1
      refine gT_w (er'.mono y1) y3 he1 fun σ2 er2 _ => ⟨Z, M', e1, S', er2, y2, ?_⟩
      have o2 := OutS.mono y1 o'
      cases q : fb e1 S' with
      | bad => rw [q] at o2; exact o2
      | nxt e3 S3 =>
        rw [q] at o2
        intro M3 H3 σ3 x3 s3 r3
        exact ⟨M3, e3, S3, ex.trans (y1.trans x3), s3, r3, by rw [hr]; exact OutS.mono x3 o2⟩
      | cnt e3 S3 =>
        rw [q] at o2
        intro M3 H3 σ3 x3 s3 r3
        exact ⟨M3, e3, S3, ex.trans (y1.trans x3), s3, r3, by rw [hr]; exact OutS.mono x3 o2⟩
      | brk e3 S3 => rw [q] at o2; exact o2
      | ret v3 S3 => rw [q] at o2; exact o2
      | exc c p e3 S3 => rw [q] at o2; exact o2
theorem l_whl {n : Nat} {c : Expr} {body : List Stmt} {fc : Ev → Sto → Res Bool} {fb : Ev → Sto → Fl} (hp : PassesOwn (model X.prog X.w) X.A X.env X.xe) (hc : PT X c (tT X.K XR W fc)) (hb : PSs X body (tS X.K XR W fb)) :
    PS X (.While c body [] pos) (tS X.K XR W fun e S => whlL fc fb n e S) := by
  refine PS_w (ps_while hp hc hb) fun D σ H h => ?_
  obtain ⟨Z, M, e, S, er, sr, o⟩ := h
  refine ⟨fun m σ' H' => ∃ M' e' S', SR X.K Z M' H' S' ∧ ER X.K Z M' H' e' σ' ∧ OutS X.K XR Z W M' H' (whlL fc fb m e' S') D, ⟨n, M, e, S, sr, er, o⟩, ?_⟩
  rintro m σ' H' ⟨M', e', S', sr', er', o'⟩
  cases m with
  | zero => exact o'.elim
  | succ m =>
    unfold whlL at o'
    refine ⟨Z, M', e', S', er', sr', (OutS.split er' o').imp fun k M1 H1 S1 x1 sr1 o1 => ?_⟩
    cases k with
    | false =>
      rw [if_neg Bool.false_ne_true]
      exact o1 M1 H1 σ' Ext.refl sr1 (er'.mono x1)
    | true =>
      rw [if_pos rfl]
      refine ⟨fun σ2 H2 => ∃ M2 e2 S2, SR X.K Z M2 H2 S2 ∧ ER X.K Z M2 H2 e2 σ2 ∧ OutS X.K XR Z W M2 H2 (whlL fc fb m e2 S2) D, fun σ2 H2 ⟨M2, e2, S2, a⟩ => ⟨m, Nat.lt_succ_self _, M2, e2, S2, a⟩, Z, M1, e', S1, er'.mono x1, sr1, ?_⟩
      have o2 : OutS X.K XR Z W M1 H1 (match fb e' S1 with
        | .nxt e2 S2 => whlL fc fb m e2 S2
        | .cnt e2 S2 => whlL fc fb m e2 S2
        | .brk e2 S2 => .nxt e2 S2
        | o => o) D := o1
      cases q : fb e' S1 with
      | bad => rw [q] at o2; exact o2
      | nxt e3 S3 =>
        rw [q] at o2
        intro M3 H3 σ3 x3 s3 r3
        exact ⟨M3, e3, S3, s3, r3, OutS.mono x3 o2⟩
      | cnt e3 S3 =>
        rw [q] at o2
        intro M3 H3 σ3 x3 s3 r3
        exact ⟨M3, e3, S3, s3, r3, OutS.mono x3 o2⟩
      | brk e3 S3 => rw [q] at o2; exact o2
      | ret v3 S3 => rw [q] at o2; exact o2
      | exc c p e3 S3 => rw [q] at o2; exact o2
end
end LS

/-! LS: comprehensions, stores, calls. -/
namespace LS
open PySem PySem.Spec PyProof.Rows L2
section
variable {K : PySem.W.Frag} {Z Z' M M' : List Addr} {H H' : Hp} {S : Sto}
theorem RepO.gen {a : Addr} {o : LO} (h : ∀ a u, Rd H a u → a ∉ M → a ∉ Z → Rd H' a u ∧ a ∉ M' ∧ a ∉ Z') (hm : ∀ (n : Nat) a, M[n]? = some a → M'[n]? = some a) (e : H' a = H a) (q : RepO K Z M H o a) : RepO K Z' M' H' o a := by
  cases o with
  | lst xs =>
    obtain ⟨vs, e1, r1⟩ := q
    exact ⟨vs, by rw [e]; exact e1, Reps.gen h hm _ _ r1⟩
  | ins _ _ => exact q.elim
theorem SR.re (h : ∀ a u, Rd H a u → a ∉ M → a ∉ Z → Rd H' a u ∧ a ∉ M ∧ a ∉ Z') (hM : ∀ a ∈ M, H' a = H a) (hd : ∀ a ∈ Z', a ∉ M ∧ ∃ o, H' a = some o) (r : SR K Z M H S) : SR K Z' M H' S :=
  ⟨r.len, r.nd, fun n a o h1 h2 => (r.obj n a o h1 h2).gen h (fun _ _ e => e) (hM a (List.mem_of_getElem? h1)), hd⟩
theorem ER.ext {e : Ev} {σ : St} (x : Ext M H M' H') (hz : ∀ a ∈ Z', a ∈ Z ∨ H a = none) (r : ER K Z M H e σ) : ER K Z' M' H' e σ := ⟨r.len, fun i x1 q => by
  obtain ⟨v, e1, r1⟩ := r.val i x1 q
  exact ⟨v, e1, r1.ext x hz⟩⟩
theorem rd_ne {a D : Addr} {u : HO} (h : Rd H a u) (n : H D = none) : a ≠ D := by
  rintro rfl
  rcases h with h | ⟨o, h⟩ <;> (rw [n] at h; cases h)
theorem rd_upd {a D : Addr} {u o : HO} (h : Rd H a u) (n : a ≠ D) : Rd (upd H D o) a u := by
  rcases h with h | ⟨w, h⟩
  · exact .inl (by rw [upd_ne n]; exact h)
  · exact .inr ⟨w, by rw [upd_ne n]; exact h⟩
theorem re_touch {D : Addr} {o : HO} : ∀ a u, Rd H a u → a ∉ M → a ∉ D :: Z → Rd (upd H D o) a u ∧ a ∉ M ∧ a ∉ D :: Z := fun a u h hm hz =>
  ⟨rd_upd h fun e => hz (by rw [e]; exact List.mem_cons_self), hm, hz⟩
theorem re_show {D : Addr} : ∀ a u, Rd H a u → a ∉ M → a ∉ D :: Z → Rd H a u ∧ a ∉ M ∧ a ∉ Z := fun a u h hm hz => ⟨h, hm, fun z => hz (List.mem_cons_of_mem _ z)⟩
theorem SR.hide {D : Addr} {vs : List V} (r : SR K Z M H S) (n : H D = none) : SR K (D :: Z) M (upd H D (.lst vs)) S := by
  have nm : D ∉ M := fun z => by
    obtain ⟨ws, e⟩ := r.tracked z
    rw [n] at e
    cases e
  refine r.re (fun a u h hm hz => ?_) (fun a ha => upd_ne fun e => nm (e ▸ ha)) fun a ha => ?_
  · have hn := rd_ne h n
    exact ⟨rd_upd h hn, hm, by simp only [List.mem_cons, not_or]; exact ⟨hn, hz⟩⟩
  · rcases List.mem_cons.mp ha with rfl | ha
    · exact ⟨nm, _, upd_same⟩
    · obtain ⟨h1, o, h2⟩ := r.hid a ha
      exact ⟨h1, o, by rw [upd_ne (ne_of_none h2 n)]; exact h2⟩
theorem SR.touch {D : Addr} {vs : List V} (r : SR K (D :: Z) M H S) : SR K (D :: Z) M (upd H D (.lst vs)) S := by
  have nm : D ∉ M := (r.hid D List.mem_cons_self).1
  refine r.re re_touch (fun a ha => upd_ne fun e => nm (e ▸ ha)) fun a ha => ?_
  obtain ⟨h1, o, h2⟩ := r.hid a ha
  by_cases e : a = D
  · subst e
    exact ⟨h1, _, upd_same⟩
  · exact ⟨h1, o, by rw [upd_ne e]; exact h2⟩
theorem SR.unhide {D : Addr} (r : SR K (D :: Z) M H S) : SR K Z M H S := r.re re_show (fun _ _ => rfl) fun a ha => r.hid a (List.mem_cons_of_mem _ ha)
theorem ER.wipe {e : Ev} {σ : St} (r : ER K Z M H e σ) : ∀ vs : List Nat, ER K Z M H (wipeE vs e) (L2.wipe σ vs)
  | [] => r
  | v :: vs => (ER.wipe r vs).unset
/-- a hidden list joins the store -/
theorem SR.join {D : Addr} {acc : List LV} {vs : List V} (r : SR K (D :: Z) M H S) (hD : H D = some (.lst vs)) (ra : Reps K (D :: Z) M H acc vs) (nZ : D ∉ Z) : SR K Z (M ++ [D]) H (S ++ [.lst acc]) := by
  have nM : D ∉ M := (r.hid D List.mem_cons_self).1
  have g : ∀ a u, Rd H a u → a ∉ M → a ∉ D :: Z → Rd H a u ∧ a ∉ M ++ [D] ∧ a ∉ Z := fun a u h hm hz => by
    simp only [List.mem_cons, not_or] at hz
    exact ⟨h, by simp only [List.mem_append, List.mem_cons, List.not_mem_nil, or_false, not_or]; exact ⟨hm, hz.1⟩, hz.2⟩
  have gm : ∀ (n : Nat) a, M[n]? = some a → (M ++ [D])[n]? = some a := fun n a e => by
    rw [List.getElem?_append_left (List.getElem?_eq_some_iff.mp e).1]
    exact e
  refine ⟨by simp [r.len], ?_, fun n a u h1 h2 => ?_, fun a ha => ?_⟩
  · rw [List.nodup_append]
    refine ⟨r.nd, by simp, fun a ha b hb e => ?_⟩
    simp at hb
    subst hb e
    exact nM ha
  · by_cases hn : n < M.length
    · rw [List.getElem?_append_left hn] at h1
      rw [List.getElem?_append_left (by rw [← r.len]; exact hn)] at h2
      exact (r.obj n a u h1 h2).gen g gm rfl
    · have hn2 : n = M.length := by
        have := (List.getElem?_eq_some_iff.mp h1).1
        simp at this
        omega
      subst hn2
      rw [List.getElem?_append_right (Nat.le_refl _)] at h1
      rw [r.len, List.getElem?_append_right (Nat.le_refl _)] at h2
      simp at h1 h2
      subst h1 h2
      exact ⟨vs, hD, Reps.gen g gm _ _ ra⟩
  · obtain ⟨h1, h2⟩ := r.hid a (List.mem_cons_of_mem _ ha)
    refine ⟨fun z => ?_, h2⟩
    rcases List.mem_append.mp z with z | z
    · exact h1 z
    · obtain rfl : a = D := by simpa using z
      exact nZ ha
end

section
variable {X : Cx} {XR : XRep} {W : WX} {pos : Pos}
abbrev WF : WX := fun _ _ _ _ => False
noncomputable def fLc (m : Bool) (own : List Nat) (t : LT) (fi : Ev → Sto → Res Wk) (fc : Ev → Sto → Res Bool) (fe : Ev → Sto → Res LV) (e : Ev) (S : Sto) : Res LV :=
  (fi e S).bind fun w S1 => (lcL fc fe t own e w.held w.xs [] S1).bind fun xs S2 => newl m xs S2
theorem bind_bad {α β γ : Type} (f : α → Sto → Res β) (g : β → Sto → Res γ) : Res.bind (Res.bind (Res.bad : Res α) f) g = .bad := rfl
/-- one turn's outcome -/
theorem lc_turn {m : Bool} {own : List Nat} {t : LT} {fc : Ev → Sto → Res Bool} {fe : Ev → Sto → Res LV} {e : Ev} {hl : List (Nat × LO)} {x : LV} {r acc : List LV} {S' : Sto} {P : Res LV → Prop} (nb : ¬ P .bad)
    (h : P ((lcL fc fe t own e hl (x :: r) acc S').bind fun xs S2 => newl m xs S2)) :
    Held hl S' ∧ ∃ e1, setT t x (wipeE own e) = some e1 ∧ ∃ b S3, fc e1 S' = .ok b S3 ∧ ((b = false ∧ P ((lcL fc fe t own e hl r acc S3).bind fun xs S2 => newl m xs S2)) ∨
      (b = true ∧ ∃ y S4, fe e1 S3 = .ok y S4 ∧ acc.length < lim ∧ P ((lcL fc fe t own e hl r (acc ++ [y]) S4).bind fun xs S2 => newl m xs S2))) := by
  unfold lcL goIf at h
  split at h
  · rename_i hh
    refine ⟨hh, ?_⟩
    split at h
    · exact (nb h).elim
    · rename_i e1 he1
      refine ⟨e1, he1, ?_⟩
      cases q : fc e1 S' with
      | bad => rw [q] at h; exact (nb h).elim
      | exc c p S3 => rw [q] at h; exact (nb h).elim
      | ok b S3 =>
        rw [q] at h
        refine ⟨b, S3, rfl, ?_⟩
        cases b with
        | false => exact .inl ⟨rfl, h⟩
        | true =>
          refine .inr ⟨rfl, ?_⟩
          cases q2 : fe e1 S3 with
          | bad =>
            have h' : P (((noX (fe e1 S3)).bind fun y S2 => if acc.length < lim then lcL fc fe t own e hl r (acc ++ [y]) S2 else .bad).bind fun xs S2 => newl m xs S2) := h
            rw [q2] at h'
            exact (nb h').elim
          | exc c p S4 =>
            have h' : P (((noX (fe e1 S3)).bind fun y S2 => if acc.length < lim then lcL fc fe t own e hl r (acc ++ [y]) S2 else .bad).bind fun xs S2 => newl m xs S2) := h
            rw [q2] at h'
            exact (nb h').elim
          | ok y S4 =>
            have h' : P (((noX (fe e1 S3)).bind fun y S2 => if acc.length < lim then lcL fc fe t own e hl r (acc ++ [y]) S2 else .bad).bind fun xs S2 => newl m xs S2) := h
            rw [q2] at h'
            have h2 : P ((if acc.length < lim then lcL fc fe t own e hl r (acc ++ [y]) S4 else .bad).bind fun xs S2 => newl m xs S2) := h'
            split at h2
            · rename_i hlt
              exact ⟨y, S4, rfl, hlt, h2⟩
            · exact (nb h2).elim
  · exact (nb h).elim
theorem w_lc {m : Bool} {own : List Nat} {t : LT} {fi : Ev → Sto → Res Wk} {fc : Ev → Sto → Res Bool} {fe : Ev → Sto → Res LV} (hin : ∀ i ∈ slots t, i ∈ own) (σ : St) (H : Hp) (Q : VK) (h : tL X.K XR W (fLc m own t fi fc fe) σ H Q) :
    tLc (tI X.K XR W fi) (gT X.K t) (tT X.K XR WF fc) (tL X.K XR WF fe) own σ H Q := by
  obtain ⟨Z, M, e, S, er, sr, o⟩ := h
  refine ⟨Z, M, e, S, er, sr, (Out.split o).imp fun w M1 H1 S1 x1 sr1 o1 J gj D hD => ?_⟩
  have er1 := er.mono x1
  have hz : ∀ a ∈ D :: Z, a ∈ Z ∨ H1 a = none := fun a ha => (List.mem_cons.mp ha).elim (fun e => .inr (by rw [e]; exact hD)) .inl
  have nZ : D ∉ Z := fun z => by
    obtain ⟨_, u, e⟩ := sr1.hid D z
    rw [hD] at e
    cases e
  refine ⟨fun i k H' => k = w.xs.length - i ∧ i ≤ w.xs.length ∧ ∃ M' S' acc vs, Ext M1 H1 M' H' ∧ SR X.K (D :: Z) M' H' S' ∧ H' D = some (.lst vs) ∧ Reps X.K (D :: Z) M' H' acc vs ∧
      Out X.K XR Z (fun c d H' => W c d σ H') M1 H1 ((lcL fc fe t own e w.held (w.xs.drop i) acc S').bind fun xs S2 => newl m xs S2) fun x M' H' _ => ∀ v, Rep X.K Z M' H' x v → Q v H',
    ⟨_, rfl, Nat.zero_le _, M1, S1, [], [], ext_new hD, sr1.hide hD, upd_same, Reps.nil, o1⟩, ?_⟩
  rintro i k H' ⟨rfl, hi, M', S', acc, vs, ex, sr', hD', ra, o'⟩
  have gj' := gj (D :: Z) M' H' S' hz ex sr'
  cases hd : w.xs.drop i with
  | nil =>
    have hl : i = w.xs.length := by
      have : (w.xs.drop i).length = 0 := by rw [hd]; rfl
      rw [List.length_drop] at this
      omega
    rw [hd] at o'
    unfold lcL goIf at o'
    split at o'
    · rename_i hh
      have g := (gj' hh).2
      rw [← hl] at g
      refine .inl ⟨g, ?_⟩
      have nM : D ∉ M' := (sr'.hid D List.mem_cons_self).1
      cases m with
      | false =>
        refine o' M' H' ex sr'.unhide _ ?_
        simp only [Rep]
        exact ⟨D, vs, rfl, .inl ⟨.inl hD', nM, nZ⟩, Reps.gen re_show (fun _ _ e => e) _ _ ra⟩
      | true =>
        obtain ⟨ee, eM, hee⟩ := ex.more
        have ex2 : Ext M1 H1 (M' ++ [D]) H' := ⟨⟨ee ++ [D], by rw [eM, List.append_assoc], fun a ha => (List.mem_append.mp ha).elim (hee a) fun z => by
          obtain rfl : a = D := by simpa using z
          exact hD⟩, ex.keep, ex.there⟩
        refine o' _ H' ex2 (sr'.join hD' ra nZ) (.ref D) ?_
        simp only [Rep]
        exact ⟨D, by rw [← sr'.len, List.getElem?_append_right (Nat.le_refl _)]; simp, rfl⟩
    · exact o'.elim
  | cons x r =>
    obtain ⟨hx, hr⟩ := drop_at hd
    rw [hd] at o'
    obtain ⟨hh, e1, he1, b, S3, hb, ho⟩ := lc_turn (P := fun z => Out X.K XR Z (fun c d H' => W c d σ H') M1 H1 z fun x M' H' _ => ∀ v, Rep X.K Z M' H' x v → Q v H') (fun z => z) o'
    obtain ⟨g1, g2⟩ := (gj' hh).1 i x hx
    have hi2 : i < w.xs.length := (List.getElem?_eq_some_iff.mp hx).1
    refine .inr ⟨g1, fun H2 => ∃ M2 S2 acc2 vs2, Ext M1 H1 M2 H2 ∧ SR X.K (D :: Z) M2 H2 S2 ∧ H2 D = some (.lst vs2) ∧ Reps X.K (D :: Z) M2 H2 acc2 vs2 ∧
        Out X.K XR Z (fun c d H' => W c d σ H') M1 H1 ((lcL fc fe t own e w.held (w.xs.drop (i + 1)) acc2 S2).bind fun xs S2 => newl m xs S2) (fun x M' H' _ => ∀ v, Rep X.K Z M' H' x v → Q v H'),
      fun H2 ⟨M2, S2, acc2, vs2, a⟩ => ⟨w.xs.length - (i + 1), by omega, rfl, hi2, M2, S2, acc2, vs2, a⟩, fun v H2 hy => ?_⟩
    obtain ⟨y1, y2, y3⟩ := g2 v H2 hy
    have nM : D ∉ M' := (sr'.hid D List.mem_cons_self).1
    have er2 : ER X.K (D :: Z) M' H2 (wipeE own e) (wipe σ own) := ER.wipe (er1.ext (ex.trans y1) hz) own
    refine gT_w er2 y3 he1 fun σ2 er3 hw => ⟨by rw [hw own hin, wipe_wipe], D :: Z, M', e1, S', er3, y2, ?_⟩
    rw [hb]
    intro M3 H3 x3 sr3
    have hD3 : H3 D = some (.lst vs) := x3.keep _ _ (y1.keep _ _ hD' nM) nM
    rcases ho with ⟨rfl, ho⟩ | ⟨rfl, y, S4, he, hlt, ho⟩
    · dsimp only
      rw [if_neg Bool.false_ne_true]
      exact ⟨M3, S3, acc, vs, ex.trans (y1.trans x3), sr3, hD3, (ra.mono y1).mono x3, by rw [hr]; exact ho⟩
    · dsimp only
      rw [if_pos rfl]
      refine ⟨D :: Z, M3, e1, S3, er3.mono x3, sr3, ?_⟩
      rw [he]
      intro M4 H4 x4 sr4 u ru
      have nM3 : D ∉ M3 := (sr3.hid D List.mem_cons_self).1
      have nM4 : D ∉ M4 := (sr4.hid D List.mem_cons_self).1
      have ra4 := ((ra.mono y1).mono x3).mono x4
      refine ⟨vs, x4.keep _ _ hD3 nM3, ?_, ?_⟩
      · rw [← ra.len]
        exact Nat.lt_of_lt_of_le hlt lim_le
      · have exA := ex.trans (y1.trans (x3.trans x4))
        refine ⟨M4, S4, acc ++ [y], vs ++ [u], ⟨exA.more, fun a o h hm => ?_, fun a o h => ?_⟩, sr4.touch, upd_same, Reps.gen re_touch (fun _ _ e => e) _ _ (ra4.app (Reps.cons ru Reps.nil)), by rw [hr]; exact ho⟩
        · rw [upd_ne (ne_of_none h hD)]
          exact exA.keep a o h hm
        · obtain ⟨o', q⟩ := exA.there a o h
          exact ⟨o', by rw [upd_ne (ne_of_none h hD)]; exact q⟩
/-- what stands before a comprehension may be built -/
structure LcOk (X : Cx) (XR : XRep) (elt tg iter : Expr) (ifs : List Expr) (scope : Scope) (W : WX) (own : List Nat) (t : LT) (fi : Ev → Sto → Res Wk) (fc : Ev → Sto → Res Bool) (fe : Ev → Sto → Res LV) : Prop where
  hc : X.calm = true
  hN : X.N.Nodup
  hi : PI X tg iter (tI X.K XR W fi)
  ok : ∃ on : List (Str × Nat), BlkOk X.N X.env.scope scope on ∧ on.map (·.2) = own
  hg : ∀ (s : Shared) (H : Hp) (C : Addr) (cl : List (Str × Addr)) (fp : List Addr), PG (X.blk s H scope (compEnvC scope cl C X.env) fp) tg (gT X.K t)
  ht : ∀ (s : Shared) (H : Hp) (C : Addr) (cl : List (Str × Addr)) (fp : List Addr), PTs (X.blk s H scope (compEnvC scope cl C X.env) fp) ifs (tT X.K XR WF fc)
  he : ∀ (s : Shared) (H : Hp) (C : Addr) (cl : List (Str × Addr)) (fp : List Addr), PE (X.blk s H scope (compEnvC scope cl C X.env) fp) elt (tL X.K XR WF fe)
  hs : ∀ x, foldedSetIterable iter X.env x = pure x
  hin : ∀ i ∈ slots t, i ∈ own
theorem l_lc {m : Bool} {elt tg iter : Expr} {ifs : List Expr} {scope : Scope} {own : List Nat} {t : LT} {fi : Ev → Sto → Res Wk} {fc : Ev → Sto → Res Bool} {fe : Ev → Sto → Res LV} (c : LcOk X XR elt tg iter ifs scope W own t fi fc fe) :
    PE X (.ListComp elt [⟨tg, iter, ifs, 0⟩] scope pos) (tL X.K XR W (fLc m own t fi fc fe)) := by
  obtain ⟨on, ok, rfl⟩ := c.ok
  exact PE_w (pe_lc c.hc c.hN c.hi ok c.hg c.ht c.he c.hs) (w_lc c.hin)
/-- name = [..] -/
theorem l_setLc {m : Bool} {i : Nat} {y : Str} {py : Pos} {elt tg iter : Expr} {ifs : List Expr} {scope : Scope} {own : List Nat} {t : LT} {fi : Ev → Sto → Res Wk} {fc : Ev → Sto → Res Bool} {fe : Ev → Sto → Res LV} {lpos : Pos} (c : LcOk X XR elt tg iter ifs scope W own t fi fc fe)
    (hy : X.N[i]? = some y) (hyl : X.env.scope.names.lookup y = some .local) (hsw : swapsWith (.ListComp elt [⟨tg, iter, ifs, 0⟩] scope lpos) (some (.Name y py)) pos.line X.env = pure true) :
    PS X (.Assign [.Name y py] (.ListComp elt [⟨tg, iter, ifs, 0⟩] scope lpos) pos) (tS X.K XR W fun e S => (fLc m own t fi fc fe e S).fl e fun v S1 => .nxt (e.set i (some v)) S1) := by
  obtain ⟨on, ok, rfl⟩ := c.ok
  refine PS_w (ps_setLc c.hc c.hN hy hyl hsw c.hi ok c.hg c.ht c.he c.hs) fun D σ H h => ?_
  obtain ⟨Z, M, e, S, er, sr, o⟩ := h
  exact w_lc (m := m) c.hin σ H _ ⟨Z, M, e, S, er, sr, (OutS.split er o).imp fun a M1 H1 S1 x1 sr1 o1 v rv => o1 M1 H1 _ Ext.refl sr1 ((er.mono x1).set rv)⟩

/-! ### assignments -/
theorem l_asg {tg a : Expr} {t : LT} {fa : Ev → Sto → Res LV} (ha : PE X a (tL X.K XR W fa)) (hg : PG X tg (gT X.K t)) (hs : swapsWithSole [tg] a pos.line X.env = pure false) (hw : swappedStores [tg] a X.env = pure none) (h1 : (assignEach [tg] X.env).map (·.2) = [assign tg X.env]) :
    PS X (.Assign [tg] a pos) (tS X.K XR W fun e S => (fa e S).fl e fun v S1 => stp t v e S1) := by
  refine PS_w (ps_asg ha hg hs hw h1) fun D σ H h => ?_
  obtain ⟨Z, M, e, S, er, sr, o⟩ := h
  refine ⟨Z, M, e, S, er, sr, (OutS.split er o).imp fun a M1 H1 S1 x1 sr1 o1 v rv => ?_⟩
  unfold stp at o1
  split at o1
  · rename_i e1 he
    exact gT_w (er.mono x1) rv he fun σ' er' _ => o1 M1 H1 σ' Ext.refl sr1 er'
  · exact o1.elim
theorem l_set {i : Nat} {x : Str} {a : Expr} {fa : Ev → Sto → Res LV} {p : Pos} (hN : X.N.Nodup) (hi : X.N[i]? = some x) (hx : (X.env.scope.names.lookup x = some .local) ∨ (X.env.scope.names.lookup x = some .cell ∧ X.fn x = true)) (ha : PE X a (tL X.K XR W fa)) (hs : swapsWith a (some (.Name x p)) pos.line X.env = pure false) :
    PS X (.Assign [.Name x p] a pos) (tS X.K XR W fun e S => (fa e S).fl e fun v S1 => .nxt (e.set i (some v)) S1) := by
  refine PS_w (ps_set hN hi (hx.elim .inl fun h => .inr h.1) ha hs (hx.elim .inr fun h => .inl h.2)) fun D σ H h => ?_
  obtain ⟨Z, M, e, S, er, sr, o⟩ := h
  exact ⟨Z, M, e, S, er, sr, (OutS.split er o).imp fun a M1 H1 S1 x1 sr1 o1 v rv => o1 M1 H1 _ Ext.refl sr1 ((er.mono x1).set rv)⟩
theorem l_setx {a o i : Expr} {fa fo fi : Ev → Sto → Res LV} {p : Pos} (ha : PE X a (tL X.K XR W fa)) (ho : PE X o (tL X.K XR W fo)) (hi : PE X i (tL X.K XR W fi)) (hi' : ∀ v, assign (.Subscript o i p) X.env v = (do
      let ov ← holding [v] (eval o X.env)
      let iv ← holding [v, ov] (eval i X.env)
      standAt p
      holding [v, ov, iv] (setItem ov iv v)
      release [v, ov, iv] [])) (hs : swapsWithSole [.Subscript o i p] a pos.line X.env = pure false) :
    PS X (.Assign [.Subscript o i p] a pos) (tS X.K XR W fun e S => (fa e S).fl e fun v S1 => (fo e S1).fl e fun x S2 => (fi e S2).fl e fun j S3 => stx x j v e S3) := by
  refine PS_w (ps_asg ha (pg_sub ho hi set_list hi') hs rfl rfl) fun D σ H h => ?_
  obtain ⟨Z, M, e, S, er, sr, q⟩ := h
  refine ⟨Z, M, e, S, er, sr, (OutS.split er q).imp fun y M1 H1 S1 x1 sr1 o1 v rv => ?_⟩
  have er1 := er.mono x1
  refine ⟨Z, M1, e, S1, er1, sr1, (OutS.split er1 o1).imp fun x M2 H2 S2 x2 sr2 o2 w rw => ?_⟩
  have er2 := er1.mono x2
  refine ⟨Z, M2, e, S2, er2, sr2, (OutS.split er2 o2).imp fun j M3 H3 S3 x3 sr3 o3 u ru => ?_⟩
  unfold stx at o3
  split at o3
  · rename_i S4 hset
    unfold setix at hset
    split at hset
    · rename_i n k
      split at hset
      · rename_i xs hn
        simp only [Option.map_eq_some_iff] at hset
        obtain ⟨jj, hj, rfl⟩ := hset
        obtain ⟨p, vs, rfl, hM, hp, rs⟩ := sr3.at_lst (rw.mono x3) hn
        simp only [Rep] at ru
        subst ru
        refine ⟨p, vs, k, jj, rfl, rfl, hp, by rw [← rs.len]; exact hj, ?_⟩
        exact o3 M3 _ σ (ext_set (List.mem_of_getElem? hM)) (sr3.set hM (Reps.set ((rv.mono x2).mono x3) jj rs)) ((er2.mono x3).mono (ext_set (List.mem_of_getElem? hM)))
      · cases hset
    · cases hset
  · exact o3.elim
theorem fl_bind {α β : Type} {r : Res α} {f : α → Sto → Res β} {e : Ev} {g : β → Sto → Fl} : (r.bind f).fl e g = r.fl e fun a S => (f a S).fl e g := by
  cases r <;> rfl
/-- a, b = x, y -/
theorem l_par {i j : Nat} {x y : Str} {a b : Expr} {fs : Ev → Sto → Res (List LV)} {px py pt pt2 : Pos} {kt k2 : Nat} (hc : X.calm = true) (hN : X.N.Nodup) (hi : X.N[i]? = some x) (hj : X.N[j]? = some y) (hij : i ≠ j)
    (hx : X.env.scope.names.lookup x = some .local) (hy : X.env.scope.names.lookup y = some .local) (hs : PA X [a, b] (tA X.K XR W fs)) (hw : swappedStores [.Tuple [.Name x px, .Name y py] kt pt] (.Tuple [a, b] k2 pt2) X.env = pure (some [x, y])) :
    PS X (.Assign [.Tuple [.Name x px, .Name y py] kt pt] (.Tuple [a, b] k2 pt2) pos) (tS X.K XR W fun e S => (Res.bind (fs e S) fun xs S1 => .ok (.tup xs) S1).fl e fun v S1 => stp (.tup [i, j]) v e S1) := by
  refine PS_w (ps_par hc hN hi hj hij hx hy hs hw) fun D σ H h => ?_
  obtain ⟨Z, M, e, S, er, sr, o⟩ := h
  dsimp only at o
  rw [fl_bind] at o
  refine ⟨Z, M, e, S, er, sr, (OutS.split er o).imp fun xs M1 H1 S1 x1 sr1 o1 vs rvs => ?_⟩
  have o2 : OutS X.K XR Z W M1 H1 (stp (.tup [i, j]) (.tup xs) e S1) D := o1
  simp only [stp, setT] at o2
  split at o2
  · rename_i e1 he
    split at he
    · rename_i hl
      cases he
      obtain ⟨u, v, rfl⟩ : ∃ u v, xs = [u, v] := by
        match xs, hl with
        | [u, v], _ => exact ⟨u, v, rfl⟩
      obtain ⟨p, q, rfl, h1, h2⟩ := reps2 rvs
      exact ⟨p, q, rfl, o2 M1 H1 _ Ext.refl sr1 (((er.mono x1).set h1).set h2)⟩
    · cases he
  · exact o2.elim
theorem l_par3 {i j l : Nat} {x y z : Str} {a b c : Expr} {fs : Ev → Sto → Res (List LV)} {px py pz pt pt2 : Pos} {kt k2 : Nat} (hc : X.calm = true) (hN : X.N.Nodup) (hi : X.N[i]? = some x) (hj : X.N[j]? = some y) (hl : X.N[l]? = some z) (hij : i ≠ j) (hil : i ≠ l) (hjl : j ≠ l)
    (hx : X.env.scope.names.lookup x = some .local) (hy : X.env.scope.names.lookup y = some .local) (hz : X.env.scope.names.lookup z = some .local) (hs : PA X [a, b, c] (tA X.K XR W fs))
    (hw : swappedStores [.Tuple [.Name x px, .Name y py, .Name z pz] kt pt] (.Tuple [a, b, c] k2 pt2) X.env = pure (some [x, y, z])) :
    PS X (.Assign [.Tuple [.Name x px, .Name y py, .Name z pz] kt pt] (.Tuple [a, b, c] k2 pt2) pos) (tS X.K XR W fun e S => (Res.bind (fs e S) fun xs S1 => .ok (.tup xs) S1).fl e fun v S1 => stp (.tup [i, j, l]) v e S1) := by
  refine PS_w (ps_par3 hc hN hi hj hl hij hil hjl hx hy hz hs hw) fun D σ H h => ?_
  obtain ⟨Z, M, e, S, er, sr, o⟩ := h
  dsimp only at o
  rw [fl_bind] at o
  refine ⟨Z, M, e, S, er, sr, (OutS.split er o).imp fun xs M1 H1 S1 x1 sr1 o1 vs rvs => ?_⟩
  have o2 : OutS X.K XR Z W M1 H1 (stp (.tup [i, j, l]) (.tup xs) e S1) D := o1
  simp only [stp, setT] at o2
  split at o2
  · rename_i e1 he
    split at he
    · rename_i hlen
      cases he
      obtain ⟨u, v, w, rfl⟩ : ∃ u v w, xs = [u, v, w] := by
        match xs, hlen with
        | [u, v, w], _ => exact ⟨u, v, w, rfl⟩
      simp only [Reps] at rvs
      obtain ⟨p, _, rfl, h1, q, _, rfl, h2, r, _, rfl, h3, rfl⟩ := rvs
      exact ⟨p, q, r, rfl, o2 M1 H1 _ Ext.refl sr1 ((((er.mono x1).set h1).set h2).set h3)⟩
    · cases he
  · exact o2.elim
end

/-! ### and, or, if as expressions -/
section
variable {X : Cx} {XR : XRep} {W : WX} {a b c : Expr} {fa fb fc : Ev → Sto → Res LV} {rest : List Expr} {pos : Pos}
theorem ofO_bind {α β : Type} {o : Option α} {S : Sto} {f : α → Sto → Res β} : (Res.ofO o S).bind f = match o with
    | none => .bad
    | some a => f a S := by
  cases o <;> rfl
theorem bind_bind {α β γ : Type} {r : Res α} {f : α → Sto → Res β} {g : β → Sto → Res γ} : (r.bind f).bind g = r.bind fun a S => (f a S).bind g := by
  cases r <;> rfl
theorem andE (ha : PE X a (tL X.K XR W fa)) (hb : PE X (.BoolOp .And (b :: rest) pos) (tL X.K XR W fb)) : PE X (.BoolOp .And (a :: b :: rest) pos) (tL X.K XR W fun e S => (fa e S).bind fun x S1 => (Res.ofO (truth x S1) S1).bind fun k S2 => if k then fb e S2 else .ok x S2) :=
  PE_w (pe_andT ha hb) fun σ H Q ⟨Z, M, e, S, er, sr, o⟩ => ⟨Z, M, e, S, er, sr, o.split.imp fun x M1 H1 S1 x1 sr1 o1 v rv => by
    rw [ofO_bind] at o1
    split at o1
    · exact o1.elim
    · rename_i k hk
      refine ⟨k, truth_tru sr1 rv hk, ?_⟩
      cases k with
      | true =>
        rw [if_pos rfl] at o1 ⊢
        exact ⟨Z, M1, e, S1, er.mono x1, sr1, o1⟩
      | false =>
        rw [if_neg Bool.false_ne_true] at o1 ⊢
        exact out_ok sr1 o1 _ rv⟩
theorem orE (ha : PE X a (tL X.K XR W fa)) (hb : PE X (.BoolOp .Or (b :: rest) pos) (tL X.K XR W fb)) : PE X (.BoolOp .Or (a :: b :: rest) pos) (tL X.K XR W fun e S => (fa e S).bind fun x S1 => (Res.ofO (truth x S1) S1).bind fun k S2 => if k then .ok x S2 else fb e S2) :=
  PE_w (pe_orT ha hb) fun σ H Q ⟨Z, M, e, S, er, sr, o⟩ => ⟨Z, M, e, S, er, sr, o.split.imp fun x M1 H1 S1 x1 sr1 o1 v rv => by
    rw [ofO_bind] at o1
    split at o1
    · exact o1.elim
    · rename_i k hk
      refine ⟨k, truth_tru sr1 rv hk, ?_⟩
      cases k with
      | true =>
        rw [if_pos rfl] at o1 ⊢
        exact out_ok sr1 o1 _ rv
      | false =>
        rw [if_neg Bool.false_ne_true] at o1 ⊢
        exact ⟨Z, M1, e, S1, er.mono x1, sr1, o1⟩⟩
theorem andT (ha : PT X a (tT X.K XR W fun e S => (fa e S).bind fun x S1 => .ofO (truth x S1) S1)) (hb : PW X (.BoolOp .And (b :: rest) pos) (tT X.K XR W fun e S => (fb e S).bind fun x S1 => .ofO (truth x S1) S1)) :
    PW X (.BoolOp .And (a :: b :: rest) pos) (tT X.K XR W fun e S => (Res.bind (fa e S) fun x S1 => (Res.ofO (truth x S1) S1).bind fun k S2 => if k then fb e S2 else .ok x S2).bind fun x S1 => .ofO (truth x S1) S1) :=
  ⟨fun wh pins s σ H Q I h => (pw_and ha hb).run wh pins s σ H Q I (by
    obtain ⟨Z, M, e, S, er, sr, o⟩ := h
    refine ⟨Z, M, e, S, er, sr, ?_⟩
    dsimp only at o ⊢
    cases q : fa e S with
    | bad => rw [q] at o; exact o
    | exc c p S' => rw [q] at o; exact o
    | ok x S' =>
      rw [q] at o
      have o' : Out X.K XR Z (fun c d H' => W c d σ H') M H (((Res.ofO (truth x S') S').bind fun k S2 => if k then fb e S2 else .ok x S2).bind fun x S1 => .ofO (truth x S1) S1) fun b M' H' _ => Q b H' := o
      show Out X.K XR Z (fun c d H' => W c d σ H') M H (Res.ofO (truth x S') S') _
      cases t : truth x S' with
      | none => rw [t] at o'; exact o'
      | some k =>
        rw [t] at o'
        intro M1 H1 x1 sr1
        cases k with
        | true =>
          rw [if_pos rfl]
          exact ⟨Z, M1, e, S', er.mono x1, sr1, Out.mono x1 o'⟩
        | false =>
          rw [if_neg Bool.false_ne_true]
          have o2 : Out X.K XR Z (fun c d H' => W c d σ H') M H (Res.ofO (truth x S') S') fun b M' H' _ => Q b H' := o'
          rw [t] at o2
          exact o2 M1 H1 x1 sr1)⟩
theorem orT (ha : PT X a (tT X.K XR W fun e S => (fa e S).bind fun x S1 => .ofO (truth x S1) S1)) (hb : PW X (.BoolOp .Or (b :: rest) pos) (tT X.K XR W fun e S => (fb e S).bind fun x S1 => .ofO (truth x S1) S1)) :
    PW X (.BoolOp .Or (a :: b :: rest) pos) (tT X.K XR W fun e S => (Res.bind (fa e S) fun x S1 => (Res.ofO (truth x S1) S1).bind fun k S2 => if k then .ok x S2 else fb e S2).bind fun x S1 => .ofO (truth x S1) S1) :=
  ⟨fun wh pins s σ H Q I h => (pw_or ha hb).run wh pins s σ H Q I (by
    obtain ⟨Z, M, e, S, er, sr, o⟩ := h
    refine ⟨Z, M, e, S, er, sr, ?_⟩
    dsimp only at o ⊢
    cases q : fa e S with
    | bad => rw [q] at o; exact o
    | exc c p S' => rw [q] at o; exact o
    | ok x S' =>
      rw [q] at o
      have o' : Out X.K XR Z (fun c d H' => W c d σ H') M H (((Res.ofO (truth x S') S').bind fun k S2 => if k then .ok x S2 else fb e S2).bind fun x S1 => .ofO (truth x S1) S1) fun b M' H' _ => Q b H' := o
      show Out X.K XR Z (fun c d H' => W c d σ H') M H (Res.ofO (truth x S') S') _
      cases t : truth x S' with
      | none => rw [t] at o'; exact o'
      | some k =>
        rw [t] at o'
        intro M1 H1 x1 sr1
        cases k with
        | true =>
          rw [if_pos rfl]
          have o2 : Out X.K XR Z (fun c d H' => W c d σ H') M H (Res.ofO (truth x S') S') fun b M' H' _ => Q b H' := o'
          rw [t] at o2
          exact o2 M1 H1 x1 sr1
        | false =>
          rw [if_neg Bool.false_ne_true]
          exact ⟨Z, M1, e, S', er.mono x1, sr1, Out.mono x1 o'⟩)⟩
theorem iteT' {g : Ev → Sto → Res Bool} (hc : PT X c (tT X.K XR W g)) (ha : PT X a (tT X.K XR W fun e S => (fa e S).bind fun x S1 => .ofO (truth x S1) S1)) (hb : PT X b (tT X.K XR W fun e S => (fb e S).bind fun x S1 => .ofO (truth x S1) S1)) :
    PT X (.IfExp c a b pos) (tT X.K XR W fun e S => (Res.bind (g e S) fun k S1 => if k then fa e S1 else fb e S1).bind fun x S1 => .ofO (truth x S1) S1) := by
  refine ⟨fun pins s σ H Q I h => ?_⟩
  obtain ⟨Z, M, e, S, er, sr, o⟩ := h
  dsimp only at o
  rw [bind_bind] at o
  show wpAny (model X.prog X.w) X.A (do if ← isTrue c X.env (eval c X.env) then isTrue a X.env (eval a X.env) else isTrue b X.env (eval b X.env)) _ _ s
  refine wpAny_bind (thn (hc.run pins s σ H (fun k H1 => (k = true → tT X.K XR W (fun e S => (fa e S).bind fun x S1 => .ofO (truth x S1) S1) σ H1 Q) ∧ (k = false → tT X.K XR W (fun e S => (fb e S).bind fun x S1 => .ofO (truth x S1) S1) σ H1 Q)) I
    ⟨Z, M, e, S, er, sr, o.split.imp fun k M1 H1 S1 x1 sr1 o1 => ⟨fun hk => ?_, fun hk => ?_⟩⟩) ?_)
  · subst hk
    exact ⟨Z, M1, e, S1, er.mono x1, sr1, o1⟩
  · subst hk
    exact ⟨Z, M1, e, S1, er.mono x1, sr1, o1⟩
  · rintro k s1 ⟨H1, I1, q1, q2⟩
    cases k with
    | true => exact ha.run pins s1 σ H1 Q I1 (q1 rfl)
    | false => exact hb.run pins s1 σ H1 Q I1 (q2 rfl)
end
end LS

/-! LS: the look at a text, and what it says: the evaluator's word holds of the machine. -/
namespace LS
open PySem PySem.Spec PyProof.Rows L2
structure Tb where
  defs : List Def
  gn : List Str
  bn : List Str
  kw : List Nat
/-- a def's promise: what the evaluator says of it -/
def spL (K : PySem.W.Frag) (XR : XRep) (np : Nat) (F : List LV → Sto → Res LV) : Sp := fun vs H Q E => vs.length = np ∧ ∃ Z M xs S, Reps K Z M H xs vs ∧ SR K Z M H S ∧ Out K XR Z E M H (F xs S) fun x M' H' _ => ∀ v, Rep K Z M' H' x v → Q v H'
/-- a def keeps its promise at all places where no repr is under way -/
def FnL (P : Program) (w : World) (K : PySem.W.Frag) (mg : Str → Option Value) (base : Heap) (n : Nat) (f : Addr) (fd : FuncData) (ps : List Str) (sp : Sp) : Prop :=
  ∀ (A : Around) (outer : List Env) (s : Shared) (H : Hp) (args : Args) (us : List Value) (vs : List V) (Q : VK) (E : XK), Room n A → A.guards = some [] → Env0 P w K mg base A outer s H → BindsTo s fd args (ps.zip us) → Vals vs us → sp vs H Q E →
    codeAny (model P w) A (.call (.ref f) args) (CR (L2.CX P w) outer P w H s Q E) s
/-- all arguments by their names, in the parameters' order -/
def KwB (fd : FuncData) (ps : List Str) : Prop := ∀ (s : Shared) (ws : List Value), ws.length = ps.length → BindsTo s fd ⟨[], ps.zip ws⟩ (ps.zip ws)
structure LX (T : Tb) (G : Nat → LV) (XR : XRep) (n : Nat) (c : SX) (X : Cx) : Prop where
  look : Look c X
  calm : X.calm = true
  room : Room n X.A
  gd : X.A.guards = some []
  kind : X.env.scope.kind = .function
  fns : ∀ (k : Nat) d, T.defs[k]? = some d → ∃ f fd, X.mg d.name = some (.ref f) ∧ PySem.W.keepIn X.K (.ref f) = true ∧ Binds X.K fd d.ps [] ∧ FnL X.prog X.w X.K X.mg X.base n f fd d.ps (spL X.K XR d.ps.length (sem T.defs G n k)) ∧ (k ∈ T.kw → KwB fd d.ps)
  gls : ∀ (k : Nat) x, T.gn[k]? = some x → ∃ v u, X.mg x = some u ∧ RelV v u ∧ ∀ Z M H, Rep X.K Z M H (G k) v
  blt : ∀ x ∈ T.bn, X.mg x = none

/-! ### the look -/
def relS' (scope sc : Scope) : Scope := L2.relS scope sc
def SX.blk (c : SX) (scope : Scope) : SX := ⟨relS scope c.sc, c.N, fun x => scope.names.lookup x == some .cell⟩
def vis (c : SX) (x : Str) : Bool := decide (c.sc.names.lookup x = some .local) || decide (c.sc.names.lookup x = some .cell) || decide (c.sc.names.lookup x = some .free)
def gl (c : SX) (x : Str) : Bool := decide (c.sc.names.lookup x = some .globalImplicit)
def nstar : Expr → Bool
  | .Starred .. => false
  | _ => true
def nset : Expr → Bool
  | .Set .. => false
  | _ => true
def nslice : Expr → Bool
  | .Slice .. => false
  | _ => true
def isLc : Expr → Bool
  | .ListComp .. => true
  | .SetComp .. => true
  | .DictComp .. => true
  | _ => false
def bt (T : Tb) (c : SX) (x : Str) : Bool := gl c x && decide (x ∈ T.bn)
def cstE : LC → Const → Bool
  | .non, .none => true
  | .bl b, .bool k => b == k
  | .int i, .int j => decide (i = j)
  | .str x, .str y => decide (x = y)
  | _, _ => false
mutual
def ck (T : Tb) (c : SX) : LE → Expr → Bool
  | .var i, e => match e with
    | .Name x _ => decide (c.N[i]? = some x) && vis c x && !(x == ("__debug__" : Str)) && !(x == ("__classdict__" : Str))
    | _ => false
  | .cst k, e => match e with
    | .Constant v _ _ => cstE k v
    | _ => false
  | .gl k, e => match e with
    | .Name x _ => decide (T.gn[k]? = some x) && gl c x && !(x == ("__debug__" : Str))
    | _ => false
  | .bin op a b, e => match e with
    | .BinOp x o y _ => decide (op = o) && ck T c a x && ck T c b y
    | _ => false
  | .cat _ a b, e => match e with
    | .BinOp x o y _ => decide (o = .Add) && ck T c a x && ck T c b y
    | _ => false
  | .un op a, e => match e with
    | .UnaryOp o x _ => decide (op = o) && decide (o ≠ .Not) && ck T c a x
    | _ => false
  | .cmp op a b, e => match e with
    | .Compare x [o] [y] _ => decide (op = o) && nset y && ck T c a x && ck T c b y
    | _ => false
  | .chain op op' a b d, e => match e with
    | .Compare x [o, o'] [y, z] _ => decide (op = o) && decide (op' = o') && nset z && ck T c a x && ck T c b y && ck T c d z
    | _ => false
  | .band es, e => match e with
    | .BoolOp o vs _ => decide (o = .And) && ckB T c es vs
    | _ => false
  | .bor es, e => match e with
    | .BoolOp o vs _ => decide (o = .Or) && ckB T c es vs
    | _ => false
  | .not a, e => match e with
    | .UnaryOp o x _ => decide (o = .Not) && ck T c a x
    | _ => false
  | .ite t a b, e => match e with
    | .IfExp x y z _ => ck T c t x && ck T c a y && ck T c b z
    | _ => false
  | .tup es, e => match e with
    | .Tuple xs _ _ => decide (xs.length ≤ 1000) && cks T c es xs
    | _ => false
  | .lst _ es, e => match e with
    | .List xs _ => decide (xs.length ≤ 1000) && cks T c es xs
    | _ => false
  | .ix a b, e => match e with
    | .Subscript x y _ => nslice y && ck T c a x && ck T c b y
    | _ => false
  | .slc _ a lo hi, e => match e with
    | .Subscript x (.Slice l h none _) _ => ck T c a x && ckO T c lo l && ckO T c hi h
    | _ => false
  | .call k es, e => match e with
    | .Call (.Name x _) (y :: ys) [] _ => (match T.defs[k]? with
      | some d => decide (d.name = x)
      | none => false) && gl c x && !(x == ("__debug__" : Str)) && cks T c es (y :: ys)
    | _ => false
  | .callK k es, e => match e with
    | .Call (.Name x _) [] ws _ => (match T.defs[k]? with
      | some d => decide (d.name = x) && decide (ws.map (·.arg) = d.ps.map some)
      | none => false) && decide (k ∈ T.kw) && gl c x && !(x == ("__debug__" : Str)) && ckK T c es ws
    | _ => false
  | .blt f es, e => match e with
    | .Call (.Name x _) (y :: ys) [] _ => decide (x = bfName f) && bt T c x && cks T c es (y :: ys)
    | _ => false
  | .isi a t, e => match e with
    | .Call (.Name x _) [y, .Name z _] [] _ => decide (x = "isinstance") && bt T c x && decide (t ∈ isTys) && decide (z = Str.ofString t) && bt T c z && nstar y && ck T c a y
    | _ => false
  | .lc _ own t it cs el, e => match e with
    | .ListComp elt [⟨tg, iter, ifs, k⟩] scope _ => decide (k = 0) && blkC c.N c.sc scope (own.map fun i => (c.N.getD i "", i)) && nset iter && ckI T c tg it iter && (slots t).all (fun i => decide (i ∈ own)) &&
      ckT (c.blk scope) t tg && ckC T (c.blk scope) cs ifs && ck T (c.blk scope) el elt
    | _ => false
def cks (T : Tb) (c : SX) : LEs → List Expr → Bool
  | .nil, es => match es with
    | [] => true
    | _ => false
  | .cons a r, es => match es with
    | e :: s => nstar e && ck T c a e && cks T c r s
    | _ => false
def ckK (T : Tb) (c : SX) : LEs → List Keyword → Bool
  | .nil, es => match es with
    | [] => true
    | _ => false
  | .cons a r, es => match es with
    | e :: s => ck T c a e.value && ckK T c r s
    | _ => false
/-- and, or -/
def ckB (T : Tb) (c : SX) : LEs → List Expr → Bool
  | .nil, _ => false
  | .cons a r, es => match r with
    | .nil => match es with
      | [e] => ck T c a e
      | _ => false
    | .cons _ _ => match es with
      | e :: f :: s => ck T c a e && ckB T c r (f :: s)
      | _ => false
def ckO (T : Tb) (c : SX) : LEs → Option Expr → Bool
  | .nil, e => match e with
    | none => true
    | _ => false
  | .cons a r, e => match e with
    | some e => ck T c a e
    | _ => false
def ckC (T : Tb) (c : SX) : LEs → List Expr → Bool
  | .nil, e => match e with
    | [] => true
    | _ => false
  | .cons a r, e => match e with
    | [e] => ck T c a e
    | _ => false
def ckI (T : Tb) (c : SX) (tg : Expr) : LI → Expr → Bool
  | .seq a, e => ck T c a e
  | .rng1 a, e => match e with
    | .Call (.Name x _) [y] [] _ => decide (x = "range") && bt T c x && nstar y && ck T c a y
    | _ => false
  | .rng2 a b, e => match e with
    | .Call (.Name x _) [y, z] [] _ => decide (x = "range") && bt T c x && nstar y && nstar z && ck T c a y && ck T c b z
    | _ => false
  | .zip a b, e => match e with
    | .Call (.Name x _) [y, z] [] _ => (match tg with
      | .Tuple .. => true
      | _ => false) && decide (x = "zip") && bt T c x && nstar y && nstar z && ck T c a y && ck T c b z
    | _ => false
end

/-! ### shapes -/
theorem star_of {e : Expr} {env : Env} (es : List Expr) (h : nstar e = true) : starEach (e :: es) env = (false, eval e env) :: starEach es env := by
  cases e <;> first | rfl | cases h
theorem set_of {e : Expr} {env : Env} (h : nset e = true) (x : Value) : foldedSetIterable e env x = pure x := by
  cases e <;> first | rfl | cases h
theorem mark_of {e : Expr} {op : CmpOp} (h : nset e = true) : behindInMarks op e = false := by
  cases e <;> first | rfl | cases h
theorem ix_of {e : Expr} (h : nslice e = true) : PlainIx e := by
  intro o i
  cases e <;> first | rfl | cases h
theorem swap_of {e : Expr} {t : Option Expr} {l : Nat} {env : Env} (h : isLc e = false) : swapsWith e t l env = pure false := by
  cases e <;> first | rfl | cases h
theorem plain_of {pos : Pos} {env : Env} : ∀ {es : List Expr}, es.all nstar = true → (backTo pos (starEach es env)).any (·.1) = false
  | [], _ => rfl
  | e :: es, h => by
    simp only [List.all_cons, Bool.and_eq_true] at h
    rw [star_of es h.1]
    have := plain_of (pos := pos) (env := env) h.2
    show (false || (backTo pos (starEach es env)).any (·.1)) = false
    rw [this]
    rfl
theorem cks_all {T : Tb} {c : SX} : ∀ {es : LEs} {xs : List Expr}, cks T c es xs = true → xs.all nstar = true
  | .nil, [], _ => rfl
  | .nil, _ :: _, h => by simp [cks] at h
  | .cons a r, [], h => by simp [cks] at h
  | .cons a r, e :: s, h => by
    simp only [cks, Bool.and_eq_true] at h
    simp only [List.all_cons, Bool.and_eq_true]
    exact ⟨h.1.1, cks_all h.2⟩
/-- whose test is its value's truth -/
def plainE : Expr → Bool
  | .UnaryOp .Not _ _ => false
  | .BoolOp .. => false
  | .IfExp .. => false
  | .Compare .. => false
  | _ => true
theorem plainE_is {e : Expr} {env : Env} (h : plainE e = true) (whole : Sem Value) : isTrue e env whole = (do let v ← whole; standAt e.pos; holding [v] (truthy v)) := by
  cases e with
  | UnaryOp op x p => cases op <;> first | rfl | cases h
  | BoolOp => cases h
  | IfExp => cases h
  | Compare => cases h
  | _ => rfl

section
variable {T : Tb} {G : Nat → LV} {XR : XRep} {n : Nat}
theorem LX.nd {c : SX} {X : Cx} (L : LX T G XR n c X) : X.N.Nodup := L.look.nd
theorem LX.vis {c : SX} {X : Cx} {x : Str} (L : LX T G XR n c X) (h : LS.vis c x = true) : Vis X.env.scope x := by
  unfold LS.vis at h
  rw [← L.look.sc] at h
  simp only [Bool.or_eq_true, decide_eq_true_eq] at h
  rcases h with (h | h) | h
  · exact .inl h
  · exact .inr (.inl h)
  · exact .inr (.inr h)
theorem LX.gl {c : SX} {X : Cx} {x : Str} (L : LX T G XR n c X) (h : LS.gl c x = true) : Gl X x := by
  unfold LS.gl at h
  rw [← L.look.sc] at h
  exact (of_decide_eq_true h : X.env.scope.names.lookup x = some .globalImplicit)
theorem LX.bt {c : SX} {X : Cx} {x : Str} (L : LX T G XR n c X) (h : LS.bt T c x = true) : Gl X x ∧ X.mg x = none := by
  unfold LS.bt at h
  simp only [Bool.and_eq_true] at h
  exact ⟨L.gl h.1, L.blt x (of_decide_eq_true h.2)⟩
theorem LX.blk {c : SX} {X : Cx} (L : LX T G XR n c X) (s : Shared) (H : Hp) (scope : Scope) (hk : scope.kind = .function) (C : Addr) (cl : List (Str × Addr)) (fp : List Addr) : LX T G XR n (c.blk scope) (X.blk s H scope (compEnvC scope cl C X.env) fp) where
  look := ⟨by show relS scope X.env.scope = relS scope c.sc; rw [L.look.sc], L.look.N, rfl, L.look.nd⟩
  calm := L.calm
  room := L.room
  gd := L.gd
  kind := hk
  fns := L.fns
  gls := L.gls
  blt := L.blt

/-- the callee runs -/
theorem run_fnL {X : Cx} {W : WX} {k : Nat} {f : Addr} {fd : FuncData} {ps : List Str} {sp : Sp} {pins : List (Addr × Obj)} {σ : St} {H : Hp} {s : Shared} {Q : VK} {us : List Value} {vs : List V}
    (F : FnL X.prog X.w X.K X.mg X.base k f fd ps sp) (hr : Room k X.A) (hg : X.A.guards = some []) (hb : Binds X.K fd ps []) (tk : Takes X W) (hl : vs.length = ps.length)
    (I : Inv X pins σ H s) (r : Vals vs us) (h : sp vs H Q (WE W σ)) : wpAny (model X.prog X.w) X.A (PySem.call (.ref f) us) (EP X pins σ Q) X.xe s := by
  have bd := hb s us I.kIn (by rw [List.append_nil, ← r.length]; exact hl)
  rw [List.append_nil] at bd
  refine wpAny_call (codeAny_mono (F X.A X.stack s H ⟨us, []⟩ us vs Q (WE W σ) hr hg I.env0 bd r h) ?_)
  rintro (e | fl) s' hq
  · exact passAt tk σ pins H s e s' I hq
  · cases fl with
    | ret u => exact I.after hq
    | next => exact hq.elim
    | brk => exact hq.elim
    | cont => exact hq.elim
theorem l_call {X : Cx} {W : WX} {k : Nat} {d : Def} {c : SX} {x : Str} {p pos : Pos} {e : Expr} {es : List Expr} {fs : Ev → Sto → Res (List LV)} (L : LX T G XR n c X) (tk : Takes X W) (hd : T.defs[k]? = some d) (hx : d.name = x) (hg : Gl X x) (hdb : (x == ("__debug__" : Str)) = false)
    (hs : PA X (e :: es) (tA X.K XR W fs)) (hst : nstar e = true) (hal : es.all nstar = true) (hlen : ∀ ev S xs S', fs ev S = .ok xs S' → ∀ S'', sem T.defs G n k xs S'' ≠ .bad → xs.length = d.ps.length) :
    PE X (.Call (.Name x p) (e :: es) [] pos) (tL X.K XR W fun e S => (fs e S).bind fun xs S1 => sem T.defs G n k xs S1) := by
  obtain ⟨f, fd, hm, hk, hb, F, _⟩ := L.fns k d hd
  subst hx
  refine ⟨fun pins s σ H Q I h => wpAny_Call_Name_kw (ld_glob I hg hm ?_ hdb)⟩
  obtain ⟨Z, M, ev, S, er, sr, o⟩ := h
  refine PySem.W.callWith_K (h₀ := X.base) I.ok.mod.kin hk (thn (hs.run pos pins s σ H (fun vs H1 => spL X.K XR d.ps.length (sem T.defs G n k) vs H1 Q (WE W σ)) I ⟨Z, M, ev, S, er, sr, ?_⟩) ?_) (star_of es hst) (plain_of hal)
  · have o' := o.split
    cases q : fs ev S with
    | bad => rw [q] at o'; exact o'
    | exc c' p' S' => rw [q] at o'; exact o'
    | ok xs S' =>
      rw [q] at o'
      intro M1 H1 x1 sr1 vs rvs
      have o2 : Out X.K XR Z (fun c d H' => W c d σ H') M1 H1 (sem T.defs G n k xs S') fun x M' H' _ => ∀ v, Rep X.K Z M' H' x v → Q v H' := o' M1 H1 x1 sr1
      have nb : sem T.defs G n k xs S' ≠ .bad := fun z => by
        rw [z] at o2
        exact o2
      exact ⟨by rw [← rvs.len]; exact hlen ev S xs S' q S' nb, Z, M1, xs, S', rvs, sr1, o2⟩
  · rintro us s1 ⟨vs, H1, I1, r, q⟩
    exact ⟨I1.kIn, run_fnL F L.room L.gd hb tk q.1 I1 r q⟩
theorem PK_w {X : Cx} {kws : List Keyword} {t t' : TA} (h : PK X kws t) (f : ∀ σ H Q, t' σ H Q → t σ H Q) : PK X kws t' := ⟨fun pos pins s σ H Q I q => h.run pos pins s σ H Q I (f σ H Q q)⟩
theorem kw_names {env : Env} {pos : Pos} : ∀ {ws : List Keyword} {ps : List Str}, ws.map (·.arg) = ps.map some → (backToKw pos (keywordEach ws env)).all (·.1.isSome) = true ∧ (backToKw pos (keywordEach ws env)).filterMap (·.1) = ps ∧ (backToKw pos (keywordEach ws env)).any (·.1.isNone) = false
  | [], [], _ => ⟨rfl, rfl, rfl⟩
  | [], _ :: _, h => by simp at h
  | _ :: _, [], h => by simp at h
  | ⟨nm, v, p⟩ :: ws, x :: ps, h => by
    simp only [List.map_cons, List.cons.injEq] at h
    obtain ⟨h1, h2⟩ := h
    have h1 : nm = some x := h1
    subst h1
    obtain ⟨a, b, c⟩ := kw_names (env := env) (pos := pos) h2
    refine ⟨?_, ?_, ?_⟩
    · show (true && (backToKw pos (keywordEach ws env)).all (·.1.isSome)) = true
      rw [a]
      rfl
    · show x :: (backToKw pos (keywordEach ws env)).filterMap (·.1) = x :: ps
      rw [b]
    · show (false || (backToKw pos (keywordEach ws env)).any (·.1.isNone)) = false
      rw [c]
      rfl
theorem l_callK {X : Cx} {W : WX} {k : Nat} {d : Def} {c : SX} {x : Str} {p pos : Pos} {ws : List Keyword} {fs : Ev → Sto → Res (List LV)} (L : LX T G XR n c X) (tk : Takes X W) (hd : T.defs[k]? = some d) (hx : d.name = x) (hkw : k ∈ T.kw) (hg : Gl X x) (hdb : (x == ("__debug__" : Str)) = false)
    (hs : PK X ws (tA X.K XR W fs)) (hn : ws.map (·.arg) = d.ps.map some) (hlen : ∀ ev S xs S', fs ev S = .ok xs S' → ∀ S'', sem T.defs G n k xs S'' ≠ .bad → xs.length = d.ps.length) :
    PE X (.Call (.Name x p) [] ws pos) (tL X.K XR W fun e S => (fs e S).bind fun xs S1 => sem T.defs G n k xs S1) := by
  obtain ⟨f, fd, hm, hk, hb, F, hkb⟩ := L.fns k d hd
  subst hx
  refine ⟨fun pins s σ H Q I h => wpAny_Call_Name_kw (ld_glob I hg hm ?_ hdb)⟩
  obtain ⟨Z, M, ev, S, er, sr, o⟩ := h
  obtain ⟨n1, n2, n3⟩ := kw_names (env := X.env) (pos := pos) hn
  refine PySem.W.callWith_KW0 (h₀ := X.base) I.ok.mod.kin hk n1 (thn (hs.run pos pins s σ H (fun vs H1 => spL X.K XR d.ps.length (sem T.defs G n k) vs H1 Q (WE W σ)) I ⟨Z, M, ev, S, er, sr, ?_⟩) ?_) (by rw [n3]; rfl)
  · have o' := o.split
    cases q : fs ev S with
    | bad => rw [q] at o'; exact o'
    | exc c' p' S' => rw [q] at o'; exact o'
    | ok xs S' =>
      rw [q] at o'
      intro M1 H1 x1 sr1 vs rvs
      have o2 : Out X.K XR Z (fun c d H' => W c d σ H') M1 H1 (sem T.defs G n k xs S') fun x M' H' _ => ∀ v, Rep X.K Z M' H' x v → Q v H' := o' M1 H1 x1 sr1
      have nb : sem T.defs G n k xs S' ≠ .bad := fun z => by
        rw [z] at o2
        exact o2
      exact ⟨by rw [← rvs.len]; exact hlen ev S xs S' q S' nb, Z, M1, xs, S', rvs, sr1, o2⟩
  · rintro us s1 ⟨vs, H1, I1, r, q⟩
    refine ⟨I1.kIn, ?_⟩
    rw [n2]
    refine wpAny_call (codeAny_mono (F X.A X.stack s1 H1 ⟨[], d.ps.zip us⟩ us vs Q (WE W σ) L.room L.gd I1.env0 (hkb hkw s1 us (by rw [← r.length]; exact q.1)) r q) ?_)
    rintro (e | fl) s' hq
    · exact passAt tk σ pins H1 s1 e s' I1 hq
    · cases fl with
      | ret u => exact I1.after hq
      | next => exact hq.elim
      | brk => exact hq.elim
      | cont => exact hq.elim
theorem sem_len {D : List Def} {k : Nat} {d : Def} (hd : D[k]? = some d) : ∀ {n : Nat} {xs : List LV} {S : Sto}, sem D G n k xs S ≠ .bad → xs.length = d.ps.length
  | 0, _, _, h => (h rfl).elim
  | n + 1, xs, S, h => by
    unfold sem at h
    rw [hd] at h
    by_cases q : xs.length = d.ps.length
    · exact q
    · simp only [if_neg q] at h
      exact (h rfl).elim
theorem evs_len {F : Nat → List LV → Sto → Res LV} {c : SX} : ∀ {es : LEs} {xs : List Expr}, cks T c es xs = true → ∀ e S vs S', evs F G es e S = .ok vs S' → vs.length = xs.length
  | .nil, [], _, e, S, vs, S', h => by
    simp only [evs] at h
    cases h
    rfl
  | .nil, _ :: _, h, _, _, _, _, _ => by simp [cks] at h
  | .cons a r, [], h, _, _, _, _, _ => by simp [cks] at h
  | .cons a r, y :: s, h, e, S, vs, S', q => by
    simp only [cks, Bool.and_eq_true] at h
    simp only [evs] at q
    obtain ⟨x, S1, _, q⟩ := bind_ok q
    obtain ⟨ws, S2, q1, q⟩ := bind_ok q
    cases q
    simp [evs_len h.2 e S1 ws _ q1]

/-! ### the word, by induction over the code -/
noncomputable abbrev FN (T : Tb) (G : Nat → LV) (n : Nat) := sem T.defs G n
def OkE (T : Tb) (G : Nat → LV) (XR : XRep) (n : Nat) (a : LE) : Prop := ∀ (c : SX) (X : Cx) (W : WX) (e : Expr), LX T G XR n c X → Takes X W → ck T c a e = true →
  PE X e (tL X.K XR W (ev (FN T G n) G a)) ∧ PT X e (tT X.K XR W (evT (FN T G n) G a))
theorem OkE.plain {a : LE} (h : ∀ (c : SX) (X : Cx) (W : WX) (e : Expr), LX T G XR n c X → Takes X W → ck T c a e = true → PE X e (tL X.K XR W (ev (FN T G n) G a)) ∧ plainE e = true) : OkE T G XR n a := fun c X W e L tk q => by
  obtain ⟨h1, h2⟩ := h c X W e L tk q
  exact ⟨h1, l_truth h1 (plainE_is h2)⟩
theorem lim1000 {xs : List LV} {m : Nat} (h : xs.length = m) (q : m ≤ 1000) : xs.length ≤ lim := by
  rw [h]
  exact Nat.le_trans q (by decide)
theorem tL_congr {K : PySem.W.Frag} {W : WX} {f g : Ev → Sto → Res LV} (h : ∀ e S, f e S = g e S) : tL K XR W f = tL K XR W g := by
  have : f = g := by
    funext e S
    exact h e S
  rw [this]
theorem tT_congr {K : PySem.W.Frag} {W : WX} {f g : Ev → Sto → Res Bool} (h : ∀ e S, f e S = g e S) : tT K XR W f = tT K XR W g := by
  have : f = g := by
    funext e S
    exact h e S
  rw [this]
theorem gd66 {X : Cx} {c : SX} (L : LX T G XR n c X) : X.A.units + 66 < cLine := by
  have := L.room.un
  omega
theorem gd64 {X : Cx} {c : SX} (L : LX T G XR n c X) : X.A.units + 64 < cLine := L.room.units
mutual
theorem snd : ∀ a : LE, OkE T G XR n a
  | .var i => OkE.plain fun c X W e L tk h => by
    simp only [ck] at h
    split at h
    · simp only [Bool.and_eq_true, decide_eq_true_eq, Bool.not_eq_true'] at h
      obtain ⟨⟨⟨h1, h2⟩, h3⟩, h4⟩ := h
      exact ⟨l_var (by rw [L.look.N]; exact h1) (L.vis h2) h3 h4, rfl⟩
    · cases h
  | .cst k => OkE.plain fun c X W e L tk h => by
    simp only [ck] at h
    split at h
    · unfold cstE at h
      split at h
      · exact ⟨l_cst pe_non fun _ _ _ => by simp only [LC.v, Rep], rfl⟩
      · simp only [beq_iff_eq] at h
        subst h
        exact ⟨l_cst pe_bl fun _ _ _ => by simp only [LC.v, Rep], rfl⟩
      · simp only [decide_eq_true_eq] at h
        subst h
        exact ⟨l_cst pe_int fun _ _ _ => by simp only [LC.v, Rep], rfl⟩
      · simp only [decide_eq_true_eq] at h
        subst h
        exact ⟨l_cst pe_str fun _ _ _ => by simp only [LC.v, Rep], rfl⟩
      · cases h
    · cases h
  | .gl k => OkE.plain fun c X W e L tk h => by
    simp only [ck] at h
    split at h
    · simp only [Bool.and_eq_true, decide_eq_true_eq, Bool.not_eq_true'] at h
      obtain ⟨⟨h1, h2⟩, h3⟩ := h
      obtain ⟨v, u, e1, r, rp⟩ := L.gls k _ h1
      exact ⟨l_cst (pe_glob (L.gl h2) e1 r h3) rp, rfl⟩
    · cases h
  | .bin op a b => OkE.plain fun c X W e L tk h => by
    simp only [ck] at h
    split at h
    · simp only [Bool.and_eq_true, decide_eq_true_eq] at h
      obtain ⟨⟨rfl, h2⟩, h3⟩ := h
      exact ⟨l_bin (snd a c X W _ L tk h2).1 (snd b c X W _ L tk h3).1, rfl⟩
    · cases h
  | .cat m a b => OkE.plain fun c X W e L tk h => by
    simp only [ck] at h
    split at h
    · simp only [Bool.and_eq_true, decide_eq_true_eq] at h
      obtain ⟨⟨rfl, h2⟩, h3⟩ := h
      exact ⟨l_cat (snd a c X W _ L tk h2).1 (snd b c X W _ L tk h3).1, rfl⟩
    · cases h
  | .un op a => OkE.plain fun c X W e L tk h => by
    simp only [ck] at h
    split at h
    · simp only [Bool.and_eq_true, decide_eq_true_eq] at h
      obtain ⟨⟨rfl, h2⟩, h3⟩ := h
      exact ⟨l_un (snd a c X W _ L tk h3).1, by cases op <;> first | rfl | exact (h2 rfl).elim⟩
    · cases h
  | .cmp op a b => fun c X W e L tk h => by
    simp only [ck] at h
    split at h
    · simp only [Bool.and_eq_true, decide_eq_true_eq] at h
      obtain ⟨⟨⟨rfl, h2⟩, h3⟩, h4⟩ := h
      exact ⟨l_cmp (gd64 L) (snd a c X W _ L tk h3).1 (snd b c X W _ L tk h4).1 (mark_of h2), l_cmpT (gd64 L) (snd a c X W _ L tk h3).1 (snd b c X W _ L tk h4).1 (mark_of h2)⟩
    · cases h
  | .chain op op' a b d => fun c X W e L tk h => by
    simp only [ck] at h
    split at h
    · simp only [Bool.and_eq_true, decide_eq_true_eq] at h
      obtain ⟨⟨⟨⟨⟨rfl, rfl⟩, h2⟩, h3⟩, h4⟩, h5⟩ := h
      exact ⟨l_chain (gd64 L) (snd a c X W _ L tk h3).1 (snd b c X W _ L tk h4).1 (snd d c X W _ L tk h5).1 (mark_of h2), l_chainT (gd64 L) (snd a c X W _ L tk h3).1 (snd b c X W _ L tk h4).1 (snd d c X W _ L tk h5).1 (mark_of h2)⟩
    · cases h
  | .band es => fun c X W e L tk h => by
    simp only [ck] at h
    split at h
    · simp only [Bool.and_eq_true, decide_eq_true_eq] at h
      obtain ⟨rfl, h2⟩ := h
      obtain ⟨h3, h4⟩ := sndB es c X W _ L tk h2 _
      exact ⟨h3.1, h3.2.pt⟩
    · cases h
  | .bor es => fun c X W e L tk h => by
    simp only [ck] at h
    split at h
    · simp only [Bool.and_eq_true, decide_eq_true_eq] at h
      obtain ⟨rfl, h2⟩ := h
      obtain ⟨h3, h4⟩ := sndB es c X W _ L tk h2 _
      exact ⟨h4.1, h4.2.pt⟩
    · cases h
  | .not a => fun c X W e L tk h => by
    simp only [ck] at h
    split at h
    · simp only [Bool.and_eq_true, decide_eq_true_eq] at h
      obtain ⟨rfl, h2⟩ := h
      obtain ⟨h3, h4⟩ := snd a c X W _ L tk h2
      exact ⟨l_not h3, l_notT h4⟩
    · cases h
  | .ite t a b => fun c X W e L tk h => by
    simp only [ck] at h
    split at h
    · simp only [Bool.and_eq_true] at h
      obtain ⟨⟨h1, h2⟩, h3⟩ := h
      obtain ⟨_, t2⟩ := snd t c X W _ L tk h1
      obtain ⟨a1, a2⟩ := snd a c X W _ L tk h2
      obtain ⟨b1, b2⟩ := snd b c X W _ L tk h3
      exact ⟨l_ite t2 a1 b1, iteT' t2 a2 b2⟩
    · cases h
  | .tup es => OkE.plain fun c X W e L tk h => by
    simp only [ck] at h
    split at h
    · simp only [Bool.and_eq_true, decide_eq_true_eq] at h
      exact ⟨l_tup (snds es c X W _ L tk h.2) fun e S vs S' q => lim1000 (evs_len h.2 e S vs S' q) h.1, rfl⟩
    · cases h
  | .lst m es => OkE.plain fun c X W e L tk h => by
    simp only [ck] at h
    split at h
    · simp only [Bool.and_eq_true, decide_eq_true_eq] at h
      exact ⟨l_lst (snds es c X W _ L tk h.2) fun e S vs S' q => lim1000 (evs_len h.2 e S vs S' q) h.1, rfl⟩
    · cases h
  | .ix a b => OkE.plain fun c X W e L tk h => by
    simp only [ck] at h
    split at h
    · simp only [Bool.and_eq_true] at h
      obtain ⟨⟨h1, h2⟩, h3⟩ := h
      exact ⟨l_ix (snd a c X W _ L tk h2).1 (snd b c X W _ L tk h3).1 (ix_of h1), rfl⟩
    · cases h
  | .slc m a lo hi => OkE.plain fun c X W e L tk h => by
    simp only [ck] at h
    split at h
    · simp only [Bool.and_eq_true] at h
      obtain ⟨⟨h1, h2⟩, h3⟩ := h
      exact ⟨l_slice (snd a c X W _ L tk h1).1 (sndO lo c X W _ L tk h2) (sndO hi c X W _ L tk h3), rfl⟩
    · cases h
  | .call k es => OkE.plain fun c X W e L tk h => by
    simp only [ck] at h
    split at h
    · simp only [Bool.and_eq_true, Bool.not_eq_true'] at h
      obtain ⟨⟨⟨h1, h2⟩, h3⟩, h4⟩ := h
      split at h1
      · rename_i d hd
        have ha := cks_all h4
        simp only [List.all_cons, Bool.and_eq_true] at ha
        exact ⟨l_call L tk hd (of_decide_eq_true h1) (L.gl h2) h3 (snds es c X W _ L tk h4) ha.1 ha.2 fun _ _ xs _ _ S'' nb => sem_len hd nb, rfl⟩
      · cases h1
    · cases h
  | .callK k es => OkE.plain fun c X W e L tk h => by
    simp only [ck] at h
    split at h
    · simp only [Bool.and_eq_true, Bool.not_eq_true', decide_eq_true_eq] at h
      obtain ⟨⟨⟨⟨h1, hk⟩, h2⟩, h3⟩, h4⟩ := h
      split at h1
      · rename_i d hd
        simp only [Bool.and_eq_true, decide_eq_true_eq] at h1
        exact ⟨l_callK L tk hd h1.1 hk (L.gl h2) h3 (sndK es c X W _ L tk h4) h1.2 fun _ _ xs _ _ S'' nb => sem_len hd nb, rfl⟩
      · cases h1
    · cases h
  | .blt f es => OkE.plain fun c X W e L tk h => by
    simp only [ck] at h
    split at h
    · simp only [Bool.and_eq_true, decide_eq_true_eq] at h
      obtain ⟨⟨h1, h2⟩, h3⟩ := h
      obtain ⟨g1, g2⟩ := L.bt h2
      have ha := cks_all h3
      simp only [List.all_cons, Bool.and_eq_true] at ha
      exact ⟨callR_of f L.calm L.gd (gd66 L) h1 g1 g2 (snds es c X W _ L tk h3) (star_of _ ha.1) (plain_of ha.2), rfl⟩
    · cases h
  | .isi a t => OkE.plain fun c X W e L tk h => by
    simp only [ck] at h
    split at h
    · simp only [Bool.and_eq_true, decide_eq_true_eq] at h
      obtain ⟨⟨⟨⟨⟨⟨rfl, h2⟩, h3⟩, rfl⟩, h5⟩, h6⟩, h7⟩ := h
      obtain ⟨g1, g2⟩ := L.bt h2
      obtain ⟨g3, g4⟩ := L.bt h5
      exact ⟨l_isi g1 g2 h3 g3 g4 (snd a c X W _ L tk h7).1 (star_of _ h6), rfl⟩
    · cases h
  | .lc m own t it cs el => OkE.plain fun c X W e L tk h => by
    simp only [ck] at h
    split at h
    · simp only [Bool.and_eq_true, decide_eq_true_eq] at h
      obtain ⟨⟨⟨⟨⟨⟨⟨rfl, h1⟩, h2⟩, h3⟩, h4⟩, h5⟩, h6⟩, h7⟩ := h
      rename_i tg iter ifs scope _
      have hb := blkOk_by h1
      rw [← L.look.sc, ← L.look.N] at hb
      refine ⟨l_lc (XR := XR) ⟨L.calm, L.nd, sndI it c X W tg _ L tk h3, ⟨_, hb, ?_⟩, fun s H C cl fp => ckT_pg L.calm (L.blk s H scope hb.kind C cl fp).look h5, fun s H C cl fp => ?_, fun s H C cl fp => (snd el _ _ WF _ (L.blk s H scope hb.kind C cl fp) takes0 h7).1, set_of h2, ?_⟩, rfl⟩
      · rw [List.map_map]
        exact List.map_id' own
      · exact sndC cs _ _ WF _ (L.blk s H scope hb.kind C cl fp) takes0 h6
      · exact fun i hi => of_decide_eq_true (List.all_eq_true.mp h4 i hi)
    · cases h
theorem snds : ∀ (es : LEs) (c : SX) (X : Cx) (W : WX) (xs : List Expr), LX T G XR n c X → Takes X W → cks T c es xs = true → PA X xs (tA X.K XR W (evs (FN T G n) G es))
  | .nil, c, X, W, xs, L, tk, h => by
    simp only [cks] at h
    split at h
    · exact l_nil
    · cases h
  | .cons a r, c, X, W, xs, L, tk, h => by
    simp only [cks] at h
    split at h
    · simp only [Bool.and_eq_true] at h
      exact l_cons (snd a c X W _ L tk h.1.2).1 (snds r c X W _ L tk h.2) (star_of _ h.1.1)
    · cases h
theorem sndK : ∀ (es : LEs) (c : SX) (X : Cx) (W : WX) (xs : List Keyword), LX T G XR n c X → Takes X W → ckK T c es xs = true → PK X xs (tA X.K XR W (evs (FN T G n) G es))
  | .nil, c, X, W, xs, L, tk, h => by
    simp only [ckK] at h
    split at h
    · exact PK_w pk_nil fun σ H Q ⟨Z, M, e, S, er, sr, o⟩ => out_ok sr o _ Reps.nil
    · cases h
  | .cons a r, c, X, W, xs, L, tk, h => by
    simp only [ckK] at h
    split at h
    · rename_i kw s
      obtain ⟨nm, v, p⟩ := kw
      simp only [Bool.and_eq_true] at h
      exact PK_w (pk_cons (snd a c X W _ L tk h.1).1 (sndK r c X W _ L tk h.2)) fun σ H Q ⟨Z, M, e, S, er, sr, o⟩ => ⟨Z, M, e, S, er, sr, o.split.imp fun x M1 H1 S1 x1 sr1 o1 v rv =>
        ⟨Z, M1, e, S1, er.mono x1, sr1, o1.split.imp fun xs M2 H2 S2 x2 sr2 o2 vs rvs => out_ok sr2 o2 _ (Reps.cons (rv.mono x2) rvs)⟩⟩
    · cases h
theorem sndB : ∀ (es : LEs) (c : SX) (X : Cx) (W : WX) (xs : List Expr), LX T G XR n c X → Takes X W → ckB T c es xs = true → ∀ pos,
    (PE X (.BoolOp .And xs pos) (tL X.K XR W (evAnd (FN T G n) G es)) ∧ PW X (.BoolOp .And xs pos) (tT X.K XR W fun e S => (evAnd (FN T G n) G es e S).bind fun x S1 => .ofO (truth x S1) S1)) ∧
    PE X (.BoolOp .Or xs pos) (tL X.K XR W (evOr (FN T G n) G es)) ∧ PW X (.BoolOp .Or xs pos) (tT X.K XR W fun e S => (evOr (FN T G n) G es e S).bind fun x S1 => .ofO (truth x S1) S1)
  | .nil, c, X, W, xs, L, tk, h, pos => by simp [ckB] at h
  | .cons a .nil, c, X, W, xs, L, tk, h, pos => by
    simp only [ckB] at h
    split at h
    · obtain ⟨h1, h2⟩ := snd a c X W _ L tk h
      have e1 : evAnd (FN T G n) G (.cons a .nil) = ev (FN T G n) G a := by funext e S; simp only [evAnd]
      have e2 : evOr (FN T G n) G (.cons a .nil) = ev (FN T G n) G a := by funext e S; simp only [evOr]
      rw [e1, e2]
      exact ⟨⟨pe_one h1, pw_and1 h2⟩, pe_one h1, pw_or1 h2⟩
    · cases h
  | .cons a (.cons b r), c, X, W, xs, L, tk, h, pos => by
    simp only [ckB] at h
    split at h
    · simp only [Bool.and_eq_true] at h
      obtain ⟨h1, h2⟩ := snd a c X W _ L tk h.1
      obtain ⟨⟨r1, r2⟩, r3, r4⟩ := sndB (.cons b r) c X W _ L tk h.2 pos
      exact ⟨⟨andE h1 r1, andT h2 r2⟩, orE h1 r3, orT h2 r4⟩
    · cases h
theorem sndO : ∀ (es : LEs) (c : SX) (X : Cx) (W : WX) (x : Option Expr), LX T G XR n c X → Takes X W → ckO T c es x = true → PO X x (tB X.K XR W (evB (FN T G n) G es))
  | .nil, c, X, W, x, L, tk, h => by
    simp only [ckO] at h
    split at h
    · exact l_nopart
    · cases h
  | .cons a r, c, X, W, x, L, tk, h => by
    simp only [ckO] at h
    split at h
    · exact l_part (snd a c X W _ L tk h).1
    · cases h
theorem sndC : ∀ (es : LEs) (c : SX) (X : Cx) (W : WX) (xs : List Expr), LX T G XR n c X → Takes X W → ckC T c es xs = true → PTs X xs (tT X.K XR W (evC (FN T G n) G es))
  | .nil, c, X, W, x, L, tk, h => by
    simp only [ckC] at h
    split at h
    · refine ⟨fun pins s σ H Q I h => pts_nil.run pins s σ H Q I ?_⟩
      obtain ⟨Z, M, e, S, er, sr, o⟩ := h
      exact out_ok sr o
    · cases h
  | .cons a r, c, X, W, x, L, tk, h => by
    simp only [ckC] at h
    split at h
    · exact pts_one (snd a c X W _ L tk h).2
    · cases h
theorem sndI : ∀ (it : LI) (c : SX) (X : Cx) (W : WX) (tg x : Expr), LX T G XR n c X → Takes X W → ckI T c tg it x = true → PI X tg x (tI X.K XR W (evI (FN T G n) G it))
  | .seq a, c, X, W, tg, x, L, tk, h => by
    simp only [ckI] at h
    exact l_seq (snd a c X W _ L tk h).1
  | .rng1 a, c, X, W, tg, x, L, tk, h => by
    simp only [ckI] at h
    split at h
    · simp only [Bool.and_eq_true, decide_eq_true_eq] at h
      obtain ⟨⟨⟨rfl, h2⟩, h3⟩, h4⟩ := h
      obtain ⟨g1, g2⟩ := L.bt h2
      exact l_rng1 g1 g2 (snd a c X W _ L tk h4).1 (star_of _ h3)
    · cases h
  | .rng2 a b, c, X, W, tg, x, L, tk, h => by
    simp only [ckI] at h
    split at h
    · simp only [Bool.and_eq_true, decide_eq_true_eq] at h
      obtain ⟨⟨⟨⟨⟨rfl, h2⟩, h3⟩, h4⟩, h5⟩, h6⟩ := h
      obtain ⟨g1, g2⟩ := L.bt h2
      exact l_rng2 g1 g2 (snd a c X W _ L tk h5).1 (snd b c X W _ L tk h6).1 (by rw [star_of _ h3, star_of _ h4]; rfl) (star_of _ h4)
    · cases h
  | .zip a b, c, X, W, tg, x, L, tk, h => by
    simp only [ckI] at h
    split at h
    · simp only [Bool.and_eq_true, decide_eq_true_eq] at h
      obtain ⟨⟨⟨⟨⟨⟨h1, rfl⟩, h2⟩, h3⟩, h4⟩, h5⟩, h6⟩ := h
      obtain ⟨g1, g2⟩ := L.bt h2
      split at h1
      · exact l_zip g1 g2 (snd a c X W _ L tk h5).1 (snd b c X W _ L tk h6).1 (star_of _ h3) (star_of _ h4)
      · cases h1
    · cases h
end
end
end LS

/-! LS: statements. -/
namespace LS
open PySem PySem.Spec PyProof.Rows L2
/-! ### the look at statements -/
/-- which names a pair on both sides is stored to at once; none: the model does not say -/
def swl (sc : Scope) (ts vs : List Expr) : Option (Option (List Str)) :=
  if (!(ts.length == 2 || ts.length == 3) || vs.length != ts.length || false) = true then some none else
  if (vs.any fun | .Starred .. => true | _ => false) = true then some none else
  let names := ts.filterMap fun
    | .Name id pos => if (sc.names.lookup id == some .local && pos.line == (ts.head?.map (·.pos.line)).getD 0) = true then some id else none
    | _ => none
  if (names.length != ts.length || names.eraseDups.length != names.length) = true then some none else
  if vs.all (foldedForSure 8) = true then some none else
  if vs.all (constantsAlone 8) = true then none else some (some names)
theorem ite_by {α : Type} {c : Prop} [Decidable c] {a b r : α} (h : c) (q : a = r) : (if c then a else b) = r := (if_pos h).trans q
theorem ite_no {α : Type} {c : Prop} [Decidable c] {a b r : α} (h : ¬ c) (q : b = r) : (if c then a else b) = r := (if_neg h).trans q
theorem swl_ok {sc : Scope} {ts vs : List Expr} {env : Env} {k k2 : Nat} {p p2 : Pos} {r : Option (List Str)} (he : env.scope = sc) (hk : sc.kind = .function) (h : swl sc ts vs = some r) : swappedStores [.Tuple ts k p] (.Tuple vs k2 p2) env = pure r := by
  have hb : (env.blockKind != ScopeKind.function) = false := by
    unfold Env.blockKind
    rw [he, hk]
    rfl
  have hn : ∀ id, env.kindOf id = sc.names.lookup id := fun id => by
    show env.scope.names.lookup id = _
    rw [he]
  unfold swl at h
  unfold swappedStores
  simp only [hb, hn]
  split at h
  · rename_i h1
    cases h
    exact ite_by h1 rfl
  · rename_i h1
    refine ite_no h1 ?_
    split at h
    · rename_i h2
      cases h
      exact ite_by h2 rfl
    · rename_i h2
      refine ite_no h2 ?_
      dsimp only at h
      split at h
      · rename_i h3
        cases h
        exact ite_by h3 rfl
      · rename_i h3
        refine ite_no h3 ?_
        split at h
        · rename_i h4
          cases h
          exact ite_by h4 rfl
        · rename_i h4
          refine ite_no h4 ?_
          split at h
          · cases h
          · rename_i h5
            cases h
            exact ite_no h5 rfl
def isTupE : Expr → Bool
  | .Tuple .. => true
  | _ => false
theorem swapped_of {t : Expr} {ts : List Expr} {k : Nat} {p : Pos} {v : Expr} {env : Env} (h : isTupE v = false) : swappedStores [.Tuple ts k p] v env = pure none := by
  cases v <;> first | rfl | cases h
theorem swap_no {v t : Expr} {l : Nat} {env : Env} (h : ∀ x p, t ≠ .Name x p) : swapsWith v (some t) l env = pure false := by
  cases t with
  | Name x p => exact (h x p rfl).elim
  | _ => cases v <;> rfl
theorem sole_no {v t : Expr} {l : Nat} {env : Env} (h : ∀ x p, t ≠ .Name x p) : swapsWithSole [t] v l env = pure false := (show swapsWithSole [t] v l env = swapsWith v (some t) l env from rfl).trans (swap_no h)
/-- a comprehension given to a name: are the stores exchanged -/
def swc (c : SX) (x : Str) (px : Pos) : Expr → Bool
  | .ListComp elt gs scope p => decide (c.sc.names.lookup x = some .local) && px.line == p.line && !(scope.names.any fun (n, k) => n == x && (k == .local || k == .cell))
  | _ => false
def isLce : LE → Bool
  | .lc .. => true
  | _ => false
def isListC : Expr → Bool
  | .ListComp _ [⟨_, _, _, _⟩] _ _ => true
  | _ => false
/-- two or three names, each a local one -/
def ckL (c : SX) : List Nat → List Expr → Bool
  | [], [] => true
  | i :: is, .Name x _ :: es => decide (c.N[i]? = some x) && decide (c.sc.names.lookup x = some .local) && ckL c is es
  | _, _ => false
def namesOf : List Expr → List Str
  | .Name x _ :: es => x :: namesOf es
  | _ => []
mutual
def ckS (T : Tb) (c : SX) : LSt → Stmt → Bool
  | .asg t a, s => match s with
    | .Assign [tg] v p => ckA T c t a tg v
    | _ => false
  | .setx o i a, s => match s with
    | .Assign [.Subscript y z _] v _ => nslice z && ck T c a v && ck T c o y && ck T c i z
    | _ => false
  | .expr a, s => match s with
    | .Expr v _ => !isLc v && ck T c a v
    | _ => false
  | .ret a, s => match s with
    | .Return (some v) _ => ck T c a v
    | _ => false
  | .retN, s => match s with
    | .Return none _ => true
    | _ => false
  | .ite t a b, s => match s with
    | .If x y z _ => ck T c t x && ckSs T c a y && ckSs T c b z
    | _ => false
  | .for t it b, s => match s with
    | .For tg iter body [] _ => nset iter && ckI T c tg it iter && ckT c t tg && ckSs T c b body
    | _ => false
  | .whl _ t b, s => match s with
    | .While x body [] _ => ck T c t x && ckSs T c b body
    | _ => false
  | .brk, s => match s with
    | .Break _ => true
    | _ => false
  | .cnt, s => match s with
    | .Continue _ => true
    | _ => false
  | .pass, s => match s with
    | .Pass _ => true
    | _ => false
def ckSs (T : Tb) (c : SX) : LSts → List Stmt → Bool
  | .nil, ss => match ss with
    | [] => true
    | _ => false
  | .cons a r, ss => match ss with
    | s :: q => ckS T c a s && ckSs T c r q
    | _ => false
def ckA (T : Tb) (c : SX) : LT → LE → Expr → Expr → Bool
  | .nm i, a, tg, v => match tg with
    | .Name x px => ckN c i x && ck T c a v && (if isLc v then swc c x px v && isLce a else true)
    | _ => false
  | .tup is, a, tg, v => match tg with
    | .Tuple ts _ _ => if isTupE v then (match v with
        | .Tuple vs _ _ => match swl c.sc ts vs with
          | some none => ckNs c is ts && ck T c a v
          | some (some names) => (match a with
            | .tup es => cks T c es vs
            | _ => false) && ckL c is ts && decide (names = namesOf ts) && decide is.Nodup
          | none => false
        | _ => false) else ckNs c is ts && ck T c a v
    | _ => false
end
section
variable {T : Tb} {G : Nat → LV} {XR : XRep} {n : Nat}
/-- a comprehension that was looked at -/
theorem lc_ok {m : Bool} {own : List Nat} {t : LT} {it : LI} {cs : LEs} {el : LE} {c : SX} {X : Cx} {W : WX} {e : Expr} (L : LX T G XR n c X) (tk : Takes X W) (h : ck T c (.lc m own t it cs el) e = true) :
    ∃ elt tg iter ifs scope pos, e = .ListComp elt [⟨tg, iter, ifs, 0⟩] scope pos ∧ LcOk X XR elt tg iter ifs scope W own t (evI (FN T G n) G it) (evC (FN T G n) G cs) (ev (FN T G n) G el) := by
  simp only [ck] at h
  split at h
  · simp only [Bool.and_eq_true, decide_eq_true_eq] at h
    obtain ⟨⟨⟨⟨⟨⟨⟨rfl, h1⟩, h2⟩, h3⟩, h4⟩, h5⟩, h6⟩, h7⟩ := h
    rename_i elt tg iter ifs scope pos
    have hb := blkOk_by h1
    rw [← L.look.sc, ← L.look.N] at hb
    refine ⟨elt, tg, iter, ifs, scope, pos, rfl, ⟨L.calm, L.nd, sndI it c X W tg _ L tk h3, ⟨_, hb, ?_⟩, fun s H C cl fp => ckT_pg L.calm (L.blk s H scope hb.kind C cl fp).look h5, fun s H C cl fp => ?_, fun s H C cl fp => (snd el _ _ WF _ (L.blk s H scope hb.kind C cl fp) takes0 h7).1, set_of h2, ?_⟩⟩
    · rw [List.map_map]
      exact List.map_id' own
    · exact sndC cs _ _ WF _ (L.blk s H scope hb.kind C cl fp) takes0 h6
    · exact fun i hi => of_decide_eq_true (List.all_eq_true.mp h4 i hi)
  · cases h
theorem ckN_loc {c : SX} {i : Nat} {x : Str} (h : ckN c i x = true) : c.N[i]? = some x ∧ (c.sc.names.lookup x = some .local ∨ (c.sc.names.lookup x = some .cell ∧ c.fp x = true)) := by
  unfold ckN at h
  simpa only [Bool.and_eq_true, Bool.or_eq_true, decide_eq_true_eq] using h
theorem ckL_nil {c : SX} {is : List Nat} (h : ckL c is [] = true) : is = [] := by
  cases is with
  | nil => rfl
  | cons _ _ => simp [ckL] at h
theorem ckL_cons {c : SX} {is : List Nat} {t : Expr} {ts : List Expr} (h : ckL c is (t :: ts) = true) : ∃ i r x p, is = i :: r ∧ t = .Name x p ∧ c.N[i]? = some x ∧ c.sc.names.lookup x = some .local ∧ ckL c r ts = true := by
  cases is with
  | nil => simp [ckL] at h
  | cons i r =>
    cases t with
    | Name x p =>
      simp only [ckL, Bool.and_eq_true, decide_eq_true_eq] at h
      exact ⟨i, r, x, p, rfl, rfl, h.1.1, h.1.2, h.2⟩
    | _ => simp [ckL] at h
theorem snd_asg {t : LT} {a : LE} {tg v : Expr} {c : SX} {X : Cx} {W : WX} {pos : Pos} (L : LX T G XR n c X) (tk : Takes X W) (h : ckA T c t a tg v = true) : PS X (.Assign [tg] v pos) (tS X.K XR W (run (FN T G n) G (.asg t a))) := by
  have run_eq : ∀ e S, run (FN T G n) G (.asg t a) e S = (ev (FN T G n) G a e S).fl e fun v S1 => stp t v e S1 := fun e S => by simp only [run]
  cases t with
  | nm i =>
    simp only [ckA] at h
    split at h
    · rename_i x px
      simp only [Bool.and_eq_true] at h
      obtain ⟨⟨h1, h2⟩, h3⟩ := h
      obtain ⟨l1, l2⟩ := ckN_loc h1
      rw [← L.look.N] at l1
      rw [← L.look.sc, ← L.look.fp] at l2
      have run_eq2 : run (FN T G n) G (.asg (.nm i) a) = fun e S => (ev (FN T G n) G a e S).fl e fun v S1 => .nxt (e.set i (some v)) S1 := by
        funext e S
        rw [run_eq]
        rfl
      rw [run_eq2]
      by_cases hl : isLc v = true
      · rw [if_pos hl] at h3
        simp only [Bool.and_eq_true] at h3
        obtain ⟨h4, h5⟩ := h3
        cases a with
        | lc m own t it cs el =>
          obtain ⟨elt, tg, iter, ifs, scope, lp, rfl, lk⟩ := lc_ok L tk h2
          simp only [swc, Bool.and_eq_true, decide_eq_true_eq, Bool.not_eq_true'] at h4
          obtain ⟨⟨k1, k2⟩, k3⟩ := h4
          rw [← L.look.sc] at k1
          have e1 : (fun (e : Ev) (S : Sto) => (ev (FN T G n) G (.lc m own t it cs el) e S).fl e fun v S1 => Fl.nxt (e.set i (some v)) S1) = fun e S => (fLc m own t (evI (FN T G n) G it) (evC (FN T G n) G cs) (ev (FN T G n) G el) e S).fl e fun v S1 => .nxt (e.set i (some v)) S1 := by
            funext e S
            simp only [ev, fLc]
          rw [e1]
          exact l_setLc lk l1 k1 (sw_true L.kind k1 k2 k3)
        | _ => cases h5
      · have hl : isLc v = false := by simpa using hl
        exact l_set L.nd l1 l2 (snd a c X W _ L tk h2).1 (swap_of hl)
    · cases h
  | tup is =>
    simp only [ckA] at h
    split at h
    · rename_i ts k p
      have ns : ∀ x q, Expr.Tuple ts k p ≠ .Name x q := fun x q z => by cases z
      have gen : ckNs c is ts = true → ck T c a v = true → swappedStores [.Tuple ts k p] v X.env = pure none → PS X (.Assign [.Tuple ts k p] v pos) (tS X.K XR W (run (FN T G n) G (.asg (.tup is) a))) := fun g1 g2 g3 => by
        have e1 : run (FN T G n) G (.asg (.tup is) a) = fun e S => (ev (FN T G n) G a e S).fl e fun v S1 => stp (.tup is) v e S1 := by
          funext e S
          rw [run_eq]
        rw [e1]
        exact l_asg (t := .tup is) (snd a c X W _ L tk g2).1 (ckT_pg (t := .tup is) L.calm L.look g1) (sole_no ns) g3 rfl
      split at h
      · rename_i ht
        split at h
        · rename_i vs k2 p2
          split at h
          · rename_i hw
            simp only [Bool.and_eq_true] at h
            have hk : c.sc.kind = .function := by rw [← L.look.sc]; exact L.kind
            exact gen h.1 h.2 (swl_ok L.look.sc hk hw)
          · rename_i names hw
            simp only [Bool.and_eq_true, decide_eq_true_eq] at h
            obtain ⟨⟨⟨h1, h2⟩, h3⟩, h4⟩ := h
            have hk : c.sc.kind = .function := by rw [← L.look.sc]; exact L.kind
            have sw := swl_ok (k := k) (p := p) (k2 := k2) (p2 := p2) L.look.sc hk hw
            cases a with
            | tup es =>
              have hs := snds es c X W _ L tk h1
              have e1 : run (FN T G n) G (.asg (.tup is) (.tup es)) = fun e S => (Res.bind (evs (FN T G n) G es e S) fun xs S1 => .ok (.tup xs) S1).fl e fun v S1 => stp (.tup is) v e S1 := by
                funext e S
                rw [run_eq]
                simp only [ev]
              rw [e1]
              -- two or three names
              have hlen : (!(ts.length == 2 || ts.length == 3) || vs.length != ts.length || false) = false := by
                unfold swl at hw
                split at hw
                · cases hw
                · rename_i q
                  simpa using q
              simp only [Bool.or_false, Bool.or_eq_false_iff, Bool.not_eq_false', Bool.or_eq_true, beq_iff_eq, bne_eq_false_iff_eq] at hlen
              obtain ⟨hl1, hl2⟩ := hlen
              rcases hl1 with hl1 | hl1
              · match ts, vs, hl1, hl2, h2, hs with
                | [t1, t2], [a, b], _, _, h2, hs =>
                  obtain ⟨i, _, x, px, rfl, rfl, a1, a2, h2⟩ := ckL_cons h2
                  obtain ⟨j, _, y, py, rfl, rfl, b1, b2, h2⟩ := ckL_cons h2
                  obtain rfl := ckL_nil h2
                  rw [← L.look.N] at a1 b1
                  rw [← L.look.sc] at a2 b2
                  subst h3
                  have hij : i ≠ j := by
                    simp only [List.nodup_cons, List.mem_cons, List.not_mem_nil, or_false] at h4
                    exact h4.1
                  exact l_par L.calm L.nd a1 b1 hij a2 b2 hs sw
              · match ts, vs, hl1, hl2, h2, hs with
                | [t1, t2, t3], [a, b, d], _, _, h2, hs =>
                  obtain ⟨i, _, x, px, rfl, rfl, a1, a2, h2⟩ := ckL_cons h2
                  obtain ⟨j, _, y, py, rfl, rfl, b1, b2, h2⟩ := ckL_cons h2
                  obtain ⟨l, _, z, pz, rfl, rfl, d1, d2, h2⟩ := ckL_cons h2
                  obtain rfl := ckL_nil h2
                  rw [← L.look.N] at a1 b1 d1
                  rw [← L.look.sc] at a2 b2 d2
                  subst h3
                  simp only [List.nodup_cons, List.mem_cons, List.not_mem_nil, or_false, not_or] at h4
                  exact l_par3 L.calm L.nd a1 b1 d1 h4.1.1 h4.1.2 h4.2.1 a2 b2 d2 hs sw
            | _ => cases h1
          · cases h
        · cases h
      · rename_i ht
        simp only [Bool.and_eq_true] at h
        exact gen h.1 h.2 (swapped_of (t := v) (by simpa using ht))
    · cases h
theorem tS_congr {K : PySem.W.Frag} {W : WX} {f g : Ev → Sto → Fl} (h : ∀ e S, f e S = g e S) : tS K XR W f = tS K XR W g := by
  have : f = g := by
    funext e S
    exact h e S
  rw [this]
mutual
theorem sndS : ∀ (a : LSt) (c : SX) (X : Cx) (W : WX) (s : Stmt), LX T G XR n c X → Takes X W → PassesOwn (model X.prog X.w) X.A X.env X.xe → ckS T c a s = true → PS X s (tS X.K XR W (run (FN T G n) G a))
  | .asg t a, c, X, W, s, L, tk, hp, h => by
    simp only [ckS] at h
    split at h
    · exact snd_asg L tk h
    · cases h
  | .setx o i a, c, X, W, s, L, tk, hp, h => by
    simp only [ckS] at h
    split at h
    · simp only [Bool.and_eq_true] at h
      obtain ⟨⟨⟨h1, h2⟩, h3⟩, h4⟩ := h
      rename_i y z p v q
      have e1 := tS_congr (K := X.K) (XR := XR) (W := W) (f := run (FN T G n) G (.setx o i a)) (g := fun e S => (ev (FN T G n) G a e S).fl e fun v S1 => (ev (FN T G n) G o e S1).fl e fun x S2 => (ev (FN T G n) G i e S2).fl e fun j S3 => stx x j v e S3) (fun e S => by simp only [run])
      rw [e1]
      refine l_setx (snd a c X W _ L tk h2).1 (snd o c X W _ L tk h3).1 (snd i c X W _ L tk h4).1 (fun v => ?_) (sole_no (t := .Subscript y z p) fun x p z => nomatch z)
      cases z <;> first | rfl | cases h1
    · cases h
  | .expr a, c, X, W, s, L, tk, hp, h => by
    simp only [ckS] at h
    split at h
    · simp only [Bool.and_eq_true, Bool.not_eq_true'] at h
      refine PS_w (ps_expr (snd a c X W _ L tk h.2).1 (swap_of h.1)) fun D σ H q => ?_
      obtain ⟨Z, M, e, S, er, sr, o⟩ := q
      simp only [run] at o
      exact ⟨Z, M, e, S, er, sr, (OutS.split er o).imp fun x M1 H1 S1 x1 sr1 o1 v rv => o1 M1 H1 σ Ext.refl sr1 (er.mono x1)⟩
    · cases h
  | .ret a, c, X, W, s, L, tk, hp, h => by
    simp only [ckS] at h
    split at h
    · refine PS_w (ps_ret (snd a c X W _ L tk h).1) fun D σ H q => ?_
      obtain ⟨Z, M, e, S, er, sr, o⟩ := q
      simp only [run] at o
      exact ⟨Z, M, e, S, er, sr, (OutS.split er o).imp fun x M1 H1 S1 x1 sr1 o1 v rv => o1 M1 H1 v Ext.refl sr1 rv⟩
    · cases h
  | .retN, c, X, W, s, L, tk, hp, h => by
    simp only [ckS] at h
    split at h
    · refine PS_w ps_retN fun D σ H q => ?_
      obtain ⟨Z, M, e, S, er, sr, o⟩ := q
      simp only [run] at o
      exact o M H _ Ext.refl sr (by simp only [Rep])
    · cases h
  | .ite t a b, c, X, W, s, L, tk, hp, h => by
    simp only [ckS] at h
    split at h
    · simp only [Bool.and_eq_true] at h
      obtain ⟨⟨h1, h2⟩, h3⟩ := h
      refine PS_w (ps_if (snd t c X W _ L tk h1).2 (sndSs a c X W _ L tk hp h2) (sndSs b c X W _ L tk hp h3)) fun D σ H q => ?_
      obtain ⟨Z, M, e, S, er, sr, o⟩ := q
      simp only [run] at o
      refine ⟨Z, M, e, S, er, sr, (OutS.split er o).imp fun k M1 H1 S1 x1 sr1 o1 => ?_⟩
      cases k with
      | true => exact ⟨Z, M1, e, S1, er.mono x1, sr1, o1⟩
      | false => exact ⟨Z, M1, e, S1, er.mono x1, sr1, o1⟩
    · cases h
  | .for t it b, c, X, W, s, L, tk, hp, h => by
    simp only [ckS] at h
    split at h
    · simp only [Bool.and_eq_true] at h
      obtain ⟨⟨⟨h1, h2⟩, h3⟩, h4⟩ := h
      have e1 := tS_congr (K := X.K) (XR := XR) (W := W) (f := run (FN T G n) G (.for t it b)) (g := fun e S => (evI (FN T G n) G it e S).fl e fun w S1 => forL (runs (FN T G n) G b) t w.held w.xs e S1) (fun e S => by simp only [run])
      rw [e1]
      exact l_for hp L.calm (sndI it c X W _ _ L tk h2) (ckT_pg L.calm L.look h3) (sndSs b c X W _ L tk hp h4) (set_of h1)
    · cases h
  | .whl m t b, c, X, W, s, L, tk, hp, h => by
    simp only [ckS] at h
    split at h
    · simp only [Bool.and_eq_true] at h
      have e1 := tS_congr (K := X.K) (XR := XR) (W := W) (f := run (FN T G n) G (.whl m t b)) (g := fun e S => whlL (evT (FN T G n) G t) (runs (FN T G n) G b) m e S) (fun e S => by simp only [run])
      rw [e1]
      exact l_whl hp (snd t c X W _ L tk h.1).2 (sndSs b c X W _ L tk hp h.2)
    · cases h
  | .brk, c, X, W, s, L, tk, hp, h => by
    simp only [ckS] at h
    split at h
    · refine PS_w ps_break fun D σ H q => ?_
      obtain ⟨Z, M, e, S, er, sr, o⟩ := q
      simp only [run] at o
      exact o M H σ Ext.refl sr er
    · cases h
  | .cnt, c, X, W, s, L, tk, hp, h => by
    simp only [ckS] at h
    split at h
    · refine PS_w ps_continue fun D σ H q => ?_
      obtain ⟨Z, M, e, S, er, sr, o⟩ := q
      simp only [run] at o
      exact o M H σ Ext.refl sr er
    · cases h
  | .pass, c, X, W, s, L, tk, hp, h => by
    simp only [ckS] at h
    split at h
    · refine PS_w ps_pass fun D σ H q => ?_
      obtain ⟨Z, M, e, S, er, sr, o⟩ := q
      simp only [run] at o
      exact o M H σ Ext.refl sr er
    · cases h
theorem sndSs : ∀ (a : LSts) (c : SX) (X : Cx) (W : WX) (s : List Stmt), LX T G XR n c X → Takes X W → PassesOwn (model X.prog X.w) X.A X.env X.xe → ckSs T c a s = true → PSs X s (tS X.K XR W (runs (FN T G n) G a))
  | .nil, c, X, W, s, L, tk, hp, h => by
    simp only [ckSs] at h
    split at h
    · refine PSs_w pss_nil fun D σ H q => ?_
      obtain ⟨Z, M, e, S, er, sr, o⟩ := q
      simp only [runs] at o
      exact o M H σ Ext.refl sr er
    · cases h
  | .cons a r, c, X, W, s, L, tk, hp, h => by
    simp only [ckSs] at h
    split at h
    · simp only [Bool.and_eq_true] at h
      refine PSs_w (pss_cons (sndS a c X W _ L tk hp h.1) (sndSs r c X W _ L tk hp h.2)) fun D σ H q => ?_
      obtain ⟨Z, M, e, S, er, sr, o⟩ := q
      simp only [runs] at o
      refine ⟨Z, M, e, S, er, sr, ?_⟩
      cases q : run (FN T G n) G a e S with
      | bad => rw [q] at o; exact o
      | nxt e1 S1 =>
        rw [q] at o
        have o2 : OutS X.K XR Z W M H (runs (FN T G n) G r e1 S1) D := o
        exact fun M1 H1 σ1 x1 sr1 er1 => ⟨Z, M1, e1, S1, er1, sr1, o2.mono x1⟩
      | ret v S1 => rw [q] at o; exact o
      | brk e1 S1 => rw [q] at o; exact o
      | cnt e1 S1 => rw [q] at o; exact o
      | exc k p e1 S1 => rw [q] at o; exact o
    · cases h
end
end
end LS

/-! LS: defs, and the end of a law's row. -/
namespace LS
open PySem PySem.Spec PyProof.Rows L2
section
variable {K : PySem.W.Frag} {Z M M' : List Addr} {H H' : Hp} {S S' : Sto}
mutual
theorem Rep.low : ∀ (l : LV) (v : V), Rep K Z M H l v → LS.low M.length l = true
  | .non, _, _ => by simp only [LS.low]
  | .bl _, _, _ => by simp only [LS.low]
  | .int _, _, _ => by simp only [LS.low]
  | .str _, _, _ => by simp only [LS.low]
  | .ty _, _, _ => by simp only [LS.low]
  | .cls _, _, _ => by simp only [LS.low]
  | .ref n, _, r => by
    simp only [Rep] at r
    obtain ⟨a, e, _⟩ := r
    simp only [LS.low, decide_eq_true_eq]
    exact (List.getElem?_eq_some_iff.mp e).1
  | .tup xs, _, r => by
    simp only [Rep] at r
    obtain ⟨a, vs, _, _, r⟩ := r
    simp only [LS.low]
    exact Reps.low xs vs r
  | .lst xs, _, r => by
    simp only [Rep] at r
    obtain ⟨a, vs, _, _, r⟩ := r
    simp only [LS.low]
    exact Reps.low xs vs r
theorem Reps.low : ∀ (l : List LV) (v : List V), Reps K Z M H l v → LS.lows M.length l = true
  | [], _, _ => by simp only [LS.lows]
  | y :: ys, _, r => by
    simp only [Reps] at r
    obtain ⟨v, s, _, h1, h2⟩ := r
    simp only [LS.lows, Bool.and_eq_true]
    exact ⟨Rep.low y v h1, Reps.low ys s h2⟩
end
theorem mem_more (x : Ext M H M' H') {a : Addr} (h : a ∈ M) : a ∈ M' := by
  obtain ⟨e, rfl, _⟩ := x.more
  exact List.mem_append_left _ h
mutual
/-- fewer places of the store -/
theorem Rep.cut (x : Ext M H M' H') : ∀ (l : LV) (v : V), Rep K Z M' H' l v → LS.low M.length l = true → Rep K Z M H' l v
  | .non, _, r, _ => by simp only [Rep] at r ⊢; exact r
  | .bl _, _, r, _ => by simp only [Rep] at r ⊢; exact r
  | .int _, _, r, _ => by simp only [Rep] at r ⊢; exact r
  | .str _, _, r, _ => by simp only [Rep] at r ⊢; exact r
  | .ty _, _, r, _ => by simp only [Rep] at r ⊢; exact r
  | .cls _, _, r, _ => by simp only [Rep] at r
  | .ref n, _, r, h => by
    simp only [Rep] at r ⊢
    simp only [LS.low, decide_eq_true_eq] at h
    obtain ⟨a, e, r⟩ := r
    obtain ⟨ee, rfl, _⟩ := x.more
    rw [List.getElem?_append_left h] at e
    exact ⟨a, e, r⟩
  | .tup xs, _, r, h => by
    simp only [Rep] at r ⊢
    simp only [LS.low] at h
    obtain ⟨a, vs, e, f, r⟩ := r
    exact ⟨a, vs, e, f.elim (fun f => .inl ⟨f.1, fun z => f.2.1 (mem_more x z), f.2.2⟩) .inr, Reps.cutM x xs vs r h⟩
  | .lst xs, _, r, h => by
    simp only [Rep] at r ⊢
    simp only [LS.low] at h
    obtain ⟨a, vs, e, f, r⟩ := r
    exact ⟨a, vs, e, f.elim (fun f => .inl ⟨f.1, fun z => f.2.1 (mem_more x z), f.2.2⟩) .inr, Reps.cutM x xs vs r h⟩
theorem Reps.cutM (x : Ext M H M' H') : ∀ (l : List LV) (v : List V), Reps K Z M' H' l v → LS.lows M.length l = true → Reps K Z M H' l v
  | [], _, r, _ => by simp only [Reps] at r ⊢; exact r
  | y :: ys, _, r, h => by
    simp only [Reps] at r ⊢
    simp only [LS.lows, Bool.and_eq_true] at h
    obtain ⟨v, s, e, h1, h2⟩ := r
    exact ⟨v, s, e, Rep.cut x y v h1 h.1, Reps.cutM x ys s h2 h.2⟩
end
theorem SR.tidy (x : Ext M H M' H') (r : SR K Z M H S) (r' : SR K Z M' H' S') (t : Tidy S S') : Ext M H M H' ∧ SR K Z M H' (S'.take S.length) := by
  have x' : Ext M H M H' := ⟨⟨[], by simp, fun _ h => by simp at h⟩, x.keep, x.there⟩
  refine ⟨x', ⟨by rw [List.length_take, r.len]; have := t.1; omega, r.nd, fun n a o h1 h2 => ?_, r.hid_ext x'⟩⟩
  have hn : n < S.length := by rw [← r.len]; exact (List.getElem?_eq_some_iff.mp h1).1
  rw [List.getElem?_take_of_lt hn] at h2
  have q := r'.obj n a o (x.get h1) h2
  have hl : ∀ xs, o = .lst xs → LS.lows M.length xs = true := fun xs e => by
    subst e
    rcases t.2 n _ hn h2 with z | z
    · obtain ⟨vs, _, rs⟩ := r.obj n a _ h1 z
      exact Reps.low _ _ rs
    · rw [r.len]
      simpa only [lowO] using z
  cases o with
  | lst xs =>
    obtain ⟨vs, e1, rs⟩ := q
    exact ⟨vs, e1, Reps.cutM x _ _ rs (hl xs rfl)⟩
  | ins _ _ => exact q.elim
end
section
variable {K : PySem.W.Frag} {XR : XRep} {Z M : List Addr} {H : Hp} {S : Sto} {E : XK} {Q : VK}
/-- how exceptions lie does not hang on places that are forgotten -/
def XRcut (XR : XRep) : Prop := ∀ k p Z M M' H H' cls d, Ext M H M' H' → XR k p Z M' H' cls d → low M.length p = true → XR k p Z M H' cls d
theorem fin_out (hx : XRcut XR) {r : Fl} (sr : SR K Z M H S) (o : Out K XR Z E M H (fin S r) fun x M' H' _ => ∀ v, Rep K Z M' H' x v → Q v H') :
    OutS K XR Z (fun c d _ H => E c d H) M H r { nx := fun _ H' => Q .non H', rt := Q } := by
  cases r with
  | bad => exact o
  | brk e S1 => exact o.elim
  | cnt e S1 => exact o.elim
  | nxt e S1 =>
    intro M1 H1 σ1 x1 sr1 er1
    simp only [fin, goIf] at o
    by_cases t : Tidy S S1
    · rw [if_pos t] at o
      obtain ⟨x2, sr2⟩ := SR.tidy x1 sr sr1 t
      exact o M H1 x2 sr2 .non (by simp only [Rep])
    · rw [if_neg t] at o
      exact o M1 H1 x1 sr1 .non (by simp only [Rep])
  | ret v S1 =>
    intro M1 H1 w x1 sr1 rw1
    simp only [fin, goIf] at o
    by_cases t : Tidy S S1 ∧ low S.length v = true
    · rw [if_pos t] at o
      obtain ⟨x2, sr2⟩ := SR.tidy x1 sr sr1 t.1
      exact o M H1 x2 sr2 w (Rep.cut x1 _ _ rw1 (by rw [sr.len]; exact t.2))
    · rw [if_neg t] at o
      exact o M1 H1 x1 sr1 w rw1
  | exc k p e S1 =>
    intro M1 H1 σ1 cls d x1 sr1 er1 xr
    simp only [fin, goIf] at o
    by_cases t : Tidy S S1 ∧ low S.length p = true
    · rw [if_pos t] at o
      obtain ⟨x2, sr2⟩ := SR.tidy x1 sr sr1 t.1
      exact o M H1 cls d x2 sr2 (hx _ _ _ _ _ _ _ _ _ x1 xr (by rw [sr.len]; exact t.2))
    · rw [if_neg t] at o
      exact o M1 H1 cls d x1 sr1 xr
theorem er_start : ∀ {xs : List LV} {vs : List V} (m : Nat), Reps K Z M H xs vs → ER K Z M H (xs.map some ++ List.replicate m none) (vs.map some ++ List.replicate m none) := fun {xs vs} m r => by
  refine ⟨by simp [r.len], fun i x q => ?_⟩
  by_cases hi : i < xs.length
  · rw [List.getElem?_append_left (by simpa using hi), List.getElem?_map] at q
    simp only [Option.map_eq_some_iff] at q
    obtain ⟨y, e, e2⟩ := q
    cases e2
    obtain ⟨v, e1, r1⟩ := r.get e
    exact ⟨v, by rw [List.getElem?_append_left (by rw [List.length_map, ← r.len]; exact hi), List.getElem?_map, e1]; rfl, r1⟩
  · exfalso
    rw [List.getElem?_append_right (by simpa using hi)] at q
    have := List.mem_of_getElem? q
    simp at this
end
section
variable {P : Program} {w : World} {K : PySem.W.Frag} {mg : Str → Option Value} {base : Heap} {XR : XRep} {T : Tb} {G : Nat → LV} {n : Nat}
/-- what a def's text must be -/
structure DefOk (T : Tb) (d : Def) : Prop where
  sc : FnScope d.N d.ps (defScope d.st)
  ck : ckSs T ⟨defScope d.st, d.N, fun _ => true⟩ d.body (defBody d.st) = true
/-- where a def stands -/
def At (T : Tb) (K : PySem.W.Frag) (mg : Str → Option Value) (d : Def) (f : Addr) (fd : FuncData) : Prop := mg d.name = some (.ref f) ∧ L2.Fun K d.name d.name d.st f fd ∧ Binds K fd d.ps [] ∧ ∀ k ∈ T.kw, T.defs[k]? = some d → KwB fd d.ps
structure Top (K : PySem.W.Frag) (mg : Str → Option Value) (T : Tb) (G : Nat → LV) : Prop where
  ok : ∀ d ∈ T.defs, DefOk T d
  dat : ∀ d ∈ T.defs, ∃ f fd, At T K mg d f fd
  gls : ∀ (k : Nat) x, T.gn[k]? = some x → ∃ v u, mg x = some u ∧ RelV v u ∧ ∀ Z M H, Rep K Z M H (G k) v
  blt : ∀ x ∈ T.bn, mg x = none
/-- one def, one level up -/
theorem fn_step (hx : XRcut XR) (tp : Top K mg T G) {k : Nat} {d : Def} {f : Addr} {fd : FuncData} (hd : T.defs[k]? = some d) (F : L2.Fun K d.name d.name d.st f fd)
    (below : ∀ (k : Nat) d, T.defs[k]? = some d → ∀ f fd, At T K mg d f fd → FnL P w K mg base n f fd d.ps (spL K XR d.ps.length (sem T.defs G n k))) : FnL P w K mg base (n + 1) f fd d.ps (spL K XR d.ps.length (sem T.defs G (n + 1) k)) := by
  obtain ⟨oc, od, kV, doc, pm, an, cdv, ct, osl, rfl, lk, hcd⟩ := F.ex
  have D := tp.ok d (List.mem_of_getElem? hd)
  have S := D.sc
  intro A outer s H args us vs Q E hr hg e0 hb r hsp
  obtain ⟨hl, Z, M, xs, St0, rs, sr, o⟩ := hsp
  have KX : K.In s.heap := e0.mod.kin.keeps fun b o e => (e0.bs b o e).1
  have lim : s.heap.NoLimit := e0.mod.nolimit.keeps fun b o e => (e0.bs b o e).1
  refine codeAny_call_function hr.depth (KX _ _ lk) rfl S.co S.gen rfl (PySem.W.codeRec_of KX hcd) (hb _ _ _ _ (wpAny_newFunctionEnv_cells S.kind ?_ ?_))
  · rintro ⟨x, v⟩ hy
    rcases S.par x (List.of_mem_zip hy).1 with q | q
    · exact .inl q
    · exact .inr ⟨q, PySem.W.cellsFrom_some _ _ _ (.inl q)⟩
  rintro env rfl s1 x
  refine ⟨lim.keeps x.toInCall.keep, codeAny_func ?_⟩
  have I : Inv (cxOf (L2.CX P w) P w K mg base d.N d.name (defScope d.st) f cdv A outer s H E) [] (L2.start d.N vs) H s1 := inv_start S hr.hd e0 hl r x
  have L : LX T G XR n ⟨defScope d.st, d.N, fun _ => true⟩ (cxOf (L2.CX P w) P w K mg base d.N d.name (defScope d.st) f cdv A outer s H E) :=
    ⟨⟨rfl, rfl, rfl, S.nd⟩, rfl, hr.deeper _, hg, S.kind, fun k d hd => by
      obtain ⟨f, fd, a1, a2, a3, a4⟩ := tp.dat d (List.mem_of_getElem? hd)
      exact ⟨f, fd, a1, a2.kp, a3, below k d hd f fd ⟨a1, a2, a3, a4⟩, fun hk => a4 k hk hd⟩, tp.gls, tp.blt⟩
  have B := sndSs d.body _ _ (fun cls dd _ H => E cls dd H) _ L (takes_of rfl rfl rfl rfl) (passes_of rfl) D.ck
  have lx : xs.length = d.ps.length := by rw [rs.len]; exact hl
  have o2 : Out K XR Z E M H (fin St0 (runs (sem T.defs G n) G d.body (LS.start d.N.length xs) St0)) fun x M' H' _ => ∀ v, Rep K Z M' H' x v → Q v H' := by
    have e : sem T.defs G (n + 1) k xs St0 = fin St0 (runs (sem T.defs G n) G d.body (LS.start d.N.length xs) St0) := by
      show (match T.defs[k]? with
        | none => Res.bad
        | some d => if xs.length = d.ps.length then fin St0 (runs (sem T.defs G n) G d.body (LS.start d.N.length xs) St0) else .bad) = _
      rw [hd]
      exact if_pos lx
    rw [← e]
    exact o
  have ers : ER K Z M H (LS.start d.N.length xs) (L2.start d.N vs) := by
    unfold LS.start L2.start
    rw [rs.len]
    exact er_start _ rs
  refine wpAny_mono (B.run [] s1 (L2.start d.N vs) H { nx := fun _ H' => Q .non H', rt := Q } I ⟨Z, M, _, St0, ers, sr, fin_out hx sr o2⟩) ?_ fun e s' hs => hs
  have ended : ∀ {σ' : St} {H' : Hp} {v : V} {u : Value} {s' : Shared}, Inv (cxOf (L2.CX P w) P w K mg base d.N d.name (defScope d.st) f cdv A outer s H E) [] σ' H' s' → RelV v u → Q v H' → CE outer P w H s Q u s' :=
    fun {σ' H' v u s'} J rv q => ⟨v, H', J.os, J.bare, J.base, J.hok, rv, q⟩
  rintro fl s' hs
  cases fl with
  | next =>
    obtain ⟨σ', H', J, q⟩ := hs
    exact ended (v := V.non) (u := Value.none) J rfl q
  | ret u =>
    obtain ⟨v, σ', H', J, rv, q⟩ := hs
    exact ended J rv q
  | brk => exact (hs.choose_spec.choose_spec.2 : False).elim
  | cont => exact (hs.choose_spec.choose_spec.2 : False).elim
/-- all defs, at every level -/
theorem fn_all (hx : XRcut XR) (tp : Top K mg T G) : ∀ (n k : Nat) (d : Def), T.defs[k]? = some d → ∀ f fd, At T K mg d f fd → FnL P w K mg base n f fd d.ps (spL K XR d.ps.length (sem T.defs G n k))
  | 0, k, d, hd, f, fd, at' => by
    intro A outer s H args us vs Q E hr hg e0 hb r hsp
    obtain ⟨_, Z, M, xs, S, _, _, o⟩ := hsp
    exact o.elim
  | n + 1, k, d, hd, f, fd, at' => fn_step hx tp hd at'.2.1 (fn_all hx tp n)
end

/-! ### the end of a row -/
section
variable {P : Program} {w : World} {K : PySem.W.Frag} {mg mb : Str → Option Value}
theorem call_top {k : Nat} {fa a : Addr} {fd : FuncData} {x : Str} {sp : Sp} {s₁ : Shared} {vs : List Value} {ns : List Int}
    (KX : K.In s₁.heap) (hns : s₁.heap.Ns mainGlobals mg) (hb : s₁.heap.Ns builtinsNs mb) (hbb : ∀ x : Str, x ≠ "__name__" → mb x = bootBuiltins x) (hlim : s₁.heap.NoLimit) (hg : s₁.gens = #[])
    (ha : s₁.heap.get? a = some { cls := .type "list", data := .seq vs.toArray }) (hi : IntsAre vs ns) (hl : ns.length ≤ sizeLine) (hr : Room k callerA)
    (F' : ∀ base : Heap, FnL P w K mg base k fa fd [x] sp) (hbind : ∀ (s : Shared) (u : Value), BindsTo s fd ⟨[u], []⟩ [(x, u)])
    (hsp : ∀ H : Hp, Only H → SqL K H a (ns.map V.int) → sp [.ref a] H (fun v _ => v = .bl true) fun _ _ _ => False) :
    codeAny (model P w) callerA (.call (.ref fa) ⟨[.ref a], []⟩) (fun r s' => r = .ok (.ret (.bool true)) ∧ OldK s₁.heap s'.heap ∧ s'.os = s₁.os ∧ AllBare s'.gens) s₁ := by
  have rv := vals_ints hi
  -- the heap ahead of the call: H tracks the script at most
  have main : ∀ H : Hp, Only H → SqL K H a (ns.map V.int) → HOk P w H s₁.heap → (∀ b, H b ≠ none → b = a) → (H a ≠ none → K.lookup a = none) →
      codeAny (model P w) callerA (.call (.ref fa) ⟨[.ref a], []⟩) (fun r s' => r = .ok (.ret (.bool true)) ∧ OldK s₁.heap s'.heap ∧ s'.os = s₁.os ∧ AllBare s'.gens) s₁ := by
    intro H only hS hok hA hK
    have isA : ∀ b, b ≠ a → H b = none := fun b hb => by
      cases q : H b with
      | none => rfl
      | some u => exact (hb (hA b (by rw [q]; exact Option.some_ne_none u))).elim
    have keep : ∀ {b : Addr} {o : Obj}, s₁.heap.get? b = some o → H b = none → (hidT s₁.heap H).get? b = some o := fun e n => hidT_get e n
    have names : ∀ {b : Addr} {m : Str → Option Value}, s₁.heap.Ns b m → (hidT s₁.heap H).Ns b m := by
      rintro b m ⟨o, es, ep, e, dd, r⟩
      refine ⟨o, es, ep, keep e (isA b ?_), dd, r⟩
      rintro rfl
      rw [ha] at e
      cases e
      exact absurd dd (by simp)
    have inK : K.In (hidT s₁.heap H) := by
      intro b o e
      refine keep (KX b o e) ?_
      by_cases hb : b = a
      · subst hb
        cases q : H b with
        | none => rfl
        | some u =>
          rw [hK (by rw [q]; exact Option.some_ne_none u)] at e
          cases e
      · exact isA b hb
    have env : Env0 P w K mg (hidT s₁.heap H) callerA [] s₁ H :=
      { frames := rfl
        mod := ⟨inK, names hns, ⟨mb, names hb, hbb⟩, let ⟨mc, h1, h2⟩ := hlim; ⟨mc, names h1, h2⟩⟩
        bs := fun b o e => of_hidT e
        bsz := Nat.le_of_eq (hidT_size _ _)
        funs := trivial
        frf := fun b hb => absurd (show b ∈ ([] : List Addr) from hb) (by simp)
        hok := hok
        bare := .of_eq hg }
    refine codeAny_mono (F' _ callerA [] s₁ H ⟨[.ref a], []⟩ [.ref a] [.ref a] _ _ hr rfl env (hbind s₁ (.ref a)) (.cons rfl .nil) (hsp H only hS)) ?_
    rintro (e | fl) s' h
    · obtain ⟨_, _, _, _, _, _, _, _, _, _, _, _, z⟩ := h
      exact z.elim
    cases fl with
    | next => exact h.elim
    | brk => exact h.elim
    | cont => exact h.elim
    | ret u =>
      obtain ⟨v, H', os, bare, un, hok', r', q⟩ := h
      obtain rfl : v = .bl true := q
      obtain rfl : u = Value.bool true := r'
      refine ⟨rfl, OldK.of_keep fun b o e => ?_, os, bare⟩
      have nofs : b ∉ frs ([] : List Env) := by
        intro z
        exact absurd (show b ∈ ([] : List Addr) from z) (by simp)
      rcases only b with q | ⟨ob, ys, q⟩
      · exact un.keep b o e q nofs (by simp)
      · obtain ⟨e1, _⟩ := hok b _ q
        obtain ⟨e2, _⟩ := hok' b _ (un.frzs b ob _ q)
        rw [e] at e1
        cases e1
        exact e2
  have sz : vs.toArray.size ≤ sizeLine := by
    rw [List.size_toArray, hi.length]
    exact hl
  cases hk : K.lookup a with
  | some o =>
    have e := KX a o hk
    rw [ha] at e
    cases e
    exact main (fun _ => none) (fun _ => .inl rfl) (.inr ⟨_, vs.toArray, _, hk, rfl, rfl, rfl, sz, by simpa using rv⟩) (fun b u z => nomatch z) (fun b z => absurd rfl z) fun z => absurd rfl z
  | none =>
    have atA : (fun b => if b = a then some (HO.frz { cls := .type "list", data := .seq vs.toArray } (.lst (ns.map V.int))) else none : Hp) a = some (.frz { cls := .type "list", data := .seq vs.toArray } (.lst (ns.map V.int))) := if_pos rfl
    refine main (fun b => if b = a then some (.frz { cls := .type "list", data := .seq vs.toArray } (.lst (ns.map V.int))) else none) (fun b => ?_) (.inl (.inr ⟨_, atA⟩)) (fun b u z => ?_) (fun b z => ?_) fun _ => hk
    · by_cases hb : b = a
      · exact .inr ⟨_, _, if_pos hb⟩
      · exact .inl (if_neg hb)
    · dsimp only at z
      by_cases hb : b = a
      · subst hb
        rw [show (if b = b then some (HO.frz { cls := .type "list", data := .seq vs.toArray } (.lst (ns.map V.int))) else none) = _ from if_pos rfl] at z
        cases z
        exact ⟨ha, by rw [List.length_map]; exact hl, vs, _, rv, ha⟩
      · rw [show (if b = a then some (HO.frz { cls := .type "list", data := .seq vs.toArray } (.lst (ns.map V.int))) else none) = none from if_neg hb] at z
        cases z
    · exact Classical.byContradiction fun hb => z (if_neg hb)
end
/-- the script as a plain list -/
def script (ns : List Int) : LV := .lst (ns.map .int)
theorem end_of {l : PySem.W.OpenLaw} {n k : Nat} {q : Program} {loose : List Str} {XP : (Str → Option Value) → Heap → Prop} {YP : World → Heap → Prop} {d : DefRec} {K : Params → PySem.W.Frag} {x : Str} {T : Tb} {G : Nat → LV} {j : Nat} {D : Def}
    (hn : l.most = some n) (hn2 : n ≤ sizeLine) (hdf : d.params.defaults = []) (hr : Room k callerA) (hY : ∀ (w : World) (h : Heap), YP w h → (K w.params).In h) (hD : T.defs[j]? = some D) (hx : D.ps = [x])
    (F : ∀ (w : World) (mg : Str → Option Value) (fa : Addr) (h : Heap), (K w.params).In h → h.Ns mainGlobals mg → mg d.name = some (.ref fa) →
      ∃ fd : FuncData, (∀ (s : Shared) (u : Value), BindsTo s fd ⟨[u], []⟩ [(x, u)]) ∧ At T (K w.params) mg D fa fd ∧ Top (K w.params) mg T G)
    (ok : ∀ ns : List Int, ns.length ≤ n → ∃ S, sem T.defs G k j [script ns] [] = .ok (.bl true) S) :
    PySem.W.WalkO q loose XP YP l.row.toRowW d [] (fun f vs => PySem.call f vs) := by
  refine Att.attach_call hn hdf fun w s₀ s₁ mg mb fa o pm cd doc a vs ns G0 Y ho hd hcd hmg hobj hints hlen hg => ?_
  have KX := hY w _ Y
  obtain ⟨fd, hb, at', tp⟩ := F w mg fa _ KX G0.T.g hmg
  have xr : XRcut (fun _ _ _ _ _ _ _ => False) := fun _ _ _ _ _ _ _ _ _ _ h _ => h
  refine call_top (k := k) (sp := spL (K w.params) (fun _ _ _ _ _ _ _ => False) D.ps.length (sem T.defs G k j)) KX G0.T.g G0.T.b G0.T.builtins G0.T.nolimit hg hobj hints (Nat.le_trans hlen hn2) hr (fun base => ?_) hb fun H only hS => ?_
  · have := fn_all (P := l.prog) (w := w) (base := base) xr tp k j D hD fa fd at'
    rw [← hx]
    exact this
  · obtain ⟨S, e⟩ := ok ns hlen
    refine ⟨by rw [hx]; rfl, [], [], [script ns], [], Reps.cons ?_ Reps.nil, ⟨rfl, List.nodup_nil, fun n a o h => by simp at h, fun a h => by simp at h⟩, ?_⟩
    · simp only [script, Rep]
      refine ⟨a, ns.map V.int, rfl, ?_, Reps.of_ints ns⟩
      rcases hS with h | h
      · exact .inl ⟨h, by simp, by simp⟩
      · exact .inr h
    · rw [e]
      intro M' H' x' s' v r
      exact rep_bl r
end LS

/-! LS: reckoning with the evaluator. -/
namespace LS
open PySem PySem.Spec PyProof.Rows L2
section
variable {F : Nat → List LV → Sto → Res LV} {G : Nat → LV} {e : Ev} {S : Sto}
@[simp] theorem bind_ok_ {α β : Type} (a : α) (S : Sto) (f : α → Sto → Res β) : (Res.ok a S).bind f = f a S := rfl
@[simp] theorem bind_bad_ {α β : Type} (f : α → Sto → Res β) : (Res.bad : Res α).bind f = .bad := rfl
@[simp] theorem ofO_some {α : Type} (a : α) (S : Sto) : Res.ofO (some a) S = .ok a S := rfl
@[simp] theorem ofO_none {α : Type} (S : Sto) : Res.ofO (none : Option α) S = .bad := rfl
@[simp] theorem fl_ok {α : Type} (a : α) (S : Sto) (e : Ev) (f : α → Sto → Fl) : (Res.ok a S).fl e f = f a S := rfl
@[simp] theorem seq_nxt (e : Ev) (S : Sto) (f : Ev → Sto → Fl) : (Fl.nxt e S).seq f = f e S := rfl
@[simp] theorem seq_ret (v : LV) (S : Sto) (f : Ev → Sto → Fl) : (Fl.ret v S).seq f = .ret v S := rfl
@[simp] theorem seq_brk (e : Ev) (S : Sto) (f : Ev → Sto → Fl) : (Fl.brk e S).seq f = .brk e S := rfl
@[simp] theorem seq_cnt (e : Ev) (S : Sto) (f : Ev → Sto → Fl) : (Fl.cnt e S).seq f = .cnt e S := rfl
@[simp] theorem ev_cst (c : LC) : ev F G (.cst c) e S = .ok c.v S := rfl
@[simp] theorem cv_non : LC.v .non = .non := rfl
@[simp] theorem cv_bl (b : Bool) : LC.v (.bl b) = .bl b := rfl
@[simp] theorem cv_int (b : Int) : LC.v (.int b) = .int b := rfl
@[simp] theorem cv_str (b : Str) : LC.v (.str b) = .str b := rfl
@[simp] theorem ev_gl (k : Nat) : ev F G (.gl k) e S = .ok (G k) S := rfl
@[simp] theorem ev_bin (op : Operator) (a b : LE) : ev F G (.bin op a b) e S = (ev F G a e S).bind fun x S1 => (ev F G b e S1).bind fun y S2 => .ofO (binop op x y) S2 := rfl
theorem ev_cat (m : Bool) (a b : LE) : ev F G (.cat m a b) e S = (ev F G a e S).bind fun x S1 => (ev F G b e S1).bind fun y S2 => fCat m x y S2 := rfl
@[simp] theorem ev_un (op : UnaryOp) (a : LE) : ev F G (.un op a) e S = (ev F G a e S).bind fun x S1 => .ofO (unop op x) S1 := rfl
@[simp] theorem ev_cmp (op : CmpOp) (a b : LE) : ev F G (.cmp op a b) e S = (ev F G a e S).bind fun x S1 => (ev F G b e S1).bind fun y S2 => .ofO ((cmpop op x y S2).map .bl) S2 := rfl
@[simp] theorem ev_band (es : LEs) : ev F G (.band es) e S = evAnd F G es e S := rfl
@[simp] theorem ev_bor (es : LEs) : ev F G (.bor es) e S = evOr F G es e S := rfl
@[simp] theorem ev_not (a : LE) : ev F G (.not a) e S = (ev F G a e S).bind fun x S1 => .ofO ((truth x S1).map fun k => .bl (!k)) S1 := rfl
@[simp] theorem ev_ite (c a b : LE) : ev F G (.ite c a b) e S = ((ev F G c e S).bind fun x S1 => .ofO (truth x S1) S1).bind fun k S1 => if k then ev F G a e S1 else ev F G b e S1 := rfl
@[simp] theorem ev_tup (es : LEs) : ev F G (.tup es) e S = (evs F G es e S).bind fun xs S1 => .ok (.tup xs) S1 := rfl
@[simp] theorem ev_lst (m : Bool) (es : LEs) : ev F G (.lst m es) e S = (evs F G es e S).bind fun xs S1 => newl m xs S1 := rfl
@[simp] theorem ev_ix (a b : LE) : ev F G (.ix a b) e S = (ev F G a e S).bind fun x S1 => (ev F G b e S1).bind fun y S2 => .ofO (getix x y S2) S2 := rfl
@[simp] theorem ev_slc (m : Bool) (a : LE) (lo hi : LEs) : ev F G (.slc m a lo hi) e S = (ev F G a e S).bind fun x S1 => (evB F G lo e S1).bind fun l S2 => (evB F G hi e S2).bind fun h S3 => slice m x l h S3 := rfl
@[simp] theorem ev_call (k : Nat) (es : LEs) : ev F G (.call k es) e S = (evs F G es e S).bind fun xs S1 => F k xs S1 := rfl
@[simp] theorem ev_callK (k : Nat) (es : LEs) : ev F G (.callK k es) e S = (evs F G es e S).bind fun xs S1 => F k xs S1 := rfl
@[simp] theorem ev_blt (f : Bf) (es : LEs) : ev F G (.blt f es) e S = (evs F G es e S).bind fun xs S1 => bcall f xs S1 := rfl
@[simp] theorem ev_isi (a : LE) (t : String) : ev F G (.isi a t) e S = (ev F G a e S).bind fun x S1 => .ofO ((isinst x t S1).map .bl) S1 := rfl
@[simp] theorem ev_lc (m : Bool) (own : List Nat) (t : LT) (it : LI) (cs : LEs) (el : LE) : ev F G (.lc m own t it cs el) e S = (evI F G it e S).bind fun w S1 => (lcL (evC F G cs) (ev F G el) t own e w.held w.xs [] S1).bind fun xs S2 => newl m xs S2 := rfl
@[simp] theorem evAnd_one (a : LE) : evAnd F G (.cons a .nil) e S = ev F G a e S := rfl
@[simp] theorem evAnd_cons (a b : LE) (r : LEs) : evAnd F G (.cons a (.cons b r)) e S = (ev F G a e S).bind fun x S1 => (Res.ofO (truth x S1) S1).bind fun k S2 => if k then evAnd F G (.cons b r) e S2 else .ok x S2 := rfl
@[simp] theorem evOr_one (a : LE) : evOr F G (.cons a .nil) e S = ev F G a e S := rfl
@[simp] theorem evOr_cons (a b : LE) (r : LEs) : evOr F G (.cons a (.cons b r)) e S = (ev F G a e S).bind fun x S1 => (Res.ofO (truth x S1) S1).bind fun k S2 => if k then .ok x S2 else evOr F G (.cons b r) e S2 := rfl
@[simp] theorem evs_nil : evs F G .nil e S = .ok [] S := rfl
@[simp] theorem evs_cons (a : LE) (r : LEs) : evs F G (.cons a r) e S = (ev F G a e S).bind fun x S1 => (evs F G r e S1).bind fun xs S2 => .ok (x :: xs) S2 := rfl
@[simp] theorem evC_nil : evC F G .nil e S = .ok true S := rfl
@[simp] theorem evC_cons (a : LE) (r : LEs) : evC F G (.cons a r) e S = (ev F G a e S).bind fun x S1 => .ofO (truth x S1) S1 := rfl
@[simp] theorem evB_nil : evB F G .nil e S = .ok none S := rfl
@[simp] theorem evT_eq (a : LE) : evT F G a e S = (ev F G a e S).bind fun x S1 => .ofO (truth x S1) S1 := rfl
@[simp] theorem evI_seq (a : LE) : evI F G (.seq a) e S = (ev F G a e S).bind fun x S1 => .ofO (wkOf x S1) S1 := rfl
/-- range(..) -/
def fR1 (x : LV) (S : Sto) : Res Wk := match x with
  | .int j => if okR j then .ok ⟨rng 0 j.toNat, []⟩ S else .bad
  | _ => .bad
def fR2 (x y : LV) (S : Sto) : Res Wk := match x, y with
  | .int i, .int j => if okR i && okR j then .ok ⟨rng i (j - i).toNat, []⟩ S else .bad
  | _, _ => .bad
def fZip (x y : LV) (S : Sto) : Res Wk := match wkOf x S, wkOf y S with
  | some v, some w => if isTupV x == isTupV y then .ok ⟨zip2 v.xs w.xs, v.held ++ w.held⟩ S else .bad
  | _, _ => .bad
@[simp] theorem evI_rng1 (a : LE) : evI F G (.rng1 a) e S = (ev F G a e S).bind fun x S1 => fR1 x S1 := rfl
@[simp] theorem evI_rng2 (a b : LE) : evI F G (.rng2 a b) e S = (ev F G a e S).bind fun x S1 => (ev F G b e S1).bind fun y S2 => fR2 x y S2 := rfl
@[simp] theorem evI_zip (a b : LE) : evI F G (.zip a b) e S = (ev F G a e S).bind fun x S1 => (ev F G b e S1).bind fun y S2 => fZip x y S2 := rfl
@[simp] theorem run_asg (t : LT) (a : LE) : run F G (.asg t a) e S = (ev F G a e S).fl e fun v S1 => stp t v e S1 := rfl
@[simp] theorem run_setx (o i a : LE) : run F G (.setx o i a) e S = (ev F G a e S).fl e fun v S1 => (ev F G o e S1).fl e fun x S2 => (ev F G i e S2).fl e fun j S3 => stx x j v e S3 := rfl
@[simp] theorem run_expr (a : LE) : run F G (.expr a) e S = (ev F G a e S).fl e fun _ S1 => .nxt e S1 := rfl
@[simp] theorem run_ret (a : LE) : run F G (.ret a) e S = (ev F G a e S).fl e fun v S1 => .ret v S1 := rfl
@[simp] theorem run_retN : run F G .retN e S = .ret .non S := rfl
@[simp] theorem run_ite (c : LE) (a b : LSts) : run F G (.ite c a b) e S = (evT F G c e S).fl e fun k S1 => if k then runs F G a e S1 else runs F G b e S1 := rfl
@[simp] theorem run_for (t : LT) (it : LI) (b : LSts) : run F G (.for t it b) e S = (evI F G it e S).fl e fun w S1 => forL (runs F G b) t w.held w.xs e S1 := rfl
@[simp] theorem run_whl (n : Nat) (c : LE) (b : LSts) : run F G (.whl n c b) e S = whlL (evT F G c) (runs F G b) n e S := rfl
@[simp] theorem run_brk : run F G .brk e S = .brk e S := rfl
@[simp] theorem run_cnt : run F G .cnt e S = .cnt e S := rfl
@[simp] theorem run_pass : run F G .pass e S = .nxt e S := rfl
@[simp] theorem runs_nil : runs F G .nil e S = .nxt e S := rfl
@[simp] theorem runs_cons (s : LSt) (ss : LSts) : runs F G (.cons s ss) e S = (run F G s e S).seq (runs F G ss) := rfl
end
/-! ### operations on ints -/
section
variable {i j : Int} {S : Sto}
@[simp] theorem bop_add : binop .Add (.int i) (.int j) = some (.int (i + j)) := rfl
@[simp] theorem bop_sub : binop .Sub (.int i) (.int j) = some (.int (i - j)) := rfl
theorem bop_mul (h : mulOk i j = true) : binop .Mult (.int i) (.int j) = some (.int (i * j)) := if_pos h
theorem mulOk_l (h1 : -(2 ^ 64) < i) (h2 : i < 2 ^ 64) : mulOk i j = true := by
  unfold mulOk; simp only [Bool.or_eq_true, Bool.and_eq_true, decide_eq_true_eq]; exact .inl ⟨h1, h2⟩
theorem mulOk_r (h1 : -(2 ^ 64) < j) (h2 : j < 2 ^ 64) : mulOk i j = true := by
  unfold mulOk; simp only [Bool.or_eq_true, Bool.and_eq_true, decide_eq_true_eq]; exact .inr ⟨h1, h2⟩
theorem bop_fdiv (h : 0 < j) (h2 : j < 1073741824) : binop .FloorDiv (.int i) (.int j) = some (.int (i / j)) := if_pos ⟨h, h2⟩
theorem bop_mod (h : 0 < j) : binop .Mod (.int i) (.int j) = some (.int (i % j)) := if_pos h
@[simp] theorem uop_neg : unop .USub (.int i) = some (.int (-i)) := rfl
@[simp] theorem cop_lt : cmpop .Lt (.int i) (.int j) S = some (decide (i < j)) := rfl
@[simp] theorem cop_le : cmpop .LtE (.int i) (.int j) S = some (decide (i ≤ j)) := rfl
@[simp] theorem cop_gt : cmpop .Gt (.int i) (.int j) S = some (decide (j < i)) := rfl
@[simp] theorem cop_ge : cmpop .GtE (.int i) (.int j) S = some (decide (j ≤ i)) := rfl
@[simp] theorem cop_eq (x y : LV) : cmpop .Eq x y S = eqop x y S := rfl
@[simp] theorem cop_ne (x y : LV) : cmpop .NotEq x y S = (eqop x y S).map (!·) := rfl
@[simp] theorem cop_is (x : LV) : cmpop .Is x .non S = some (isNon x) := by cases x <;> rfl
@[simp] theorem cop_isnot (x : LV) : cmpop .IsNot x .non S = some (!isNon x) := by cases x <;> rfl
@[simp] theorem eq_int_ : eqop (.int i) (.int j) S = some (decide (i = j)) := rfl
@[simp] theorem eq_str_ (a b : Str) : eqop (.str a) (.str b) S = some (decide (a = b)) := rfl
@[simp] theorem tr_bl (b : Bool) : truth (.bl b) S = some b := rfl
@[simp] theorem tr_non : truth .non S = some false := rfl
@[simp] theorem tr_int : truth (.int i) S = some (i != 0) := rfl
@[simp] theorem map_some_ {α β : Type} (f : α → β) (a : α) : Option.map f (some a) = some (f a) := rfl
@[simp] theorem newl_f (xs : List LV) : newl false xs S = .ok (.lst xs) S := rfl
@[simp] theorem newl_t (xs : List LV) : newl true xs S = .ok (.ref S.length) (S ++ [.lst xs]) := rfl
@[simp] theorem b_int : bcall .int [.int i] S = .ok (.int i) S := rfl
@[simp] theorem b_int_bl (b : Bool) : bcall .int [.bl b] S = .ok (.int (if b then 1 else 0)) S := rfl
@[simp] theorem b_max : bcall .max2 [.int i, .int j] S = .ok (.int (if j > i then j else i)) S := rfl
@[simp] theorem b_min : bcall .min2 [.int i, .int j] S = .ok (.int (if j < i then j else i)) S := rfl
@[simp] theorem b_len_l (xs : List LV) : bcall .len [.lst xs] S = .ok (.int xs.length) S := rfl
@[simp] theorem b_len_t (xs : List LV) : bcall .len [.tup xs] S = .ok (.int xs.length) S := rfl
@[simp] theorem b_tup_l (xs : List LV) : bcall .tuple [.lst xs] S = .ok (.tup xs) S := rfl
@[simp] theorem b_tup_t (xs : List LV) : bcall .tuple [.tup xs] S = .ok (.tup xs) S := rfl
@[simp] theorem isi_int (t : String) : isinst (.int i) t S = some (t == "int") := rfl
@[simp] theorem isi_bl (b : Bool) (t : String) : isinst (.bl b) t S = some (t == "bool" || t == "int") := rfl
@[simp] theorem isi_tup (xs : List LV) (t : String) : isinst (.tup xs) t S = some (t == "tuple") := rfl
@[simp] theorem isi_lst (xs : List LV) (t : String) : isinst (.lst xs) t S = some (t == "list") := rfl
@[simp] theorem isi_str (x : Str) (t : String) : isinst (.str x) t S = some (t == "str") := rfl
@[simp] theorem isi_non (t : String) : isinst .non t S = some (t == "NoneType") := rfl
@[simp] theorem stp_nm (i : Nat) (v : LV) (e : Ev) : stp (.nm i) v e S = .nxt (e.set i (some v)) S := rfl
@[simp] theorem gi_l (xs : List LV) : getix (.lst xs) (.int i) S = atI xs i := rfl
@[simp] theorem gi_t (xs : List LV) : getix (.tup xs) (.int i) S = atI xs i := rfl
theorem gi_r {n : Nat} {xs : List LV} (h : S[n]? = some (.lst xs)) : getix (.ref n) (.int i) S = atI xs i := by
  simp [getix, items, h]
@[simp] theorem wk_l (xs : List LV) : wkOf (.lst xs) S = some ⟨xs, []⟩ := rfl
@[simp] theorem wk_t (xs : List LV) : wkOf (.tup xs) S = some ⟨xs, []⟩ := rfl
theorem atI_ofNat {α : Type} {xs : List α} {k : Nat} {v : α} (h : xs[k]? = some v) : atI xs (k : Int) = some v := atI_nat h
@[simp] theorem atI_0 {α : Type} (x : α) (xs : List α) : atI (x :: xs) 0 = some x := atI_nat (j := 0) rfl
@[simp] theorem atI_1 {α : Type} (x y : α) (xs : List α) : atI (x :: y :: xs) 1 = some y := atI_nat (j := 1) rfl
@[simp] theorem goIf_t {α : Type} (r b : α) : goIf True r b = r := if_pos trivial
theorem goIf_pos {α : Type} {p : Prop} (h : p) (r b : α) : goIf p r b = r := if_pos h
@[simp] theorem held_nil : Held [] S = True := by simp [Held]
@[simp] theorem noX_ok {α : Type} (a : α) : noX (.ok a S) = .ok a S := rfl
end
/-- evaluating a name -/
theorem ev_at {F : Nat → List LV → Sto → Res LV} {G : Nat → LV} {e : Ev} {S : Sto} {i : Nat} {v : LV} (h : e[i]? = some (some v)) : ev F G (.var i) e S = .ok v S := by
  simp only [ev, h]
/-- a def's end where it changes no place of the store that it was not given -/
theorem fin_ret {S S' : Sto} {v : LV} (t : Tidy S S') (h : low S.length v = true) : fin S (.ret v S') = .ok v (S'.take S.length) := by
  simp only [fin, goIf, if_pos (And.intro t h)]
theorem tidy_same {S : Sto} : Tidy S S := ⟨Nat.le_refl _, fun i o _ h => .inl h⟩
theorem tidy_app {S T : Sto} : Tidy S (S ++ T) := ⟨by simp, fun i o hi h => .inl (by rw [List.getElem?_append_left hi] at h; exact h)⟩
theorem tidy_low {S S' : Sto} (hl : S.length ≤ S'.length) (h : ∀ (i : Nat) o, i < S.length → S'[i]? = some o → lowO S.length o = true) : Tidy S S' := ⟨hl, fun i o hi e => .inr (h i o hi e)⟩
/-- nothing of the store is changed -/
theorem fin_pure {S : Sto} {v : LV} (h : low S.length v = true) : fin S (.ret v S) = .ok v S := by
  rw [fin_ret tidy_same h, List.take_length]
/-- .. but for new places -/
theorem fin_more {S T : Sto} {v : LV} (h : low S.length v = true) : fin S (.ret v (S ++ T)) = .ok v S := by
  rw [fin_ret tidy_app h, List.take_left]
@[simp] theorem low_int (n : Nat) (i : Int) : low n (.int i) = true := rfl
@[simp] theorem low_bl (n : Nat) (i : Bool) : low n (.bl i) = true := rfl
@[simp] theorem low_non (n : Nat) : low n .non = true := rfl
@[simp] theorem low_str (n : Nat) (x : Str) : low n (.str x) = true := rfl

/-! ### comprehensions and loops where nothing is changed -/
theorem lcL_pure {cond : Ev → Sto → Res Bool} {elt : Ev → Sto → Res LV} {t : LT} {own : List Nat} {e : Ev} {S : Sto} (env : LV → Ev) (c : LV → Bool) (f : LV → LV) : ∀ (xs acc : List LV),
    (∀ x ∈ xs, setT t x (wipeE own e) = some (env x) ∧ cond (env x) S = .ok (c x) S ∧ (c x = true → elt (env x) S = .ok (f x) S)) → acc.length + xs.length ≤ lim →
    lcL cond elt t own e [] xs acc S = .ok (acc ++ (xs.filter c).map f) S
  | [], acc, _, _ => by simp [lcL]
  | x :: xs, acc, h, hl => by
    obtain ⟨h1, h2, h3⟩ := h x List.mem_cons_self
    have hl' : acc.length + (xs.length + 1) ≤ lim := hl
    simp only [lcL, held_nil, goIf_t, h1, h2, noX_ok, bind_ok_]
    cases hc : c x with
    | true =>
      simp only [if_true, h3 hc, noX_ok, bind_ok_]
      rw [if_pos (by omega), lcL_pure env c f xs (acc ++ [f x]) (fun y hy => h y (List.mem_cons_of_mem _ hy)) (by simp; omega)]
      simp [List.filter_cons, hc]
    | false =>
      simp only [Bool.false_eq_true, if_false]
      rw [lcL_pure env c f xs acc (fun y hy => h y (List.mem_cons_of_mem _ hy)) (by omega)]
      simp [List.filter_cons, hc]
end LS

/-! LS: more reckoning: names, loops, data of ints. -/
namespace LS
open PySem PySem.Spec PyProof.Rows L2
def look (e : Ev) (i : Nat) (S : Sto) : Res LV := match e[i]? with
  | some (some v) => .ok v S
  | _ => .bad
@[simp] theorem ev_var {F : Nat → List LV → Sto → Res LV} {G : Nat → LV} {e : Ev} {S : Sto} {i : Nat} : ev F G (.var i) e S = look e i S := rfl
@[simp] theorem look_z (v : LV) (e : Ev) (S : Sto) : look (some v :: e) 0 S = .ok v S := rfl
@[simp] theorem look_s (v : Option LV) (e : Ev) (i : Nat) (S : Sto) : look (v :: e) (i + 1) S = look e i S := rfl
/-- after a turn of a loop -/
def aft (k : Ev → Sto → Fl) : Fl → Fl
  | .nxt e S => k e S
  | .cnt e S => k e S
  | .brk e S => .nxt e S
  | o => o
@[simp] theorem aft_n (k : Ev → Sto → Fl) (e : Ev) (S : Sto) : aft k (.nxt e S) = k e S := rfl
@[simp] theorem aft_c (k : Ev → Sto → Fl) (e : Ev) (S : Sto) : aft k (.cnt e S) = k e S := rfl
@[simp] theorem aft_b (k : Ev → Sto → Fl) (e : Ev) (S : Sto) : aft k (.brk e S) = .nxt e S := rfl
@[simp] theorem aft_r (k : Ev → Sto → Fl) (v : LV) (S : Sto) : aft k (.ret v S) = .ret v S := rfl
@[simp] theorem forL_0 (body : Ev → Sto → Fl) (t : LT) (e : Ev) (S : Sto) : forL body t [] [] e S = .nxt e S := by simp only [forL, held_nil, goIf_t]
theorem forL_1 {body : Ev → Sto → Fl} {t : LT} {e e1 : Ev} {S : Sto} {x : LV} {xs : List LV} (h : setT t x e = some e1) : forL body t [] (x :: xs) e S = aft (forL body t [] xs) (body e1 S) := by
  simp only [forL, held_nil, goIf_t, h]
  cases body e1 S <;> rfl
@[simp] theorem forL_nm (body : Ev → Sto → Fl) (i : Nat) (e : Ev) (S : Sto) (x : LV) (xs : List LV) : forL body (.nm i) [] (x :: xs) e S = aft (forL body (.nm i) [] xs) (body (e.set i (some x)) S) := forL_1 rfl
theorem whl_1 (c : Ev → Sto → Res Bool) (body : Ev → Sto → Fl) (n : Nat) (e : Ev) (S : Sto) : whlL c body (n + 1) e S = (c e S).fl e fun b S1 => if b then aft (whlL c body n) (body e S1) else .nxt e S1 := by
  simp only [whlL]
  cases c e S with
  | ok b S1 => cases b with
    | true => simp only [fl_ok, if_true]; cases body e S1 <;> rfl
    | false => rfl
  | bad => rfl
  | exc k p S1 => rfl
@[simp] theorem stp_tup2 (i j : Nat) (v w : LV) (e : Ev) (S : Sto) : stp (.tup [i, j]) (.tup [v, w]) e S = .nxt ((e.set i (some v)).set j (some w)) S := rfl
@[simp] theorem okR_ok {i : Int} (h0 : 0 ≤ i) (h1 : i < 4611686018427387904) : okR i = true := by
  simp only [okR, Bool.and_eq_true, decide_eq_true_eq]; omega
theorem fR1_ok {j : Int} {S : Sto} (h0 : 0 ≤ j) (h1 : j < 4611686018427387904) : fR1 (.int j) S = .ok ⟨rng 0 j.toNat, []⟩ S := by
  simp only [fR1, okR_ok h0 h1, if_true]
theorem fR2_ok {i j : Int} {S : Sto} (h0 : 0 ≤ i) (h1 : i < 4611686018427387904) (h2 : 0 ≤ j) (h3 : j < 4611686018427387904) : fR2 (.int i) (.int j) S = .ok ⟨rng i (j - i).toNat, []⟩ S := by
  simp only [fR2, okR_ok h0 h1, okR_ok h2 h3, Bool.and_self, if_true]
@[simp] theorem fCat_l (xs ys : List LV) (S : Sto) (h : xs.length + ys.length ≤ lim) : fCat false (.lst xs) (.lst ys) S = .ok (.lst (xs ++ ys)) S := by
  simp only [fCat, litems, if_pos h, newl_f]
@[simp] theorem ev_chain {F : Nat → List LV → Sto → Res LV} {G : Nat → LV} {e : Ev} {S : Sto} (op op' : CmpOp) (a b c : LE) : ev F G (.chain op op' a b c) e S = (ev F G a e S).bind fun x S1 => (ev F G b e S1).bind fun y S2 => (Res.ofO (cmpop op x y S2) S2).bind fun k S3 => if k then (ev F G c e S3).bind fun z S4 => .ofO ((cmpop op' y z S4).map .bl) S4 else .ok (.bl false) S3 := by
  simp only [ev]
  congr 1; funext x S1; congr 1; funext y S2
  cases h : cmpop op x y S2 with
  | none => rfl
  | some k => cases k <;> rfl
/-! ### lists of ints as data -/
def isI : LV → Bool
  | .int _ => true
  | _ => false
theorem toDs_ints : ∀ (xs : List LV), xs.all isI = true → ∃ ds, toDs xs = some ds ∧ ds.length = xs.length ∧ PyData.canLayAll0 ds = true ∧ PyData.depthAll ds = 0
  | [], _ => ⟨[], rfl, rfl, rfl, rfl⟩
  | .int i :: xs, h => by
    obtain ⟨ds, h1, h2, h3, h4⟩ := toDs_ints xs (by simpa [isI] using h)
    refine ⟨.int i :: ds, by simp only [toDs, toD, h1]; rfl, by simp [h2], by simp [PyData.canLayAll0, PyData.canLay0, h3], by simp [PyData.depthAll, PyData.depth, h4]⟩
  | .non :: _, h => by simp [isI] at h
  | .bl _ :: _, h => by simp [isI] at h
  | .str _ :: _, h => by simp [isI] at h
  | .tup _ :: _, h => by simp [isI] at h
  | .lst _ :: _, h => by simp [isI] at h
  | .ref _ :: _, h => by simp [isI] at h
  | .ty _ :: _, h => by simp [isI] at h
  | .cls _ :: _, h => by simp [isI] at h
theorem eq_nil {xs : List LV} {S : Sto} (h : xs.all isI = true) : eqop (.lst xs) (.lst []) S = some xs.isEmpty := by
  obtain ⟨ds, h1, h2, h3, h4⟩ := toDs_ints xs h
  have e1 : toDS (.lst xs) S = some (.list ds) := by simp only [toDS, toD, h1]; rfl
  have e2 : toDS (.lst []) S = some (.list []) := rfl
  have s1 : SeqAt.shaped (.list ds) = true := by simp [SeqAt.shaped, PyData.canLay0, h3, PyData.depth, h4]
  have s2 : SeqAt.shaped (.list []) = true := rfl
  simp only [eqop, e1, e2]
  rw [if_pos ⟨s1, s2⟩]
  cases ds with
  | nil => cases xs with
    | nil => rfl
    | cons x xs => simp at h2
  | cons d ds => cases xs with
    | nil => simp at h2
    | cons x xs => rfl
theorem b_repr_int {i : Int} {S : Sto} (h : i.natAbs < 2 ^ 1000) : bcall .repr [.int i] S = .ok (.str (PyData.shown (.int i))) S := by
  have hl : i.natAbs.log2 < 1000 := by
    by_cases h0 : i.natAbs = 0
    · rw [h0]; decide
    · exact (Nat.log2_lt h0).mpr h
  have h1 : (toString i).length ≤ 1001 := int_text_length_le (by decide) hl
  have h2 : (PyData.shown (.int i)).length ≤ lim := by
    show (Str.ofString (toString i)).length ≤ _
    rw [PySem.ofString_length]; exact Nat.le_trans h1 (by decide)
  have h3 : (PyData.int i).showable = true := by simp only [PyData.showable, decide_eq_true_eq]; omega
  exact if_pos ⟨h3, by simp [PyData.depth], h2⟩
theorem b_repr_bl {b : Bool} {S : Sto} : bcall .repr [.bl b] S = .ok (.str (PyData.shown (.bool b))) S := by
  refine if_pos ⟨rfl, by simp [PyData.depth], ?_⟩
  cases b <;> decide
@[simp] theorem rng_len (lo : Int) (n : Nat) : (rng lo n).length = n := by simp [rng]
theorem rng_mem {lo : Int} {n : Nat} {x : LV} (h : x ∈ rng lo n) : ∃ i, x = .int i ∧ lo ≤ i ∧ i < lo + n := by
  simp only [rng, List.mem_map, List.mem_range] at h
  obtain ⟨k, hk, rfl⟩ := h
  exact ⟨_, rfl, by omega, by omega⟩
theorem rng_in {lo i : Int} {n : Nat} (h0 : lo ≤ i) (h1 : i < lo + n) : LV.int i ∈ rng lo n := by
  simp only [rng, List.mem_map, List.mem_range]
  exact ⟨(i - lo).toNat, by omega, by congr 1; omega⟩
/-- a comprehension that picks out of ints -/
theorem lcL_ints {cond : Ev → Sto → Res Bool} {elt : Ev → Sto → Res LV} {t : LT} {own : List Nat} {e : Ev} {S : Sto} (c : Int → Bool) (env : Int → Ev) {xs : List LV} (hx : xs.all isI = true)
    (hl : xs.length ≤ lim) (h : ∀ i, .int i ∈ xs → setT t (.int i) (wipeE own e) = some (env i) ∧ cond (env i) S = .ok (c i) S ∧ elt (env i) S = .ok (.int i) S) :
    ∃ ys : List LV, lcL cond elt t own e [] xs [] S = .ok ys S ∧ ys.all isI = true ∧ (ys.isEmpty = true ↔ ∀ i, .int i ∈ xs → c i = false) := by
  let cc : LV → Bool := fun v => match v with
    | .int i => c i
    | _ => false
  let ee : LV → Ev := fun v => match v with
    | .int i => env i
    | _ => []
  have hx' : ∀ x ∈ xs, ∃ i, x = .int i := fun x hm => by
    have := List.all_eq_true.mp hx x hm
    cases x with
    | int i => exact ⟨i, rfl⟩
    | _ => simp [isI] at this
  refine ⟨xs.filter cc, ?_, ?_, ?_⟩
  · have := lcL_pure (cond := cond) (elt := elt) (t := t) (own := own) (e := e) (S := S) ee cc id xs [] (fun x hm => by
      obtain ⟨i, rfl⟩ := hx' x hm
      obtain ⟨h1, h2, h3⟩ := h i hm
      exact ⟨h1, h2, fun _ => h3⟩) (by simpa using hl)
    simpa using this
  · rw [List.all_eq_true]
    intro x hm
    exact List.all_eq_true.mp hx x (List.mem_filter.mp hm).1
  · constructor
    · intro h0 i hm
      cases hc : c i with
      | false => rfl
      | true =>
        have : LV.int i ∈ xs.filter cc := List.mem_filter.mpr ⟨hm, hc⟩
        rw [List.isEmpty_iff.mp h0] at this
        simp at this
    · intro h0
      rw [List.isEmpty_iff, List.filter_eq_nil_iff]
      intro x hm
      obtain ⟨i, rfl⟩ := hx' x hm
      simp [cc, h0 i hm]
theorem rng_all (lo : Int) (n : Nat) : (rng lo n).all isI = true := by
  rw [List.all_eq_true]
  intro x hx
  obtain ⟨i, rfl, _⟩ := rng_mem hx
  rfl
end LS

namespace My
open PySem PySem.Spec PyProof.Rows L2 LS
def topS (i : Nat) : Stmt := PySem.Challenge.pw_sumstand_k00_primes_and_inverses.main.body.getD i (.Pass ⟨0, 0, 0, 0⟩)
/-- is_prime -/
def b_is_prime : LSts := 
  (.cons (.ite (.bor (.cons (.not (.isi (.var 0) "int")) (.cons (.isi (.var 0) "bool") (.cons (.not (.chain .LtE .LtE (.cst (.int 2)) (.var 0) (.gl 0))) .nil)))) (
    (.cons (.ret (.cst (.bl false))) .nil)) (.nil)) 
  (.cons (.ret (.cmp .Eq (.lc false [1] (.nm 1) (.rng2 (.cst (.int 2)) (.bin .Add (.gl 1) (.cst (.int 1)))) (.cons (.band (.cons (.cmp .Lt (.var 1) (.var 0)) (.cons (.cmp .Eq (.bin .Mod (.var 0) (.var 1)) (.cst (.int 0))) .nil))) .nil) (.var 1)) (.lst false .nil))) .nil))
def d_is_prime : Def := { st := topS 3, name := "is_prime", ps := ["p"], N := ["p", "by"], body := b_is_prime }
/-- inverse -/
def b_inverse : LSts := 
  (.cons (.asg (.tup [2, 3]) (.tup (.cons (.var 1) (.cons (.bin .Mod (.var 0) (.var 1)) .nil)))) 
  (.cons (.asg (.tup [4, 5]) (.tup (.cons (.cst (.int 0)) (.cons (.cst (.int 1)) .nil)))) 
  (.cons (.whl 1000000 (.cmp .Gt (.var 3) (.cst (.int 0))) (
    (.cons (.asg (.nm 6) (.bin .FloorDiv (.var 2) (.var 3))) 
    (.cons (.asg (.tup [2, 3]) (.tup (.cons (.var 3) (.cons (.bin .Sub (.var 2) (.bin .Mult (.var 6) (.var 3))) .nil)))) 
    (.cons (.asg (.tup [4, 5]) (.tup (.cons (.var 5) (.cons (.bin .Sub (.var 4) (.bin .Mult (.var 6) (.var 5))) .nil)))) .nil))))) 
  (.cons (.ret (.bin .Mod (.var 4) (.var 1))) .nil))))
def d_inverse : Def := { st := topS 4, name := "inverse", ps := ["a", "p"], N := ["a", "p", "high", "low", "before", "now", "times"], body := b_inverse }
/-- _law_pool -/
def b__law_pool : LSts := 
  (.cons (.asg (.nm 2) (.cst (.int 0))) 
  (.cons (.ite (.cmp .Lt (.var 1) (.blt .len (.cons (.var 0) .nil))) (
    (.cons (.asg (.nm 2) (.ix (.var 0) (.var 1))) .nil)) (
    (.cons (.ite (.cmp .NotEq (.var 0) (.lst false .nil)) (
      (.cons (.asg (.nm 2) (.ix (.var 0) (.cst (.int 0)))) .nil)) (.nil)) .nil))) 
  (.cons (.asg (.nm 3) (.blt .max2 (.cons (.blt .int (.cons (.var 2) .nil)) (.cons (.blt .int (.cons (.bin .Sub (.un .USub (.cst (.int 1))) (.var 2)) .nil)) .nil)))) 
  (.cons (.asg (.nm 4) (.bin .Mod (.blt .int (.cons (.bin .Mult (.bin .Add (.bin .Add (.bin .Add (.bin .Mod (.blt .int (.cons (.var 3) .nil)) (.cst (.int 2147483629))) (.bin .Mult (.bin .Mult (.cst (.int 7919)) (.var 1)) (.var 1))) (.bin .Mult (.cst (.int 31)) (.var 1))) (.cst (.int 17))) (.cst (.int 48271))) .nil)) (.cst (.int 2147483647)))) 
  (.cons (.ret (.lst true (.cons (.bin .Mult (.var 3) (.blt .int (.cons (.band (.cons (.cmp .GtE (.var 3) (.bin .Pow (.cst (.int 10)) (.cst (.int 18)))) (.cons (.cmp .Lt (.var 1) (.blt .len (.cons (.var 0) .nil))) .nil))) .nil))) (.cons (.var 4) .nil)))) .nil)))))
def d__law_pool : Def := { st := topS 6, name := "_law_pool", ps := ["_law_script", "_law_k"], N := ["_law_script", "_law_k", "_law_cell", "_law_big", "_law_mixed"], body := b__law_pool }
/-- _law_take -/
def b__law_take : LSts := 
  (.cons (.ite (.cmp .Gt (.ix (.var 0) (.cst (.int 0))) (.cst (.int 0))) (
    (.cons (.asg (.nm 2) (.bin .Mod (.blt .int (.cons (.ix (.var 0) (.cst (.int 0))) .nil)) (.var 1))) 
    (.cons (.setx (.var 0) (.cst (.int 0)) (.bin .FloorDiv (.ix (.var 0) (.cst (.int 0))) (.var 1))) 
    (.cons (.ret (.var 2)) .nil)))) (.nil)) 
  (.cons (.setx (.var 0) (.cst (.int 1)) (.bin .Mod (.blt .int (.cons (.bin .Add (.bin .Mult (.ix (.var 0) (.cst (.int 1))) (.cst (.int 39373))) (.cst (.int 7))) .nil)) (.cst (.int 2147483647)))) 
  (.cons (.ret (.bin .Mod (.blt .int (.cons (.bin .FloorDiv (.bin .Mod (.blt .int (.cons (.bin .Mult (.ix (.var 0) (.cst (.int 1))) (.ix (.var 0) (.cst (.int 1)))) .nil)) (.cst (.int 2147483629))) (.cst (.int 32))) .nil)) (.var 1))) .nil)))
def d__law_take : Def := { st := topS 7, name := "_law_take", ps := ["_law_source", "_law_top"], N := ["_law_source", "_law_top", "_law_drawn"], body := b__law_take }
/-- _law_one -/
def b__law_one : LSts := 
  (.cons (.ret (.ix (.var 1) (.call 3 (.cons (.var 0) (.cons (.blt .len (.cons (.var 1) .nil)) .nil))))) .nil)
def d__law_one : Def := { st := topS 8, name := "_law_one", ps := ["_law_source", "_law_things"], N := ["_law_source", "_law_things"], body := b__law_one }
/-- _law_is_prime -/
def b__law_is_prime : LSts := 
  (.cons (.ite (.cmp .Lt (.var 0) (.cst (.int 2))) (
    (.cons (.ret (.cst (.bl false))) .nil)) (.nil)) 
  (.cons (.ret (.cmp .Eq (.lc false [1] (.nm 1) (.rng2 (.cst (.int 2)) (.cst (.int 257))) (.cons (.band (.cons (.cmp .LtE (.bin .Mult (.var 1) (.var 1)) (.var 0)) (.cons (.cmp .Eq (.bin .Mod (.blt .int (.cons (.var 0) .nil)) (.var 1)) (.cst (.int 0))) .nil))) .nil) (.var 1)) (.lst false .nil))) .nil))
def d__law_is_prime : Def := { st := topS 9, name := "_law_is_prime", ps := ["_law_number"], N := ["_law_number", "_law_d"], body := b__law_is_prime }
/-- _law_prime -/
def b__law_prime : LSts := 
  (.cons (.asg (.nm 1) (.call 4 (.cons (.var 0) (.cons (.lst false (.cons (.cst (.int 65521)) (.cons (.cst (.int 2)) (.cons (.cst (.int 3)) (.cons (.cst (.int 257)) (.cons (.bin .Add (.cst (.int 2)) (.call 3 (.cons (.var 0) (.cons (.cst (.int 65520)) .nil)))) (.cons (.bin .Add (.cst (.int 2)) (.call 3 (.cons (.var 0) (.cons (.cst (.int 300)) .nil)))) .nil))))))) .nil)))) 
  (.cons (.for (.nm 2) (.rng1 (.cst (.int 120))) (
    (.cons (.ite (.call 5 (.cons (.var 1) .nil)) (
      (.cons .brk .nil)) (.nil)) 
    (.cons (.asg (.nm 1) (.bin .Sub (.var 1) (.cst (.int 1)))) .nil)))) 
  (.cons (.ret (.var 1)) .nil)))
def d__law_prime : Def := { st := topS 10, name := "_law_prime", ps := ["_law_source"], N := ["_law_source", "_law_number", "_law_turn"], body := b__law_prime }
/-- _law_primes_right -/
def b__law_primes_right : LSts := 
  (.cons (.asg (.nm 2) (.lst false (.cons (.cst (.int 0)) (.cons (.cst (.int 1)) (.cons (.cst (.int 2)) (.cons (.cst (.int 3)) (.cons (.cst (.int 4)) (.cons (.cst (.int 5)) (.cons (.cst (.int 9)) (.cons (.cst (.int 25)) (.cons (.cst (.int 65519)) (.cons (.cst (.int 65520)) (.cons (.cst (.int 65521)) (.cons (.cst (.int 65522)) (.cons (.cst (.int 65531)) (.cons (.var 1) (.cons (.bin .Add (.var 1) (.cst (.int 1))) (.cons (.bin .Sub (.var 1) (.cst (.int 1))) .nil)))))))))))))))))) 
  (.cons (.for (.nm 3) (.rng1 (.cst (.int 8))) (
    (.cons (.asg (.tup [4, 5]) (.tup (.cons (.call 3 (.cons (.var 0) (.cons (.cst (.int 256)) .nil))) (.cons (.call 3 (.cons (.var 0) (.cons (.cst (.int 256)) .nil))) .nil)))) 
    (.cons (.asg (.nm 2) (.cat false (.var 2) (.lst false (.cons (.bin .Mult (.var 4) (.var 4)) (.cons (.bin .Mult (.var 4) (.var 5)) (.cons (.call 3 (.cons (.var 0) (.cons (.cst (.int 65532)) .nil))) .nil)))))) .nil)))) 
  (.cons (.ret (.cmp .Eq (.lc false [6] (.nm 6) (.seq (.var 2)) (.cons (.cmp .NotEq (.blt .repr (.cons (.call 0 (.cons (.var 6) .nil)) .nil)) (.blt .repr (.cons (.call 5 (.cons (.var 6) .nil)) .nil))) .nil) (.var 6)) (.lst false .nil))) .nil)))
def d__law_primes_right : Def := { st := topS 11, name := "_law_primes_right", ps := ["_law_source", "_law_p"], N := ["_law_source", "_law_p", "_law_some", "_law_turn", "_law_one_here", "_law_other", "_law_number"], body := b__law_primes_right }
/-- law -/
def b_law : LSts := 
  (.cons (.asg (.nm 1) (.call 2 (.cons (.var 0) (.cons (.cst (.int 0)) .nil)))) 
  (.cons (.asg (.nm 2) (.call 6 (.cons (.var 1) .nil))) 
  (.cons (.ite (.not (.call 7 (.cons (.var 1) (.cons (.var 2) .nil)))) (
    (.cons (.ret (.cst (.bl false))) .nil)) (.nil)) 
  (.cons (.asg (.nm 3) (.cst (.int 1))) 
  (.cons (.for (.nm 4) (.rng1 (.cst (.int 6))) (
    (.cons (.asg (.nm 5) (.call 4 (.cons (.var 1) (.cons (.lst false (.cons (.cst (.int 1)) (.cons (.bin .Sub (.var 2) (.cst (.int 1))) (.cons (.bin .Add (.cst (.int 1)) (.call 3 (.cons (.var 1) (.cons (.bin .Sub (.var 2) (.cst (.int 1))) .nil)))) (.cons (.bin .Add (.cst (.int 1)) (.call 3 (.cons (.var 1) (.cons (.bin .Sub (.var 2) (.cst (.int 1))) .nil)))) .nil))))) .nil)))) 
    (.cons (.asg (.nm 6) (.call 1 (.cons (.var 5) (.cons (.var 2) .nil)))) 
    (.cons (.ite (.bor (.cons (.not (.isi (.var 6) "int")) (.cons (.isi (.var 6) "bool") (.cons (.not (.chain .Lt .Lt (.cst (.int 0)) (.var 6) (.var 2))) (.cons (.cmp .NotEq (.bin .Mod (.blt .int (.cons (.bin .Mult (.var 5) (.var 6)) .nil)) (.var 2)) (.cst (.int 1))) .nil))))) (
      (.cons (.ret (.cst (.bl false))) .nil)) (.nil)) 
    (.cons (.ite (.cmp .NotEq (.blt .repr (.cons (.callK 1 (.cons (.var 6) (.cons (.var 2) .nil))) .nil)) (.blt .repr (.cons (.var 5) .nil))) (
      (.cons (.ret (.cst (.bl false))) .nil)) (.nil)) 
    (.cons (.asg (.nm 7) (.bin .Mod (.blt .int (.cons (.bin .Mult (.var 5) (.var 3)) .nil)) (.var 2))) 
    (.cons (.ite (.cmp .NotEq (.call 1 (.cons (.var 7) (.cons (.var 2) .nil))) (.bin .Mod (.blt .int (.cons (.bin .Mult (.var 6) (.call 1 (.cons (.var 3) (.cons (.var 2) .nil)))) .nil)) (.var 2))) (
      (.cons (.ret (.cst (.bl false))) .nil)) (.nil)) 
    (.cons (.asg (.nm 3) (.var 5)) .nil))))))))) 
  (.cons (.ret (.cst (.bl true))) .nil))))))
def d_law : Def := { st := topS 12, name := "law", ps := ["_law_script"], N := ["_law_script", "_law_source", "_law_p", "_law_last", "_law_turn", "_law_a", "_law_told", "_law_product"], body := b_law }
def T : Tb := { defs := [d_is_prime, d_inverse, d__law_pool, d__law_take, d__law_one, d__law_is_prime, d__law_prime, d__law_primes_right, d_law], gn := ["MOST_PRIME", "MOST_ROOT"], bn := ["bool", "int", "isinstance", "len", "max", "range", "repr"], kw := [1] }
def G : Nat → LV
  | 0 => .int 65521
  | 1 => .int 255
  | _ => .non
theorem ok_is_prime : DefOk T d_is_prime := ⟨⟨rfl, rfl, rfl, by decide +kernel, rfl, by decide +kernel, by decide +kernel⟩, by decide +kernel⟩
theorem ok_inverse : DefOk T d_inverse := ⟨⟨rfl, rfl, rfl, by decide +kernel, rfl, by decide +kernel, by decide +kernel⟩, by decide +kernel⟩
theorem ok__law_pool : DefOk T d__law_pool := ⟨⟨rfl, rfl, rfl, by decide +kernel, rfl, by decide +kernel, by decide +kernel⟩, by decide +kernel⟩
theorem ok__law_take : DefOk T d__law_take := ⟨⟨rfl, rfl, rfl, by decide +kernel, rfl, by decide +kernel, by decide +kernel⟩, by decide +kernel⟩
theorem ok__law_one : DefOk T d__law_one := ⟨⟨rfl, rfl, rfl, by decide +kernel, rfl, by decide +kernel, by decide +kernel⟩, by decide +kernel⟩
theorem ok__law_is_prime : DefOk T d__law_is_prime := ⟨⟨rfl, rfl, rfl, by decide +kernel, rfl, by decide +kernel, by decide +kernel⟩, by decide +kernel⟩
theorem ok__law_prime : DefOk T d__law_prime := ⟨⟨rfl, rfl, rfl, by decide +kernel, rfl, by decide +kernel, by decide +kernel⟩, by decide +kernel⟩
theorem ok__law_primes_right : DefOk T d__law_primes_right := ⟨⟨rfl, rfl, rfl, by decide +kernel, rfl, by decide +kernel, by decide +kernel⟩, by decide +kernel⟩
theorem ok_law : DefOk T d_law := ⟨⟨rfl, rfl, rfl, by decide +kernel, rfl, by decide +kernel, by decide +kernel⟩, by decide +kernel⟩
theorem top_mk {K : PySem.W.Frag} {h : Heap} {mg : Str → Option Value} (X : K.In h) (Gm : h.Ns mainGlobals mg) {fa : Addr} (hfa : mg "law" = some (.ref fa))
    {f0 f1 f2 f3 f4 f5 f6 f7 f8 : Addr} {od0 an0 od1 an1 od2 an2 od3 an3 od4 an4 od5 an5 od6 an6 od7 an7 od8 an8 : Option Addr} {sl0 sl1 sl2 sl3 sl4 sl5 sl6 sl7 sl8 : Array (Option Value)} {oc0 kV0 dc0 pm0 cd0 ct0 oc1 kV1 dc1 pm1 cd1 ct1 oc2 kV2 dc2 pm2 cd2 ct2 oc3 kV3 dc3 pm3 cd3 ct3 oc4 kV4 dc4 pm4 cd4 ct4 oc5 kV5 dc5 pm5 cd5 ct5 oc6 kV6 dc6 pm6 cd6 ct6 oc7 kV7 dc7 pm7 cd7 ct7 oc8 kV8 dc8 pm8 cd8 ct8 : Value}
    {tk0 tk1 : Tok}
    (a0 : PySem.W.nsIn K mainGlobals "is_prime" = some (some (.ref f0))) (l0 : K.lookup f0 = some ⟨oc0, od0, .func (PySem.W.fnOf "is_prime" "is_prime" (defArgs d_is_prime.st) (defBody d_is_prime.st) (defScope d_is_prime.st) .none kV0 dc0 pm0 an0 cd0 ct0), sl0⟩) (c0 : PySem.W.codeIn K cd0 "is_prime" = true) (k0 : PySem.W.keepIn K (.ref f0) = true)
    (a1 : PySem.W.nsIn K mainGlobals "inverse" = some (some (.ref f1))) (l1 : K.lookup f1 = some ⟨oc1, od1, .func (PySem.W.fnOf "inverse" "inverse" (defArgs d_inverse.st) (defBody d_inverse.st) (defScope d_inverse.st) .none kV1 dc1 pm1 an1 cd1 ct1), sl1⟩) (c1 : PySem.W.codeIn K cd1 "inverse" = true) (k1 : PySem.W.keepIn K (.ref f1) = true)
    (a2 : PySem.W.nsIn K mainGlobals "_law_pool" = some (some (.ref f2))) (l2 : K.lookup f2 = some ⟨oc2, od2, .func (PySem.W.fnOf "_law_pool" "_law_pool" (defArgs d__law_pool.st) (defBody d__law_pool.st) (defScope d__law_pool.st) .none kV2 dc2 pm2 an2 cd2 ct2), sl2⟩) (c2 : PySem.W.codeIn K cd2 "_law_pool" = true) (k2 : PySem.W.keepIn K (.ref f2) = true)
    (a3 : PySem.W.nsIn K mainGlobals "_law_take" = some (some (.ref f3))) (l3 : K.lookup f3 = some ⟨oc3, od3, .func (PySem.W.fnOf "_law_take" "_law_take" (defArgs d__law_take.st) (defBody d__law_take.st) (defScope d__law_take.st) .none kV3 dc3 pm3 an3 cd3 ct3), sl3⟩) (c3 : PySem.W.codeIn K cd3 "_law_take" = true) (k3 : PySem.W.keepIn K (.ref f3) = true)
    (a4 : PySem.W.nsIn K mainGlobals "_law_one" = some (some (.ref f4))) (l4 : K.lookup f4 = some ⟨oc4, od4, .func (PySem.W.fnOf "_law_one" "_law_one" (defArgs d__law_one.st) (defBody d__law_one.st) (defScope d__law_one.st) .none kV4 dc4 pm4 an4 cd4 ct4), sl4⟩) (c4 : PySem.W.codeIn K cd4 "_law_one" = true) (k4 : PySem.W.keepIn K (.ref f4) = true)
    (a5 : PySem.W.nsIn K mainGlobals "_law_is_prime" = some (some (.ref f5))) (l5 : K.lookup f5 = some ⟨oc5, od5, .func (PySem.W.fnOf "_law_is_prime" "_law_is_prime" (defArgs d__law_is_prime.st) (defBody d__law_is_prime.st) (defScope d__law_is_prime.st) .none kV5 dc5 pm5 an5 cd5 ct5), sl5⟩) (c5 : PySem.W.codeIn K cd5 "_law_is_prime" = true) (k5 : PySem.W.keepIn K (.ref f5) = true)
    (a6 : PySem.W.nsIn K mainGlobals "_law_prime" = some (some (.ref f6))) (l6 : K.lookup f6 = some ⟨oc6, od6, .func (PySem.W.fnOf "_law_prime" "_law_prime" (defArgs d__law_prime.st) (defBody d__law_prime.st) (defScope d__law_prime.st) .none kV6 dc6 pm6 an6 cd6 ct6), sl6⟩) (c6 : PySem.W.codeIn K cd6 "_law_prime" = true) (k6 : PySem.W.keepIn K (.ref f6) = true)
    (a7 : PySem.W.nsIn K mainGlobals "_law_primes_right" = some (some (.ref f7))) (l7 : K.lookup f7 = some ⟨oc7, od7, .func (PySem.W.fnOf "_law_primes_right" "_law_primes_right" (defArgs d__law_primes_right.st) (defBody d__law_primes_right.st) (defScope d__law_primes_right.st) .none kV7 dc7 pm7 an7 cd7 ct7), sl7⟩) (c7 : PySem.W.codeIn K cd7 "_law_primes_right" = true) (k7 : PySem.W.keepIn K (.ref f7) = true)
    (a8 : PySem.W.nsIn K mainGlobals "law" = some (some (.ref f8))) (l8 : K.lookup f8 = some ⟨oc8, od8, .func (PySem.W.fnOf "law" "law" (defArgs d_law.st) (defBody d_law.st) (defScope d_law.st) .none kV8 dc8 pm8 an8 cd8 ct8), sl8⟩) (c8 : PySem.W.codeIn K cd8 "law" = true) (k8 : PySem.W.keepIn K (.ref f8) = true)
    (g0 : PySem.W.nsIn K mainGlobals "MOST_PRIME" = some (some (.int 65521 tk0)))
    (g1 : PySem.W.nsIn K mainGlobals "MOST_ROOT" = some (some (.int 255 tk1)))
    (z0 : PySem.W.nsIn K mainGlobals "bool" = some none)
    (z1 : PySem.W.nsIn K mainGlobals "int" = some none)
    (z2 : PySem.W.nsIn K mainGlobals "isinstance" = some none)
    (z3 : PySem.W.nsIn K mainGlobals "len" = some none)
    (z4 : PySem.W.nsIn K mainGlobals "max" = some none)
    (z5 : PySem.W.nsIn K mainGlobals "range" = some none)
    (z6 : PySem.W.nsIn K mainGlobals "repr" = some none)
    : ∃ fd, (∀ (s : Shared) (u : Value), BindsTo s fd ⟨[u], []⟩ [("_law_script", u)]) ∧ At T K mg d_law fa fd ∧ Top K mg T G := by
  have e0 := hfa.symm.trans (PySem.W.mg_of X Gm a8)
  cases e0
  have F0 : At T K mg d_is_prime f0 _ := ⟨PySem.W.mg_of X Gm a0, fun_mk (st := d_is_prime.st) l0 c0 k0, (fun_mk (st := d_is_prime.st) l0 c0 k0).binds fun _ _ _ _ _ _ us hl => match us, hl with | [_], _ => rfl, fun k hk hd => by
    simp only [T, List.mem_cons, List.not_mem_nil, or_false] at hk
    subst hk
    exact absurd (congrArg (fun o => o.map Def.name) hd) (by decide +kernel)⟩
  have F1 : At T K mg d_inverse f1 _ := ⟨PySem.W.mg_of X Gm a1, fun_mk (st := d_inverse.st) l1 c1 k1, (fun_mk (st := d_inverse.st) l1 c1 k1).binds fun _ _ _ _ _ _ us hl => match us, hl with | [_, _], _ => rfl, fun _ _ _ s ws hw => match ws, hw with | [_, _], _ => .of_eq rfl⟩
  have F2 : At T K mg d__law_pool f2 _ := ⟨PySem.W.mg_of X Gm a2, fun_mk (st := d__law_pool.st) l2 c2 k2, (fun_mk (st := d__law_pool.st) l2 c2 k2).binds fun _ _ _ _ _ _ us hl => match us, hl with | [_, _], _ => rfl, fun k hk hd => by
    simp only [T, List.mem_cons, List.not_mem_nil, or_false] at hk
    subst hk
    exact absurd (congrArg (fun o => o.map Def.name) hd) (by decide +kernel)⟩
  have F3 : At T K mg d__law_take f3 _ := ⟨PySem.W.mg_of X Gm a3, fun_mk (st := d__law_take.st) l3 c3 k3, (fun_mk (st := d__law_take.st) l3 c3 k3).binds fun _ _ _ _ _ _ us hl => match us, hl with | [_, _], _ => rfl, fun k hk hd => by
    simp only [T, List.mem_cons, List.not_mem_nil, or_false] at hk
    subst hk
    exact absurd (congrArg (fun o => o.map Def.name) hd) (by decide +kernel)⟩
  have F4 : At T K mg d__law_one f4 _ := ⟨PySem.W.mg_of X Gm a4, fun_mk (st := d__law_one.st) l4 c4 k4, (fun_mk (st := d__law_one.st) l4 c4 k4).binds fun _ _ _ _ _ _ us hl => match us, hl with | [_, _], _ => rfl, fun k hk hd => by
    simp only [T, List.mem_cons, List.not_mem_nil, or_false] at hk
    subst hk
    exact absurd (congrArg (fun o => o.map Def.name) hd) (by decide +kernel)⟩
  have F5 : At T K mg d__law_is_prime f5 _ := ⟨PySem.W.mg_of X Gm a5, fun_mk (st := d__law_is_prime.st) l5 c5 k5, (fun_mk (st := d__law_is_prime.st) l5 c5 k5).binds fun _ _ _ _ _ _ us hl => match us, hl with | [_], _ => rfl, fun k hk hd => by
    simp only [T, List.mem_cons, List.not_mem_nil, or_false] at hk
    subst hk
    exact absurd (congrArg (fun o => o.map Def.name) hd) (by decide +kernel)⟩
  have F6 : At T K mg d__law_prime f6 _ := ⟨PySem.W.mg_of X Gm a6, fun_mk (st := d__law_prime.st) l6 c6 k6, (fun_mk (st := d__law_prime.st) l6 c6 k6).binds fun _ _ _ _ _ _ us hl => match us, hl with | [_], _ => rfl, fun k hk hd => by
    simp only [T, List.mem_cons, List.not_mem_nil, or_false] at hk
    subst hk
    exact absurd (congrArg (fun o => o.map Def.name) hd) (by decide +kernel)⟩
  have F7 : At T K mg d__law_primes_right f7 _ := ⟨PySem.W.mg_of X Gm a7, fun_mk (st := d__law_primes_right.st) l7 c7 k7, (fun_mk (st := d__law_primes_right.st) l7 c7 k7).binds fun _ _ _ _ _ _ us hl => match us, hl with | [_, _], _ => rfl, fun k hk hd => by
    simp only [T, List.mem_cons, List.not_mem_nil, or_false] at hk
    subst hk
    exact absurd (congrArg (fun o => o.map Def.name) hd) (by decide +kernel)⟩
  have F8 : At T K mg d_law fa _ := ⟨PySem.W.mg_of X Gm a8, fun_mk (st := d_law.st) l8 c8 k8, (fun_mk (st := d_law.st) l8 c8 k8).binds fun _ _ _ _ _ _ us hl => match us, hl with | [_], _ => rfl, fun k hk hd => by
    simp only [T, List.mem_cons, List.not_mem_nil, or_false] at hk
    subst hk
    exact absurd (congrArg (fun o => o.map Def.name) hd) (by decide +kernel)⟩
  refine ⟨_, fun s u => .of_eq rfl, F8, ⟨fun d hd => ?_, fun d hd => ?_, fun k x hk => ?_, fun x hx => ?_⟩⟩
  · simp only [T, List.mem_cons, List.not_mem_nil, or_false] at hd
    rcases hd with rfl | rfl | rfl | rfl | rfl | rfl | rfl | rfl | rfl
    · exact ok_is_prime
    · exact ok_inverse
    · exact ok__law_pool
    · exact ok__law_take
    · exact ok__law_one
    · exact ok__law_is_prime
    · exact ok__law_prime
    · exact ok__law_primes_right
    · exact ok_law
  · simp only [T, List.mem_cons, List.not_mem_nil, or_false] at hd
    rcases hd with rfl | rfl | rfl | rfl | rfl | rfl | rfl | rfl | rfl
    · exact ⟨_, _, F0⟩
    · exact ⟨_, _, F1⟩
    · exact ⟨_, _, F2⟩
    · exact ⟨_, _, F3⟩
    · exact ⟨_, _, F4⟩
    · exact ⟨_, _, F5⟩
    · exact ⟨_, _, F6⟩
    · exact ⟨_, _, F7⟩
    · exact ⟨_, _, F8⟩
  · match k, hk with
    | 0, hk =>
      obtain rfl := Option.some.inj hk
      exact ⟨.int 65521, _, PySem.W.mg_of X Gm g0, ⟨_, rfl⟩, fun Z M H => by simp only [G, Rep]⟩
    | 1, hk =>
      obtain rfl := Option.some.inj hk
      exact ⟨.int 255, _, PySem.W.mg_of X Gm g1, ⟨_, rfl⟩, fun Z M H => by simp only [G, Rep]⟩
    | k + 2, hk => simp [T] at hk
  · simp only [T, List.mem_cons, List.not_mem_nil, or_false] at hx
    rcases hx with rfl | rfl | rfl | rfl | rfl | rfl | rfl
    · exact PySem.W.mg_none_of X Gm z0
    · exact PySem.W.mg_none_of X Gm z1
    · exact PySem.W.mg_none_of X Gm z2
    · exact PySem.W.mg_none_of X Gm z3
    · exact PySem.W.mg_none_of X Gm z4
    · exact PySem.W.mg_none_of X Gm z5
    · exact PySem.W.mg_none_of X Gm z6

/-! ## the plain law -/
abbrev src (a b : Int) : Sto := [.lst [.int a, .int b]]
theorem gx0 (a b : Int) : getix (.ref 0) (.int 0) (src a b) = some (.int a) := rfl
theorem gx1 (a b : Int) : getix (.ref 0) (.int 1) (src a b) = some (.int b) := rfl
theorem sx0 (a b c : Int) (e : Ev) : stx (.ref 0) (.int 0) (.int c) e (src a b) = .nxt e (src c b) := rfl
theorem sx1 (a b c : Int) (e : Ev) : stx (.ref 0) (.int 1) (.int c) e (src a b) = .nxt e (src a c) := rfl
theorem fin_src {a b a' b' : Int} {v : LV} (h : low 1 v = true) : fin (src a b) (.ret v (src a' b')) = .ok v (src a' b') := by
  rw [fin_ret (S := src a b) (S' := src a' b') (tidy_low (Nat.le_refl 1) fun i o hi e => ?_) h]
  · rfl
  · cases i with
    | zero => obtain rfl := Option.some.inj e; rfl
    | succ i => exact absurd hi (by simp)
theorem s_take (n : Nat) (vs : List LV) (S : Sto) : sem T.defs G (n + 1) 3 vs S = if vs.length = 2 then fin S (runs (sem T.defs G n) G b__law_take (start 3 vs) S) else .bad := rfl
theorem s_one (n : Nat) (vs : List LV) (S : Sto) : sem T.defs G (n + 1) 4 vs S = if vs.length = 2 then fin S (runs (sem T.defs G n) G b__law_one (start 2 vs) S) else .bad := rfl
theorem s_pool (n : Nat) (vs : List LV) (S : Sto) : sem T.defs G (n + 1) 2 vs S = if vs.length = 2 then fin S (runs (sem T.defs G n) G b__law_pool (start 5 vs) S) else .bad := rfl
theorem s_isp (n : Nat) (vs : List LV) (S : Sto) : sem T.defs G (n + 1) 0 vs S = if vs.length = 1 then fin S (runs (sem T.defs G n) G b_is_prime (start 2 vs) S) else .bad := rfl
theorem s_lisp (n : Nat) (vs : List LV) (S : Sto) : sem T.defs G (n + 1) 5 vs S = if vs.length = 1 then fin S (runs (sem T.defs G n) G b__law_is_prime (start 2 vs) S) else .bad := rfl
theorem s_inv (n : Nat) (vs : List LV) (S : Sto) : sem T.defs G (n + 1) 1 vs S = if vs.length = 2 then fin S (runs (sem T.defs G n) G b_inverse (start 7 vs) S) else .bad := rfl
theorem s_prime (n : Nat) (vs : List LV) (S : Sto) : sem T.defs G (n + 1) 6 vs S = if vs.length = 1 then fin S (runs (sem T.defs G n) G b__law_prime (start 3 vs) S) else .bad := rfl
theorem s_right (n : Nat) (vs : List LV) (S : Sto) : sem T.defs G (n + 1) 7 vs S = if vs.length = 2 then fin S (runs (sem T.defs G n) G b__law_primes_right (start 7 vs) S) else .bad := rfl
theorem s_law (n : Nat) (vs : List LV) (S : Sto) : sem T.defs G (n + 1) 8 vs S = if vs.length = 1 then fin S (runs (sem T.defs G n) G b_law (start 8 vs) S) else .bad := rfl
theorem take_ok {n : Nat} {a b top : Int} (h0 : 0 < top) (h1 : top < 1073741824) :
    ∃ d a' b', sem T.defs G (n + 1) 3 [.ref 0, .int top] (src a b) = .ok (.int d) (src a' b') ∧ 0 ≤ d ∧ d < top := by
  rw [s_take, if_pos (show [LV.ref 0, .int top].length = 2 from rfl)]
  show ∃ d a' b', fin _ (runs _ _ _ [some (.ref 0), some (.int top), none] _) = _ ∧ _
  have v0 : ∀ {S : Sto} (x : Option LV), ev (sem T.defs G n) G (.var 0) [some (.ref 0), some (.int top), x] S = .ok (.ref 0) S := fun _ => rfl
  have v1 : ∀ {S : Sto} (x : Option LV), ev (sem T.defs G n) G (.var 1) [some (.ref 0), some (.int top), x] S = .ok (.int top) S := fun _ => rfl
  have v2 : ∀ {S : Sto} (x : LV), ev (sem T.defs G n) G (.var 2) [some (.ref 0), some (.int top), some x] S = .ok x S := fun _ => rfl
  have st2 : ∀ (v : LV) (x : Option LV), List.set [some (LV.ref 0), some (.int top), x] 2 (some v) = [some (LV.ref 0), some (.int top), some v] := fun _ _ => rfl
  by_cases ha : 0 < a
  · refine ⟨a % top, a / top, b, ?_, Int.emod_nonneg _ (by omega), Int.emod_lt_of_pos _ h0⟩
    simp only [b__law_take, runs_cons, runs_nil, run_ite, evT_eq, ev_cmp, ev_ix, v0, v1, v2, ev_cst, cv_int, bind_ok_, gx0, ofO_some, cop_gt, map_some_, tr_bl, fl_ok, ha, decide_true, if_true, run_asg, ev_bin, ev_blt, evs_cons, evs_nil, b_int, bop_mod h0, bop_fdiv h0 h1, stp_nm, st2, seq_nxt, run_setx, sx0, run_ret, seq_ret]
    exact fin_src rfl
  · simp only [b__law_take, runs_cons, runs_nil, run_ite, evT_eq, ev_cmp, ev_ix, v0, v1, v2, ev_cst, cv_int, bind_ok_, gx0, gx1, ofO_some, cop_gt, map_some_, tr_bl, fl_ok, ha, decide_false, Bool.false_eq_true, if_false, run_asg, ev_bin, ev_blt, evs_cons, evs_nil, b_int, bop_mod h0, bop_fdiv h0 h1, stp_nm, st2, seq_nxt, run_setx, sx1, run_ret, seq_ret, bop_add,
      bop_mul (mulOk_r (i := b) (j := 39373) (by decide) (by decide)), bop_mod (show (0 : Int) < 2147483647 by decide), bop_mod (show (0 : Int) < 2147483629 by decide), bop_fdiv (show (0 : Int) < 32 by decide) (by decide)]
    generalize hq : (b * 39373 + 7) % 2147483647 = q
    have q0 : 0 ≤ q := by omega
    have q1 : q < 2147483647 := by omega
    simp only [bop_mul (mulOk_l (i := q) (j := q) (by omega) (by omega)), bind_ok_, ofO_some, fl_ok, b_int, seq_ret, bop_mod h0, bop_mod (show (0 : Int) < 2147483629 by decide), bop_fdiv (show (0 : Int) < 32 by decide) (show (32 : Int) < 1073741824 by decide)]
    exact ⟨_, _, _, fin_src rfl, Int.emod_nonneg _ (by omega), Int.emod_lt_of_pos _ h0⟩
/-! ### primes, plainly -/
theorem dvd_of_mod {a b : Int} (h : a % b = 0) : b ∣ a := Int.dvd_of_emod_eq_zero h
/-- d*d ≤ m, or the other part is the smaller -/
theorem small_div {m d : Int} (hm : 2 ≤ m) (hd : 2 ≤ d) (hdm : d < m) (h : m % d = 0) : ∃ e, 2 ≤ e ∧ e * e ≤ m ∧ m % e = 0 ∧ e ≤ d := by
  by_cases hs : d * d ≤ m
  · exact ⟨d, hd, hs, h, Int.le_refl _⟩
  · obtain ⟨e, he⟩ := dvd_of_mod h
    have e0 : 0 < e := by
      rcases Int.lt_or_le 0 e with h | h
      · exact h
      · have : d * e ≤ 0 := Int.mul_nonpos_of_nonneg_of_nonpos (by omega) h
        omega
    have e1 : e ≠ 1 := fun h1 => by subst h1; omega
    have ed : e < d := by
      rcases Int.lt_or_le e d with h | h
      · exact h
      · have : d * d ≤ d * e := Int.mul_le_mul_of_nonneg_left h (by omega)
        omega
    refine ⟨e, by omega, ?_, ?_, by omega⟩
    · rw [he]; exact Int.mul_le_mul_of_nonneg_right (by omega) (by omega)
    · rw [he]; exact Int.mul_emod_left _ _
def Pr (p : Int) : Prop := 2 ≤ p ∧ p ≤ 65521 ∧ ∀ d, 2 ≤ d → d < p → p % d ≠ 0
/-- what _law_is_prime asks -/
def Lp (m : Int) : Prop := 2 ≤ m ∧ ∀ d, 2 ≤ d → d < 257 → ¬(d * d ≤ m ∧ m % d = 0)
def Ip (m : Int) : Prop := 2 ≤ m ∧ m ≤ 65521 ∧ ∀ d, 2 ≤ d → d < 256 → ¬(d < m ∧ m % d = 0)
theorem sq_lt {e : Int} (h : e * e ≤ 65531) (h0 : 2 ≤ e) : e < 256 := by
  rcases Int.lt_or_le e 256 with h1 | h1
  · exact h1
  · have : 256 * 256 ≤ e * e := Int.mul_le_mul h1 h1 (by decide) (by omega)
    omega
theorem lp_ip {m : Int} (hm : m ≤ 65531) : Lp m ↔ Ip m := by
  constructor
  · intro ⟨h1, h2⟩
    have hk : m ≤ 65521 := by
      rcases Int.lt_or_le 65521 m with h | h
      · exfalso
        have hh : m = 65522 ∨ m = 65523 ∨ m = 65524 ∨ m = 65525 ∨ m = 65526 ∨ m = 65527 ∨ m = 65528 ∨ m = 65529 ∨ m = 65530 ∨ m = 65531 := by omega
        rcases hh with rfl | rfl | rfl | rfl | rfl | rfl | rfl | rfl | rfl | rfl
        · exact h2 2 (by decide) (by decide) (by decide)
        · exact h2 3 (by decide) (by decide) (by decide)
        · exact h2 2 (by decide) (by decide) (by decide)
        · exact h2 5 (by decide) (by decide) (by decide)
        · exact h2 2 (by decide) (by decide) (by decide)
        · exact h2 7 (by decide) (by decide) (by decide)
        · exact h2 2 (by decide) (by decide) (by decide)
        · exact h2 3 (by decide) (by decide) (by decide)
        · exact h2 2 (by decide) (by decide) (by decide)
        · exact h2 19 (by decide) (by decide) (by decide)
      · exact h
    refine ⟨h1, hk, fun d d0 d1 ⟨d2, d3⟩ => ?_⟩
    obtain ⟨e, e0, e1, e2, e3⟩ := small_div h1 d0 d2 d3
    exact h2 e e0 (by omega) ⟨e1, e2⟩
  · intro ⟨h1, h2, h3⟩
    refine ⟨h1, fun d d0 d1 ⟨d2, d3⟩ => ?_⟩
    have d4 : d < 256 := sq_lt (by omega) d0
    have d5 : d < m := by
      have : 2 * d ≤ d * d := Int.mul_le_mul_of_nonneg_right d0 (by omega)
      omega
    exact h3 d d0 d4 ⟨d5, d3⟩
theorem ip_pr {p : Int} (h : Ip p) : Pr p := by
  obtain ⟨h1, h2, h3⟩ := h
  refine ⟨h1, h2, fun d d0 d1 d2 => ?_⟩
  obtain ⟨e, e0, e1, e2, e3⟩ := small_div h1 d0 d1 d2
  exact h3 e e0 (sq_lt (by omega) e0) ⟨by omega, e2⟩
/-! ### what the two is_prime come to -/
open Classical in
theorem isp_ok {n : Nat} {m : Int} {S : Sto} (h0 : 0 ≤ m) : sem T.defs G (n + 1) 0 [.int m] S = .ok (.bl (decide (Ip m))) S := by
  rw [s_isp, if_pos (show [LV.int m].length = 1 from rfl)]
  show fin _ (runs _ _ _ [some (.int m), none] _) = _
  by_cases hr : 2 ≤ m ∧ m ≤ 65521
  · obtain ⟨r1, r2⟩ := hr
    simp only [b_is_prime, runs_cons, runs_nil, run_ite, evT_eq, ev_bor, evOr_cons, evOr_one, ev_not, ev_isi, ev_var, look_z, bind_ok_, isi_int, ofO_some, map_some_, tr_bl, show (("int" : String) == "int") = true from rfl, show (("bool" : String) == "int") = false from rfl, Bool.not_true, Bool.false_eq_true, if_false, ev_chain, ev_cst, cv_int, cop_le, decide_true, r1, r2, ev_gl, if_true, fl_ok, seq_nxt, run_ret, ev_cmp, ev_lc, evI_rng2, ev_bin, bop_add, show G 0 = .int 65521 from rfl, show G 1 = .int 255 from rfl]
    rw [fR2_ok (by decide) (by decide) (by decide) (by decide)]
    simp only [bind_ok_]
    obtain ⟨ys, y1, y2, y3⟩ := lcL_ints (cond := evC (sem T.defs G n) G (.cons (.band (.cons (.cmp .Lt (.var 1) (.var 0)) (.cons (.cmp .Eq (.bin .Mod (.var 0) (.var 1)) (.cst (.int 0))) .nil))) .nil)) (elt := ev (sem T.defs G n) G (.var 1)) (t := .nm 1) (own := [1]) (e := [some (.int m), none]) (S := S)
      (fun d => decide (d < m) && decide (m % d = 0)) (fun d => [some (.int m), some (.int d)]) (rng_all 2 (255 + 1 - 2 : Int).toNat) (by rw [rng_len]; decide) (fun d hd => by
        obtain ⟨d', e, d0, d1⟩ := rng_mem hd
        obtain rfl := LV.int.inj e
        refine ⟨rfl, ?_, rfl⟩
        simp only [evC_cons, ev_band, evAnd_cons, evAnd_one, ev_cmp, ev_var, look_s, look_z, bind_ok_, cop_lt, map_some_, ofO_some, tr_bl, ev_bin, bop_mod (show 0 < d by omega), ev_cst, cv_int, cop_eq, eq_int_]
        by_cases hm : d < m <;> simp [hm])
    rw [y1]
    simp only [bind_ok_, newl_f, ev_lst, evs_nil, cop_eq, eq_nil y2, map_some_, ofO_some, fl_ok, seq_ret]
    rw [fin_pure rfl]
    congr 2
    rw [Bool.eq_iff_iff, y3, decide_eq_true_iff]
    constructor
    · intro h
      refine ⟨r1, r2, fun d d0 d1 ⟨d2, d3⟩ => ?_⟩
      have := h d (rng_in d0 (by simpa using d1))
      simp [d2, d3] at this
    · intro ⟨_, _, h⟩ d hd
      obtain ⟨d', e, d0, d1⟩ := rng_mem hd
      obtain rfl := LV.int.inj e
      have := h d d0 (by simpa using d1)
      cases hc : (decide (d < m) && decide (m % d = 0)) with
      | false => rfl
      | true => simp at hc; exact absurd hc this
  · have hI : ¬ Ip m := fun h => hr ⟨h.1, h.2.1⟩
    have hch : ∀ e0 : Ev, ev (sem T.defs G n) G (.chain .LtE .LtE (.cst (.int 2)) (.var 0) (.gl 0)) (some (.int m) :: e0) S = .ok (.bl false) S := fun e0 => by
      simp only [ev_chain, ev_cst, cv_int, ev_var, look_z, bind_ok_, cop_le, ofO_some, ev_gl, show G 0 = .int 65521 from rfl, map_some_]
      by_cases h2 : 2 ≤ m
      · have h3 : ¬ m ≤ 65521 := fun h => hr ⟨h2, h⟩
        simp [h2, h3]
      · simp [h2]
    simp only [b_is_prime, runs_cons, runs_nil, run_ite, evT_eq, ev_bor, evOr_cons, evOr_one, ev_not, ev_isi, ev_var, look_z, bind_ok_, isi_int, ofO_some, map_some_, tr_bl, show (("int" : String) == "int") = true from rfl, show (("bool" : String) == "int") = false from rfl, Bool.not_true, Bool.false_eq_true, if_false, hch, Bool.not_false, if_true, fl_ok, run_ret, ev_cst, cv_bl, seq_ret]
    rw [fin_pure rfl, decide_eq_false hI]
open Classical in
theorem lisp_ok {n : Nat} {m : Int} {S : Sto} : sem T.defs G (n + 1) 5 [.int m] S = .ok (.bl (decide (Lp m))) S := by
  rw [s_lisp, if_pos (show [LV.int m].length = 1 from rfl)]
  show fin _ (runs _ _ _ [some (.int m), none] _) = _
  by_cases hr : m < 2
  · have hI : ¬ Lp m := fun h => absurd h.1 (by omega)
    simp only [b__law_is_prime, runs_cons, runs_nil, run_ite, evT_eq, ev_cmp, ev_var, look_z, bind_ok_, ev_cst, cv_int, cop_lt, hr, decide_true, map_some_, ofO_some, tr_bl, fl_ok, if_true, run_ret, cv_bl, seq_ret]
    rw [fin_pure rfl, decide_eq_false hI]
  · simp only [b__law_is_prime, runs_cons, runs_nil, run_ite, evT_eq, ev_cmp, ev_var, look_z, bind_ok_, ev_cst, cv_int, cop_lt, hr, decide_false, map_some_, ofO_some, tr_bl, fl_ok, Bool.false_eq_true, if_false, run_ret, seq_nxt, ev_lc, evI_rng2]
    rw [fR2_ok (by decide) (by decide) (by decide) (by decide)]
    simp only [bind_ok_]
    obtain ⟨ys, y1, y2, y3⟩ := lcL_ints (cond := evC (sem T.defs G n) G (.cons (.band (.cons (.cmp .LtE (.bin .Mult (.var 1) (.var 1)) (.var 0)) (.cons (.cmp .Eq (.bin .Mod (.blt .int (.cons (.var 0) .nil)) (.var 1)) (.cst (.int 0))) .nil))) .nil)) (elt := ev (sem T.defs G n) G (.var 1)) (t := .nm 1) (own := [1]) (e := [some (.int m), none]) (S := S)
      (fun d => decide (d * d ≤ m) && decide (m % d = 0)) (fun d => [some (.int m), some (.int d)]) (rng_all 2 (257 - 2 : Int).toNat) (by rw [rng_len]; decide) (fun d hd => by
        obtain ⟨d', e, d0, d1⟩ := rng_mem hd
        obtain rfl := LV.int.inj e
        have d2 : d < 257 := by simpa using d1
        refine ⟨rfl, ?_, rfl⟩
        simp only [evC_cons, ev_band, evAnd_cons, evAnd_one, ev_cmp, ev_var, look_s, look_z, bind_ok_, cop_le, map_some_, ofO_some, tr_bl, ev_bin, bop_mul (mulOk_l (i := d) (j := d) (by omega) (by omega)), ev_blt, evs_cons, evs_nil, b_int, bop_mod (show 0 < d by omega), ev_cst, cv_int, cop_eq, eq_int_]
        by_cases hm : d * d ≤ m <;> simp [hm])
    rw [y1]
    simp only [bind_ok_, newl_f, ev_lst, evs_nil, cop_eq, eq_nil y2, map_some_, ofO_some, fl_ok, seq_ret]
    rw [fin_pure rfl]
    congr 2
    rw [Bool.eq_iff_iff, y3, decide_eq_true_iff]
    constructor
    · intro h
      refine ⟨by omega, fun d d0 d1 ⟨d2, d3⟩ => ?_⟩
      have := h d (rng_in d0 (by simpa using d1))
      simp [d2, d3] at this
    · intro ⟨_, h⟩ d hd
      obtain ⟨d', e, d0, d1⟩ := rng_mem hd
      obtain rfl := LV.int.inj e
      have := h d d0 (by simpa using d1)
      cases hc : (decide (d * d ≤ m) && decide (m % d = 0)) with
      | false => rfl
      | true => simp at hc; exact absurd hc this

def gaps : List Nat := [113, 229, 347, 463, 577, 691, 809, 919, 1033, 1151, 1259, 1373, 1489, 1607, 1723, 1831, 1949, 2063, 2179, 2297, 2411, 2521, 2633, 2749, 2861, 2971, 3089, 3203, 3319, 3433, 3547, 3659, 3769, 3881, 3989, 4099, 4217, 4327, 4441, 4549, 4663, 4759, 4877, 4993, 5107, 5209, 5323, 5441, 5557, 5669, 5783, 5897, 6011, 6121, 6229, 6343, 6451, 6569, 6679, 6793, 6911, 7027, 7129, 7247, 7351, 7459, 7577, 7691, 7793, 7907, 8017, 8123, 8237, 8353, 8467, 8581, 8699, 8807, 8923, 9041, 9157, 9257, 9371, 9479, 9587, 9697, 9811, 9929, 10039, 10151, 10267, 10369, 10487, 10601, 10711, 10799, 10909, 11027, 11131, 11243, 11353, 11471, 11587, 11701, 11813, 11927, 12043, 12161, 12277, 12391, 12503, 12619, 12721, 12829, 12941, 13049, 13163, 13267, 13381, 13499, 13613, 13729, 13841, 13933, 14051, 14159, 14251, 14369, 14479, 14593, 14699, 14813, 14929, 15031, 15149, 15263, 15377, 15493, 15607, 15683, 15797, 15913, 16007, 16111, 16229, 16339, 16453, 16567, 16673, 16787, 16903, 17021, 17137, 17239, 17351, 17467, 17581, 17683, 17791, 17909, 18013, 18131, 18233, 18341, 18457, 18553, 18671, 18787, 18899, 19013, 19121, 19237, 19333, 19447, 19559, 19661, 19777, 19891, 19997, 20113, 20231, 20347, 20443, 20551, 20663, 20773, 20887, 21001, 21107, 21221, 21323, 21433, 21529, 21647, 21757, 21871, 21977, 22093, 22193, 22307, 22409, 22511, 22621, 22739, 22853, 22963, 23081, 23197, 23311, 23417, 23531, 23633, 23747, 23857, 23971, 24083, 24197, 24281, 24391, 24509, 24623, 24733, 24851, 24967, 25073, 25189, 25307, 25423, 25541, 25657, 25771, 25889, 26003, 26119, 26237, 26347, 26459, 26573, 26687, 26801, 26903, 27017, 27127, 27241, 27337, 27449, 27551, 27653, 27767, 27883, 28001, 28111, 28229, 28319, 28433, 28549, 28663, 28771, 28879, 28979, 29077, 29191, 29303, 29411, 29527, 29641, 29759, 29873, 29989, 30103, 30211, 30323, 30431, 30539, 30649, 30763, 30881, 30983, 31091, 31193, 31307, 31397, 31513, 31627, 31741, 31859, 31973, 32089, 32203, 32321, 32429, 32537, 32653, 32771, 32887, 32999, 33113, 33223, 33331, 33427, 33533, 33647, 33757, 33871, 33967, 34061, 34171, 34283, 34381, 34499, 34613, 34729, 34847, 34963, 35081, 35171, 35281, 35393, 35509, 35617, 35731, 35839, 35951, 36067, 36161, 36277, 36389, 36497, 36607, 36721, 36833, 36947, 37061, 37171, 37277, 37379, 37493, 37607, 37717, 37831, 37907, 38011, 38119, 38237, 38351, 38461, 38569, 38677, 38791, 38903, 39019, 39133, 39251, 39367, 39461, 39569, 39679, 39791, 39901, 40013, 40129, 40241, 40357, 40471, 40583, 40699, 40813, 40927, 41039, 41149, 41263, 41381, 41491, 41609, 41719, 41813, 41927, 42043, 42157, 42257, 42373, 42491, 42589, 42703, 42821, 42937, 43051, 43159, 43271, 43331, 43441, 43543, 43661, 43777, 43891, 43997, 44111, 44221, 44293, 44389, 44507, 44623, 44741, 44851, 44963, 45077, 45191, 45307, 45413, 45523, 45641, 45757, 45869, 45979, 46093, 46199, 46309, 46411, 46523, 46639, 46757, 46867, 46957, 47059, 47161, 47279, 47389, 47507, 47623, 47741, 47857, 47969, 48079, 48197, 48313, 48413, 48527, 48623, 48733, 48847, 48953, 49069, 49177, 49279, 49393, 49499, 49613, 49727, 49843, 49957, 50069, 50177, 50291, 50387, 50503, 50599, 50707, 50821, 50929, 51047, 51157, 51263, 51361, 51479, 51593, 51691, 51803, 51913, 52027, 52127, 52237, 52321, 52433, 52543, 52639, 52757, 52861, 52973, 53089, 53201, 53309, 53419, 53527, 53639, 53731, 53849, 53959, 54059, 54167, 54277, 54377, 54493, 54601, 54713, 54829, 54941, 55057, 55171, 55259, 55373, 55487, 55603, 55721, 55837, 55949, 56053, 56171, 56269, 56383, 56501, 56611, 56713, 56827, 56941, 57059, 57173, 57287, 57397, 57503, 57601, 57719, 57829, 57947, 58061, 58171, 58271, 58379, 58481, 58579, 58693, 58789, 58907, 59023, 59141, 59243, 59359, 59473, 59581, 59699, 59809, 59921, 60037, 60149, 60259, 60373, 60457, 60539, 60649, 60763, 60869, 60961, 61057, 61169, 61283, 61381, 61493, 61609, 61723, 61837, 61949, 62057, 62171, 62273, 62383, 62501, 62617, 62731, 62827, 62939, 63031, 63149, 63247, 63361, 63473, 63589, 63703, 63809, 63913, 64019, 64123, 64237, 64333, 64451, 64567, 64679, 64793, 64901, 65011, 65129, 65239, 65357, 65449, 65521]
def lpN (m : Nat) : Bool := Nat.ble 2 m && (List.range 255).all fun k => !(Nat.ble ((k + 2) * (k + 2)) m && Nat.beq (m % (k + 2)) 0)
def gapOk : List Nat → Nat → Bool
  | [], _ => true
  | q :: r, a => lpN q && Nat.ble q (a + 118) && gapOk r q
theorem gaps_ok : gapOk gaps 2 = true := by decide +kernel
theorem lpN_lp {m : Nat} (h : lpN m = true) : Lp (m : Int) := by
  simp only [lpN, Bool.and_eq_true, List.all_eq_true, List.mem_range] at h
  refine ⟨by have := Nat.le_of_ble_eq_true h.1; omega, fun d d0 d1 ⟨d2, d3⟩ => ?_⟩
  have hk := h.2 (d - 2).toNat (by omega)
  have e : (((d - 2).toNat + 2 : Nat) : Int) = d := by omega
  rw [← e] at d2 d3
  have a1 : ((d - 2).toNat + 2) * ((d - 2).toNat + 2) ≤ m := by exact_mod_cast d2
  have a2 : m % ((d - 2).toNat + 2) = 0 := by exact_mod_cast d3
  rw [Nat.ble_eq_true_of_le a1, a2] at hk
  simp at hk
theorem gap_get : ∀ (l : List Nat) (a n : Nat), gapOk l a = true → a ≤ n → (∃ z ∈ l, n ≤ z) → Lp (a : Int) → ∃ q : Nat, Lp (q : Int) ∧ q ≤ n ∧ n ≤ q + 118
  | [], a, n, _, _, ⟨z, hz, _⟩, _ => by simp at hz
  | q :: r, a, n, h, han, ⟨z, hz, hnz⟩, hp => by
    simp only [gapOk, Bool.and_eq_true] at h
    obtain ⟨⟨h1, h2⟩, h3⟩ := h
    have h2' := Nat.le_of_ble_eq_true h2
    by_cases hq : q ≤ n
    · by_cases hqn : q = n
      · subst hqn; exact ⟨q, lpN_lp h1, Nat.le_refl _, by omega⟩
      · refine gap_get r q n h3 hq ?_ (lpN_lp h1)
        rcases List.mem_cons.mp hz with rfl | hz
        · omega
        · exact ⟨z, hz, hnz⟩
    · exact ⟨a, hp, han, by omega⟩
theorem gap {n : Int} (h0 : 2 ≤ n) (h1 : n ≤ 65521) : ∃ q, Lp q ∧ q ≤ n ∧ n ≤ q + 118 := by
  obtain ⟨q, q1, q2, q3⟩ := gap_get gaps 2 n.toNat gaps_ok (by omega) ⟨65521, by decide +kernel, by omega⟩ (lpN_lp (m := 2) (by decide))
  exact ⟨q, q1, by omega, by omega⟩
theorem one_ok {n : Nat} {a b : Int} {vs : List LV} (h0 : 0 < vs.length) (h1 : vs.length < 1000) (hi : vs.all isI = true) :
    ∃ d a' b', sem T.defs G (n + 2) 4 [.ref 0, .lst vs] (src a b) = .ok (.int d) (src a' b') ∧ .int d ∈ vs := by
  rw [s_one, if_pos (show [LV.ref 0, .lst vs].length = 2 from rfl)]
  show ∃ d a' b', fin _ (runs _ _ _ [some (.ref 0), some (.lst vs)] _) = _ ∧ _
  obtain ⟨d, a', b', h, d0, d1⟩ := take_ok (n := n) (a := a) (b := b) (top := (vs.length : Int)) (by omega) (by omega)
  have hk : d.toNat < vs.length := by omega
  have hv : vs[d.toNat]? = some vs[d.toNat] := List.getElem?_eq_getElem hk
  have hg : atI vs d = some vs[d.toNat] := by
    have := atI_ofNat hv
    rwa [show ((d.toNat : Nat) : Int) = d from by omega] at this
  have hmem : vs[d.toNat] ∈ vs := List.getElem_mem hk
  obtain ⟨i, hi'⟩ : ∃ i, vs[d.toNat] = .int i := by
    have := List.all_eq_true.mp hi _ hmem
    revert this
    cases vs[d.toNat] with
    | int i => exact fun _ => ⟨i, rfl⟩
    | _ => intro h; simp [isI] at h
  refine ⟨i, a', b', ?_, hi' ▸ hmem⟩
  simp only [b__law_one, runs_cons, runs_nil, run_ret, ev_ix, ev_var, look_s, look_z, bind_ok_, ev_call, evs_cons, evs_nil, ev_blt, b_len_l, h, gi_l, hg, hi', ofO_some, fl_ok, seq_ret]
  exact fin_src rfl
open Classical in
/-- down to a prime -/
theorem down {n : Nat} {S : Sto} {q : Int} (hq : Lp q) : ∀ (xs : List LV) (m : Int) (w : Option LV), q ≤ m → m < q + xs.length →
    ∃ p w', forL (runs (sem T.defs G (n + 1)) G (.cons (.ite (.call 5 (.cons (.var 1) .nil)) (.cons .brk .nil) .nil) (.cons (.asg (.nm 1) (.bin .Sub (.var 1) (.cst (.int 1)))) .nil))) (.nm 2) [] xs [some (.ref 0), some (.int m), w] S = .nxt [some (.ref 0), some (.int p), w'] S ∧ Lp p ∧ p ≤ m
  | [], m, w, h0, h1 => by simp at h1; omega
  | x :: xs, m, w, h0, h1 => by
    rw [forL_nm]
    simp only [List.set_cons_succ, List.set_cons_zero, runs_cons, runs_nil, run_ite, evT_eq, ev_call, evs_cons, evs_nil, ev_var, look_s, look_z, bind_ok_, lisp_ok, tr_bl, ofO_some, fl_ok]
    by_cases hm : Lp m
    · simp only [decide_eq_true hm, if_true, run_brk, seq_brk, aft_b]
      exact ⟨m, _, rfl, hm, Int.le_refl _⟩
    · simp only [decide_eq_false hm, Bool.false_eq_true, if_false, seq_nxt, run_asg, ev_bin, ev_var, look_s, look_z, bind_ok_, ev_cst, cv_int, bop_sub, ofO_some, fl_ok, stp_nm, List.set_cons_succ, List.set_cons_zero, aft_n]
      have hne : q ≠ m := fun e => hm (e ▸ hq)
      obtain ⟨p, w', e, p1, p2⟩ := down hq xs (m - 1) (some x) (by omega) (by simp at h1; omega)
      exact ⟨p, w', e, p1, by omega⟩
theorem prime_ok {n : Nat} {a b : Int} : ∃ p a' b', sem T.defs G (n + 3) 6 [.ref 0] (src a b) = .ok (.int p) (src a' b') ∧ Pr p := by
  rw [s_prime, if_pos (show [LV.ref 0].length = 1 from rfl)]
  show ∃ d a' b', fin _ (runs _ _ _ [some (.ref 0), none, none] _) = _ ∧ _
  obtain ⟨d1, a1, b1, h1, d10, d11⟩ := take_ok (n := n + 1) (a := a) (b := b) (top := 65520) (by decide) (by decide)
  obtain ⟨d2, a2, b2, h2, d20, d21⟩ := take_ok (n := n + 1) (a := a1) (b := b1) (top := 300) (by decide) (by decide)
  obtain ⟨m, a3, b3, h3, hm⟩ := one_ok (n := n) (a := a2) (b := b2) (vs := [.int 65521, .int 2, .int 3, .int 257, .int (2 + d1), .int (2 + d2)]) (by simp) (by simp) rfl
  have hm2 : 2 ≤ m ∧ m ≤ 65521 := by
    simp only [List.mem_cons, LV.int.injEq, List.not_mem_nil, or_false] at hm
    omega
  obtain ⟨q, q1, q2, q3⟩ := gap hm2.1 hm2.2
  obtain ⟨p, w', e, p1, p2⟩ := down (n := n + 1) (S := src a3 b3) q1 (rng 0 120) m none q2 (by rw [rng_len]; omega)
  refine ⟨p, a3, b3, ?_, ip_pr ((lp_ip (by omega)).mp p1)⟩
  simp only [b__law_prime, runs_cons, runs_nil, run_asg, ev_call, evs_cons, evs_nil, ev_var, look_z, look_s, bind_ok_, ev_lst, ev_cst, cv_int, ev_bin, h1, h2, bop_add, ofO_some, newl_f, h3, fl_ok, stp_nm, List.set_cons_succ, List.set_cons_zero, seq_nxt, run_for, evI_rng1, fR1_ok (show (0 : Int) ≤ 120 by decide) (by decide), show (120 : Int).toNat = 120 from rfl, e, run_ret, seq_ret]
  exact fin_src rfl
/-! ### the inverse -/
theorem inv_loop {n : Nat} {S : Sto} {a p : Int} (hp : p ≤ 65521) : ∀ (f : Nat) (hi lo be nw : Int) (w : Option LV), 0 < hi → hi ≤ p → 0 ≤ lo → lo < f → p ∣ be * a - hi → p ∣ nw * a - lo → lo ≤ p →
    ∃ hi' be' nw' w', whlL (evT (sem T.defs G n) G (.cmp .Gt (.var 3) (.cst (.int 0)))) (runs (sem T.defs G n) G (.cons (.asg (.nm 6) (.bin .FloorDiv (.var 2) (.var 3))) 
    (.cons (.asg (.tup [2, 3]) (.tup (.cons (.var 3) (.cons (.bin .Sub (.var 2) (.bin .Mult (.var 6) (.var 3))) .nil)))) 
    (.cons (.asg (.tup [4, 5]) (.tup (.cons (.var 5) (.cons (.bin .Sub (.var 4) (.bin .Mult (.var 6) (.var 5))) .nil)))) .nil)))) f
      [some (.int a), some (.int p), some (.int hi), some (.int lo), some (.int be), some (.int nw), w] S = .nxt [some (.int a), some (.int p), some (.int hi'), some (.int 0), some (.int be'), some (.int nw'), w'] S ∧ p ∣ be' * a - hi' ∧ hi' ∣ hi ∧ hi' ∣ lo ∧ 0 < hi'
  | 0, hi, lo, be, nw, w, h0, h1, h2, h3, _, _, _ => by omega
  | f + 1, hi, lo, be, nw, w, h0, h1, h2, h3, k1, k2, hl => by
    rw [whl_1]
    simp only [evT_eq, ev_cmp, ev_var, look_s, look_z, ev_cst, cv_int, bind_ok_, cop_gt, map_some_, ofO_some, tr_bl, fl_ok]
    by_cases hlo : 0 < lo
    · have t0 : 0 ≤ hi / lo := Int.ediv_nonneg (by omega) (by omega)
      have t1 : hi / lo ≤ hi := Int.ediv_le_self _ (by omega)
      simp only [hlo, decide_true, if_true, runs_cons, runs_nil, run_asg, ev_bin, ev_var, look_s, look_z, bind_ok_, bop_fdiv hlo (show lo < 1073741824 by omega), ofO_some, fl_ok, stp_nm, List.set_cons_succ, List.set_cons_zero, seq_nxt, ev_tup, evs_cons, evs_nil,
        bop_mul (mulOk_l (i := hi / lo) (j := lo) (by omega) (by omega)), bop_mul (mulOk_l (i := hi / lo) (j := nw) (by omega) (by omega)), bop_sub, stp_tup2, aft_n]
      have r0 : hi - hi / lo * lo = hi % lo := by rw [Int.emod_def, Int.mul_comm]
      rw [r0]
      have r1 := Int.emod_nonneg hi (b := lo) (by omega)
      have r2 := Int.emod_lt_of_pos hi hlo
      obtain ⟨hi', be', nw', w', e, c1, c2, c3, c4⟩ := inv_loop (n := n) (S := S) hp f lo (hi % lo) nw (be - hi / lo * nw) (some (.int (hi / lo))) hlo hl r1 (by omega) k2 (by
          have : (be - hi / lo * nw) * a - hi % lo = (be * a - hi) - (hi / lo) * (nw * a - lo) := by
            rw [← r0, Int.sub_mul, Int.mul_sub, Int.mul_assoc]; omega
          rw [this]
          exact Int.dvd_sub k1 (Int.dvd_mul_of_dvd_right k2)) (by omega)
      refine ⟨hi', be', nw', w', e, c1, ?_, c2, c4⟩
      have : hi = hi / lo * lo + hi % lo := by omega
      rw [this]
      exact Int.dvd_add (Int.dvd_mul_of_dvd_right c2) c3
    · obtain rfl : lo = 0 := by omega
      simp only [hlo, decide_false, Bool.false_eq_true, if_false]
      exact ⟨hi, be, nw, w, rfl, k1, Int.dvd_refl _, Int.dvd_zero _, h0⟩

def Inv (p a r : Int) : Prop := 0 < r ∧ r < p ∧ (a * r) % p = 1
theorem inverse_ok {n : Nat} {S : Sto} {a p : Int} (hp : Pr p) (ha : a % p ≠ 0) : ∃ r, sem T.defs G (n + 1) 1 [.int a, .int p] S = .ok (.int r) S ∧ Inv p a r := by
  obtain ⟨p2, p3, p4⟩ := hp
  have m0 := Int.emod_nonneg a (b := p) (by omega)
  have m1 := Int.emod_lt_of_pos a (b := p) (by omega)
  rw [s_inv, if_pos (show [LV.int a, .int p].length = 2 from rfl)]
  show ∃ r, fin _ (runs _ _ _ [some (.int a), some (.int p), none, none, none, none, none] _) = _ ∧ _
  obtain ⟨h', b', n', w', e, c1, c2, c3, c4⟩ := inv_loop (n := n) (S := S) (a := a) p3 1000000 p (a % p) 0 1 none (by omega) (Int.le_refl _) m0 (by omega)
    (by rw [Int.zero_mul, Int.zero_sub]; exact (Int.dvd_neg).mpr (Int.dvd_refl _)) (by rw [Int.one_mul]; exact Int.dvd_self_sub_emod) (by omega)
  have hle : h' ≤ a % p := Int.le_of_dvd (by omega) c3
  have h1 : h' = 1 := by
    rcases Int.lt_or_le 1 h' with h | h
    · exact absurd (Int.emod_eq_zero_of_dvd c2) (p4 h' (by omega) (by omega))
    · omega
  subst h1
  have r0 := Int.emod_nonneg b' (b := p) (by omega)
  have r1 := Int.emod_lt_of_pos b' (b := p) (by omega)
  have hone : (a * (b' % p)) % p = 1 := by
    rw [Int.mul_emod, Int.emod_emod_of_dvd _ (Int.dvd_refl p), ← Int.mul_emod, Int.mul_comm a b']
    have := Int.emod_emod_of_dvd (b' * a) (Int.dvd_refl p)
    have h2 := (Int.emod_eq_emod_iff_emod_sub_eq_zero).mpr (Int.emod_eq_zero_of_dvd c1)
    rw [h2]
    exact Int.emod_eq_of_lt (by decide) (by omega)
  refine ⟨b' % p, ?_, ?_, r1, hone⟩
  · simp only [b_inverse, runs_cons, runs_nil, run_asg, ev_tup, evs_cons, evs_nil, ev_var, look_s, look_z, ev_bin, bind_ok_, bop_mod (show 0 < p by omega), ofO_some, fl_ok, stp_tup2, List.set_cons_succ, List.set_cons_zero, seq_nxt, ev_cst, cv_int, run_whl, e, run_ret, seq_ret]
    exact fin_pure rfl
  · rcases Int.lt_or_eq_of_le r0 with h | h
    · exact h
    · rw [← h] at hone; simp at hone
theorem inv_uniq {p a r s : Int} (hr : Inv p a r) (hs : Inv p a s) : r = s := by
  have e1 : r % p = (r * (a * s)) % p := by
    rw [Int.mul_emod r, hs.2.2, Int.mul_one, Int.emod_emod_of_dvd _ (Int.dvd_refl p)]
  have e2 : s % p = (r * (a * s)) % p := by
    rw [show r * (a * s) = (a * r) * s by rw [Int.mul_comm a r, Int.mul_assoc], Int.mul_emod (a * r), hr.2.2, Int.one_mul, Int.emod_emod_of_dvd _ (Int.dvd_refl p)]
  have e3 := Int.emod_eq_of_lt (Int.le_of_lt hr.1) hr.2.1
  have e4 := Int.emod_eq_of_lt (Int.le_of_lt hs.1) hs.2.1
  omega
theorem inv_nz {p a r : Int} (hr : Inv p a r) : a % p ≠ 0 := fun h => by
  have := hr.2.2
  rw [Int.mul_emod, h, Int.zero_mul, Int.zero_emod] at this
  exact absurd this (by decide)
theorem inv_prod {p a b r s : Int} (hp : Pr p) (hr : Inv p a r) (hs : Inv p b s) : Inv p ((a * b) % p) ((r * s) % p) := by
  have p2 := hp.1
  have e : ((a * b) % p * ((r * s) % p)) % p = 1 := by
    rw [← Int.mul_emod, show a * b * (r * s) = (a * r) * (b * s) by
      rw [Int.mul_assoc, Int.mul_assoc, Int.mul_left_comm b r s], Int.mul_emod, hr.2.2, hs.2.2]
    exact Int.emod_eq_of_lt (by decide) (by omega)
  have r0 := Int.emod_nonneg (r * s) (b := p) (by omega)
  have r1 := Int.emod_lt_of_pos (r * s) (b := p) (by omega)
  refine ⟨?_, r1, e⟩
  rcases Int.lt_or_eq_of_le r0 with h | h
  · exact h
  · rw [← h] at e; simp at e
/-! ### the pool -/
theorem fin_new {S S' : Sto} {v : LV} (h : low S.length v = false) : fin S (.ret v S') = .ok v S' := by
  simp only [fin, goIf, h]
  exact if_neg (by simp [h])
theorem fin_any {S S' : Sto} {v : LV} : ∃ S'', fin S (.ret v S') = .ok v S'' := by
  simp only [fin, goIf]
  split
  · exact ⟨_, rfl⟩
  · exact ⟨_, rfl⟩
theorem pool_ok {n : Nat} {ns : List Int} : ∃ a b, sem T.defs G (n + 1) 2 [script ns, .int 0] [] = .ok (.ref 0) (src a b) := by
  rw [s_pool, if_pos (show [script ns, LV.int 0].length = 2 from rfl)]
  show ∃ a b, fin _ (runs _ _ _ [some (script ns), some (.int 0), none, none, none] _) = _
  have hl : bcall .len [script ns] [] = .ok (.int ns.length) [] := by simp [script]
  have key : ∀ (c : Int), ∃ a b, runs (sem T.defs G n) G (.cons (.asg (.nm 3) (.blt .max2 (.cons (.blt .int (.cons (.var 2) .nil)) (.cons (.blt .int (.cons (.bin .Sub (.un .USub (.cst (.int 1))) (.var 2)) .nil)) .nil)))) 
  (.cons (.asg (.nm 4) (.bin .Mod (.blt .int (.cons (.bin .Mult (.bin .Add (.bin .Add (.bin .Add (.bin .Mod (.blt .int (.cons (.var 3) .nil)) (.cst (.int 2147483629))) (.bin .Mult (.bin .Mult (.cst (.int 7919)) (.var 1)) (.var 1))) (.bin .Mult (.cst (.int 31)) (.var 1))) (.cst (.int 17))) (.cst (.int 48271))) .nil)) (.cst (.int 2147483647)))) 
  (.cons (.ret (.lst true (.cons (.bin .Mult (.var 3) (.blt .int (.cons (.band (.cons (.cmp .GtE (.var 3) (.bin .Pow (.cst (.int 10)) (.cst (.int 18)))) (.cons (.cmp .Lt (.var 1) (.blt .len (.cons (.var 0) .nil))) .nil))) .nil))) (.cons (.var 4) .nil)))) .nil)))
        [some (script ns), some (.int 0), some (.int c), none, none] [] = .ret (.ref 0) (src a b) := fun c => by
    simp only [runs_cons, runs_nil, run_asg, ev_blt, evs_cons, evs_nil, ev_var, look_s, look_z, bind_ok_, b_int, ev_bin, ev_un, ev_cst, cv_int, uop_neg, ofO_some, bop_sub, b_max, fl_ok, stp_nm, List.set_cons_succ, List.set_cons_zero, seq_nxt]
    generalize (if -1 - c > c then -1 - c else c) = q
    simp only [bop_mod (show (0 : Int) < 2147483629 by decide), bop_mod (show (0 : Int) < 2147483647 by decide), bop_mul (mulOk_l (i := 7919) (j := 0) (by decide) (by decide)), bop_mul (mulOk_r (i := 7919 * 0) (j := 0) (by decide) (by decide)), bop_mul (mulOk_l (i := 31) (j := 0) (by decide) (by decide)),
      bind_ok_, ofO_some, bop_add, bop_mul (mulOk_r (i := q % 2147483629 + 7919 * 0 * 0 + 31 * 0 + 17) (j := 48271) (by decide) (by decide)), b_int, fl_ok, stp_nm, List.set_cons_succ, List.set_cons_zero, seq_nxt, runs_cons, runs_nil, run_ret, ev_lst, evs_cons, evs_nil, ev_bin, ev_var, look_s, look_z, ev_blt, ev_band, evAnd_cons, evAnd_one, ev_cmp, ev_cst, cv_int,
      show binop .Pow (.int 10) (.int 18) = some (.int (10 ^ 18)) from rfl, cop_ge, map_some_, tr_bl]
    by_cases hq : (10 ^ 18 : Int) ≤ q
    · simp only [hq, decide_true, if_true, hl, bind_ok_, cop_lt, map_some_, ofO_some, b_int_bl, bop_mul (mulOk_r (i := q) (j := if decide (0 < (ns.length : Int)) = true then 1 else 0) (by split <;> decide) (by split <;> decide)), newl_t, fl_ok, seq_ret]
      exact ⟨_, _, rfl⟩
    · simp only [hq, decide_false, Bool.false_eq_true, if_false, bind_ok_, ofO_some, b_int_bl, bop_mul (mulOk_r (i := q) (j := 0) (by decide) (by decide)), newl_t, fl_ok, seq_ret]
      exact ⟨_, _, rfl⟩
  cases ns with
  | nil =>
    obtain ⟨a, b, e⟩ := key 0
    refine ⟨a, b, ?_⟩
    have hne : cmpop .NotEq (script []) (.lst []) [] = some false := rfl
    rw [b__law_pool, runs_cons]
    simp only [run_asg, ev_cst, cv_int, fl_ok, stp_nm, List.set_cons_succ, List.set_cons_zero, seq_nxt]
    rw [runs_cons]
    simp only [run_ite, evT_eq, ev_cmp, ev_var, look_s, look_z, ev_blt, evs_cons, evs_nil, bind_ok_, hl, cop_lt, map_some_, ofO_some, tr_bl, fl_ok, List.length_nil, show decide ((0 : Int) < ((0 : Nat) : Int)) = false from rfl, Bool.false_eq_true, if_false]
    rw [runs_cons]
    simp only [run_ite, evT_eq, ev_cmp, ev_var, look_s, look_z, ev_lst, evs_nil, bind_ok_, newl_f, hne, map_some_, ofO_some, tr_bl, fl_ok, Bool.false_eq_true, if_false, runs_nil, seq_nxt]
    rw [e]
    exact fin_new rfl
  | cons i r =>
    obtain ⟨a, b, e⟩ := key i
    refine ⟨a, b, ?_⟩
    have hg : getix (script (i :: r)) (.int 0) [] = some (.int i) := by simp [script]
    have hlt : decide ((0 : Int) < ((i :: r).length : Int)) = true := by simp
    rw [b__law_pool, runs_cons]
    simp only [run_asg, ev_cst, cv_int, fl_ok, stp_nm, List.set_cons_succ, List.set_cons_zero, seq_nxt]
    rw [runs_cons]
    simp only [run_ite, evT_eq, ev_cmp, ev_var, look_s, look_z, ev_blt, evs_cons, evs_nil, bind_ok_, hl, cop_lt, map_some_, ofO_some, tr_bl, fl_ok, hlt, if_true]
    simp only [runs_cons (s := .asg (.nm 2) (.ix (.var 0) (.var 1))), run_asg, ev_ix, ev_var, look_s, look_z, bind_ok_, hg, ofO_some, fl_ok, stp_nm, List.set_cons_succ, List.set_cons_zero, seq_nxt, runs_nil]
    rw [e]
    exact fin_new rfl
/-! ### the primes are right -/
def Sm (v : LV) : Bool := match v with
  | .int i => decide (0 ≤ i) && decide (i ≤ 65531)
  | _ => false
theorem some_loop {n : Nat} {p : Int} : ∀ (xs : List LV) (vs : List LV) (a b : Int) (x3 x4 x5 x6 : Option LV), vs.all Sm = true → vs.length + 3 * xs.length ≤ 1000 →
    ∃ vs' a' b' x3' x4' x5', forL (runs (sem T.defs G (n + 1)) G (.cons (.asg (.tup [4, 5]) (.tup (.cons (.call 3 (.cons (.var 0) (.cons (.cst (.int 256)) .nil))) (.cons (.call 3 (.cons (.var 0) (.cons (.cst (.int 256)) .nil))) .nil)))) 
    (.cons (.asg (.nm 2) (.cat false (.var 2) (.lst false (.cons (.bin .Mult (.var 4) (.var 4)) (.cons (.bin .Mult (.var 4) (.var 5)) (.cons (.call 3 (.cons (.var 0) (.cons (.cst (.int 65532)) .nil))) .nil)))))) .nil))) (.nm 3) [] xs
      [some (.ref 0), some (.int p), some (.lst vs), x3, x4, x5, x6] (src a b) = .nxt [some (.ref 0), some (.int p), some (.lst vs'), x3', x4', x5', x6] (src a' b') ∧ vs'.all Sm = true ∧ vs'.length ≤ 1000
  | [], vs, a, b, x3, x4, x5, x6, h, hl => ⟨vs, a, b, x3, x4, x5, forL_0 .., h, by simpa using hl⟩
  | x :: xs, vs, a, b, x3, x4, x5, x6, h, hl => by
    have hl' : vs.length + 3 * (xs.length + 1) ≤ 1000 := hl
    obtain ⟨d1, a1, b1, h1, d10, d11⟩ := take_ok (n := n) (a := a) (b := b) (top := 256) (by decide) (by decide)
    obtain ⟨d2, a2, b2, h2, d20, d21⟩ := take_ok (n := n) (a := a1) (b := b1) (top := 256) (by decide) (by decide)
    obtain ⟨d3, a3, b3, h3, d30, d31⟩ := take_ok (n := n) (a := a2) (b := b2) (top := 65532) (by decide) (by decide)
    have q1 : 0 ≤ d1 * d1 := Int.mul_nonneg d10 d10
    have q2 : 0 ≤ d1 * d2 := Int.mul_nonneg d10 d20
    have q3 : d1 * d1 ≤ 255 * 255 := Int.mul_le_mul (by omega) (by omega) d10 (by decide)
    have q4 : d1 * d2 ≤ 255 * 255 := Int.mul_le_mul (by omega) (by omega) d20 (by decide)
    obtain ⟨vs', a', b', x3', x4', x5', e, e1, e2⟩ := some_loop (n := n) (p := p) xs (vs ++ [.int (d1 * d1), .int (d1 * d2), .int d3]) a3 b3 (some x) (some (.int d1)) (some (.int d2)) x6
      (by
        rw [List.all_append, h]
        simp only [Sm, List.all_cons, List.all_nil, Bool.and_true, Bool.true_and, Bool.and_eq_true, decide_eq_true_eq]
        omega) (by simp; omega)
    refine ⟨vs', a', b', x3', x4', x5', ?_, e1, e2⟩
    rw [forL_nm]
    simp only [List.set_cons_succ, List.set_cons_zero, runs_cons, runs_nil, run_asg, ev_tup, evs_cons, evs_nil, ev_call, ev_var, look_s, look_z, ev_cst, cv_int, bind_ok_, h1, h2, h3, fl_ok, stp_tup2, seq_nxt, ev_cat, ev_lst, ev_bin, bop_mul (mulOk_l (i := d1) (j := d1) (by omega) (by omega)), bop_mul (mulOk_l (i := d1) (j := d2) (by omega) (by omega)), ofO_some, newl_f]
    rw [fCat_l _ _ _ (by simp [lim]; omega)]
    simp only [fl_ok, stp_nm, List.set_cons_succ, List.set_cons_zero, seq_nxt, aft_n]
    exact e
open Classical in
theorem right_ok {n : Nat} {a b p : Int} (h0 : 2 ≤ p) (h1 : p ≤ 65521) : ∃ a' b', sem T.defs G (n + 2) 7 [.ref 0, .int p] (src a b) = .ok (.bl true) (src a' b') := by
  rw [s_right, if_pos (show [LV.ref 0, .int p].length = 2 from rfl)]
  show ∃ a' b', fin _ (runs _ _ _ [some (.ref 0), some (.int p), none, none, none, none, none] _) = _
  obtain ⟨vs, a', b', x3, x4, x5, e, e1, e2⟩ := some_loop (n := n) (p := p) (rng 0 8) [.int 0, .int 1, .int 2, .int 3, .int 4, .int 5, .int 9, .int 25, .int 65519, .int 65520, .int 65521, .int 65522, .int 65531, .int p, .int (p + 1), .int (p - 1)] a b none none none none (by
    simp only [Sm, List.all_cons, List.all_nil, Bool.and_true, Bool.and_eq_true, decide_eq_true_eq]; omega) (by simp)
  have hI : vs.all isI = true := by
    rw [List.all_eq_true] at e1 ⊢
    intro x hx
    have := e1 x hx
    cases x with
    | int i => rfl
    | _ => simp [Sm] at this
  obtain ⟨ys, y1, y2, y3⟩ := lcL_ints (cond := evC (sem T.defs G (n + 1)) G (.cons (.cmp .NotEq (.blt .repr (.cons (.call 0 (.cons (.var 6) .nil)) .nil)) (.blt .repr (.cons (.call 5 (.cons (.var 6) .nil)) .nil))) .nil)) (elt := ev (sem T.defs G (n + 1)) G (.var 6)) (t := .nm 6) (own := [6]) (e := [some (.ref 0), some (.int p), some (.lst vs), x3, x4, x5, none]) (S := src a' b')
      (fun _ => false) (fun d => [some (.ref 0), some (.int p), some (.lst vs), x3, x4, x5, some (.int d)]) hI (Nat.le_trans e2 (by decide)) (fun d hd => by
        have := List.all_eq_true.mp e1 _ hd
        simp only [Sm, Bool.and_eq_true, decide_eq_true_eq] at this
        refine ⟨rfl, ?_, rfl⟩
        have hx : decide (Lp d) = decide (Ip d) := by
          by_cases hh : Lp d
          · rw [decide_eq_true hh, decide_eq_true ((lp_ip this.2).mp hh)]
          · rw [decide_eq_false hh, decide_eq_false (fun h => hh ((lp_ip this.2).mpr h))]
        simp only [evC_cons, ev_cmp, ev_blt, evs_cons, evs_nil, ev_call, ev_var, look_s, look_z, bind_ok_, isp_ok this.1, lisp_ok, b_repr_bl, hx, cop_ne, eq_str_, map_some_, ofO_some, tr_bl, decide_true, Bool.not_true])
  have yn : ys.isEmpty = true := y3.mpr fun _ _ => rfl
  refine ⟨a', b', ?_⟩
  simp only [b__law_primes_right, runs_cons, runs_nil, run_asg, ev_lst, evs_cons, evs_nil, ev_cst, cv_int, ev_var, look_s, look_z, ev_bin, bop_add, bop_sub, bind_ok_, ofO_some, newl_f, fl_ok, stp_nm, List.set_cons_succ, List.set_cons_zero, seq_nxt, run_for, evI_rng1, fR1_ok (show (0 : Int) ≤ 8 by decide) (by decide), show (8 : Int).toNat = 8 from rfl, e,
    run_ret, ev_cmp, ev_lc, evI_seq, wk_l, y1, cop_eq, eq_nil y2, yn, map_some_, seq_ret]
  exact fin_src rfl
/-! ### the law -/
theorem turns {n : Nat} {p : Int} {sc : LV} (hp : Pr p) : ∀ (xs : List LV) (l : Int) (a b : Int) (x4 x5 x6 x7 : Option LV), 0 < l → l < p →
    ∃ e' S', forL (runs (sem T.defs G (n + 2)) G (.cons (.asg (.nm 5) (.call 4 (.cons (.var 1) (.cons (.lst false (.cons (.cst (.int 1)) (.cons (.bin .Sub (.var 2) (.cst (.int 1))) (.cons (.bin .Add (.cst (.int 1)) (.call 3 (.cons (.var 1) (.cons (.bin .Sub (.var 2) (.cst (.int 1))) .nil)))) (.cons (.bin .Add (.cst (.int 1)) (.call 3 (.cons (.var 1) (.cons (.bin .Sub (.var 2) (.cst (.int 1))) .nil)))) .nil))))) .nil)))) 
    (.cons (.asg (.nm 6) (.call 1 (.cons (.var 5) (.cons (.var 2) .nil)))) 
    (.cons (.ite (.bor (.cons (.not (.isi (.var 6) "int")) (.cons (.isi (.var 6) "bool") (.cons (.not (.chain .Lt .Lt (.cst (.int 0)) (.var 6) (.var 2))) (.cons (.cmp .NotEq (.bin .Mod (.blt .int (.cons (.bin .Mult (.var 5) (.var 6)) .nil)) (.var 2)) (.cst (.int 1))) .nil))))) (
      (.cons (.ret (.cst (.bl false))) .nil)) (.nil)) 
    (.cons (.ite (.cmp .NotEq (.blt .repr (.cons (.callK 1 (.cons (.var 6) (.cons (.var 2) .nil))) .nil)) (.blt .repr (.cons (.var 5) .nil))) (
      (.cons (.ret (.cst (.bl false))) .nil)) (.nil)) 
    (.cons (.asg (.nm 7) (.bin .Mod (.blt .int (.cons (.bin .Mult (.var 5) (.var 3)) .nil)) (.var 2))) 
    (.cons (.ite (.cmp .NotEq (.call 1 (.cons (.var 7) (.cons (.var 2) .nil))) (.bin .Mod (.blt .int (.cons (.bin .Mult (.var 6) (.call 1 (.cons (.var 3) (.cons (.var 2) .nil)))) .nil)) (.var 2))) (
      (.cons (.ret (.cst (.bl false))) .nil)) (.nil)) 
    (.cons (.asg (.nm 3) (.var 5)) .nil)))))))) (.nm 4) [] xs
      [some sc, some (.ref 0), some (.int p), some (.int l), x4, x5, x6, x7] (src a b) = .nxt e' S'
  | [], l, a, b, x4, x5, x6, x7, h, hl => ⟨_, _, forL_0 ..⟩
  | x :: xs, l, a, b, x4, x5, x6, x7, h, hl => by
    have p2 := hp.1
    have p3 := hp.2.1
    obtain ⟨d1, a1, b1, h1, d10, d11⟩ := take_ok (n := n + 1) (a := a) (b := b) (top := p - 1) (by omega) (by omega)
    obtain ⟨d2, a2, b2, h2, d20, d21⟩ := take_ok (n := n + 1) (a := a1) (b := b1) (top := p - 1) (by omega) (by omega)
    obtain ⟨v, a3, b3, h3, hv⟩ := one_ok (n := n) (a := a2) (b := b2) (vs := [.int 1, .int (p - 1), .int (1 + d1), .int (1 + d2)]) (by simp) (by simp) rfl
    have hv2 : 0 < v ∧ v < p := by
      simp only [List.mem_cons, LV.int.injEq, List.not_mem_nil, or_false] at hv
      omega
    have hvm : v % p ≠ 0 := by rw [Int.emod_eq_of_lt (by omega) hv2.2]; omega
    have hlm : l % p ≠ 0 := by rw [Int.emod_eq_of_lt (by omega) hl]; omega
    obtain ⟨r, hr, ir⟩ := inverse_ok (n := n + 1) (S := src a3 b3) hp hvm
    obtain ⟨s, hs, is⟩ := inverse_ok (n := n + 1) (S := src a3 b3) hp hlm
    have irv : Inv p r v := ⟨hv2.1, hv2.2, by rw [Int.mul_comm]; exact ir.2.2⟩
    obtain ⟨t, ht, it⟩ := inverse_ok (n := n + 1) (S := src a3 b3) hp (inv_nz irv)
    have ip := inv_prod hp ir is
    obtain ⟨u, hu, iu⟩ := inverse_ok (n := n + 1) (S := src a3 b3) hp (inv_nz ip)
    obtain rfl := inv_uniq it irv
    obtain rfl := inv_uniq iu ip
    obtain ⟨e', S', e⟩ := turns (n := n) (p := p) (sc := sc) hp xs t a3 b3 (some x) (some (.int t)) (some (.int r)) (some (.int (t * l % p))) hv2.1 hv2.2
    refine ⟨e', S', ?_⟩
    have hrb : t.natAbs < 2 ^ 1000 := Nat.lt_of_lt_of_le (show t.natAbs < 2 ^ 16 by omega) (Nat.pow_le_pow_right (by decide) (by decide))
    rw [forL_nm]
    simp only [List.set_cons_succ, List.set_cons_zero, runs_cons, runs_nil, run_asg, ev_call, ev_callK, evs_cons, evs_nil, ev_var, look_s, look_z, ev_lst, ev_cst, cv_int, ev_bin, bop_sub, bop_add, h1, h2, h3, bind_ok_, ofO_some, newl_f, fl_ok, stp_nm, seq_nxt, hr, run_ite, evT_eq, ev_bor, evOr_cons, evOr_one, ev_not, ev_isi, isi_int, map_some_, tr_bl,
      show (("int" : String) == "int") = true from rfl, show (("bool" : String) == "int") = false from rfl, Bool.not_true, Bool.false_eq_true, if_false, ev_chain, cop_lt, ir.1, ir.2.1, decide_true, if_true, ev_cmp, ev_blt, bop_mul (mulOk_l (i := t) (j := r) (by omega) (by omega)), b_int, bop_mod (show 0 < p by omega), ir.2.2, cop_ne, eq_int_, ht, b_repr_int hrb, eq_str_,
      bop_mul (mulOk_l (i := t) (j := l) (by omega) (by omega)), hu, hs, bop_mul (mulOk_l (i := r) (j := s) (by have := ir.1; omega) (by have := ir.2.1; omega)), aft_n]
    exact e
theorem holds : ∀ ns : List Int, ns.length ≤ 63 → ∃ S, sem T.defs G 40 8 [script ns] [] = .ok (.bl true) S := by
  intro ns _
  rw [s_law, if_pos (show [script ns].length = 1 from rfl)]
  show ∃ S, fin _ (runs _ _ _ [some (script ns), none, none, none, none, none, none, none] _) = _
  obtain ⟨a, b, h1⟩ := pool_ok (n := 38) (ns := ns)
  obtain ⟨p, a1, b1, h2, hp⟩ := prime_ok (n := 36) (a := a) (b := b)
  obtain ⟨a2, b2, h3⟩ := right_ok (n := 37) (a := a1) (b := b1) hp.1 hp.2.1
  obtain ⟨e', S', e⟩ := turns (n := 37) (sc := script ns) hp (rng 0 6) 1 a2 b2 none none none none (by decide) (by have := hp.1; omega)
  simp only [b_law, runs_cons (s := .asg (.nm 1) _), runs_cons (s := .asg (.nm 2) _), runs_cons (s := .asg (.nm 3) (.cst (.int 1))), runs_cons (s := .ite (.not _) _ _), runs_cons (s := .for _ _ _), runs_cons (s := .ret (.cst (.bl true))), runs_nil, run_asg, ev_call, evs_cons, evs_nil, ev_var, look_s, look_z, ev_cst, cv_int, bind_ok_, h1, h2, h3, fl_ok, stp_nm, List.set_cons_succ, List.set_cons_zero, seq_nxt, run_ite, evT_eq, ev_not, tr_bl, map_some_, ofO_some, Bool.not_true, Bool.false_eq_true, if_false, run_for, evI_rng1, fR1_ok (show (0 : Int) ≤ 6 by decide) (by decide), show (6 : Int).toNat = 6 from rfl, e, run_ret, cv_bl, seq_ret]
  exact fin_any

end My
open PySem PySem.W PyProof.Rows
set_option maxHeartbeats 0 in
theorem PySem.Challenge.cw_sumstand_k00_primes_and_inverses_holds : PySem.Challenge.rw_sumstand_k00_primes_and_inverses.Holds := by
  w_on; o_law; k_head; (case hw => w_witness2)
  k_fill
  refine LS.end_of (l := PySem.Challenge.rw_sumstand_k00_primes_and_inverses) (n := 63) (k := 40) (x := "_law_script") (T := My.T) (G := My.G) (j := 8) (D := My.d_law) rfl (by decide) rfl ⟨rfl, by decide, by decide⟩ (fun w h Y => PySem.W.kIn_of Y) rfl rfl ?F My.holds
  case F =>
    intro w mg fa h KX Gm hmg
    refine' My.top_mk KX Gm hmg ?ho_a0 ?ho_l0 ?ho_c0 ?ho_k0 ?ho_a1 ?ho_l1 ?ho_c1 ?ho_k1 ?ho_a2 ?ho_l2 ?ho_c2 ?ho_k2 ?ho_a3 ?ho_l3 ?ho_c3 ?ho_k3 ?ho_a4 ?ho_l4 ?ho_c4 ?ho_k4 ?ho_a5 ?ho_l5 ?ho_c5 ?ho_k5 ?ho_a6 ?ho_l6 ?ho_c6 ?ho_k6 ?ho_a7 ?ho_l7 ?ho_c7 ?ho_k7 ?ho_a8 ?ho_l8 ?ho_c8 ?ho_k8 ?ho_g0 ?ho_g1 ?ho_z0 ?ho_z1 ?ho_z2 ?ho_z3 ?ho_z4 ?ho_z5 ?ho_z6
    (case ho_a0 => k_is)
    (case ho_l0 => k_is)
    (case ho_c0 => k_is)
    (case ho_k0 => k_is)
    (case ho_a1 => k_is)
    (case ho_l1 => k_is)
    (case ho_c1 => k_is)
    (case ho_k1 => k_is)
    (case ho_a2 => k_is)
    (case ho_l2 => k_is)
    (case ho_c2 => k_is)
    (case ho_k2 => k_is)
    (case ho_a3 => k_is)
    (case ho_l3 => k_is)
    (case ho_c3 => k_is)
    (case ho_k3 => k_is)
    (case ho_a4 => k_is)
    (case ho_l4 => k_is)
    (case ho_c4 => k_is)
    (case ho_k4 => k_is)
    (case ho_a5 => k_is)
    (case ho_l5 => k_is)
    (case ho_c5 => k_is)
    (case ho_k5 => k_is)
    (case ho_a6 => k_is)
    (case ho_l6 => k_is)
    (case ho_c6 => k_is)
    (case ho_k6 => k_is)
    (case ho_a7 => k_is)
    (case ho_l7 => k_is)
    (case ho_c7 => k_is)
    (case ho_k7 => k_is)
    (case ho_a8 => k_is)
    (case ho_l8 => k_is)
    (case ho_c8 => k_is)
    (case ho_k8 => k_is)
    (case ho_g0 => k_is)
    (case ho_g1 => k_is)
    (case ho_z0 => k_is)
    (case ho_z1 => k_is)
    (case ho_z2 => k_is)
    (case ho_z3 => k_is)
    (case ho_z4 => k_is)
    (case ho_z5 => k_is)
    (case ho_z6 => k_is)
